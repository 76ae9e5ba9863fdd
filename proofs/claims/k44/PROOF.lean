import PyProof.Rows.All
import Wide.All
import OpenK.AllK
import Wide.FinOn
import HandS.TupMul
import HandS.List
import PyProof.ReprRoads
import HandS.ForMost
import HandS.Deep
import HandS.IsInst
import HandS.Style
import HandS.TupAny
import HandS.More
import HandS.Conv
import HandS.Text
import HandS.RaiseMore
import KE.KEqDict
import HandS.Set
import HandS.SetFor
import HandS.Strs
import PyProof.Rows.SortShellAny
import HandS.SortInts
import HandS.Iter
import HandS.Dict
import HandS.SetKeys
import HandS.Call
import HandS.Ends
import HandS.Defaults
import PyProof.CollectStr
import HandS.DictComp
import HandS.ListItems
import HandS.Comp
import HandS.Head0
import HandS.Head1
import HandS.Head2
import HandS.HeadEnd
import HandS.HeadHook1
import HandS.HeadHook2
import HandS.HeadHook3
import HandS.HeadHook4
import KE.KStateDown
import Lean
import PySem.Challenge.RW_cellvouch_k44_known_orders
set_option Elab.async false
set_option linter.all false
set_option maxRecDepth 100000
set_option maxHeartbeats 4000000
/-! CvTm: a tuple times 0, times 1. -/
namespace CVTm
open PySem PySem.Spec PyProof.Rows L2
theorem mul_one (l : Addr) (items : Array Value) (n : Nat) (dd : Option Addr) (sl : Array (Option Value)) (u : Tok) :
    Meets (Builtin.«tuple.__mul__» ⟨[.ref l, .int 1 u], []⟩) (fun _ R s => s.heap.get? l = some { cls := .type "tuple", dict := dd, data := .seq items n, slots := sl } ∧
      R (.ok (.ret (Value.ref l))) s) :=
  .of_wp fun prog w A R s h => by
    obtain ⟨hp, g, d, tk, os⟩ := s
    obtain ⟨hl, h⟩ := h
    have f1 := AutoSeq1.idx_int
    have ht : ∀ b : Bool, (b || ((1 : Int) == 1)) = true := fun b => by cases b <;> rfl
    wp_walk using wpAny_loadPart' hl
    exact ⟨_, rfl, h⟩
theorem mul_zero (l : Addr) (items : Array Value) (n : Nat) (dd : Option Addr) (sl : Array (Option Value)) (x : Int) (u : Tok) (c0 : (decide (x < -(2 ^ 63)) || decide (x ≥ 2 ^ 63)) = false) (c1 : (items.isEmpty || x == 1) = false) (c2 : (decide (x ≤ 0) || items.isEmpty) = true) :
    Meets (Builtin.«tuple.__mul__» ⟨[.ref l, .int x u], []⟩) (fun _ R s => s.heap.get? l = some { cls := .type "tuple", dict := dd, data := .seq items n, slots := sl } ∧
      R (.ok (.ret (Value.ref s.heap.objs.size))) { s with heap := s.heap.push { cls := Value.type "tuple", data := Data.seq #[] }, toks := s.toks }) :=
  .of_wp fun prog w A R s h => by
    obtain ⟨hp, g, d, tk, os⟩ := s
    obtain ⟨hl, h⟩ := h
    have f1 := AutoSeq1.idx_int
    have hsz : (#[] : Array Value).size ≤ sizeLine := Nat.zero_le _
    wp_walk using wpAny_loadPart' hl
    repeat (first
      | (refine wpAny_ite_false (decide_eq_false (by rw [c0]; exact Bool.false_ne_true)) ?_; wp_walk using wpAny_loadPart' hl)
      | (refine wpAny_ite_false (decide_eq_false (by rw [c1]; exact Bool.false_ne_true)) ?_; wp_walk using wpAny_loadPart' hl)
      | (refine wpAny_ite_true (decide_eq_true c2) ?_; wp_walk using wpAny_loadPart' hl)
      | (refine wpAny_ite_false (decide_eq_false (Nat.not_lt.mpr hsz)) ?_; wp_walk using wpAny_loadPart' hl))
    exact ⟨_, rfl, h⟩
/-- a tuple times a number of at most 1 -/
def rRep1 (K : PySem.W.Frag) : R2 := fun x y H Q => ∃ l k xs, x = .ref l ∧ y = .int k ∧ SqT K H l xs ∧ xs ≠ [] ∧ ((k = 1 ∧ Q (.ref l) H) ∨ (-(2 ^ 63) ≤ k ∧ k ≤ 0 ∧ ∀ p, H p = none → Q (.ref p) (upd H p (.tup []))))
section
variable {X : Cx}
theorem op_rep1 : OpR X (binaryOp .Mult) (rRep1 X.K) := by
  intro pins s σ H x y v u Q I rx ry h
  obtain ⟨l, k, xs, rfl, rfl, hT, hne, q⟩ := h
  cases rx
  obtain ⟨t, rfl⟩ := ry
  obtain ⟨its, r, ⟨⟨cls, dd, data, sl⟩, ho, hc, n, hd⟩, hs⟩ := I.tuple hT
  simp only at hc hd
  subst hc hd
  have hle : its.length = xs.length := r.length.symm
  have hn : its ≠ [] := fun e => hne (by
    rw [e] at hle
    exact List.eq_nil_of_length_eq_zero hle.symm)
  have hi : its.toArray.isEmpty = false := by
    cases its with
    | nil => exact absurd rfl hn
    | cons a b => rfl
  rcases q with ⟨rfl, q⟩ | ⟨h1, h2, q⟩
  · refine wpAny_binaryOp_repeat_ref (T := "tuple") (U := "int") (by decide) ⟨_, ho, rfl⟩ (fun s' => typeIs_int s' 1 t) noFill_tuple_mul F.fills_int_mul F.slot_int_rmul repeat_tuple F.slot_int_index.lookup
      (call_meets F.slot_int_rmul (typeIs_int s 1 t) F.entry_int_rmul (F.args_int_rmul_2 _ _) (int_rmul_tuple 1 t l its.toArray n dd sl)
        ⟨ho, rfl, ⟨_, ho, rfl⟩, call_meets F.slot_tuple_mul ⟨_, ho, rfl⟩ F.entry_tuple_mul (F.args_tuple_mul_2 _ _) (mul_one l its.toArray n dd sl t) ⟨ho, ?_⟩⟩)
    exact ⟨.ref l, H, I, rfl, q⟩
  · have c0 : (decide (k < -(2 ^ 63)) || decide (k ≥ 2 ^ 63)) = false := by
      rw [decide_eq_false (by omega), decide_eq_false (by omega)] <;> rfl
    have c1 : (its.toArray.isEmpty || k == 1) = false := by
      rw [hi, Bool.false_or]
      exact beq_eq_false_iff_ne.mpr (by omega)
    have c2 : (decide (k ≤ 0) || its.toArray.isEmpty) = true := by
      rw [hi, Bool.or_false]
      exact decide_eq_true (by omega)
    refine wpAny_binaryOp_repeat_ref (T := "tuple") (U := "int") (by decide) ⟨_, ho, rfl⟩ (fun s' => typeIs_int s' k t) noFill_tuple_mul F.fills_int_mul F.slot_int_rmul repeat_tuple F.slot_int_index.lookup
      (call_meets F.slot_int_rmul (typeIs_int s k t) F.entry_int_rmul (F.args_int_rmul_2 _ _) (int_rmul_tuple k t l its.toArray n dd sl)
        ⟨ho, rfl, ⟨_, ho, rfl⟩, call_meets F.slot_tuple_mul ⟨_, ho, rfl⟩ F.entry_tuple_mul (F.args_tuple_mul_2 _ _) (mul_zero l its.toArray n dd sl k t c0 c1 c2) ⟨ho, ?_⟩⟩)
    refine ⟨.ref s.heap.objs.size, _, I.laid (t' := s.toks) (o := .tup []) (fun b ob q => Heap.get?_push_of_some _ q) (Nat.le_refl _) ?_, rfl, q _ (I.hok.fresh (Nat.le_refl _))⟩
    exact ⟨Nat.zero_le _, _, .nil, IsTup.new _ _⟩
end
end CVTm

set_option Elab.async false
set_option linter.all false
set_option maxRecDepth 100000
/-! CvI: a small evaluator of the part of Python that the laws use: values as trees, mutable objects in a store. -/
namespace CV
open PySem

/-- kinds of mutable objects -/
inductive Kd where
  | lst | dct
  deriving DecidableEq

/-- values: trees over a store -/
inductive D where
  | non | bl (b : Bool) | int (i : Int) | str (s : Str) | tup (xs : List D)
  | loc (k : Kd) (n : Nat)
  | scr (ns : List Int)
  | gd (x : Str)

/-- mutable objects -/
inductive Ob where
  | lst (xs : List D)
  | dct (kvs : List (L2.Key × D))
  /-- a dict while it is walked -/
  | lk (kvs : List (L2.Key × D))

abbrev Sto := List Ob
abbrev Env := List (Option D)

def Ob.kd : Ob → Kd
  | .lst _ => .lst
  | .dct _ => .dct
  | .lk _ => .dct

/-- a text by its signs -/
def sx (l : List Nat) : Str := ⟨⟨l⟩⟩
def cap : Nat := 16777216
def strGood (s : Str) : Bool := decide (s.length ≤ cap) && PyData.strOk s

mutual
def D.under (n : Nat) : D → Bool
  | .tup xs => D.underAll n xs
  | .loc _ m => decide (m < n)
  | _ => true
def D.underAll (n : Nat) : List D → Bool
  | [] => true
  | x :: xs => D.under n x && D.underAll n xs
end
def Ob.under (n : Nat) : Ob → Bool
  | .lst xs => D.underAll n xs
  | .dct kvs => D.underAll n (kvs.map (·.2))
  | .lk kvs => D.underAll n (kvs.map (·.2))

mutual
def D.beq : D → D → Bool
  | .non, .non => true
  | .bl a, .bl b => a == b
  | .int a, .int b => a == b
  | .str a, .str b => a == b
  | .tup xs, .tup ys => D.beqAll xs ys
  | .loc k n, .loc l m => decide (k = l) && n == m
  | .scr a, .scr b => a == b
  | .gd a, .gd b => a == b
  | _, _ => false
def D.beqAll : List D → List D → Bool
  | [], [] => true
  | x :: xs, y :: ys => D.beq x y && D.beqAll xs ys
  | _, _ => false
end
def beqKv : List (L2.Key × D) → List (L2.Key × D) → Bool
  | [], [] => true
  | (k, x) :: xs, (l, y) :: ys => decide (k = l) && D.beq x y && beqKv xs ys
  | _, _ => false
def Ob.beq : Ob → Ob → Bool
  | .lst xs, .lst ys => D.beqAll xs ys
  | .dct xs, .dct ys => beqKv xs ys
  | .lk xs, .lk ys => beqKv xs ys
  | _, _ => false

/-- what is left of a store behind a piece of work that began at S: what is new and no longer reached goes -/
def oldOk (n : Nat) : Sto → Sto → Bool
  | [], _ => true
  | o :: S, o' :: S1 => (Ob.under n o' || Ob.beq o o') && oldOk n S S1
  | _ :: _, [] => false
/-- nothing was made -/
def noNew : Sto → Sto → Bool
  | _, [] => true
  | [], _ :: _ => false
  | _ :: S, _ :: S1 => noNew S S1
def gc0 (S : Sto) (r : D × Sto) : D × Sto :=
  if oldOk S.length S r.2 then
    if D.under S.length r.1 then (r.1, r.2.take S.length)
    else match r.1 with
      | .loc k m => match r.2[m]? with
        | some o => if Ob.under S.length o && decide (S.length ≤ m) && decide (o.kd = k) then (.loc k S.length, r.2.take S.length ++ [o]) else r
        | none => r
      | _ => r
  else r
def gc (S : Sto) (r : D × Sto) : D × Sto := if noNew S r.2 then r else gc0 S r

/-- a dict, walked or not -/
def dctOf (S : Sto) (n : Nat) : Option (List (L2.Key × D)) := match S[n]? with
  | some (.dct kvs) => some kvs
  | some (.lk kvs) => some kvs
  | _ => none
/-- the items of a list, a tuple -/
def seqOf (S : Sto) : D → Option (List D)
  | .tup xs => some xs
  | .loc .lst n => match S[n]? with
    | some (.lst xs) => some xs
    | _ => none
  | .scr ns => some (ns.map D.int)
  | _ => none
def lstOf (S : Sto) : D → Option (List D)
  | .loc .lst n => match S[n]? with
    | some (.lst xs) => some xs
    | _ => none
  | .scr ns => some (ns.map D.int)
  | _ => none

def mapO {α β : Type} (f : α → Option β) : List α → Option (List β)
  | [] => some []
  | x :: xs => match f x with
    | some y => match mapO f xs with
      | some ys => some (y :: ys)
      | none => none
    | none => none

/-- plain data, for == and in -/
def pd (S : Sto) : Nat → D → Option PyData
  | _, .non => some .none
  | _, .bl b => some (.bool b)
  | _, .int i => some (.int i)
  | _, .str s => some (.str s)
  | k + 1, .tup xs => (mapO (pd S k) xs).map .tuple
  | k + 1, .loc .lst n => match S[n]? with
    | some (.lst xs) => (mapO (pd S k) xs).map .list
    | _ => none
  | _ + 1, .scr ns => some (.list (ns.map .int))
  | _, _ => none

def D.scal : D → Bool
  | .non | .bl _ | .int _ | .str _ => true
  | _ => false
def D.seq : D → Bool
  | .tup _ | .loc .lst _ | .scr _ => true
  | _ => false
/-- a == b of values of which one is no sequence -/
def eqS : D → D → Bool
  | .non, .non => true
  | .bl a, .bl b => a == b
  | .bl a, .int j => (if a then 1 else 0) == j
  | .int i, .bl b => i == (if b then 1 else 0)
  | .int i, .int j => i == j
  | .str x, .str y => x == y
  | _, _ => false
/-- two dicts of data -/
def datKv (S : Sto) : List (L2.Key × D) → Option (List (L2.Key × PyData))
  | [] => some []
  | (k, x) :: r => match pd S 59 x, datKv S r with
    | some p, some ps => some ((k, p) :: ps)
    | _, _ => none
def hitKv (ls : List (L2.Key × PyData)) : List (L2.Key × PyData) → Bool
  | [] => true
  | (k, p) :: r => (match ls.find? fun kv => decide (kv.1 = k) with
    | some kv => PyData.eqv p kv.2
    | none => false) && hitKv ls r
def eqKv (S : Sto) (a b : D) : Option Bool := match a, b with
  | .loc .dct n, .loc .dct m => match S[n]?, S[m]? with
    | some (.dct ks), some (.dct ls) => match datKv S ks, datKv S ls with
      | some ps, some qs => some (ps.length == qs.length && hitKv qs ps)
      | _, _ => none
    | _, _ => none
  | _, _ => none
def eqD (S : Sto) (a b : D) : Option Bool :=
  if a.scal && b.scal then some (eqS a b)
  else if a.scal && b.seq || a.seq && b.scal then some false
  else match pd S 60 a, pd S 60 b with
    | some x, some y => some (PyData.eqv x y)
    | _, _ => eqKv S a b
def neD (S : Sto) (a b : D) : Option Bool :=
  if a.scal && b.scal then some (!eqS a b)
  else match pd S 60 a, pd S 60 b with
    | some x, some y => some (!PyData.eqv x y)
    | _, _ => (eqKv S a b).map Bool.not
def inD (S : Sto) (x : D) (xs : List D) : Option Bool :=
  if x.scal && xs.all D.scal then some (xs.any fun y => eqS y x)
  else if x.seq && xs.all D.scal then some false
  else match pd S 60 x, mapO (pd S 59) xs with
    | some d, some ds => some (ds.any fun y => PyData.eqv y d)
    | _, _ => none

def truth (S : Sto) : D → Option Bool
  | .non => some false
  | .bl b => some b
  | .int i => some (i != 0)
  | .str s => some ((s.length : Int) != 0)
  | .tup xs => some (!xs.isEmpty)
  | .loc .lst n => match S[n]? with
    | some (.lst xs) => some (!xs.isEmpty)
    | _ => none
  | .loc .dct n => match S[n]? with
    | some (.dct kvs) => some (!kvs.isEmpty)
    | _ => none
  | _ => none

/-- the built-in type -/
def tyOf : D → Option String
  | .non => some "NoneType"
  | .bl _ => some "bool"
  | .int _ => some "int"
  | .str _ => some "str"
  | .tup _ => some "tuple"
  | .loc .lst _ => some "list"
  | .loc .dct _ => some "dict"
  | .scr _ => none
  | .gd _ => none

inductive Bop where | add | sub | mul | fdiv | mod | pow
  deriving DecidableEq
inductive Cop where | eq | ne | lt | le | gt | ge | in_ | notIn
  deriving DecidableEq
inductive Bi where | len | list | tuple | all | any | abs | max | min | repr | sset | sorted | bstr | bint | litems
  deriving DecidableEq
inductive Me where | append | reverse | extend | pop | join | split | get | setd | popi | index
  deriving DecidableEq

def toKey : D → Option L2.Key
  | .int i => some (.inl i)
  | .str s => some (.inr s)
  | _ => none

def keyD : L2.Key → D
  | .inl i => .int i
  | .inr s => .str s
def keysD (kvs : List (L2.Key × D)) : List D := kvs.map fun kv => keyD kv.1
def itemsD (kvs : List (L2.Key × D)) : List D := kvs.map fun kv => .tup [keyD kv.1, kv.2]
/-- a dict that was walked -/
def unl (n : Nat) (S : Sto) : Option Sto := match S[n]? with
  | some (.lk kvs) => some (S.set n (.dct kvs))
  | _ => none
def unlAll : List Nat → Sto → Option Sto
  | [], S => some S
  | n :: ns, S => match unl n S with
    | some S1 => unlAll ns S1
    | none => none
def valD (kvs : List (L2.Key × D)) (k : L2.Key) : Option D := (kvs.find? fun kv => decide (kv.1 = k)).map (·.2)
def putD (kvs : List (L2.Key × D)) (k : L2.Key) (v : D) : List (L2.Key × D) :=
  if kvs.any fun kv => decide (kv.1 = k) then kvs.map fun kv => if kv.1 = k then (kv.1, v) else kv else kvs ++ [(k, v)]

/-- the constant dicts of the module -/
structure Cst where
  gds : List (Str × List (L2.Key × D))

def binD (op : Bop) (a b : D) (S : Sto) : Option (D × Sto) :=
  match op, a, b with
  | .add, .int i, .int j => some (.int (i + j), S)
  | .sub, .int i, .int j => some (.int (i - j), S)
  | .mul, .int i, .int j => if (-(18446744073709551616) < i && i < 18446744073709551616) || (-(18446744073709551616) < j && j < 18446744073709551616) then some (.int (i * j), S) else none
  | .fdiv, .int i, .int j => if 0 < j && j < 1073741824 then some (.int (i / j), S) else none
  | .mod, .int i, .int j => if 0 < j then some (.int (i % j), S) else none
  | .pow, .int i, .int j => if 0 ≤ j && j ≤ 1000000 && i.natAbs < 18446744073709551616 then some (.int (i ^ j.toNat), S) else none
  | .add, .str x, .str y => if x.length + y.length ≤ cap then some (.str (x ++ y), S) else none
  | .add, .tup xs, .tup ys => if xs.length + ys.length ≤ cap then some (.tup (xs ++ ys), S) else none
  | .add, .loc .lst n, .loc .lst m => match S[n]?, S[m]? with
    | some (.lst xs), some (.lst ys) => if xs.length + ys.length ≤ cap then some (.loc .lst S.length, S ++ [.lst (xs ++ ys)]) else none
    | _, _ => none
  | .mul, .tup xs, .int k => if !xs.isEmpty && -(9223372036854775808) ≤ k && k ≤ 1000 && xs.length ≤ 1000 then some (.tup (List.replicate k.toNat xs).flatten, S) else none
  | .mul, .loc .lst n, .int k => match S[n]? with
    | some (.lst xs) => if -(9223372036854775808) ≤ k && k < 9223372036854775808 && xs.length * k.toNat ≤ cap then some (.loc .lst S.length, S ++ [.lst (List.replicate k.toNat xs).flatten]) else none
    | _ => none
  | .mul, .str x, .int k => if -(9223372036854775808) ≤ k && k < 9223372036854775808 && x.length * k.toNat ≤ cap then some (.str (Txt.mul x k), S) else none
  | _, _, _ => none

def strIn (x y : Str) : Bool := match x.cps.toList with
  | [c] => decide (c ∈ y.cps.toList)
  | _ => !(Builtin.Str.occurrences y x 0 y.length 1).isEmpty

def cmpD (g : Cst) (op : Cop) (a b : D) (S : Sto) : Option Bool :=
  match op with
  | .eq => eqD S a b
  | .ne => neD S a b
  | .lt => match a, b with
    | .int i, .int j => some (decide (i < j))
    | _, _ => none
  | .le => match a, b with
    | .int i, .int j => some (decide (i ≤ j))
    | _, _ => none
  | .gt => match a, b with
    | .int i, .int j => some (decide (j < i))
    | _, _ => none
  | .ge => match a, b with
    | .int i, .int j => some (decide (j ≤ i))
    | _, _ => none
  | .in_ => memD g a b S
  | .notIn => (memD g a b S).map Bool.not
where memD (g : Cst) (a b : D) (S : Sto) : Option Bool := match a, b with
    | .str x, .str y => some (strIn x y)
    | .str x, .gd n => match g.gds.lookup n with
      | some kvs => some (valD kvs (.inr x)).isSome
      | none => none
    | a, .loc .dct n => match dctOf S n, toKey a with
      | some kvs, some k => some (valD kvs k).isSome
      | _, _ => none
    | a, b => match seqOf S b with
      | some xs => inD S a xs
      | none => none

def isD (a b : D) : Option Bool := match b with
  | .non => some (match a with | .non => true | _ => false)
  | .bl k => match a with
    | .bl j => some (decide (j = k))
    | _ => none
  | _ => none

def ixD (g : Cst) (a i : D) (S : Sto) : Option D := match a, i with
  | .str x, .int j => (L2.atI x.cps.toList j).map fun c => .str ⟨#[c]⟩
  | .gd n, .str x => match g.gds.lookup n with
    | some kvs => valD kvs (.inr x)
    | none => none
  | .loc .dct n, i => match dctOf S n, toKey i with
    | some kvs, some k => valD kvs k
    | _, _ => none
  | a, .int j => match seqOf S a with
    | some xs => L2.atI xs j
    | none => none
  | _, _ => none

def cutD {α : Type} (xs : List α) (lo hi : Option Int) : List α := (xs.drop (HT.sIx xs.length 0 lo)).take (HT.sIx xs.length xs.length hi - HT.sIx xs.length 0 lo)
def slD (a : D) (lo hi : Option Int) (S : Sto) : Option (D × Sto) := match a with
  | .tup xs => some (.tup (cutD xs lo hi), S)
  | .str x => some (.str ⟨(cutD x.cps.toList lo hi).toArray⟩, S)
  | a => match lstOf S a with
    | some xs => some (.loc .lst S.length, S ++ [.lst (cutD xs lo hi)])
    | none => none
def revD (a : D) (S : Sto) : Option (D × Sto) := match a with
  | .tup xs => some (.tup xs.reverse, S)
  | a => match lstOf S a with
    | some xs => some (.loc .lst S.length, S ++ [.lst xs.reverse])
    | none => none

def blsOf : List D → Option (List Bool)
  | [] => some []
  | .bl b :: xs => (blsOf xs).map (b :: ·)
  | _ :: _ => none

/-- plain data without lists -/
def pdT : Nat → D → Option PyData
  | _, .non => some .none
  | _, .bl b => some (.bool b)
  | _, .int i => some (.int i)
  | _, .str s => some (.str s)
  | k + 1, .tup xs => (mapO (pdT k) xs).map .tuple
  | _, _ => none
def keyPd : L2.Key → PyData
  | .inl i => .int i
  | .inr s => .str s
def kvPd (kv : L2.Key × D) : Option (PyData × PyData) := (pdT 50 kv.2).map fun p => (keyPd kv.1, p)
mutual
/-- no less than the length of what repr tells -/
def wtP : PyData → Nat
  | .none => 4
  | .bool _ => 5
  | .int i => (Str.ofString (toString i)).length
  | .str x => (reprText x).length
  | .list xs => wtAll xs + 3
  | .tuple xs => wtAll xs + 3
  | .dict kvs => wtKv kvs + 3
def wtAll : List PyData → Nat
  | [] => 0
  | x :: xs => wtP x + 2 + wtAll xs
def wtKv : List (PyData × PyData) → Nat
  | [] => 0
  | (k, v) :: r => wtP k + 2 + wtP v + 2 + wtKv r
end
mutual
def okP : PyData → Bool
  | .none | .bool _ | .int _ => true
  | .str x => PyData.strOk (reprText x)
  | .list xs => okAll xs
  | .tuple xs => okAll xs
  | .dict kvs => okKv kvs
def okAll : List PyData → Bool
  | [] => true
  | x :: xs => okP x && okAll xs
def okKv : List (PyData × PyData) → Bool
  | [] => true
  | (k, v) :: r => okP k && okP v && okKv r
end
/-- what repr is told of -/
def reprD (S : Sto) : D → Option PyData
  | .loc .dct n => match S[n]? with
    | some (.dct kvs) => (mapO kvPd kvs).map .dict
    | _ => none
  | .loc .lst n => pd S 60 (.loc .lst n)
  | .tup xs => pd S 60 (.tup xs)
  | _ => none
def reprP (p : PyData) : Option D := if p.showable && okP p && decide (wtP p ≤ cap) then some (.str p.shown) else none

def strsOf : List D → Option (List Str)
  | [] => some []
  | .str x :: xs => (strsOf xs).map (x :: ·)
  | _ :: _ => none
def intsOf : List D → Option (List Int)
  | [] => some []
  | .int x :: xs => (intsOf xs).map (x :: ·)
  | _ :: _ => none
def leS (a b : Str) : Bool := !PySem.Spec.ltCps b.cps.toList a.cps.toList
def insS (x : Str) : List Str → List Str
  | [] => [x]
  | y :: r => if leS x y then x :: y :: r else y :: insS x r
def sortS : List Str → List Str
  | [] => []
  | x :: r => insS x (sortS r)
/-- each once -/
def dedS : List Str → List Str
  | [] => []
  | x :: r => if r.any (fun y => y == x) then dedS r else x :: dedS r
def insZ (x : Int) : List Int → List Int
  | [] => [x]
  | y :: r => if x ≤ y then x :: y :: r else y :: insZ x r
def sortZ : List Int → List Int
  | [] => []
  | x :: r => insZ x (sortZ r)
/-- sorted of a list -/
def srtD (xs : List D) : Option (List D) := match strsOf xs with
  | some ys => some ((sortS ys).map D.str)
  | none => match intsOf xs with
    | some is => some ((sortZ is).map D.int)
    | none => none
def ssetD (xs : List D) : Option (List D) := match strsOf xs with
  | some ys => if ys.length < 1000 then some ((sortS (dedS ys)).map D.str) else none
  | none => none

def biD (b : Bi) (xs : List D) (S : Sto) : Option (D × Sto) := match b, xs with
  | .len, [.str x] => some (.int x.length, S)
  | .len, [.loc .dct n] => match S[n]? with
    | some (.dct kvs) => some (.int kvs.length, S)
    | _ => none
  | .len, [x] => (seqOf S x).map fun xs => (.int xs.length, S)
  | .list, [x] => (seqOf S x).map fun xs => (.loc .lst S.length, S ++ [.lst xs])
  | .tuple, [x] => (seqOf S x).map fun xs => (.tup xs, S)
  | .all, [x] => ((lstOf S x).bind blsOf).map fun bs => (.bl (bs.all id), S)
  | .any, [x] => ((lstOf S x).bind blsOf).map fun bs => (.bl (bs.any id), S)
  | .abs, [.int i] => some (.int (if i < 0 then -i else i), S)
  | .max, [.int i, .int j] => some (.int (if j > i then j else i), S)
  | .min, [.int i, .int j] => some (.int (if j < i then j else i), S)
  | .repr, [x] => ((reprD S x).bind reprP).map fun d => (d, S)
  | .sset, [x] => ((lstOf S x).bind ssetD).map fun xs => (.loc .lst S.length, S ++ [.lst xs])
  | .sorted, [.loc .dct n] => match dctOf S n with
    | some kvs => if kvs.length < 64 then (strsOf (keysD kvs)).map fun ys => (.loc .lst S.length, S ++ [.lst ((sortS ys).map D.str)]) else none
    | none => none
  | .litems, [.loc .dct n] => match S[n]? with
    | some (.dct kvs) => if kvs.length ≤ cap then some (.loc .lst S.length, S ++ [.lst (itemsD kvs)]) else none
    | _ => none
  | .bstr, [.int i] => if i.natAbs.log2 < 1920 && decide ((Str.ofString (toString i)).length ≤ cap) then some (.str (Str.ofString (toString i)), S) else none
  | .bstr, [.str x] => some (.str x, S)
  | .bint, [.int i] => some (.int i, S)
  | .sorted, [x] => ((lstOf S x).bind srtD).map fun xs => (.loc .lst S.length, S ++ [.lst xs])
  | .bint, [.str x] => if x.length ≤ 640 then (PySem.intText? x).map fun n => (.int n, S) else none
  | _, _ => none

/-- the first place behind i of an equal one -/
def fstAt (d : PyData) (i : Nat) : Nat → List PyData → Option Nat
  | _, [] => none
  | j, z :: r => if Nat.ble i j && PyData.eqv z d then some j else fstAt d i (j + 1) r
/-- methods of texts -/
def meS (m : Me) (s : Str) (xs : List D) (S : Sto) : Option (D × Sto) := match m, xs with
  | .join, [x] => match (seqOf S x).bind strsOf with
    | some zs => if (zs.map (·.length)).sum + zs.length * s.length ≤ cap then some (.str (sx (TL.joinL s.cps.toList (zs.map (·.cps.toList)))), S) else none
    | none => none
  | .split, [.str b] => if b.length != 0 && b.cps.all (· < 256) && s.length + 2 ≤ cap then some (.loc .lst S.length, S ++ [.lst ((TL.spl b.cps.toList 0 [] s.cps.toList).map fun l => .str (sx l))]) else none
  | _, _ => none
def meD (m : Me) (x : D) (xs : List D) (S : Sto) : Option (D × Sto) := match x with
  | .str s => meS m s xs S
  | .loc .lst n => match S[n]? with
    | some (.lst ys) => match m, xs with
      | .append, [y] => if ys.length < cap then some (.non, S.set n (.lst (ys ++ [y]))) else none
      | .reverse, [] => some (.non, S.set n (.lst ys.reverse))
      | .extend, [.loc .lst k] => match S[k]? with
        | some (.lst zs) => if ys.length + zs.length ≤ cap then some (.non, S.set n (.lst (ys ++ zs))) else none
        | _ => none
      | .pop, [] => match ys[ys.length - 1]? with
        | some y => some (y, S.set n (.lst ys.dropLast))
        | none => none
      | .popi, [.int 0] => match ys with
        | y :: r => some (y, S.set n (.lst r))
        | [] => none
      | .index, [x, .int i] => if 0 ≤ i then match pd S 60 x, mapO (pd S 59) ys with
        | some d, some ds => (fstAt d i.toNat 0 ds).map fun j => (.int (j : Nat), S)
        | _, _ => none
        else none
      | _, _ => none
    | _ => none
  | .loc .dct n => match m, xs with
    | .get, [k, d] => match dctOf S n, toKey k with
      | some kvs, some ky => some ((valD kvs ky).getD d, S)
      | _, _ => none
    | .setd, [k, d] => match S[n]?, toKey k with
      | some (.dct kvs), some ky => if kvs.length < cap then (match valD kvs ky with
        | some v => some (v, S)
        | none => some (d, S.set n (.dct (putD kvs ky d)))) else none
      | _, _ => none
    | _, _ => none
  | _ => none

def setD (o i v : D) (S : Sto) : Option Sto := match o, i with
  | .loc .lst n, .int j => match S[n]? with
    | some (.lst xs) => match L2.ixN xs.length j with
      | some k => some (S.set n (.lst (xs.set k v)))
      | none => none
    | _ => none
  | .loc .dct n, i => match S[n]?, toKey i with
    | some (.dct kvs), some k => if kvs.length < cap then some (S.set n (.dct (putD kvs k v))) else none
    | _, _ => none
  | _, _ => none

/-- targets -/
inductive T where
  | nm (i : Nat)
  | tup (ts : List T)

inductive E where
  | var (i : Nat)
  | cst (d : D)
  | tup (es : List E)
  | lst (es : List E)
  | dct (ks : List L2.Key) (es : List E)
  | bin (op : Bop) (a b : E)
  | neg (a : E)
  | cmp (op : Cop) (a b : E)
  | chain (op op' : Cop) (a b c : E)
  | is_ (neg : Bool) (a b : E)
  | and_ (a b : E)
  | or_ (a b : E)
  | not_ (a : E)
  | ife (c a b : E)
  | call (f : Str) (es : List E)
  | bi (b : Bi) (es : List E)
  | isi (a : E) (cs : List String)
  | meth (m : Me) (o : E) (es : List E)
  | ix (a i : E)
  | sl (a : E) (lo hi : Option E)
  | rev (a : E)
  | rng (es : List E)
  | lc (elt : E) (t : T) (it : E) (ifs : List E) (own : List Nat)
  | dc1 (k v : E)
  | dcl (k v : E) (t : T) (it : E) (own : List Nat)
  | lc2 (elt : E) (t : T) (it : E) (t1 : T) (e1 : E) (own : List Nat)

/-- a def by its name, its arguments and the store: what it hands back -/
abbrev FT := Str → List D → Sto → Option (D × Sto)

/-- what a loop walks -/
inductive Wk where
  | fix (xs : List D)
  | lst (n : Nat) (xs : List D)

def wkOf (S : Sto) : D → Option Wk
  | .tup xs => some (.fix xs)
  | .scr ns => some (.fix (ns.map D.int))
  | .str x => some (.fix (x.cps.toList.map fun c => .str ⟨#[c]⟩))
  | .loc .lst n => match S[n]? with
    | some (.lst xs) => some (.lst n xs)
    | _ => none
  | _ => none
def Wk.items : Wk → List D
  | .fix xs => xs
  | .lst _ xs => xs
/-- the walked list stands as it stood -/
def Wk.ok (w : Wk) (S : Sto) : Bool := match w with
  | .fix _ => true
  | .lst n xs => match S[n]? with
    | some o => Ob.beq o (.lst xs)
    | none => false

def rngItems (lo hi : Int) : List D := (List.range (hi - lo).toNat).map fun i => .int (lo + (i : Nat))

mutual
def asg : T → D → Env → Sto → Option Env
  | .nm i, d, env, _ => some (env.set i (some d))
  | .tup ts, .tup ds, env, S => asgAll ts ds env S
  | .tup ts, .str x, env, S => asgAll ts (x.cps.toList.map fun c => .str ⟨#[c]⟩) env S
  | _, _, _, _ => none
def asgAll : List T → List D → Env → Sto → Option Env
  | [], [], env, _ => some env
  | t :: ts, d :: ds, env, S => match asg t d env S with
    | some env' => asgAll ts ds env' S
    | none => none
  | _, _, _, _ => none
end
mutual
def T.slots : T → List Nat
  | .nm i => [i]
  | .tup ts => T.slotsAll ts
def T.slotsAll : List T → List Nat
  | [] => []
  | t :: ts => T.slots t ++ T.slotsAll ts
end
def wipeD (env : Env) : List Nat → Env
  | [] => env
  | v :: vs => (wipeD env vs).set v none

section
variable (g : Cst) (F : FT)
/-- the loop of a comprehension: the items of what is left, the things made so far -/
def lcLoop (elt : Env → Sto → Option (D × Sto)) (ifs : Env → Sto → Option (Bool × Sto)) (t : T) (env0 : Env) (w : Wk) : List D → List D → Sto → Option (List D × Sto)
  | [], acc, S => if w.ok S then some (acc, S) else none
  | x :: xs, acc, S => if w.ok S then
      match asg t x env0 S with
      | some env => match ifs env S with
        | some (true, S1) => match elt env S1 with
          | some (y, S2) => if acc.length < cap then lcLoop elt ifs t env0 w xs (acc ++ [y]) S2 else none
          | none => none
        | some (false, S1) => lcLoop elt ifs t env0 w xs acc S1
        | none => none
      | none => none
    else none

/-- the loop of a dict comprehension -/
def dcLoop (ek ev : Env → Sto → Option (D × Sto)) (t : T) (env0 : Env) (w : Wk) : List D → List (L2.Key × D) → Sto → Option (List (L2.Key × D) × Sto)
  | [], acc, S => if w.ok S then some (acc, S) else none
  | x :: xs, acc, S => if w.ok S then
      match asg t x env0 S with
      | some env => match ek env S with
        | some (k, S1) => match ev env S1 with
          | some (y, S2) => match toKey k with
            | some ky => if acc.length < cap then dcLoop ek ev t env0 w xs (putD acc ky y) S2 else none
            | none => none
          | none => none
        | none => none
      | none => none
    else none
/-- a comprehension of two fors, the second one over dicts, which stay locked till all is done -/
def l2Loop (elt e1 : Env → Sto → Option (D × Sto)) (t t1 : T) (env0 : Env) (w : Wk) : List D → List D → List Nat → Sto → Option (List D × List Nat × Sto)
  | [], acc, ls, S => if w.ok S then some (acc, ls, S) else none
  | x :: xs, acc, ls, S => if w.ok S then
      match asg t x env0 S with
      | some env => match e1 env S with
        | some (.loc .dct n, S1) => match S1[n]? with
          | some (.dct kvs) => match lcLoop elt (fun _ S => some (true, S)) t1 (wipeD env t1.slots) (.fix (keysD kvs)) (keysD kvs) acc (S1.set n (.lk kvs)) with
            | some (acc1, S2) => l2Loop elt e1 t t1 env0 w xs acc1 (n :: ls) S2
            | none => none
          | _ => none
        | _ => none
      | none => none
    else none

mutual
def evE : E → Env → Sto → Option (D × Sto)
  | .var i, env, S => match env[i]? with
    | some (some d) => some (d, S)
    | _ => none
  | .cst d, _, S => some (d, S)
  | .tup es, env, S => match evEs es env S with
    | some (ds, S1) => if ds.length ≤ cap then some (.tup ds, S1) else none
    | none => none
  | .lst es, env, S => match evEs es env S with
    | some (ds, S1) => if ds.length ≤ cap then some (.loc .lst S1.length, S1 ++ [.lst ds]) else none
    | none => none
  | .dct ks es, env, S => match evEs es env S with
    | some (ds, S1) => if ds.length ≤ 15 && ks.length == ds.length then some (.loc .dct S1.length, S1 ++ [.dct ((ks.zip ds).foldl (fun acc kv => putD acc kv.1 kv.2) [])]) else none
    | none => none
  | .bin op a b, env, S => match evE a env S with
    | some (x, S1) => match evE b env S1 with
      | some (y, S2) => (binD op x y S2).map (gc S)
      | none => none
    | none => none
  | .neg a, env, S => match evE a env S with
    | some (.int i, S1) => some (.int (-i), S1)
    | _ => none
  | .cmp op a b, env, S => match evE a env S with
    | some (x, S1) => match evE b env S1 with
      | some (y, S2) => (cmpD g op x y S2).map fun k => gc S (.bl k, S2)
      | none => none
    | none => none
  | .chain op op' a b c, env, S => match evE a env S with
    | some (x, S1) => match evE b env S1 with
      | some (y, S2) => match cmpD g op x y S2 with
        | some true => match evE c env S2 with
          | some (z, S3) => (cmpD g op' y z S3).map fun k => (.bl k, S3)
          | none => none
        | some false => some (.bl false, S2)
        | none => none
      | none => none
    | none => none
  | .is_ neg a b, env, S => match evE a env S with
    | some (x, S1) => match evE b env S1 with
      | some (y, S2) => (isD x y).map fun k => (.bl (if neg then !k else k), S2)
      | none => none
    | none => none
  | .and_ a b, env, S => match evE a env S with
    | some (.bl true, S1) => evE b env S1
    | some (.bl false, S1) => some (.bl false, S1)
    | _ => none
  | .or_ a b, env, S => match evE a env S with
    | some (.bl false, S1) => evE b env S1
    | some (.bl true, S1) => some (.bl true, S1)
    | _ => none
  | .not_ a, env, S => match evE a env S with
    | some (.bl k, S1) => some (.bl (!k), S1)
    | _ => none
  | .ife c a b, env, S => match evT c env S with
    | some (true, S1) => evE a env S1
    | some (false, S1) => evE b env S1
    | none => none
  | .call f es, env, S => match evEs es env S with
    | some (ds, S1) => (F f ds S1).map (gc S)
    | none => none
  | .bi b es, env, S => match evEs es env S with
    | some (ds, S1) => (biD b ds S1).map (gc S)
    | none => none
  | .isi a cs, env, S => match evE a env S with
    | some (x, S1) => match tyOf x with
      | some t => match cs.foldr (fun c r => match L2.kitB t c, r with | some k, some j => some (k || j) | _, _ => none) (some false) with
        | some k => some (.bl k, S1)
        | none => none
      | none => none
    | none => none
  | .meth m o es, env, S => match evE o env S with
    | some (x, S1) => match evEs es env S1 with
      | some (ds, S2) => (meD m x ds S2).map (gc S)
      | none => none
    | none => none
  | .ix a i, env, S => match evE a env S with
    | some (x, S1) => match evE i env S1 with
      | some (y, S2) => (ixD g x y S2).map fun d => gc S (d, S2)
      | none => none
    | none => none
  | .sl a lo hi, env, S => match evE a env S with
    | some (x, S1) => match evO lo env S1 with
      | some (l, S2) => match evO hi env S2 with
        | some (h, S3) => (slD x l h S3).map (gc S)
        | none => none
      | none => none
    | none => none
  | .rev a, env, S => match evE a env S with
    | some (x, S1) => (revD x S1).map (gc S)
    | none => none
  | .rng _, _, _ => none
  | .lc elt t it ifs own, env, S => match evW it env S with
    | some (w, S1) => match lcLoop (evE elt) (evIfs ifs) t (wipeD env own) w w.items [] S1 with
      | some (ds, S2) => some (gc S (.loc .lst S2.length, S2 ++ [.lst ds]))
      | none => none
    | none => none
  | .dc1 k v, env, S => match evE k env S with
    | some (x, S1) => match evE v env S1 with
      | some (y, S2) => match toKey x with
        | some ky => some (.loc .dct S2.length, S2 ++ [.dct [(ky, y)]])
        | none => none
      | none => none
    | none => none
  | .dcl k v t it own, env, S => match evW it env S with
    | some (w, S1) => match dcLoop (evE k) (evE v) t (wipeD env own) w w.items [] S1 with
      | some (kvs, S2) => some (gc S (.loc .dct S2.length, S2 ++ [.dct kvs]))
      | none => none
    | none => match evE it env S with
      | some (.loc .dct n, S1) => match S1[n]? with
        | some (.dct kvs) => match dcLoop (evE k) (evE v) t (wipeD env own) (.fix (keysD kvs)) (keysD kvs) [] (S1.set n (.lk kvs)) with
          | some (kvs2, S2) => match unl n S2 with
            | some S3 => some (gc S (.loc .dct S3.length, S3 ++ [.dct kvs2]))
            | none => none
          | none => none
        | _ => none
      | _ => none
  | .lc2 elt t it t1 e1 own, env, S => match evW it env S with
    | some (w, S1) => match l2Loop (evE elt) (evE e1) t t1 (wipeD env own) w w.items [] [] S1 with
      | some (ds, ls, S2) => match unlAll ls S2 with
        | some S3 => some (gc S (.loc .lst S3.length, S3 ++ [.lst ds]))
        | none => none
      | none => none
    | none => none
def evEs : List E → Env → Sto → Option (List D × Sto)
  | [], _, S => some ([], S)
  | e :: es, env, S => match evE e env S with
    | some (d, S1) => match evEs es env S1 with
      | some (ds, S2) => some (d :: ds, S2)
      | none => none
    | none => none
def evO : Option E → Env → Sto → Option (Option Int × Sto)
  | none, _, S => some (none, S)
  | some e, env, S => match evE e env S with
    | some (.int i, S1) => some (some i, S1)
    | _ => none
/-- a test -/
def evT : E → Env → Sto → Option (Bool × Sto)
  | .and_ a b, env, S => match evT a env S with
    | some (true, S1) => evT b env S1
    | some (false, S1) => some (false, S1)
    | none => none
  | .or_ a b, env, S => match evT a env S with
    | some (false, S1) => evT b env S1
    | some (true, S1) => some (true, S1)
    | none => none
  | .not_ a, env, S => match evT a env S with
    | some (k, S1) => some (!k, S1)
    | none => none
  | .ife c a b, env, S => match evT c env S with
    | some (true, S1) => evT a env S1
    | some (false, S1) => evT b env S1
    | none => none
  | e, env, S => match evE e env S with
    | some (d, S1) => match truth S1 d with
      | some k => some (k, S1)
      | none => none
    | none => none
def evIfs : List E → Env → Sto → Option (Bool × Sto)
  | [], _, S => some (true, S)
  | [e], env, S => evT e env S
  | _, _, _ => none
/-- what is walked -/
def evW : E → Env → Sto → Option (Wk × Sto)
  | .rng es, env, S => match evEs es env S with
    | some ([.int j], S1) => if -(4611686018427387904) ≤ j && j < 4611686018427387904 then some (.fix (rngItems 0 j), S1) else none
    | some ([.int i, .int j], S1) => if -(4611686018427387904) ≤ i && i < 4611686018427387904 && -(4611686018427387904) ≤ j && j < 4611686018427387904 then some (.fix (rngItems i j), S1) else none
    | _ => none
  | e, env, S => match evE e env S with
    | some (d, S1) => match wkOf S1 d with
      | some w => some (w, S1)
      | none => none
    | none => none
end
end

/-- statements -/
inductive C where
  | exp (e : E)
  | asg (t : T) (e : E)
  | par (is : List Nat) (es : List E)
  | sto (o i e : E)
  | ret (e : E)
  | retN
  | ife (c : E) (a b : List C)
  | for_ (t : T) (it : E) (body : List C)
  | forI (t : T) (e : E) (body : List C)
  | while_ (c : E) (body : List C)
  | brk | cnt | pass

inductive Fl where
  | nx | bk | ct | rt (d : D)

section
variable (g : Cst) (F : FT) (fuel : Nat)
def forLoop (body : Env → Sto → Option (Fl × Env × Sto)) (t : T) (w : Wk) : List D → Env → Sto → Option (Fl × Env × Sto)
  | [], env, S => if w.ok S then some (.nx, env, S) else none
  | x :: xs, env, S => if w.ok S then
      match asg t x env S with
      | some env1 => match body env1 S with
        | some (.nx, env2, S2) => forLoop body t w xs env2 S2
        | some (.ct, env2, S2) => forLoop body t w xs env2 S2
        | some (.bk, env2, S2) => some (.nx, env2, S2)
        | some (.rt d, env2, S2) => some (.rt d, env2, S2)
        | none => none
      | none => none
    else none
def whileLoop (c : Env → Sto → Option (Bool × Sto)) (body : Env → Sto → Option (Fl × Env × Sto)) : Nat → Env → Sto → Option (Fl × Env × Sto)
  | 0, _, _ => none
  | n + 1, env, S => match c env S with
    | some (true, S1) => match body env S1 with
      | some (.nx, env2, S2) => whileLoop c body n env2 S2
      | some (.ct, env2, S2) => whileLoop c body n env2 S2
      | some (.bk, env2, S2) => some (.nx, env2, S2)
      | some (.rt d, env2, S2) => some (.rt d, env2, S2)
      | none => none
    | some (false, S1) => some (.nx, env, S1)
    | none => none
/-- behind a walk of a dict -/
def unlF (n : Nat) : Option (Fl × Env × Sto) → Option (Fl × Env × Sto)
  | some (f, env, S) => match unl n S with
    | some S1 => some (f, env, S1)
    | none => none
  | none => none
def setAll : List Nat → List D → Env → Option Env
  | [], [], env => some env
  | i :: is, d :: ds, env => setAll is ds (env.set i (some d))
  | _, _, _ => none
mutual
def evC : C → Env → Sto → Option (Fl × Env × Sto)
  | .exp e, env, S => match evE g F e env S with
    | some (_, S1) => some (.nx, env, S1)
    | none => none
  | .asg t e, env, S => match evE g F e env S with
    | some (d, S1) => match asg t d env S1 with
      | some env1 => some (.nx, env1, S1)
      | none => none
    | none => none
  | .par is es, env, S => match evEs g F es env S with
    | some (ds, S1) => match setAll is ds env with
      | some env1 => some (.nx, env1, S1)
      | none => none
    | none => none
  | .sto o i e, env, S => match evE g F e env S with
    | some (v, S1) => match evE g F o env S1 with
      | some (x, S2) => match evE g F i env S2 with
        | some (y, S3) => match setD x y v S3 with
          | some S4 => some (.nx, env, S4)
          | none => none
        | none => none
      | none => none
    | none => none
  | .ret e, env, S => match evE g F e env S with
    | some (d, S1) => some (.rt d, env, S1)
    | none => none
  | .retN, env, S => some (.rt .non, env, S)
  | .ife c a b, env, S => match evT g F c env S with
    | some (true, S1) => evCs a env S1
    | some (false, S1) => evCs b env S1
    | none => none
  | .for_ t it body, env, S => match evW g F it env S with
    | some (w, S1) => forLoop (evCs body) t w w.items env S1
    | none => none
  | .forI t e body, env, S => match evE g F e env S with
    | some (.loc .dct n, S1) => match S1[n]? with
      | some (.dct kvs) => unlF n (forLoop (evCs body) t (.fix (itemsD kvs)) (itemsD kvs) env (S1.set n (.lk kvs)))
      | _ => none
    | _ => none
  | .while_ c body, env, S => whileLoop (evT g F c) (evCs body) fuel env S
  | .brk, env, S => some (.bk, env, S)
  | .cnt, env, S => some (.ct, env, S)
  | .pass, env, S => some (.nx, env, S)
def evCs : List C → Env → Sto → Option (Fl × Env × Sto)
  | [], env, S => some (.nx, env, S)
  | c :: cs, env, S => match evC c env S with
    | some (.nx, env1, S1) => evCs cs env1 S1
    | r => r
end
end

/-- a def of the text -/
structure Fn where
  nm : Str
  ps : List Str
  N : List Str
  body : List C

def callFn (g : Cst) (fuel : Nat) (F : FT) (f : Fn) (ds : List D) (S : Sto) : Option (D × Sto) :=
  if ds.length = f.ps.length then
    match evCs g F fuel f.body (ds.map some ++ List.replicate (f.N.length - ds.length) none) S with
    | some (.rt d, _, S1) => some (gc S (d, S1))
    | some (.nx, _, S1) => some (gc S (.non, S1))
    | _ => none
  else none
/-- the defs to a depth -/
def callN (g : Cst) (fs : List Fn) (fuel : Nat) : Nat → FT
  | 0 => fun _ _ _ => none
  | k + 1 => fun x ds S => match fs.find? fun f => decide (f.nm = x) with
    | some f => callFn g fuel (callN g fs fuel k) f ds S
    | none => none

/-! ### from the text to this -/
/-- what the module holds -/
structure Tb where
  fns : List Str
  cst : List (Str × D)
  gds : List Str

def ixOf (x : Str) : List Str → Nat → Option Nat
  | [], _ => none
  | y :: ys, n => if y = x then some n else ixOf x ys (n + 1)
def allO {α : Type} : List (Option α) → Option (List α)
  | [] => some []
  | some x :: xs => (allO xs).map (x :: ·)
  | none :: _ => none
def seen (sc : Scope) (x : Str) : Bool := match sc.names.lookup x with
  | some .local => true
  | some .cell => true
  | some .free => true
  | _ => false
def owned (sc : Scope) (x : Str) : Bool := match sc.names.lookup x with
  | some .local => true
  | some .cell => true
  | _ => false
def glob (sc : Scope) (x : Str) : Bool := match sc.names.lookup x with
  | some .globalImplicit => true
  | _ => false
def plainN (x : Str) : Bool := !(x == ("__debug__" : Str)) && !(x == ("__classdict__" : Str)) && !(x == ("__name__" : Str))
def notStar : Expr → Bool
  | .Starred _ _ => false
  | _ => true
def notSlice : Expr → Bool
  | .Slice _ _ _ _ => false
  | _ => true
def notComp : Expr → Bool
  | .ListComp _ _ _ _ => false
  | .SetComp _ _ _ _ => false
  | .DictComp _ _ _ _ _ => false
  | _ => true
/-- what may stand ahead of a dot -/
def notCall0 : Expr → Bool
  | .Call _ [] _ _ => false
  | _ => true
def keyC : Option Expr → Option L2.Key
  | some (.Constant (.str s) _ _) => if strGood s then some (.inr s) else none
  | some (.Constant (.int i) _ _) => some (.inl i)
  | _ => none
def bopC : Operator → Option Bop
  | .Add => some .add
  | .Sub => some .sub
  | .Mult => some .mul
  | .FloorDiv => some .fdiv
  | .Mod => some .mod
  | .Pow => some .pow
  | _ => none
def copC : CmpOp → Option Cop
  | .Eq => some .eq
  | .NotEq => some .ne
  | .Lt => some .lt
  | .LtE => some .le
  | .Gt => some .gt
  | .GtE => some .ge
  | .In => some .in_
  | .NotIn => some .notIn
  | _ => none
def biC2 (x : Str) (n : Nat) : Option Bi :=
  if x = "str" ∧ n = 1 then some .bstr
  else if x = "int" ∧ n = 1 then some .bint
  else none
def biC (x : Str) (n : Nat) : Option Bi :=
  if x = "len" ∧ n = 1 then some .len
  else if x = "list" ∧ n = 1 then some .list
  else if x = "tuple" ∧ n = 1 then some .tuple
  else if x = "all" ∧ n = 1 then some .all
  else if x = "any" ∧ n = 1 then some .any
  else if x = "abs" ∧ n = 1 then some .abs
  else if x = "max" ∧ n = 2 then some .max
  else if x = "min" ∧ n = 2 then some .min
  else if x = "repr" ∧ n = 1 then some .repr
  else if x = "sorted" ∧ n = 1 then some .sorted
  else biC2 x n
def meC2 (x : Str) (n : Nat) : Option Me :=
  if x = "get" ∧ n = 2 then some .get
  else if x = "setdefault" ∧ n = 2 then some .setd
  else if x = "index" ∧ n = 2 then some .index
  else none
def meC (x : Str) (n : Nat) : Option Me :=
  if x = "append" ∧ n = 1 then some .append
  else if x = "reverse" ∧ n = 0 then some .reverse
  else if x = "extend" ∧ n = 1 then some .extend
  else if x = "pop" ∧ n = 0 then some .pop
  else if x = "join" ∧ n = 1 then some .join
  else if x = "split" ∧ n = 1 then some .split
  else if x = "pop" ∧ n = 1 then some .popi
  else meC2 x n
def tyC (sc : Scope) : Expr → Option String
  | .Name x _ => if glob sc x && plainN x then
      (if x = "int" then some "int" else if x = "str" then some "str" else if x = "bool" then some "bool"
       else if x = "tuple" then some "tuple" else if x = "list" then some "list" else if x = "dict" then some "dict" else none) else none
  | _ => none
def ownOf (N : List Str) : List (Str × NameKind) → List (Str × Nat)
  | [] => []
  | (x, k) :: r => match k, ixOf x N 0 with
    | .local, some i => (x, i) :: ownOf N r
    | .cell, some i => (x, i) :: ownOf N r
    | _, _ => ownOf N r

/-- sorted(set(a)) -/
def setIn (sc : Scope) (f : Str) : List Expr → Option Expr
  | [.Call (.Name x _) [a] [] _] => if f = "sorted" && x = "set" && glob sc x && notStar a then some a else none
  | _ => none
def cOp (f : Expr → Option E) : Option Expr → Option (Option E)
  | none => some none
  | some e => (f e).map some
section
variable (tb : Tb) (N : List Str)
def cT : Nat → Scope → Expr → Option T
  | 0, _, _ => none
  | n + 1, sc, e => match e with
    | .Name x _ => if owned sc x then (ixOf x N 0).map .nm else none
    | .Tuple es _ _ => if es.all notStar then (allO (es.map (cT n sc))).map .tup else none
    | _ => none
def cE : Nat → Scope → Expr → Option E
  | 0, _, _ => none
  | n + 1, sc, e => match e with
    | .Constant (.int i) _ _ => some (.cst (.int i))
    | .Constant (.str s) _ _ => if strGood s then some (.cst (.str s)) else none
    | .Constant (.bool b) _ _ => some (.cst (.bl b))
    | .Constant .none _ _ => some (.cst .non)
    | .Name x _ => if !plainN x then none
      else if seen sc x then (ixOf x N 0).map .var
      else if glob sc x then (match tb.cst.lookup x with
        | some d => some (.cst d)
        | none => if x ∈ tb.gds then some (.cst (.gd x)) else none)
      else none
    | .Tuple es _ _ => if es.all notStar then (allO (es.map (cE n sc))).map .tup else none
    | .List es _ => if es.all notStar then (allO (es.map (cE n sc))).map .lst else none
    | .Dict ks vs _ => match allO (ks.map keyC), allO (vs.map (cE n sc)) with
      | some ks', some vs' => if ks.length = vs.length then some (.dct ks' vs') else none
      | _, _ => match ks, vs with
        | [some k], [v] => match cE n sc k, cE n sc v with
          | some x, some y => some (.dc1 x y)
          | _, _ => none
        | _, _ => none
    | .BinOp a op b _ => match bopC op, cE n sc a, cE n sc b with
      | some o, some x, some y => some (.bin o x y)
      | _, _, _ => none
    | .UnaryOp .USub a _ => (cE n sc a).map .neg
    | .UnaryOp .Not a _ => (cE n sc a).map .not_
    | .BoolOp _ [a] _ => cE n sc a
    | .BoolOp .And (a :: b :: r) pos => match cE n sc a, cE n sc (.BoolOp .And (b :: r) pos) with
      | some x, some y => some (.and_ x y)
      | _, _ => none
    | .BoolOp .Or (a :: b :: r) pos => match cE n sc a, cE n sc (.BoolOp .Or (b :: r) pos) with
      | some x, some y => some (.or_ x y)
      | _, _ => none
    | .IfExp c a b _ => match cE n sc c, cE n sc a, cE n sc b with
      | some z, some x, some y => some (.ife z x y)
      | _, _, _ => none
    | .Compare a [.Is] [b] _ => match cE n sc a, cE n sc b with
      | some x, some y => some (.is_ false x y)
      | _, _ => none
    | .Compare a [.IsNot] [b] _ => match cE n sc a, cE n sc b with
      | some x, some y => some (.is_ true x y)
      | _, _ => none
    | .Compare a [op] [b] _ => if behindInMarks op b then none else match copC op, cE n sc a, cE n sc b with
      | some o, some x, some y => some (.cmp o x y)
      | _, _, _ => none
    | .Compare a [op, op'] [b, c] _ => if lastMarks [op, op'] [b, c] then none else match copC op, copC op', cE n sc a, cE n sc b, cE n sc c with
      | some o, some o', some x, some y, some z => some (.chain o o' x y z)
      | _, _, _, _, _ => none
    | .Call (.Name f _) [.Call (.Attribute o m apos) [] [] cpos] [] _ => if f = "list" && m = "items" && plainN f && glob sc f && !(decide (f ∈ tb.fns)) && notCall0 o && apos.endLine == cpos.line then (cE n sc o).map fun x => .bi .litems [x] else none
    | .Call (.Name f _) args [] _ =>
      if !(plainN f && glob sc f && args.all notStar) then none
      else if f ∈ tb.fns then (allO (args.map (cE n sc))).map (.call f)
      else if f = "isinstance" then (match args with
        | [a, c] => match cE n sc a, tyC sc c with
          | some x, some t => some (.isi x [t])
          | _, _ => none
        | _ => none)
      else if f = "range" then (allO (args.map (cE n sc))).map .rng
      else match setIn sc f args with
       | some a => (cE n sc a).map fun x => .bi .sset [x]
       | none => match biC f args.length with
        | some b => (allO (args.map (cE n sc))).map (.bi b)
        | none => none
    | .Call (.Attribute o m apos) args [] cpos =>
      if args.all notStar && notCall0 o && apos.endLine == cpos.line then match meC m args.length, cE n sc o, allO (args.map (cE n sc)) with
        | some k, some x, some ys => some (.meth k x ys)
        | _, _, _ => none
      else none
    | .Subscript a (.Slice none none (some (.UnaryOp .USub (.Constant (.int 1) _ _) _)) _) _ => (cE n sc a).map .rev
    | .Subscript a (.Slice lo hi none _) _ => match cE n sc a, cOp (cE n sc) lo, cOp (cE n sc) hi with
      | some x, some l, some h => some (.sl x l h)
      | _, _, _ => none
    | .Subscript a i _ => if notSlice i then match cE n sc a, cE n sc i with
        | some x, some y => some (.ix x y)
        | _, _ => none
      else none
    | .ListComp elt [⟨tg, it, ifs, 0⟩] scope _ =>
      if L2.blkC N sc scope (ownOf N scope.names) then
        match cE n (L2.relS scope sc) elt, cT N n scope tg, cE n sc it, allO (ifs.map (cE n (L2.relS scope sc))) with
        | some x, some t, some i, some js => if js.length ≤ 1 && (T.slots t).all (fun i => decide (i ∈ (ownOf N scope.names).map (·.2))) then some (.lc x t i js ((ownOf N scope.names).map (·.2))) else none
        | _, _, _, _ => none
      else none
    | .ListComp elt [⟨tg, it, [], 0⟩, ⟨tg1, it1, [], 0⟩] scope _ =>
      if L2.blkC N sc scope (ownOf N scope.names) then
        match cE n (L2.relS scope sc) elt, cT N n scope tg, cE n sc it, cT N n scope tg1, cE n (L2.relS scope sc) it1 with
        | some x, some t, some i, some t1, some i1 => if (T.slots t).all (fun i => decide (i ∈ (ownOf N scope.names).map (·.2))) && (T.slots t1).all (fun i => decide (i ∈ (ownOf N scope.names).map (·.2))) then some (.lc2 x t i t1 i1 ((ownOf N scope.names).map (·.2))) else none
        | _, _, _, _, _ => none
      else none
    | .DictComp kx vx [⟨tg, it, [], 0⟩] scope _ =>
      if L2.blkC N sc scope (ownOf N scope.names) then
        match cE n (L2.relS scope sc) kx, cE n (L2.relS scope sc) vx, cT N n scope tg, cE n sc it with
        | some x, some y, some t, some i => if (T.slots t).all (fun i => decide (i ∈ (ownOf N scope.names).map (·.2))) then some (.dcl x y t i ((ownOf N scope.names).map (·.2))) else none
        | _, _, _, _ => none
      else none
    | _ => none
def cS : Nat → Scope → Stmt → Option C
  | 0, _, _ => none
  | n + 1, sc, st => match st with
    | .Expr e _ => if notComp e then (cE tb N n sc e).map .exp else none
    | .Assign [.Tuple [.Name x px, .Name y py] k p] (.Tuple [a, b] k2 p2) _ =>
      if sc.names.lookup x = some .local && sc.names.lookup y = some .local && !(x == y) && notStar a && notStar b && py.line == px.line then
        (if [a, b].all (foldedForSure 8) then match ixOf x N 0, ixOf y N 0, cE tb N n sc (.Tuple [a, b] k2 p2) with
          | some i, some j, some e => some (.asg (.tup [.nm i, .nm j]) e)
          | _, _, _ => none
        else if [a, b].all (constantsAlone 8) then none
        else match ixOf x N 0, ixOf y N 0, cE tb N n sc a, cE tb N n sc b with
          | some i, some j, some e, some f => some (.par [i, j] [e, f])
          | _, _, _, _ => none)
      else none
    | .Assign [.Tuple ts k p] (.Tuple es k2 p2) _ => none
    | .Assign [.Name x p] (.ListComp elt [⟨tg, it, ifs, 0⟩] scope pos) spos =>
      if sc.names.lookup x = some .local && p.line == pos.line && !(scope.names.any fun y => y.1 == x && (y.2 == .local || y.2 == .cell)) then
        match ixOf x N 0, cE tb N n sc (.ListComp elt [⟨tg, it, ifs, 0⟩] scope pos) with
        | some i, some e => some (.asg (.nm i) e)
        | _, _ => none
      else if sc.names.lookup x = some .cell then
        match ixOf x N 0, cE tb N n sc (.ListComp elt [⟨tg, it, ifs, 0⟩] scope pos) with
        | some i, some e => some (.asg (.nm i) e)
        | _, _ => none
      else none
    | .Assign [.Name x p] (.ListComp elt [⟨tg, it, [], 0⟩, ⟨tg1, it1, [], 0⟩] scope pos) spos =>
      if sc.names.lookup x = some .local && p.line == pos.line && !(scope.names.any fun y => y.1 == x && (y.2 == .local || y.2 == .cell)) then
        match ixOf x N 0, cE tb N n sc (.ListComp elt [⟨tg, it, [], 0⟩, ⟨tg1, it1, [], 0⟩] scope pos) with
        | some i, some e => some (.asg (.nm i) e)
        | _, _ => none
      else if sc.names.lookup x = some .cell then
        match ixOf x N 0, cE tb N n sc (.ListComp elt [⟨tg, it, [], 0⟩, ⟨tg1, it1, [], 0⟩] scope pos) with
        | some i, some e => some (.asg (.nm i) e)
        | _, _ => none
      else none
    | .Assign [.Name x p] (.DictComp kx vx [⟨tg, it, [], 0⟩] scope pos) spos =>
      if sc.names.lookup x = some .local && p.line == pos.line && !(scope.names.any fun y => y.1 == x && (y.2 == .local || y.2 == .cell)) then
        match ixOf x N 0, cE tb N n sc (.DictComp kx vx [⟨tg, it, [], 0⟩] scope pos) with
        | some i, some e => some (.asg (.nm i) e)
        | _, _ => none
      else if sc.names.lookup x = some .cell then
        match ixOf x N 0, cE tb N n sc (.DictComp kx vx [⟨tg, it, [], 0⟩] scope pos) with
        | some i, some e => some (.asg (.nm i) e)
        | _, _ => none
      else none
    | .Assign [.Name x p] e _ => if notComp e then match cT N n sc (.Name x p), cE tb N n sc e with
        | some t, some e => some (.asg t e)
        | _, _ => none
      else none
    | .Assign [.Tuple ts k p] e _ => if notComp e then match cT N n sc (.Tuple ts k p), cE tb N n sc e with
        | some t, some e => some (.asg t e)
        | _, _ => none
      else none
    | .Assign [.Subscript o i _] e _ => if notComp e && notSlice i then match cE tb N n sc o, cE tb N n sc i, cE tb N n sc e with
        | some x, some y, some z => some (.sto x y z)
        | _, _, _ => none
      else none
    | .Return (some e) _ => (cE tb N n sc e).map .ret
    | .Return none _ => some .retN
    | .If c a b _ => match cE tb N n sc c, allO (a.map (cS n sc)), allO (b.map (cS n sc)) with
      | some z, some x, some y => some (.ife z x y)
      | _, _, _ => none
    | .For (.Tuple elts kk tp) (.Call (.Attribute o m apos) [] [] cpos) body [] _ => if m = "items" && notCall0 o && apos.endLine == cpos.line then match cT N n sc (.Tuple elts kk tp), cE tb N n sc o, allO (body.map (cS n sc)) with
        | some t, some e, some b => some (.forI t e b)
        | _, _, _ => none
      else none
    | .For tg it body [] _ => match cT N n sc tg, cE tb N n sc it, allO (body.map (cS n sc)) with
      | some t, some e, some b => some (.for_ t e b)
      | _, _, _ => none
    | .While c body [] _ => match cE tb N n sc c, allO (body.map (cS n sc)) with
      | some z, some b => some (.while_ z b)
      | _, _ => none
    | .Pass _ => some .pass
    | .Raise _ _ _ => some (.exp (.rng []))
    | .Break _ => some .brk
    | .Continue _ => some .cnt
    | _ => none
end
def cF (tb : Tb) (nm : Str) (ps N : List Str) (st : Stmt) : Option Fn :=
  (allO ((L2.defBody st).map (cS tb N 40 (L2.defScope st)))).map fun b => ⟨nm, ps, N, b⟩

end CV

set_option Elab.async false
set_option linter.all false
set_option maxRecDepth 100000
set_option maxHeartbeats 8000000
/-! CvX: the evaluator once more, for the kernel (printed by mkx.py). -/
namespace CV
open PySem
abbrev EvE := Env → Sto → Option (D × Sto)
abbrev EvT := Env → Sto → Option (Bool × Sto)
abbrev EvW := Env → Sto → Option (Wk × Sto)
abbrev Ev3 := EvE × EvT × EvW
abbrev EvL := (Env → Sto → Option (List D × Sto)) × EvT
abbrev EvO := Env → Sto → Option (Option Int × Sto)
def tE3 (v : EvE) : EvT := fun env S => match v env S with
  | some (d, S1) => match truth S1 d with
    | some k => some (k, S1)
    | none => none
  | none => none
def wE3 (v : EvE) : EvW := fun env S => match v env S with
  | some (d, S1) => match wkOf S1 d with
    | some w => some (w, S1)
    | none => none
  | none => none
def bAnd (a : Bool) (b : Bool) : Bool := match a with
  | true => b
  | false => false
theorem bAnd_eq (a b : Bool) : bAnd a b = (a && b) := by cases a <;> rfl
noncomputable def underK (n : Nat) : D → Bool := D.rec (motive_1 := fun _ => Bool) (motive_2 := fun _ => Bool) true (fun _ => true) (fun _ => true) (fun _ => true) (fun _ k => k) (fun _ m => Nat.ble (m + 1) n) (fun _ => true) (fun _ => true) true (fun _ _ a b => bAnd a b)
noncomputable def underKs (n : Nat) : List D → Bool := D.rec_1 (motive_1 := fun _ => Bool) (motive_2 := fun _ => Bool) true (fun _ => true) (fun _ => true) (fun _ => true) (fun _ k => k) (fun _ m => Nat.ble (m + 1) n) (fun _ => true) (fun _ => true) true (fun _ _ a b => bAnd a b)
mutual
theorem underK_eq (n : Nat) : ∀ d : D, underK n d = D.under n d
  | .non => rfl
  | .bl _ => rfl
  | .int _ => rfl
  | .str _ => rfl
  | .tup xs => by
    show underKs n xs = D.underAll n xs
    exact underKs_eq n xs
  | .loc _ m => by
    show Nat.ble (m + 1) n = decide (m < n)
    rw [Bool.eq_iff_iff, Nat.ble_eq, decide_eq_true_eq]
    exact Iff.rfl
  | .scr _ => rfl
  | .gd _ => rfl
theorem underKs_eq (n : Nat) : ∀ ds : List D, underKs n ds = D.underAll n ds
  | [] => rfl
  | d :: ds => by
    show bAnd (underK n d) (underKs n ds) = (D.under n d && D.underAll n ds)
    rw [bAnd_eq, underK_eq n d, underKs_eq n ds]
end
noncomputable def obUnderK (n : Nat) : Ob → Bool
  | .lst xs => underKs n xs
  | .dct kvs => kvs.all fun kv => underK n kv.2
  | .lk kvs => kvs.all fun kv => underK n kv.2
theorem obUnderK_eq (n : Nat) (o : Ob) : obUnderK n o = Ob.under n o := by
  cases o with
  | lst xs => exact underKs_eq n xs
  | dct kvs =>
    show (kvs.all fun kv => underK n kv.2) = D.underAll n (kvs.map (·.2))
    induction kvs with
    | nil => rfl
    | cons kv kvs ih =>
      rw [List.all_cons, ih, underK_eq]
      rfl
  | lk kvs =>
    show (kvs.all fun kv => underK n kv.2) = D.underAll n (kvs.map (·.2))
    induction kvs with
    | nil => rfl
    | cons kv kvs ih =>
      rw [List.all_cons, ih, underK_eq]
      rfl
noncomputable def oldOkK (n : Nat) : Sto → Sto → Bool
  | [], _ => true
  | o :: S, o' :: S1 => bAnd (match obUnderK n o' with
    | true => true
    | false => Ob.beq o o') (oldOkK n S S1)
  | _ :: _, [] => false
theorem oldOkK_eq (n : Nat) : ∀ S S1 : Sto, oldOkK n S S1 = oldOk n S S1
  | [], _ => by simp only [oldOkK, oldOk]
  | o :: S, o' :: S1 => by
    simp only [oldOkK, oldOk, bAnd_eq, obUnderK_eq, oldOkK_eq n S S1]
    cases Ob.under n o' <;> rfl
  | _ :: _, [] => by simp only [oldOkK, oldOk]
noncomputable def gcK (S : Sto) (r : D × Sto) : D × Sto := match noNew S r.2 with
  | true => r
  | false => match oldOkK S.length S r.2 with
    | true => match underK S.length r.1 with
      | true => (r.1, r.2.take S.length)
      | false => match r.1 with
        | .loc k m => match r.2[m]? with
          | some o => match bAnd (obUnderK S.length o) (bAnd (Nat.ble S.length m) (decide (o.kd = k))) with
            | true => (.loc k S.length, r.2.take S.length ++ [o])
            | false => r
          | none => r
        | _ => r
    | false => r
theorem gcK_eq (S : Sto) (r : D × Sto) : gcK S r = gc S r := by
  unfold gcK gc gc0
  cases noNew S r.2 with
  | true => rfl
  | false =>
    rw [oldOkK_eq]
    cases h1 : oldOk S.length S r.2 with
    | false => simp
    | true =>
      rw [underK_eq]
      cases h2 : D.under S.length r.1 with
      | true => simp
      | false =>
        simp only [if_true, Bool.false_eq_true, if_false]
        cases r.1 with
        | loc k m =>
          simp only
          cases r.2[m]? with
          | none => rfl
          | some o =>
            simp only [bAnd_eq, obUnderK_eq]
            have e : (Ob.under S.length o && (Nat.ble S.length m && decide (o.kd = k))) = (Ob.under S.length o && decide (S.length ≤ m) && decide (o.kd = k)) := by
              have : Nat.ble S.length m = decide (S.length ≤ m) := by rw [Bool.eq_iff_iff, Nat.ble_eq, decide_eq_true_eq]
              rw [this, Bool.and_assoc]
            rw [e]
            cases (Ob.under S.length o && decide (S.length ≤ m) && decide (o.kd = k)) <;> simp
        | _ => rfl
theorem gcK_fun (S : Sto) : gcK S = gc S := funext fun r => gcK_eq S r
section
variable (g : Cst) (F : FT)
noncomputable def h_var (i : Nat)  : Ev3 :=
  let v : EvE := fun env S => match env[i]? with
    | some (some d) => some (d, S)
    | _ => none
  (v, tE3 v, wE3 v)
noncomputable def h_cst (d : D)  : Ev3 :=
  let v : EvE := fun _ S => some (d, S)
  (v, tE3 v, wE3 v)
noncomputable def h_tup (es : List E) (kes : EvL) : Ev3 :=
  let v : EvE := fun env S => match kes.1 env S with
    | some (ds, S1) => if ds.length ≤ cap then some (.tup ds, S1) else none
    | none => none
  (v, tE3 v, wE3 v)
noncomputable def h_lst (es : List E) (kes : EvL) : Ev3 :=
  let v : EvE := fun env S => match kes.1 env S with
    | some (ds, S1) => if ds.length ≤ cap then some (.loc .lst S1.length, S1 ++ [.lst ds]) else none
    | none => none
  (v, tE3 v, wE3 v)
noncomputable def h_dct (ks : List L2.Key) (es : List E) (kes : EvL) : Ev3 :=
  let v : EvE := fun env S => match kes.1 env S with
    | some (ds, S1) => if ds.length ≤ 15 && ks.length == ds.length then some (.loc .dct S1.length, S1 ++ [.dct ((ks.zip ds).foldl (fun acc kv => putD acc kv.1 kv.2) [])]) else none
    | none => none
  (v, tE3 v, wE3 v)
noncomputable def h_bin (op : Bop) (a : E) (b : E) (ka : Ev3) (kb : Ev3) : Ev3 :=
  let v : EvE := fun env S => match ka.1 env S with
    | some (x, S1) => match kb.1 env S1 with
      | some (y, S2) => (binD op x y S2).map (gcK S)
      | none => none
    | none => none
  (v, tE3 v, wE3 v)
noncomputable def h_neg (a : E) (ka : Ev3) : Ev3 :=
  let v : EvE := fun env S => match ka.1 env S with
    | some (.int i, S1) => some (.int (-i), S1)
    | _ => none
  (v, tE3 v, wE3 v)
noncomputable def h_cmp (op : Cop) (a : E) (b : E) (ka : Ev3) (kb : Ev3) : Ev3 :=
  let v : EvE := fun env S => match ka.1 env S with
    | some (x, S1) => match kb.1 env S1 with
      | some (y, S2) => (cmpD g op x y S2).map fun k => gcK S (.bl k, S2)
      | none => none
    | none => none
  (v, tE3 v, wE3 v)
noncomputable def h_chain (op : Cop) (op' : Cop) (a : E) (b : E) (c : E) (ka : Ev3) (kb : Ev3) (kc : Ev3) : Ev3 :=
  let v : EvE := fun env S => match ka.1 env S with
    | some (x, S1) => match kb.1 env S1 with
      | some (y, S2) => match cmpD g op x y S2 with
        | some true => match kc.1 env S2 with
          | some (z, S3) => (cmpD g op' y z S3).map fun k => (.bl k, S3)
          | none => none
        | some false => some (.bl false, S2)
        | none => none
      | none => none
    | none => none
  (v, tE3 v, wE3 v)
noncomputable def h_is_ (neg : Bool) (a : E) (b : E) (ka : Ev3) (kb : Ev3) : Ev3 :=
  let v : EvE := fun env S => match ka.1 env S with
    | some (x, S1) => match kb.1 env S1 with
      | some (y, S2) => (isD x y).map fun k => (.bl (if neg then !k else k), S2)
      | none => none
    | none => none
  (v, tE3 v, wE3 v)
noncomputable def h_and_ (a : E) (b : E) (ka : Ev3) (kb : Ev3) : Ev3 :=
  let v : EvE := fun env S => match ka.1 env S with
    | some (.bl true, S1) => kb.1 env S1
    | some (.bl false, S1) => some (.bl false, S1)
    | _ => none
  (v, fun env S => match ka.2.1 env S with
      | some (true, S1) => kb.2.1 env S1
      | some (false, S1) => some (false, S1)
      | none => none, wE3 v)
noncomputable def h_or_ (a : E) (b : E) (ka : Ev3) (kb : Ev3) : Ev3 :=
  let v : EvE := fun env S => match ka.1 env S with
    | some (.bl false, S1) => kb.1 env S1
    | some (.bl true, S1) => some (.bl true, S1)
    | _ => none
  (v, fun env S => match ka.2.1 env S with
      | some (false, S1) => kb.2.1 env S1
      | some (true, S1) => some (true, S1)
      | none => none, wE3 v)
noncomputable def h_not_ (a : E) (ka : Ev3) : Ev3 :=
  let v : EvE := fun env S => match ka.1 env S with
    | some (.bl k, S1) => some (.bl (!k), S1)
    | _ => none
  (v, fun env S => match ka.2.1 env S with
      | some (k, S1) => some (!k, S1)
      | none => none, wE3 v)
noncomputable def h_ife (c : E) (a : E) (b : E) (kc : Ev3) (ka : Ev3) (kb : Ev3) : Ev3 :=
  let v : EvE := fun env S => match kc.2.1 env S with
    | some (true, S1) => ka.1 env S1
    | some (false, S1) => kb.1 env S1
    | none => none
  (v, fun env S => match kc.2.1 env S with
      | some (true, S1) => ka.2.1 env S1
      | some (false, S1) => kb.2.1 env S1
      | none => none, wE3 v)
noncomputable def h_call (f : Str) (es : List E) (kes : EvL) : Ev3 :=
  let v : EvE := fun env S => match kes.1 env S with
    | some (ds, S1) => (F f ds S1).map (gcK S)
    | none => none
  (v, tE3 v, wE3 v)
noncomputable def h_bi (b : Bi) (es : List E) (kes : EvL) : Ev3 :=
  let v : EvE := fun env S => match kes.1 env S with
    | some (ds, S1) => (biD b ds S1).map (gcK S)
    | none => none
  (v, tE3 v, wE3 v)
noncomputable def h_isi (a : E) (cs : List String) (ka : Ev3) : Ev3 :=
  let v : EvE := fun env S => match ka.1 env S with
    | some (x, S1) => match tyOf x with
      | some t => match cs.foldr (fun c r => match L2.kitB t c, r with | some k, some j => some (k || j) | _, _ => none) (some false) with
        | some k => some (.bl k, S1)
        | none => none
      | none => none
    | none => none
  (v, tE3 v, wE3 v)
noncomputable def h_meth (m : Me) (o : E) (es : List E) (ko : Ev3) (kes : EvL) : Ev3 :=
  let v : EvE := fun env S => match ko.1 env S with
    | some (x, S1) => match kes.1 env S1 with
      | some (ds, S2) => (meD m x ds S2).map (gcK S)
      | none => none
    | none => none
  (v, tE3 v, wE3 v)
noncomputable def h_ix (a : E) (i : E) (ka : Ev3) (ki : Ev3) : Ev3 :=
  let v : EvE := fun env S => match ka.1 env S with
    | some (x, S1) => match ki.1 env S1 with
      | some (y, S2) => (ixD g x y S2).map fun d => gcK S (d, S2)
      | none => none
    | none => none
  (v, tE3 v, wE3 v)
noncomputable def h_sl (a : E) (lo : Option E) (hi : Option E) (ka : Ev3) (klo : EvO) (khi : EvO) : Ev3 :=
  let v : EvE := fun env S => match ka.1 env S with
    | some (x, S1) => match klo env S1 with
      | some (l, S2) => match khi env S2 with
        | some (h, S3) => (slD x l h S3).map (gcK S)
        | none => none
      | none => none
    | none => none
  (v, tE3 v, wE3 v)
noncomputable def h_rev (a : E) (ka : Ev3) : Ev3 :=
  let v : EvE := fun env S => match ka.1 env S with
    | some (x, S1) => (revD x S1).map (gcK S)
    | none => none
  (v, tE3 v, wE3 v)
noncomputable def h_rng (es : List E) (kes : EvL) : Ev3 :=
  let v : EvE := fun _ _ => none
  (v, tE3 v, fun env S => match kes.1 env S with
      | some ([.int j], S1) => if -4611686018427387904 ≤ j && j < 4611686018427387904 then some (.fix (rngItems 0 j), S1) else none
      | some ([.int i, .int j], S1) => if -4611686018427387904 ≤ i && i < 4611686018427387904 && -4611686018427387904 ≤ j && j < 4611686018427387904 then some (.fix (rngItems i j), S1) else none
      | _ => none)
noncomputable def h_lc (elt : E) (t : T) (it : E) (ifs : List E) (own : List Nat) (kelt : Ev3) (kit : Ev3) (kifs : EvL) : Ev3 :=
  let v : EvE := fun env S => match kit.2.2 env S with
    | some (w, S1) => match lcLoop kelt.1 kifs.2 t (wipeD env own) w w.items [] S1 with
      | some (ds, S2) => some (gcK S (.loc .lst S2.length, S2 ++ [.lst ds]))
      | none => none
    | none => none
  (v, tE3 v, wE3 v)
noncomputable def h_dc1 (k : E) (v : E) (kk : Ev3) (kv : Ev3) : Ev3 :=
  let v : EvE := fun env S => match kk.1 env S with
    | some (x, S1) => match kv.1 env S1 with
      | some (y, S2) => match toKey x with
        | some ky => some (.loc .dct S2.length, S2 ++ [.dct [(ky, y)]])
        | none => none
      | none => none
    | none => none
  (v, tE3 v, wE3 v)
noncomputable def h_dcl (k : E) (v : E) (t : T) (it : E) (own : List Nat) (kk : Ev3) (kv : Ev3) (kit : Ev3) : Ev3 :=
  let v : EvE := fun env S => match kit.2.2 env S with
    | some (w, S1) => match dcLoop kk.1 kv.1 t (wipeD env own) w w.items [] S1 with
      | some (kvs, S2) => some (gcK S (.loc .dct S2.length, S2 ++ [.dct kvs]))
      | none => none
    | none => match kit.1 env S with
      | some (.loc .dct n, S1) => match S1[n]? with
        | some (.dct kvs) => match dcLoop kk.1 kv.1 t (wipeD env own) (.fix (keysD kvs)) (keysD kvs) [] (S1.set n (.lk kvs)) with
          | some (kvs2, S2) => match unl n S2 with
            | some S3 => some (gcK S (.loc .dct S3.length, S3 ++ [.dct kvs2]))
            | none => none
          | none => none
        | _ => none
      | _ => none
  (v, tE3 v, wE3 v)
noncomputable def h_lc2 (elt : E) (t : T) (it : E) (t1 : T) (e1 : E) (own : List Nat) (kelt : Ev3) (kit : Ev3) (ke1 : Ev3) : Ev3 :=
  let v : EvE := fun env S => match kit.2.2 env S with
    | some (w, S1) => match l2Loop kelt.1 ke1.1 t t1 (wipeD env own) w w.items [] [] S1 with
      | some (ds, ls, S2) => match unlAll ls S2 with
        | some S3 => some (gcK S (.loc .lst S3.length, S3 ++ [.lst ds]))
        | none => none
      | none => none
    | none => none
  (v, tE3 v, wE3 v)
def h_nil : EvL := (fun _ S => some ([], S), fun _ S => some (true, S))
def h_cons (e : E) (es : List E) (ke : Ev3) (kes : EvL) : EvL := (fun env S => match ke.1 env S with
    | some (d, S1) => match kes.1 env S1 with
      | some (ds, S2) => some (d :: ds, S2)
      | none => none
    | none => none, fun env S => match es with
    | [] => ke.2.1 env S
    | _ => none)
def h_none : EvO := fun _ S => some (none, S)
def h_some (e : E) (ke : Ev3) : EvO := fun env S => match ke.1 env S with
    | some (.int i, S1) => some (some i, S1)
    | _ => none
noncomputable def kA : E → Ev3 := fun e => E.rec (motive_1 := fun _ => Ev3) (motive_2 := fun _ => EvL) (motive_3 := fun _ => EvO) (h_var) (h_cst) (h_tup) (h_lst) (h_dct) (h_bin) (h_neg) (h_cmp g) (h_chain g) (h_is_) (h_and_) (h_or_) (h_not_) (h_ife) (h_call F) (h_bi) (h_isi) (h_meth) (h_ix g) (h_sl) (h_rev) (h_rng) (h_lc) (h_dc1) (h_dcl) (h_lc2) h_nil h_cons h_none h_some e
noncomputable def kAs : List E → EvL := fun es => E.rec_1 (motive_1 := fun _ => Ev3) (motive_2 := fun _ => EvL) (motive_3 := fun _ => EvO) (h_var) (h_cst) (h_tup) (h_lst) (h_dct) (h_bin) (h_neg) (h_cmp g) (h_chain g) (h_is_) (h_and_) (h_or_) (h_not_) (h_ife) (h_call F) (h_bi) (h_isi) (h_meth) (h_ix g) (h_sl) (h_rev) (h_rng) (h_lc) (h_dc1) (h_dcl) (h_lc2) h_nil h_cons h_none h_some es
noncomputable def kAo : Option E → EvO := fun o => E.rec_2 (motive_1 := fun _ => Ev3) (motive_2 := fun _ => EvL) (motive_3 := fun _ => EvO) (h_var) (h_cst) (h_tup) (h_lst) (h_dct) (h_bin) (h_neg) (h_cmp g) (h_chain g) (h_is_) (h_and_) (h_or_) (h_not_) (h_ife) (h_call F) (h_bi) (h_isi) (h_meth) (h_ix g) (h_sl) (h_rev) (h_rng) (h_lc) (h_dc1) (h_dcl) (h_lc2) h_nil h_cons h_none h_some o
mutual
theorem kA_eq : ∀ e : E, kA g F e = (evE g F e, evT g F e, evW g F e)
  | .var i => by
    rw [show kA g F (.var i) = h_var i  from rfl]
    refine Prod.ext ?_ (Prod.ext ?_ ?_) <;> (funext env S; simp only [evE, evT, evW, h_var, gcK_fun]) <;> rfl
  | .cst d => by
    rw [show kA g F (.cst d) = h_cst d  from rfl]
    refine Prod.ext ?_ (Prod.ext ?_ ?_) <;> (funext env S; simp only [evE, evT, evW, h_cst, gcK_fun]) <;> rfl
  | .tup es => by
    rw [show kA g F (.tup es) = h_tup es (kAs g F es) from rfl, kAs_eq es]
    refine Prod.ext ?_ (Prod.ext ?_ ?_) <;> (funext env S; simp only [evE, evT, evW, h_tup, gcK_fun]) <;> rfl
  | .lst es => by
    rw [show kA g F (.lst es) = h_lst es (kAs g F es) from rfl, kAs_eq es]
    refine Prod.ext ?_ (Prod.ext ?_ ?_) <;> (funext env S; simp only [evE, evT, evW, h_lst, gcK_fun]) <;> rfl
  | .dct ks es => by
    rw [show kA g F (.dct ks es) = h_dct ks es (kAs g F es) from rfl, kAs_eq es]
    refine Prod.ext ?_ (Prod.ext ?_ ?_) <;> (funext env S; simp only [evE, evT, evW, h_dct, gcK_fun]) <;> rfl
  | .bin op a b => by
    rw [show kA g F (.bin op a b) = h_bin op a b (kA g F a) (kA g F b) from rfl, kA_eq a, kA_eq b]
    refine Prod.ext ?_ (Prod.ext ?_ ?_) <;> (funext env S; simp only [evE, evT, evW, h_bin, gcK_fun]) <;> rfl
  | .neg a => by
    rw [show kA g F (.neg a) = h_neg a (kA g F a) from rfl, kA_eq a]
    refine Prod.ext ?_ (Prod.ext ?_ ?_) <;> (funext env S; simp only [evE, evT, evW, h_neg, gcK_fun]) <;> rfl
  | .cmp op a b => by
    rw [show kA g F (.cmp op a b) = h_cmp g op a b (kA g F a) (kA g F b) from rfl, kA_eq a, kA_eq b]
    refine Prod.ext ?_ (Prod.ext ?_ ?_) <;> (funext env S; simp only [evE, evT, evW, h_cmp, gcK_fun]) <;> rfl
  | .chain op op' a b c => by
    rw [show kA g F (.chain op op' a b c) = h_chain g op op' a b c (kA g F a) (kA g F b) (kA g F c) from rfl, kA_eq a, kA_eq b, kA_eq c]
    refine Prod.ext ?_ (Prod.ext ?_ ?_) <;> (funext env S; simp only [evE, evT, evW, h_chain, gcK_fun]) <;> rfl
  | .is_ neg a b => by
    rw [show kA g F (.is_ neg a b) = h_is_ neg a b (kA g F a) (kA g F b) from rfl, kA_eq a, kA_eq b]
    refine Prod.ext ?_ (Prod.ext ?_ ?_) <;> (funext env S; simp only [evE, evT, evW, h_is_, gcK_fun]) <;> rfl
  | .and_ a b => by
    rw [show kA g F (.and_ a b) = h_and_ a b (kA g F a) (kA g F b) from rfl, kA_eq a, kA_eq b]
    refine Prod.ext ?_ (Prod.ext ?_ ?_) <;> (funext env S; simp only [evE, evT, evW, h_and_, gcK_fun]) <;> rfl
  | .or_ a b => by
    rw [show kA g F (.or_ a b) = h_or_ a b (kA g F a) (kA g F b) from rfl, kA_eq a, kA_eq b]
    refine Prod.ext ?_ (Prod.ext ?_ ?_) <;> (funext env S; simp only [evE, evT, evW, h_or_, gcK_fun]) <;> rfl
  | .not_ a => by
    rw [show kA g F (.not_ a) = h_not_ a (kA g F a) from rfl, kA_eq a]
    refine Prod.ext ?_ (Prod.ext ?_ ?_) <;> (funext env S; simp only [evE, evT, evW, h_not_, gcK_fun]) <;> rfl
  | .ife c a b => by
    rw [show kA g F (.ife c a b) = h_ife c a b (kA g F c) (kA g F a) (kA g F b) from rfl, kA_eq c, kA_eq a, kA_eq b]
    refine Prod.ext ?_ (Prod.ext ?_ ?_) <;> (funext env S; simp only [evE, evT, evW, h_ife, gcK_fun]) <;> rfl
  | .call f es => by
    rw [show kA g F (.call f es) = h_call F f es (kAs g F es) from rfl, kAs_eq es]
    refine Prod.ext ?_ (Prod.ext ?_ ?_) <;> (funext env S; simp only [evE, evT, evW, h_call, gcK_fun]) <;> rfl
  | .bi b es => by
    rw [show kA g F (.bi b es) = h_bi b es (kAs g F es) from rfl, kAs_eq es]
    refine Prod.ext ?_ (Prod.ext ?_ ?_) <;> (funext env S; simp only [evE, evT, evW, h_bi, gcK_fun]) <;> rfl
  | .isi a cs => by
    rw [show kA g F (.isi a cs) = h_isi a cs (kA g F a) from rfl, kA_eq a]
    refine Prod.ext ?_ (Prod.ext ?_ ?_) <;> (funext env S; simp only [evE, evT, evW, h_isi, gcK_fun]) <;> rfl
  | .meth m o es => by
    rw [show kA g F (.meth m o es) = h_meth m o es (kA g F o) (kAs g F es) from rfl, kA_eq o, kAs_eq es]
    refine Prod.ext ?_ (Prod.ext ?_ ?_) <;> (funext env S; simp only [evE, evT, evW, h_meth, gcK_fun]) <;> rfl
  | .ix a i => by
    rw [show kA g F (.ix a i) = h_ix g a i (kA g F a) (kA g F i) from rfl, kA_eq a, kA_eq i]
    refine Prod.ext ?_ (Prod.ext ?_ ?_) <;> (funext env S; simp only [evE, evT, evW, h_ix, gcK_fun]) <;> rfl
  | .sl a lo hi => by
    rw [show kA g F (.sl a lo hi) = h_sl a lo hi (kA g F a) (kAo g F lo) (kAo g F hi) from rfl, kA_eq a, kAo_eq lo, kAo_eq hi]
    refine Prod.ext ?_ (Prod.ext ?_ ?_) <;> (funext env S; simp only [evE, evT, evW, h_sl, gcK_fun]) <;> rfl
  | .rev a => by
    rw [show kA g F (.rev a) = h_rev a (kA g F a) from rfl, kA_eq a]
    refine Prod.ext ?_ (Prod.ext ?_ ?_) <;> (funext env S; simp only [evE, evT, evW, h_rev, gcK_fun]) <;> rfl
  | .rng es => by
    rw [show kA g F (.rng es) = h_rng es (kAs g F es) from rfl, kAs_eq es]
    refine Prod.ext ?_ (Prod.ext ?_ ?_) <;> (funext env S; simp only [evE, evT, evW, h_rng, gcK_fun]) <;> rfl
  | .lc elt t it ifs own => by
    rw [show kA g F (.lc elt t it ifs own) = h_lc elt t it ifs own (kA g F elt) (kA g F it) (kAs g F ifs) from rfl, kA_eq elt, kA_eq it, kAs_eq ifs]
    refine Prod.ext ?_ (Prod.ext ?_ ?_) <;> (funext env S; simp only [evE, evT, evW, h_lc, gcK_fun]) <;> rfl
  | .dc1 k v => by
    rw [show kA g F (.dc1 k v) = h_dc1 k v (kA g F k) (kA g F v) from rfl, kA_eq k, kA_eq v]
    refine Prod.ext ?_ (Prod.ext ?_ ?_) <;> (funext env S; simp only [evE, evT, evW, h_dc1, gcK_fun]) <;> rfl
  | .dcl k v t it own => by
    rw [show kA g F (.dcl k v t it own) = h_dcl k v t it own (kA g F k) (kA g F v) (kA g F it) from rfl, kA_eq k, kA_eq v, kA_eq it]
    refine Prod.ext ?_ (Prod.ext ?_ ?_) <;> (funext env S; simp only [evE, evT, evW, h_dcl, gcK_fun]) <;> rfl
  | .lc2 elt t it t1 e1 own => by
    rw [show kA g F (.lc2 elt t it t1 e1 own) = h_lc2 elt t it t1 e1 own (kA g F elt) (kA g F it) (kA g F e1) from rfl, kA_eq elt, kA_eq it, kA_eq e1]
    refine Prod.ext ?_ (Prod.ext ?_ ?_) <;> (funext env S; simp only [evE, evT, evW, h_lc2, gcK_fun]) <;> rfl
theorem kAs_eq : ∀ es : List E, kAs g F es = (evEs g F es, evIfs g F es)
  | [] => by
    rw [show kAs g F [] = h_nil from rfl]
    refine Prod.ext ?_ ?_ <;> (funext env S; simp only [evEs, evIfs, h_nil]) <;> rfl
  | [e] => by
    rw [show kAs g F [e] = h_cons e [] (kA g F e) (kAs g F []) from rfl, kA_eq e, kAs_eq []]
    refine Prod.ext ?_ ?_ <;> (funext env S; simp only [evEs, evIfs, h_cons]) <;> rfl
  | e :: e2 :: es => by
    have h := kAs_eq (e2 :: es)
    rw [show kAs g F (e :: e2 :: es) = h_cons e (e2 :: es) (kA g F e) (kAs g F (e2 :: es)) from rfl, h, kA_eq e]
    refine Prod.ext ?_ ?_
    · funext env S
      show _ = evEs g F (e :: e2 :: es) env S
      rw [evEs.eq_def]
      rfl
    · funext env S
      simp only [evIfs]
      rfl
theorem kAo_eq : ∀ o : Option E, kAo g F o = evO g F o
  | none => by
    rw [show kAo g F none = h_none from rfl]
    funext env S
    simp only [h_none, evO] <;> rfl
  | some e => by
    rw [show kAo g F (some e) = h_some e (kA g F e) from rfl, kA_eq e]
    funext env S
    simp only [h_some, evO] <;> rfl
end
end
abbrev EvC := Env → Sto → Option (Fl × Env × Sto)
section
variable (g : Cst) (F : FT) (fuel : Nat)
noncomputable def s_exp (e : E)  : EvC := fun env S => match (kA g F e).1 env S with
  | some (_, S1) => some (.nx, env, S1)
  | none => none
noncomputable def s_asg (t : T) (e : E)  : EvC := fun env S => match (kA g F e).1 env S with
  | some (d, S1) => match asg t d env S1 with
    | some env1 => some (.nx, env1, S1)
    | none => none
  | none => none
noncomputable def s_par (is : List Nat) (es : List E)  : EvC := fun env S => match (kAs g F es).1 env S with
  | some (ds, S1) => match setAll is ds env with
    | some env1 => some (.nx, env1, S1)
    | none => none
  | none => none
noncomputable def s_sto (o : E) (i : E) (e : E)  : EvC := fun env S => match (kA g F e).1 env S with
  | some (v, S1) => match (kA g F o).1 env S1 with
    | some (x, S2) => match (kA g F i).1 env S2 with
      | some (y, S3) => match setD x y v S3 with
        | some S4 => some (.nx, env, S4)
        | none => none
      | none => none
    | none => none
  | none => none
noncomputable def s_ret (e : E)  : EvC := fun env S => match (kA g F e).1 env S with
  | some (d, S1) => some (.rt d, env, S1)
  | none => none
noncomputable def s_retN   : EvC := fun env S => some (.rt .non, env, S)
noncomputable def s_ife (c : E) (a : List C) (b : List C) (ka : EvC) (kb : EvC) : EvC := fun env S => match (kA g F c).2.1 env S with
  | some (true, S1) => ka env S1
  | some (false, S1) => kb env S1
  | none => none
noncomputable def s_for_ (t : T) (it : E) (body : List C) (kbody : EvC) : EvC := fun env S => match (kA g F it).2.2 env S with
  | some (w, S1) => forLoop kbody t w w.items env S1
  | none => none
noncomputable def s_forI (t : T) (e : E) (body : List C) (kbody : EvC) : EvC := fun env S => match (kA g F e).1 env S with
  | some (.loc .dct n, S1) => match S1[n]? with
    | some (.dct kvs) => unlF n (forLoop kbody t (.fix (itemsD kvs)) (itemsD kvs) env (S1.set n (.lk kvs)))
    | _ => none
  | _ => none
noncomputable def s_while_ (c : E) (body : List C) (kbody : EvC) : EvC := fun env S => whileLoop (kA g F c).2.1 kbody fuel env S
noncomputable def s_brk   : EvC := fun env S => some (.bk, env, S)
noncomputable def s_cnt   : EvC := fun env S => some (.ct, env, S)
noncomputable def s_pass   : EvC := fun env S => some (.nx, env, S)
def s_nil : EvC := fun env S => some (.nx, env, S)
def s_cons (c : C) (cs : List C) (kc kcs : EvC) : EvC := fun env S => match kc env S with
    | some (.nx, env1, S1) => kcs env1 S1
    | r => r
noncomputable def kC : C → EvC := fun c => C.rec (motive_1 := fun _ => EvC) (motive_2 := fun _ => EvC) (s_exp g F) (s_asg g F) (s_par g F) (s_sto g F) (s_ret g F) (s_retN) (s_ife g F) (s_for_ g F) (s_forI g F) (s_while_ g F fuel) (s_brk) (s_cnt) (s_pass) s_nil s_cons c
noncomputable def kCs : List C → EvC := fun cs => C.rec_1 (motive_1 := fun _ => EvC) (motive_2 := fun _ => EvC) (s_exp g F) (s_asg g F) (s_par g F) (s_sto g F) (s_ret g F) (s_retN) (s_ife g F) (s_for_ g F) (s_forI g F) (s_while_ g F fuel) (s_brk) (s_cnt) (s_pass) s_nil s_cons cs
mutual
theorem kC_eq : ∀ c : C, kC g F fuel c = evC g F fuel c
  | .exp e => by
    rw [show kC g F fuel (.exp e) = s_exp g F e  from rfl]
    funext env S
    simp only [s_exp, evC, kA_eq, kAs_eq] <;> rfl
  | .asg t e => by
    rw [show kC g F fuel (.asg t e) = s_asg g F t e  from rfl]
    funext env S
    simp only [s_asg, evC, kA_eq, kAs_eq] <;> rfl
  | .par is es => by
    rw [show kC g F fuel (.par is es) = s_par g F is es  from rfl]
    funext env S
    simp only [s_par, evC, kA_eq, kAs_eq] <;> rfl
  | .sto o i e => by
    rw [show kC g F fuel (.sto o i e) = s_sto g F o i e  from rfl]
    funext env S
    simp only [s_sto, evC, kA_eq, kAs_eq] <;> rfl
  | .ret e => by
    rw [show kC g F fuel (.ret e) = s_ret g F e  from rfl]
    funext env S
    simp only [s_ret, evC, kA_eq, kAs_eq] <;> rfl
  | .retN  => by
    rw [show kC g F fuel (.retN ) = s_retN   from rfl]
    funext env S
    simp only [s_retN, evC, kA_eq, kAs_eq] <;> rfl
  | .ife c a b => by
    rw [show kC g F fuel (.ife c a b) = s_ife g F c a b (kCs g F fuel a) (kCs g F fuel b) from rfl, kCs_eq a, kCs_eq b]
    funext env S
    simp only [s_ife, evC, kA_eq, kAs_eq] <;> rfl
  | .for_ t it body => by
    rw [show kC g F fuel (.for_ t it body) = s_for_ g F t it body (kCs g F fuel body) from rfl, kCs_eq body]
    funext env S
    simp only [s_for_, evC, kA_eq, kAs_eq] <;> rfl
  | .forI t e body => by
    rw [show kC g F fuel (.forI t e body) = s_forI g F t e body (kCs g F fuel body) from rfl, kCs_eq body]
    funext env S
    simp only [s_forI, evC, kA_eq, kAs_eq] <;> rfl
  | .while_ c body => by
    rw [show kC g F fuel (.while_ c body) = s_while_ g F fuel c body (kCs g F fuel body) from rfl, kCs_eq body]
    funext env S
    simp only [s_while_, evC, kA_eq, kAs_eq] <;> rfl
  | .brk  => by
    rw [show kC g F fuel (.brk ) = s_brk   from rfl]
    funext env S
    simp only [s_brk, evC, kA_eq, kAs_eq] <;> rfl
  | .cnt  => by
    rw [show kC g F fuel (.cnt ) = s_cnt   from rfl]
    funext env S
    simp only [s_cnt, evC, kA_eq, kAs_eq] <;> rfl
  | .pass  => by
    rw [show kC g F fuel (.pass ) = s_pass   from rfl]
    funext env S
    simp only [s_pass, evC, kA_eq, kAs_eq] <;> rfl
theorem kCs_eq : ∀ cs : List C, kCs g F fuel cs = evCs g F fuel cs
  | [] => by
    rw [show kCs g F fuel [] = s_nil from rfl]
    funext env S
    simp only [s_nil, evCs] <;> rfl
  | c :: cs => by
    rw [show kCs g F fuel (c :: cs) = s_cons c cs (kC g F fuel c) (kCs g F fuel cs) from rfl, kC_eq c, kCs_eq cs]
    funext env S
    simp only [s_cons, evCs] <;> rfl
end
end
noncomputable def kFn (g : Cst) (fuel : Nat) (F : FT) (f : Fn) (ds : List D) (S : Sto) : Option (D × Sto) :=
  match kCs g F fuel f.body (ds.map some ++ List.replicate (f.N.length - ds.length) none) S with
    | some (.rt d, _, S1) => if ds.length = f.ps.length then some (gcK S (d, S1)) else none
    | some (.nx, _, S1) => if ds.length = f.ps.length then some (gcK S (.non, S1)) else none
    | _ => none
def eqL : List Nat → List Nat → Bool
  | [], [] => true
  | a :: as, b :: bs => match Nat.beq a b with
    | true => eqL as bs
    | false => false
  | _, _ => false
theorem eqL_iff : ∀ (a b : List Nat), eqL a b = true ↔ a = b
  | [], [] => by simp [eqL]
  | [], _ :: _ => by simp [eqL]
  | _ :: _, [] => by simp [eqL]
  | a :: as, b :: bs => by
    unfold eqL
    cases h : Nat.beq a b with
    | true =>
      have e : a = b := Nat.eq_of_beq_eq_true h
      simp [e, eqL_iff as bs]
    | false =>
      have e : a ≠ b := Nat.ne_of_beq_eq_false h
      simp [e]
def findK (l : List Nat) : List Fn → Option Fn
  | [] => none
  | f :: fs => match eqL f.nm.cps.toList l with
    | true => some f
    | false => findK l fs
noncomputable def kN (g : Cst) (fs : List Fn) (fuel : Nat) : Nat → FT
  | 0 => fun _ _ _ => none
  | k + 1 => fun x ds S => match findK x.cps.toList fs with
    | some f => kFn g fuel (kN g fs fuel k) f ds S
    | none => none
theorem kFn_eq {g : Cst} {fuel : Nat} {F : FT} {f : Fn} {ds : List D} {S : Sto} : kFn g fuel F f ds S = callFn g fuel F f ds S := by
  unfold kFn callFn
  rw [kCs_eq]
  by_cases h : ds.length = f.ps.length
  · simp only [if_pos h, gcK_fun]
    all_goals rfl
  · simp only [if_neg h]
    split <;> rfl
theorem findK_eq {x : Str} : ∀ fs : List Fn, findK x.cps.toList fs = fs.find? fun f => decide (f.nm = x)
  | [] => rfl
  | f :: fs => by
    unfold findK
    rw [List.find?_cons, findK_eq fs]
    have e : eqL f.nm.cps.toList x.cps.toList = decide (f.nm = x) := by
      rw [Bool.eq_iff_iff, eqL_iff, decide_eq_true_eq]
      constructor
      · intro h
        cases hf : f.nm with
        | mk a => cases x with
          | mk b =>
            rw [hf] at h
            exact congrArg Str.mk (Array.toList_inj.mp h)
      · intro h; rw [h]
    rw [e]
    cases decide (f.nm = x) <;> rfl
theorem kN_eq {g : Cst} {fs : List Fn} {fuel : Nat} : ∀ k : Nat, kN g fs fuel k = callN g fs fuel k
  | 0 => rfl
  | k + 1 => by
    funext x ds S
    unfold kN callN
    rw [kN_eq k, findK_eq]
    cases fs.find? fun f => decide (f.nm = x) with
    | none => rfl
    | some f => exact kFn_eq
end CV

set_option Elab.async false
set_option linter.all false
set_option maxRecDepth 100000
set_option maxHeartbeats 1000000
/-! CvR: how the evaluator's values and store lie in the model's heap. -/
namespace CV
open PySem PySem.Spec PyProof.Rows L2

theorem cap_eq : cap = sizeLine := by rw [sizeLine_eq]; rfl

/-- where the evaluator's objects lie -/
abbrev Loc := List (Addr × Kd)

/-- a list that is only read -/
def SqF (K : PySem.W.Frag) (H : Hp) (a : Addr) (xs : List V) : Prop :=
  (∃ o, H a = some (.frz o (.lst xs))) ∨
    ∃ (o : Obj) (its : Array Value) (n : Nat), K.lookup a = some o ∧ o.cls = .type "list" ∧ o.dict = none ∧ o.data = .seq its n ∧ its.size ≤ sizeLine ∧ Vals xs its.toList
theorem SqF.sq {K : PySem.W.Frag} {H : Hp} {a : Addr} {xs : List V} (h : SqF K H a xs) : SqL K H a xs := h.elim (fun h => .inl (.inr h)) .inr

mutual
inductive RD (K : PySem.W.Frag) (Gd : Str → Addr → Prop) (H : Hp) (ι : Loc) : D → V → Prop
  | non : RD K Gd H ι .non .non
  | bl (b : Bool) : RD K Gd H ι (.bl b) (.bl b)
  | int (i : Int) : RD K Gd H ι (.int i) (.int i)
  | str {s : Str} (h : strGood s = true) : RD K Gd H ι (.str s) (.str s)
  | tup {a : Addr} {vs : List V} {ds : List D} (h : SqT K H a vs) (r : RDs K Gd H ι ds vs) : RD K Gd H ι (.tup ds) (.ref a)
  | loc {k : Kd} {n : Nat} {a : Addr} (h : ι[n]? = some (a, k)) : RD K Gd H ι (.loc k n) (.ref a)
  | scr {a : Addr} {ns : List Int} (h : SqF K H a (ns.map V.int)) : RD K Gd H ι (.scr ns) (.ref a)
  | gd {x : Str} {a : Addr} (h : Gd x a) : RD K Gd H ι (.gd x) (.ref a)
inductive RDs (K : PySem.W.Frag) (Gd : Str → Addr → Prop) (H : Hp) (ι : Loc) : List D → List V → Prop
  | nil : RDs K Gd H ι [] []
  | cons {d : D} {ds : List D} {v : V} {vs : List V} (h : RD K Gd H ι d v) (t : RDs K Gd H ι ds vs) : RDs K Gd H ι (d :: ds) (v :: vs)
end

/-- a key that a value may be -/
def keyG : Key → Bool
  | .inl _ => true
  | .inr s => strGood s
/-- entries of a dict -/
inductive RKv (K : PySem.W.Frag) (Gd : Str → Addr → Prop) (H : Hp) (ι : Loc) : List (Key × D) → List (Key × V) → Prop
  | nil : RKv K Gd H ι [] []
  | cons {k : Key} {d : D} {ds : List (Key × D)} {v : V} {vs : List (Key × V)} (g : keyG k = true) (h : RD K Gd H ι d v) (t : RKv K Gd H ι ds vs) : RKv K Gd H ι ((k, d) :: ds) ((k, v) :: vs)

def RO (K : PySem.W.Frag) (Gd : Str → Addr → Prop) (H : Hp) (ι : Loc) (a : Addr) : Ob → Prop
  | .lst ds => ∃ vs, H a = some (.lst vs) ∧ RDs K Gd H ι ds vs
  | .dct kvs => ∃ vs, H a = some (.dK vs) ∧ RKv K Gd H ι kvs vs
  | .lk kvs => ∃ vs, (∃ od, H a = some (.frz od (.dK vs))) ∧ RKv K Gd H ι kvs vs

structure Rel (K : PySem.W.Frag) (Gd : Str → Addr → Prop) (H : Hp) (ι : Loc) (S : Sto) : Prop where
  len : ι.length = S.length
  nd : (ι.map (·.1)).Nodup
  ob : ∀ (n : Nat) (o : Ob), S[n]? = some o → ∃ a : Addr, ι[n]? = some (a, o.kd) ∧ RO K Gd H ι a o

structure Ext (H : Hp) (ι : Loc) (H' : Hp) (ι' : Loc) : Prop where
  pre : ∃ t, ι' = ι ++ t
  new : ∀ p ∈ ι', p ∈ ι ∨ H p.1 = none
  frm : ∀ a o, H a = some o → (∀ p ∈ ι, p.1 ≠ a) → H' a = some o
  dom : ∀ a, H' a = none → H a = none
  fz : ∀ a od u, H a = some (.frz od u) → H' a = some (.frz od u)
/-- what may be written -/
def Nf (H : Hp) (p : Addr) : Prop := ∃ u, H p = some u ∧ ∀ od w, u ≠ .frz od w

def REnv (K : PySem.W.Frag) (Gd : Str → Addr → Prop) (H : Hp) (ι : Loc) (σ : L2.St) (env : Env) : Prop :=
  σ.length = env.length ∧ ∀ (i : Nat) (d : D), env[i]? = some (some d) → ∃ v, σ[i]? = some (some v) ∧ RD K Gd H ι d v

section
variable {K : PySem.W.Frag} {Gd : Str → Addr → Prop} {H H' H'' : Hp} {ι ι' ι'' : Loc} {S S' : Sto} {d : D} {ds : List D} {v : V} {vs : List V} {σ : L2.St} {env : Env}

theorem RDs.length : ∀ {ds : List D} {vs : List V}, RDs K Gd H ι ds vs → ds.length = vs.length
  | _, _, .nil => rfl
  | _, _, .cons _ t => congrArg (· + 1) (RDs.length t)
theorem RDs.get : ∀ {ds : List D} {vs : List V} {i : Nat} {d : D}, RDs K Gd H ι ds vs → ds[i]? = some d → ∃ v, vs[i]? = some v ∧ RD K Gd H ι d v
  | _, _, _, _, .nil, h => by simp at h
  | _, _, 0, _, .cons h t, e => by simp at e; subst e; exact ⟨_, rfl, h⟩
  | _, _, i + 1, _, .cons h t, e => by
    simp only [List.getElem?_cons_succ] at e ⊢
    exact RDs.get t e
theorem RDs.get' : ∀ {ds : List D} {vs : List V} {i : Nat} {v : V}, RDs K Gd H ι ds vs → vs[i]? = some v → ∃ d, ds[i]? = some d ∧ RD K Gd H ι d v
  | _, _, _, _, .nil, h => by simp at h
  | _, _, 0, _, .cons h t, e => by simp at e; subst e; exact ⟨_, rfl, h⟩
  | _, _, i + 1, _, .cons h t, e => by
    simp only [List.getElem?_cons_succ] at e ⊢
    exact RDs.get' t e
theorem RDs.append : ∀ {ds es : List D} {vs us : List V}, RDs K Gd H ι ds vs → RDs K Gd H ι es us → RDs K Gd H ι (ds ++ es) (vs ++ us)
  | _, _, _, _, .nil, h => h
  | _, _, _, _, .cons h t, r => .cons h (RDs.append t r)
theorem RDs.take : ∀ {ds : List D} {vs : List V} (n : Nat), RDs K Gd H ι ds vs → RDs K Gd H ι (ds.take n) (vs.take n)
  | _, _, 0, _ => by simp only [List.take_zero]; exact .nil
  | _, _, _ + 1, .nil => .nil
  | _, _, n + 1, .cons h t => .cons h (RDs.take n t)
theorem RDs.drop : ∀ {ds : List D} {vs : List V} (n : Nat), RDs K Gd H ι ds vs → RDs K Gd H ι (ds.drop n) (vs.drop n)
  | _, _, 0, r => r
  | _, _, _ + 1, .nil => .nil
  | _, _, n + 1, .cons h t => RDs.drop n t
theorem RDs.set {x : D} {u : V} (r : RD K Gd H ι x u) : ∀ {ds : List D} {vs : List V} (n : Nat), RDs K Gd H ι ds vs → RDs K Gd H ι (ds.set n x) (vs.set n u)
  | _, _, _, .nil => .nil
  | _, _, 0, .cons _ t => .cons r t
  | _, _, n + 1, .cons h t => .cons h (RDs.set r n t)
theorem RDs.rev {ds : List D} {vs : List V} (h : RDs K Gd H ι ds vs) : RDs K Gd H ι ds.reverse vs.reverse := by
  induction ds generalizing vs with
  | nil => cases h; exact .nil
  | cons d ds ih =>
    cases h with
    | cons h t =>
      simp only [List.reverse_cons]
      exact (ih t).append (.cons h .nil)
theorem RDs.rep {ds : List D} {vs : List V} (h : RDs K Gd H ι ds vs) : ∀ n : Nat, RDs K Gd H ι (List.replicate n ds).flatten (List.replicate n vs).flatten
  | 0 => .nil
  | n + 1 => by
    simp only [List.replicate_succ, List.flatten_cons]
    exact h.append (RDs.rep h n)
theorem RDs.dropLast {ds : List D} {vs : List V} (h : RDs K Gd H ι ds vs) : RDs K Gd H ι ds.dropLast vs.dropLast := by
  rw [List.dropLast_eq_take, List.dropLast_eq_take, h.length]
  exact h.take _
theorem RDs.ints : ∀ {ns : List Int}, RDs K Gd H ι (ns.map D.int) (ns.map V.int)
  | [] => .nil
  | _ :: _ => .cons (.int _) RDs.ints

/-- what a value leans on is kept -/
structure Kp (K : PySem.W.Frag) (H : Hp) (ι : Loc) (H' : Hp) (ι' : Loc) : Prop where
  tup : ∀ a xs, SqT K H a xs → SqT K H' a xs
  frz : ∀ a xs, SqF K H a xs → SqF K H' a xs
  loc : ∀ (n : Nat) (x : Addr × Kd), ι[n]? = some x → ι'[n]? = some x
theorem Kp.trans {K : PySem.W.Frag} {H H' H'' : Hp} {ι ι' ι'' : Loc} (a : Kp K H ι H' ι') (b : Kp K H' ι' H'' ι'') : Kp K H ι H'' ι'' := ⟨fun p xs h => b.tup p xs (a.tup p xs h), fun p xs h => b.frz p xs (a.frz p xs h), fun n x h => b.loc n x (a.loc n x h)⟩
/-- what is locked stays as it is -/
def Fz (H H' : Hp) : Prop := ∀ a od u, H a = some (.frz od u) → H' a = some (.frz od u)
mutual
theorem RD.keep (k : Kp K H ι H' ι') : ∀ {d : D} {v : V}, RD K Gd H ι d v → RD K Gd H' ι' d v
  | _, _, .non => .non
  | _, _, .bl b => .bl b
  | _, _, .int i => .int i
  | _, _, .str h => .str h
  | _, _, .tup h r => .tup (k.tup _ _ h) (RDs.keep k r)
  | _, _, .loc h => .loc (k.loc _ _ h)
  | _, _, .scr h => .scr (k.frz _ _ h)
  | _, _, .gd h => .gd h
theorem RDs.keep (k : Kp K H ι H' ι') : ∀ {ds : List D} {vs : List V}, RDs K Gd H ι ds vs → RDs K Gd H' ι' ds vs
  | _, _, .nil => .nil
  | _, _, .cons h t => .cons (RD.keep k h) (RDs.keep k t)
end
theorem RKv.keep (k : Kp K H ι H' ι') : ∀ {ds : List (Key × D)} {vs : List (Key × V)}, RKv K Gd H ι ds vs → RKv K Gd H' ι' ds vs
  | _, _, .nil => .nil
  | _, _, .cons g h t => .cons g (h.keep k) (RKv.keep k t)

theorem Rel.at_ (R : Rel K Gd H ι S) {n : Nat} {x : Addr × Kd} (e : ι[n]? = some x) : ∃ o, S[n]? = some o ∧ x.2 = o.kd ∧ RO K Gd H ι x.1 o := by
  have hn : n < S.length := by rw [← R.len]; exact (List.getElem?_eq_some_iff.mp e).1
  obtain ⟨a, h1, h2⟩ := R.ob n S[n] (by simp [hn])
  rw [e] at h1
  cases h1
  exact ⟨S[n], by simp [hn], rfl, h2⟩
/-- at a place of the store: a list or a dict -/
theorem Rel.mut (R : Rel K Gd H ι S) {p : Addr × Kd} (hp : p ∈ ι) : (∃ xs, H p.1 = some (.lst xs)) ∨ (∃ kvs, H p.1 = some (.dK kvs)) ∨ ∃ od kvs, H p.1 = some (.frz od (.dK kvs)) := by
  obtain ⟨n, e⟩ := List.mem_iff_getElem?.mp hp
  obtain ⟨o, _, _, h⟩ := R.at_ e
  cases o with
  | lst xs => obtain ⟨vs, h, _⟩ := h; exact .inl ⟨vs, h⟩
  | dct xs => obtain ⟨vs, h, _⟩ := h; exact .inr (.inl ⟨vs, h⟩)
  | lk xs => obtain ⟨vs, ⟨od, h⟩, _⟩ := h; exact .inr (.inr ⟨od, vs, h⟩)
theorem Rel.notin (R : Rel K Gd H ι S) {a : Addr} {o : HO} (e : H a = some o) (n1 : ∀ xs, o ≠ .lst xs) (n2 : ∀ xs, o ≠ .dK xs) (n3 : ∀ od xs, o ≠ .frz od (.dK xs)) : ∀ p ∈ ι, p.1 ≠ a := fun p hp z => by
  rcases R.mut hp with ⟨xs, h⟩ | ⟨xs, h⟩ | ⟨od, xs, h⟩
  · rw [z, e] at h; cases h; exact n1 _ rfl
  · rw [z, e] at h; cases h; exact n2 _ rfl
  · rw [z, e] at h; cases h; exact n3 _ _ rfl
theorem Ext.keeps (R : Rel K Gd H ι S) (x : Ext H ι H' ι') : Kp K H ι H' ι' where
  tup := fun a xs h => by
    rcases h with (h | ⟨o, h⟩) | h
    · exact .inl (.inl (x.frm _ _ h (R.notin h (fun _ z => nomatch z) (fun _ z => nomatch z) (fun _ _ z => nomatch z))))
    · exact .inl (.inr ⟨o, x.frm _ _ h (R.notin h (fun _ z => nomatch z) (fun _ z => nomatch z) (fun _ _ z => nomatch z))⟩)
    · exact .inr h
  frz := fun a xs h => by
    rcases h with ⟨o, h⟩ | h
    · exact .inl ⟨o, x.frm _ _ h (R.notin h (fun _ z => nomatch z) (fun _ z => nomatch z) (fun _ _ z => nomatch z))⟩
    · exact .inr h
  loc := fun n y h => by
    obtain ⟨t, rfl⟩ := x.pre
    have hn := (List.getElem?_eq_some_iff.mp h).1
    rw [List.getElem?_append_left hn]
    exact h
theorem Ext.refl : Ext H ι H ι := ⟨⟨[], by simp⟩, fun p hp => .inl hp, fun _ _ h _ => h, fun _ h => h, fun _ _ _ h => h⟩
theorem Ext.trans (x : Ext H ι H' ι') (y : Ext H' ι' H'' ι'') : Ext H ι H'' ι'' where
  pre := by
    obtain ⟨t, rfl⟩ := x.pre
    obtain ⟨u, rfl⟩ := y.pre
    exact ⟨t ++ u, by simp⟩
  new := fun p hp => by
    rcases y.new p hp with h | h
    · exact x.new p h
    · exact .inr (x.dom _ h)
  frm := fun a o h n => y.frm a o (x.frm a o h n) fun p hp z => by
    rcases x.new p hp with e | e
    · exact n p e z
    · rw [z, h] at e; cases e
  dom := fun a h => x.dom a (y.dom a h)
  fz := fun a od u h => y.fz a od u (x.fz a od u h)

/-- a new object that the store does not know -/
theorem Ext.fresh {p : Addr} {o : HO} (hp : H p = none) : Ext H ι (upd H p o) ι where
  pre := ⟨[], by simp⟩
  new := fun q hq => .inl hq
  frm := fun a u h _ => by rw [upd_ne (ne_of_none h hp)]; exact h
  dom := fun a h => by
    by_cases e : a = p
    · subst e; exact hp
    · rw [upd_ne e] at h; exact h
  fz := fun a od u h => by rw [upd_ne (ne_of_none h hp)]; exact h
theorem Rel.keepX (R : Rel K Gd H ι S) (x : Ext H ι H' ι) (same : ∀ p ∈ ι, H' p.1 = H p.1) : Rel K Gd H' ι S where
  len := R.len
  nd := R.nd
  ob := fun n o e => by
    obtain ⟨a, h1, h2⟩ := R.ob n o e
    have hs := same _ (List.mem_of_getElem? h1)
    refine ⟨a, h1, ?_⟩
    cases o with
    | lst ds =>
      obtain ⟨vs, h3, h4⟩ := h2
      exact ⟨vs, hs.trans h3, h4.keep (x.keeps R)⟩
    | dct ds =>
      obtain ⟨vs, h3, h4⟩ := h2
      exact ⟨vs, hs.trans h3, h4.keep (x.keeps R)⟩
    | lk ds =>
      obtain ⟨vs, ⟨od, h3⟩, h4⟩ := h2
      exact ⟨vs, ⟨od, hs.trans h3⟩, h4.keep (x.keeps R)⟩
theorem Rel.none_ne (R : Rel K Gd H ι S) {p : Addr} (hp : H p = none) : ∀ q ∈ ι, q.1 ≠ p := fun q hq z => by
  rcases R.mut hq with ⟨xs, h⟩ | ⟨xs, h⟩ | ⟨od, xs, h⟩ <;> (rw [z, hp] at h; cases h)
theorem Rel.fresh (R : Rel K Gd H ι S) {p : Addr} {o : HO} (hp : H p = none) : Rel K Gd (upd H p o) ι S :=
  R.keepX (Ext.fresh hp) fun q hq => by rw [upd_ne (R.none_ne hp q hq)]
/-- a new object of the store -/
theorem Ext.alloc {p : Addr} {k : Kd} {o : HO} (hp : H p = none) : Ext H ι (upd H p o) (ι ++ [(p, k)]) where
  pre := ⟨_, rfl⟩
  new := fun q hq => by
    rcases List.mem_append.mp hq with h | h
    · exact .inl h
    · simp at h; subst h; exact .inr hp
  frm := (Ext.fresh hp).frm (ι := ι)
  dom := (Ext.fresh hp).dom (ι := ι)
  fz := (Ext.fresh hp).fz (ι := ι)
theorem Rel.alloc (R : Rel K Gd H ι S) {p : Addr} {o : HO} {ob : Ob} (hp : H p = none) (ho : RO K Gd (upd H p o) (ι ++ [(p, ob.kd)]) p ob) : Rel K Gd (upd H p o) (ι ++ [(p, ob.kd)]) (S ++ [ob]) where
  len := by simp [R.len]
  nd := by
    rw [List.map_append, List.nodup_append]
    refine ⟨R.nd, by simp, fun a ha b hb => ?_⟩
    simp at hb
    subst hb
    obtain ⟨q, hq, rfl⟩ := List.mem_map.mp ha
    exact R.none_ne hp q hq
  ob := fun n u e => by
    have kp := (Ext.alloc (k := ob.kd) (o := o) (ι := ι) hp).keeps R
    by_cases hn : n < S.length
    · rw [List.getElem?_append_left hn] at e
      obtain ⟨a, h1, h2⟩ := R.ob n u e
      refine ⟨a, kp.loc _ _ h1, ?_⟩
      have hs : upd H p o a = H a := upd_ne (R.none_ne hp _ (List.mem_of_getElem? h1))
      cases u with
      | lst ds =>
        obtain ⟨vs, h3, h4⟩ := h2
        exact ⟨vs, hs.trans h3, h4.keep kp⟩
      | dct ds =>
        obtain ⟨vs, h3, h4⟩ := h2
        exact ⟨vs, hs.trans h3, h4.keep kp⟩
      | lk ds =>
        obtain ⟨vs, ⟨od, h3⟩, h4⟩ := h2
        exact ⟨vs, ⟨od, hs.trans h3⟩, h4.keep kp⟩
    · have hn' : n = S.length := by
        have := (List.getElem?_eq_some_iff.mp e).1
        simp at this
        omega
      subst hn'
      simp at e
      subst e
      exact ⟨p, by rw [← R.len]; simp, ho⟩
/-- an object of the store is written -/
theorem Ext.write {n : Nat} {p : Addr} {k : Kd} {o : HO} (hp : ι[n]? = some (p, k)) (hH : Nf H p) : Ext H ι (upd H p o) ι where
  pre := ⟨[], by simp⟩
  new := fun q hq => .inl hq
  frm := fun a u h m => by
    rw [upd_ne (fun e => m _ (List.mem_of_getElem? hp) e.symm)]
    exact h
  dom := fun a h => by
    by_cases e : a = p
    · subst e; rw [upd_same] at h; cases h
    · rw [upd_ne e] at h; exact h
  fz := fun a od u h => by
    rw [upd_ne (fun e => by
      obtain ⟨w, hw, hn⟩ := hH
      rw [← e, h] at hw
      cases hw
      exact hn _ _ rfl)]
    exact h
theorem Rel.ne_ix (R : Rel K Gd H ι S) {n m : Nat} {x y : Addr × Kd} (hx : ι[n]? = some x) (hy : ι[m]? = some y) (e : x.1 = y.1) : n = m := by
  have h1 : (ι.map (·.1))[n]? = some x.1 := by rw [List.getElem?_map, hx]; rfl
  have h2 : (ι.map (·.1))[m]? = some x.1 := by rw [List.getElem?_map, hy, e]; rfl
  obtain ⟨l1, e1⟩ := List.getElem?_eq_some_iff.mp h1
  obtain ⟨l2, e2⟩ := List.getElem?_eq_some_iff.mp h2
  exact (List.getElem_inj R.nd).mp (e1.trans e2.symm)
theorem Rel.write (R : Rel K Gd H ι S) {n : Nat} {p : Addr} {o : HO} {ob : Ob} (hp : ι[n]? = some (p, ob.kd)) (hH : Nf H p) (ho : RO K Gd (upd H p o) ι p ob) : Rel K Gd (upd H p o) ι (S.set n ob) where
  len := by simp [R.len]
  nd := R.nd
  ob := fun m u e => by
    have kp := (Ext.write (o := o) hp hH).keeps R
    by_cases hm : m = n
    · subst hm
      have hl : m < S.length := by
        have := (List.getElem?_eq_some_iff.mp e).1
        simpa using this
      rw [List.getElem?_set_self hl] at e
      cases e
      exact ⟨p, hp, ho⟩
    · rw [List.getElem?_set_ne (Ne.symm hm)] at e
      obtain ⟨a, h1, h2⟩ := R.ob m u e
      refine ⟨a, h1, ?_⟩
      have hs : upd H p o a = H a := upd_ne fun z => hm (R.ne_ix h1 hp z)
      cases u with
      | lst ds =>
        obtain ⟨vs, h3, h4⟩ := h2
        exact ⟨vs, hs.trans h3, h4.keep kp⟩
      | dct ds =>
        obtain ⟨vs, h3, h4⟩ := h2
        exact ⟨vs, hs.trans h3, h4.keep kp⟩
      | lk ds =>
        obtain ⟨vs, ⟨od, h3⟩, h4⟩ := h2
        exact ⟨vs, ⟨od, hs.trans h3⟩, h4.keep kp⟩

/-! ### what is no longer reached goes -/
theorem under_loc {n m : Nat} {k : Kd} (h : D.under n (.loc k m) = true) : m < n := by simpa [D.under] using h
theorem under_tup {n : Nat} {ds : List D} (h : D.under n (.tup ds) = true) : D.underAll n ds = true := by simpa [D.under] using h
theorem under_cons {n : Nat} {d : D} {ds : List D} (h : D.underAll n (d :: ds) = true) : D.under n d = true ∧ D.underAll n ds = true := by simpa [D.underAll] using h
mutual
theorem RD.cut {n : Nat} (hl : n ≤ ι.length) : ∀ {d : D} {v : V}, RD K Gd H ι d v → D.under n d = true → RD K Gd H (ι.take n) d v
  | _, _, .non, _ => .non
  | _, _, .bl b, _ => .bl b
  | _, _, .int i, _ => .int i
  | _, _, .str h, _ => .str h
  | _, _, .tup h r, u => .tup h (RDs.cut hl r (under_tup u))
  | _, _, .loc h, u => .loc (by
      rw [List.getElem?_take_of_lt (under_loc u)]
      exact h)
  | _, _, .scr h, _ => .scr h
  | _, _, .gd h, _ => .gd h
theorem RDs.cut {n : Nat} (hl : n ≤ ι.length) : ∀ {ds : List D} {vs : List V}, RDs K Gd H ι ds vs → D.underAll n ds = true → RDs K Gd H (ι.take n) ds vs
  | _, _, .nil, _ => .nil
  | _, _, .cons h t, u => .cons (RD.cut hl h (under_cons u).1) (RDs.cut hl t (under_cons u).2)
end
theorem RKv.cut {n : Nat} (hl : n ≤ ι.length) : ∀ {ds : List (Key × D)} {vs : List (Key × V)}, RKv K Gd H ι ds vs → D.underAll n (ds.map (·.2)) = true → RKv K Gd H (ι.take n) ds vs
  | _, _, .nil, _ => .nil
  | _, _, .cons g h t, u => .cons g (h.cut hl (under_cons u).1) (RKv.cut hl t (under_cons u).2)
mutual
theorem RD.under : ∀ {d : D} {v : V}, RD K Gd H ι d v → D.under ι.length d = true
  | _, _, .non => rfl
  | _, _, .bl b => rfl
  | _, _, .int i => rfl
  | _, _, .str h => rfl
  | _, _, .tup h r => by rw [D.under]; exact RDs.under r
  | _, _, .loc h => by
    have := (List.getElem?_eq_some_iff.mp h).1
    simpa [D.under] using this
  | _, _, .scr h => rfl
  | _, _, .gd h => rfl
theorem RDs.under : ∀ {ds : List D} {vs : List V}, RDs K Gd H ι ds vs → D.underAll ι.length ds = true
  | _, _, .nil => rfl
  | _, _, .cons h t => by rw [D.underAll, RD.under h, RDs.under t]; rfl
end
theorem RKv.under : ∀ {ds : List (Key × D)} {vs : List (Key × V)}, RKv K Gd H ι ds vs → D.underAll ι.length (ds.map (·.2)) = true
  | _, _, .nil => rfl
  | _, _, .cons g h t => by rw [List.map_cons, D.underAll, h.under, RKv.under t]; rfl
theorem RO.under {a : Addr} {o : Ob} (h : RO K Gd H ι a o) : Ob.under ι.length o = true := by
  cases o with
  | lst ds => obtain ⟨_, _, h⟩ := h; exact h.under
  | dct ds => obtain ⟨_, _, h⟩ := h; exact h.under
  | lk ds => obtain ⟨_, _, h⟩ := h; exact h.under
theorem RO.cut {a : Addr} {o : Ob} {n : Nat} (hl : n ≤ ι.length) (h : RO K Gd H ι a o) (u : Ob.under n o = true) : RO K Gd H (ι.take n) a o := by
  cases o with
  | lst ds => obtain ⟨vs, h1, h⟩ := h; exact ⟨vs, h1, h.cut hl u⟩
  | dct ds => obtain ⟨vs, h1, h⟩ := h; exact ⟨vs, h1, h.cut hl u⟩
  | lk ds => obtain ⟨vs, h1, h⟩ := h; exact ⟨vs, h1, h.cut hl u⟩

mutual
theorem D.beq_eq : ∀ {a b : D}, D.beq a b = true → a = b
  | .non, .non, _ => rfl
  | .bl a, .bl b, h => by simp [D.beq] at h; rw [h]
  | .int a, .int b, h => by simp [D.beq] at h; rw [h]
  | .str a, .str b, h => by simp [D.beq] at h; rw [h]
  | .tup a, .tup b, h => by rw [D.beqAll_eq (show D.beqAll a b = true by simpa [D.beq] using h)]
  | .loc k n, .loc l m, h => by simp [D.beq] at h; rw [h.1, h.2]
  | .scr a, .scr b, h => by simp [D.beq] at h; rw [h]
  | .gd a, .gd b, h => by simp [D.beq] at h; rw [h]
  | .non, .bl _, h | .non, .int _, h | .non, .str _, h | .non, .tup _, h | .non, .loc _ _, h | .non, .scr _, h | .non, .gd _, h => by simp [D.beq] at h
  | .bl _, .non, h | .bl _, .int _, h | .bl _, .str _, h | .bl _, .tup _, h | .bl _, .loc _ _, h | .bl _, .scr _, h | .bl _, .gd _, h => by simp [D.beq] at h
  | .int _, .non, h | .int _, .bl _, h | .int _, .str _, h | .int _, .tup _, h | .int _, .loc _ _, h | .int _, .scr _, h | .int _, .gd _, h => by simp [D.beq] at h
  | .str _, .non, h | .str _, .bl _, h | .str _, .int _, h | .str _, .tup _, h | .str _, .loc _ _, h | .str _, .scr _, h | .str _, .gd _, h => by simp [D.beq] at h
  | .tup _, .non, h | .tup _, .bl _, h | .tup _, .int _, h | .tup _, .str _, h | .tup _, .loc _ _, h | .tup _, .scr _, h | .tup _, .gd _, h => by simp [D.beq] at h
  | .loc _ _, .non, h | .loc _ _, .bl _, h | .loc _ _, .int _, h | .loc _ _, .str _, h | .loc _ _, .tup _, h | .loc _ _, .scr _, h | .loc _ _, .gd _, h => by simp [D.beq] at h
  | .scr _, .non, h | .scr _, .bl _, h | .scr _, .int _, h | .scr _, .str _, h | .scr _, .tup _, h | .scr _, .loc _ _, h | .scr _, .gd _, h => by simp [D.beq] at h
  | .gd _, .non, h | .gd _, .bl _, h | .gd _, .int _, h | .gd _, .str _, h | .gd _, .tup _, h | .gd _, .loc _ _, h | .gd _, .scr _, h => by simp [D.beq] at h
theorem D.beqAll_eq : ∀ {a b : List D}, D.beqAll a b = true → a = b
  | [], [], _ => rfl
  | x :: xs, y :: ys, h => by
    have h' : D.beq x y = true ∧ D.beqAll xs ys = true := by simpa [D.beqAll] using h
    rw [D.beq_eq h'.1, D.beqAll_eq h'.2]
  | [], _ :: _, h => by simp [D.beqAll] at h
  | _ :: _, [], h => by simp [D.beqAll] at h
end
mutual
theorem D.beq_self : ∀ a : D, D.beq a a = true
  | .non => rfl
  | .bl a => by simp [D.beq]
  | .int a => by simp [D.beq]
  | .str a => by simp [D.beq]
  | .tup a => by rw [D.beq]; exact D.beqAll_self a
  | .loc k n => by simp [D.beq]
  | .scr a => by simp [D.beq]
  | .gd a => by simp [D.beq]
theorem D.beqAll_self : ∀ a : List D, D.beqAll a a = true
  | [] => rfl
  | x :: xs => by rw [D.beqAll, D.beq_self x, D.beqAll_self xs]; rfl
end
theorem beqKv_eq : ∀ {a b : List (Key × D)}, beqKv a b = true → a = b
  | [], [], _ => rfl
  | (k, x) :: xs, (l, y) :: ys, h => by
    have h' : (k = l ∧ D.beq x y = true) ∧ beqKv xs ys = true := by simpa [beqKv] using h
    rw [h'.1.1, D.beq_eq h'.1.2, beqKv_eq h'.2]
  | [], _ :: _, h => by simp [beqKv] at h
  | _ :: _, [], h => by simp [beqKv] at h
theorem beqKv_self : ∀ a : List (Key × D), beqKv a a = true
  | [] => rfl
  | (k, x) :: xs => by simp [beqKv, D.beq_self x, beqKv_self xs]
theorem Ob.beq_eq {a b : Ob} (h : Ob.beq a b = true) : a = b := by
  cases a <;> cases b <;> simp only [Ob.beq] at h <;> first | (rw [D.beqAll_eq h]; done) | (rw [beqKv_eq h]; done) | cases h
theorem Ob.beq_self (a : Ob) : Ob.beq a a = true := by
  cases a with
  | lst xs => exact D.beqAll_self xs
  | dct xs => exact beqKv_self xs
  | lk xs => exact beqKv_self xs

theorem oldOk_at {n : Nat} : ∀ {S S1 : Sto}, oldOk n S S1 = true → S.length ≤ S1.length ∧ ∀ i o, i < S.length → S1[i]? = some o → S[i]? = some o ∨ Ob.under n o = true
  | [], S1, _ => ⟨Nat.zero_le _, fun i o h => absurd h (Nat.not_lt_zero _)⟩
  | _ :: _, [], h => by simp [oldOk] at h
  | o :: S, o' :: S1, h => by
    have h' : (Ob.beq o o' = true ∨ Ob.under n o' = true) ∧ oldOk n S S1 = true := by have q := h; simp only [oldOk, Bool.and_eq_true, Bool.or_eq_true] at q; exact ⟨q.1.symm, q.2⟩
    obtain ⟨h1, h2⟩ := oldOk_at h'.2
    refine ⟨Nat.succ_le_succ h1, fun i u hi e => ?_⟩
    cases i with
    | zero =>
      simp at e
      subst e
      rcases h'.1 with q | q
      · exact .inl (by rw [Ob.beq_eq q]; rfl)
      · exact .inr q
    | succ i =>
      simp only [List.getElem?_cons_succ] at e ⊢
      exact h2 i u (by simpa using hi) e

/-- behind a piece of work: the store as it is left -/
theorem gc0_ok {S1 : Sto} {ι1 : Loc} {H1 : Hp} (R : Rel K Gd H ι S) (R1 : Rel K Gd H1 ι1 S1) (r : RD K Gd H1 ι1 d v) (x : Ext H ι H1 ι1) :
    ∃ ι2, Rel K Gd H1 ι2 (gc0 S (d, S1)).2 ∧ RD K Gd H1 ι2 (gc0 S (d, S1)).1 v ∧ Ext H ι H1 ι2 := by
  have hle : ι.length ≤ ι1.length := by obtain ⟨t, rfl⟩ := x.pre; simp
  have htake : ι1.take S.length = ι := by
    obtain ⟨t, rfl⟩ := x.pre
    rw [← R.len]
    simp
  have keep : ∃ ι2, Rel K Gd H1 ι2 S1 ∧ RD K Gd H1 ι2 d v ∧ Ext H ι H1 ι2 := ⟨ι1, R1, r, x⟩
  by_cases ho : oldOk S.length S S1 = true
  · obtain ⟨hl, hu⟩ := oldOk_at ho
    have old : ∀ (i : Nat) (o : Ob), i < S.length → S1[i]? = some o → Ob.under S.length o = true := fun i o hi e => by
      rcases hu i o hi e with q | q
      · obtain ⟨a, _, h2⟩ := R.ob i o q
        have := h2.under
        rwa [R.len] at this
      · exact q
    have hcut : S.length ≤ ι1.length := by rw [← R.len]; exact hle
    -- what is old, cut
    have Rc : Rel K Gd H1 (ι1.take S.length) (S1.take S.length) := by
      refine ⟨by simp [R1.len], ?_, fun i o e => ?_⟩
      · rw [List.map_take]
        exact R1.nd.sublist (List.take_sublist _ _)
      · have hi : i < S.length := by
          have := (List.getElem?_eq_some_iff.mp e).1
          simp at this
          omega
        rw [List.getElem?_take_of_lt hi] at e
        obtain ⟨a, h1, h2⟩ := R1.ob i o e
        exact ⟨a, by rw [List.getElem?_take_of_lt hi]; exact h1, h2.cut hcut (old i o hi e)⟩
    by_cases hd : D.under S.length d = true
    · have e : gc0 S (d, S1) = (d, S1.take S.length) := by simp [gc0, ho, hd]
      rw [e]
      refine ⟨ι1.take S.length, Rc, r.cut hcut hd, ?_⟩
      rw [htake]
      exact ⟨⟨[], by simp⟩, fun p hp => .inl hp, x.frm, x.dom, x.fz⟩
    · by_cases hk : ∃ k m, d = .loc k m
      · obtain ⟨k, m, rfl⟩ := hk
        cases q : S1[m]? with
        | none =>
          have e : gc0 S (.loc k m, S1) = (.loc k m, S1) := by simp [gc0, ho, hd, q]
          rw [e]
          exact keep
        | some o =>
          by_cases hc : (Ob.under (List.length S) o && decide (List.length S ≤ m) && decide (o.kd = k)) = true
          · have e : gc0 S (.loc k m, S1) = (.loc k S.length, S1.take S.length ++ [o]) := by
              unfold gc0
              rw [if_pos (show oldOk S.length S (D.loc k m, S1).2 = true from ho), if_neg (show ¬ D.under S.length (D.loc k m, S1).1 = true from hd)]
              simp only [q]
              rw [if_pos hc]
            rw [e]
            simp only [Bool.and_eq_true, decide_eq_true_eq] at hc
            obtain ⟨⟨hc1, hc2⟩, hc3⟩ := hc
            obtain ⟨a, h1, h2⟩ := R1.ob m o q
            have hv : v = .ref a := by
              cases r with
              | loc h =>
                rw [h1] at h
                cases h
                rfl
            subst hv
            have hm : (a, o.kd) ∈ ι1 := List.mem_of_getElem? h1
            have han : ∀ p ∈ ι, p.1 ≠ a := fun p hp z => by
              obtain ⟨i, hi⟩ := List.mem_iff_getElem?.mp hp
              have hi1 := (x.keeps R).loc _ _ hi
              have e := R1.ne_ix hi1 h1 z
              have := (List.getElem?_eq_some_iff.mp hi).1
              rw [R.len] at this
              omega
            have x2 : Ext H ι H1 (ι ++ [(a, o.kd)]) := ⟨⟨_, rfl⟩, fun p hp => by
              rcases List.mem_append.mp hp with h | h
              · exact .inl h
              · simp at h
                subst h
                rcases x.new _ hm with z | z
                · exact absurd rfl (han _ z)
                · exact .inr z, x.frm, x.dom, x.fz⟩
            have kp : Kp K H1 (ι1.take S.length) H1 (ι ++ [(a, o.kd)]) := by
              rw [htake]
              exact ⟨fun _ _ h => h, fun _ _ h => h, fun n y h => by
                rw [List.getElem?_append_left (List.getElem?_eq_some_iff.mp h).1]; exact h⟩
            have hl2 : (S1.take S.length).length = S.length := by simp; omega
            refine ⟨ι ++ [(a, o.kd)], ⟨?_, ?_, fun i u e => ?_⟩, ?_, x2⟩
            · rw [List.length_append, List.length_append, hl2, R.len]
              rfl
            · rw [List.map_append, List.nodup_append]
              refine ⟨R.nd, by simp, fun b hb c hc => ?_⟩
              simp at hc
              subst hc
              obtain ⟨p, hp, rfl⟩ := List.mem_map.mp hb
              exact han p hp
            · have ro : ∀ {b : Addr} {w : Ob}, RO K Gd H1 (ι1.take S.length) b w → RO K Gd H1 (ι ++ [(a, o.kd)]) b w := fun {b w} h => by
                cases w with
                | lst ds => obtain ⟨vs, h3, h4⟩ := h; exact ⟨vs, h3, h4.keep kp⟩
                | dct ds => obtain ⟨vs, h3, h4⟩ := h; exact ⟨vs, h3, h4.keep kp⟩
                | lk ds => obtain ⟨vs, h3, h4⟩ := h; exact ⟨vs, h3, h4.keep kp⟩
              have e : (S1.take S.length ++ [o])[i]? = some u := e
              by_cases hi : i < S.length
              · rw [List.getElem?_append_left (by omega)] at e
                obtain ⟨b, h3, h4⟩ := Rc.ob i u e
                exact ⟨b, kp.loc _ _ h3, ro h4⟩
              · have hi2 : i = S.length := by
                  have := (List.getElem?_eq_some_iff.mp e).1
                  rw [List.length_append, hl2] at this
                  simp at this
                  omega
                subst hi2
                rw [List.getElem?_append_right (by omega), hl2] at e
                simp at e
                subst e
                exact ⟨a, by rw [← R.len]; simp, ro (h2.cut hcut hc1)⟩
            · refine .loc ?_
              rw [← hc3, ← R.len]
              simp
          · have e : gc0 S (.loc k m, S1) = (.loc k m, S1) := by
              unfold gc0
              rw [if_pos (show oldOk S.length S (D.loc k m, S1).2 = true from ho), if_neg (show ¬ D.under S.length (D.loc k m, S1).1 = true from hd)]
              simp only [q]
              rw [if_neg hc]
            rw [e]
            exact keep
      · have e : gc0 S (d, S1) = (d, S1) := by
          unfold gc0
          rw [if_pos (show oldOk S.length S (d, S1).2 = true from ho), if_neg (show ¬ D.under S.length (d, S1).1 = true from hd)]
          cases d with
          | loc k m => exact absurd ⟨k, m, rfl⟩ hk
          | _ => rfl
        rw [e]
        exact keep
  · have e : gc0 S (d, S1) = (d, S1) := by simp [gc0, ho]
    rw [e]
    exact keep

theorem gc_ok {S1 : Sto} {ι1 : Loc} {H1 : Hp} (R : Rel K Gd H ι S) (R1 : Rel K Gd H1 ι1 S1) (r : RD K Gd H1 ι1 d v) (x : Ext H ι H1 ι1) :
    ∃ ι2, Rel K Gd H1 ι2 (gc S (d, S1)).2 ∧ RD K Gd H1 ι2 (gc S (d, S1)).1 v ∧ Ext H ι H1 ι2 := by
  unfold gc
  split
  · exact ⟨ι1, R1, r, x⟩
  · exact gc0_ok R R1 r x

/-- what is wanted behind an expression -/
def Post (K : PySem.W.Frag) (Gd : Str → Addr → Prop) (H : Hp) (ι : Loc) (r : D × Sto) (Q : VK) : Prop :=
  ∀ v H' ι', Rel K Gd H' ι' r.2 → RD K Gd H' ι' r.1 v → Ext H ι H' ι' → Q v H'
theorem Post.gc {r : D × Sto} {Q : VK} (R : Rel K Gd H ι S) (h : Post K Gd H ι (gc S r) Q) : Post K Gd H ι r Q := fun v H' ι' R' r' x => by
  obtain ⟨ι2, h1, h2, h3⟩ := gc_ok R R' r' x
  exact h v H' ι2 h1 h2 h3
theorem Post.step {r : D × Sto} {Q : VK} (x : Ext H ι H' ι') (h : Post K Gd H ι r Q) : Post K Gd H' ι' r Q := fun v H2 ι2 R2 r2 x2 => h v H2 ι2 R2 r2 (x.trans x2)
end
end CV

set_option Elab.async false
set_option linter.all false
set_option maxRecDepth 100000
set_option maxHeartbeats 4000000
/-! CvV: the evaluator's operations on values are the model's. -/
namespace CV
open PySem PySem.Spec PyProof.Rows L2

section
variable {X : Cx} {Gd : Str → Addr → Prop} {H : Hp} {ι : Loc} {S : Sto} {K : PySem.W.Frag}

theorem strGood_len {s : Str} (h : strGood s = true) : s.length ≤ sizeLine := by
  rw [← cap_eq]
  unfold strGood at h
  simp only [Bool.and_eq_true, decide_eq_true_eq] at h
  exact h.1
theorem strGood_ok {s : Str} (h : strGood s = true) : PyData.strOk s = true := by
  unfold strGood at h
  simp only [Bool.and_eq_true] at h
  exact h.2
theorem strGood_mk {s : Str} (h1 : s.length ≤ cap) (h2 : ∀ c ∈ s.cps.toList, c < 0x110000) : strGood s = true := by
  unfold strGood PyData.strOk
  simp only [Bool.and_eq_true, decide_eq_true_eq]
  refine ⟨h1, ?_⟩
  rw [Array.all_eq_true']
  intro c hc
  exact decide_eq_true (h2 c (by simpa using hc))
theorem strGood_cps {s : Str} (h : strGood s = true) : ∀ c ∈ s.cps.toList, c < 0x110000 := fun c hc => by
  have h2 := strGood_ok h
  unfold PyData.strOk at h2
  rw [Array.all_eq_true'] at h2
  exact of_decide_eq_true (h2 c (by simpa using hc))
theorem length_cps (s : Str) : s.cps.toList.length = s.length := by simp [Str.length]
theorem strGood_app {x y : Str} (hx : strGood x = true) (hy : strGood y = true) (h : x.length + y.length ≤ cap) : strGood (x ++ y) = true := by
  have e : (x ++ y).cps = x.cps ++ y.cps := rfl
  refine strGood_mk ?_ fun c hc => ?_
  · show (x ++ y).cps.size ≤ cap
    rw [e, Array.size_append]
    exact h
  · rw [e, Array.toList_append] at hc
    rcases List.mem_append.mp hc with h | h
    · exact strGood_cps hx c h
    · exact strGood_cps hy c h

theorem Post.at_ {r : D × Sto} {Q : VK} {v : V} (h : Post K Gd H ι r Q) (R : Rel K Gd H ι r.2) (d : RD K Gd H ι r.1 v) : Q v H := h v H ι R d Ext.refl
/-- a new object that the store needn't know: a tuple -/
theorem Post.tup {Q : VK} {ds : List D} {vs : List V} (h : Post K Gd H ι (.tup ds, S) Q) (R : Rel K Gd H ι S) (d : RDs K Gd H ι ds vs) : ∀ p, H p = none → Q (.ref p) (upd H p (.tup vs)) := fun p hp =>
  h _ _ ι (R.fresh hp) (.tup (.of upd_same) (d.keep ((Ext.fresh hp).keeps R))) (Ext.fresh hp)
/-- a new list -/
theorem Post.lst {Q : VK} {ds : List D} {vs : List V} (h : Post K Gd H ι (.loc .lst S.length, S ++ [.lst ds]) Q) (R : Rel K Gd H ι S) (d : RDs K Gd H ι ds vs) : ∀ p, H p = none → Q (.ref p) (upd H p (.lst vs)) := fun p hp =>
  h _ _ (ι ++ [(p, .lst)]) (R.alloc (ob := .lst ds) hp ⟨vs, upd_same, d.keep ((Ext.alloc hp).keeps R)⟩) (.loc (by rw [← R.len]; simp)) (Ext.alloc hp)

theorem Rel.lst_at (R : Rel K Gd H ι S) {n : Nat} {a : Addr} {xs : List D} (e : S[n]? = some (.lst xs)) (h : ι[n]? = some (a, .lst)) : ∃ vs, H a = some (.lst vs) ∧ RDs K Gd H ι xs vs := by
  obtain ⟨b, h1, h2⟩ := R.ob n _ e
  rw [h] at h1
  cases h1
  exact h2
theorem Rel.dct_at (R : Rel K Gd H ι S) {n : Nat} {a : Addr} {xs : List (Key × D)} (e : S[n]? = some (.dct xs)) (h : ι[n]? = some (a, .dct)) : ∃ vs, H a = some (.dK vs) ∧ RKv K Gd H ι xs vs := by
  obtain ⟨b, h1, h2⟩ := R.ob n _ e
  rw [h] at h1
  cases h1
  exact h2
theorem Rel.dctR_at (R : Rel K Gd H ι S) {n : Nat} {a : Addr} {xs : List (Key × D)} (e : dctOf S n = some xs) (h : ι[n]? = some (a, .dct)) : ∃ vs, Rd H a (.dK vs) ∧ RKv K Gd H ι xs vs := by
  unfold dctOf at e
  split at e <;> cases e
  · rename_i e
    obtain ⟨vs, h1, h2⟩ := R.dct_at e h
    exact ⟨vs, .inl h1, h2⟩
  · rename_i e
    obtain ⟨b, h1, h2⟩ := R.ob n _ e
    rw [h] at h1
    cases h1
    obtain ⟨vs, h3, h4⟩ := h2
    exact ⟨vs, .inr h3, h4⟩
theorem dget_r {H : Hp} {a : Addr} {kvs : List (Key × V)} {k : Key} (e : Rd H a (.dK kvs)) : DGet H a (kV k) (valV kvs k) := .inl ⟨kvs, k, e, rfl, rfl⟩
/-- the written list -/
theorem Post.wlst {Q : VK} {n : Nat} {a : Addr} {ds : List D} {vs : List V} {d : D} {v : V} (h : Post K Gd H ι (d, S.set n (.lst ds)) Q) (R : Rel K Gd H ι S) (e : ι[n]? = some (a, .lst)) (hH : Nf H a)
    (r : RDs K Gd H ι ds vs) (rd : RD K Gd H ι d v) : Q v (upd H a (.lst vs)) := by
  have x : Ext H ι (upd H a (.lst vs)) ι := Ext.write e hH
  exact h _ _ ι (R.write (ob := .lst ds) e hH ⟨vs, upd_same, r.keep (x.keeps R)⟩) (rd.keep (x.keeps R)) x

def rB (K : PySem.W.Frag) (Gd : Str → Addr → Prop) (f : D → D → Sto → Option (D × Sto)) : R2 := fun x y H Q =>
  ∃ ι S a b r, Rel K Gd H ι S ∧ RD K Gd H ι a x ∧ RD K Gd H ι b y ∧ f a b S = some r ∧ Post K Gd H ι r Q

def bopO : Bop → Operator
  | .add => .Add
  | .sub => .Sub
  | .mul => .Mult
  | .fdiv => .FloorDiv
  | .mod => .Mod
  | .pow => .Pow
theorem bopC_eq {o : Operator} {b : Bop} (h : bopC o = some b) : bopO b = o := by
  cases o <;> simp [bopC] at h <;> subst h <;> rfl

theorem mem_joinL {c : Nat} {S : List Nat} : ∀ {ps : List (List Nat)}, c ∈ TL.joinL S ps → c ∈ S ∨ ∃ p ∈ ps, c ∈ p
  | [], h => by simp [TL.joinL] at h
  | [p], h => .inr ⟨p, List.mem_singleton.mpr rfl, h⟩
  | p :: q :: r, h => by
    have h' : c ∈ p ++ (S ++ TL.joinL S (q :: r)) := h
    rcases List.mem_append.mp h' with h | h
    · exact .inr ⟨p, List.mem_cons_self, h⟩
    rcases List.mem_append.mp h with h | h
    · exact .inl h
    rcases mem_joinL h with h | ⟨x, hx, h⟩
    · exact .inl h
    · exact .inr ⟨x, List.mem_cons_of_mem _ hx, h⟩
theorem mem_spl {c : Nat} {S : List Nat} : ∀ {l : List Nat} {k : Nat} {acc p : List Nat}, p ∈ TL.spl S k acc l → c ∈ p → c ∈ acc ∨ c ∈ l
  | [], k, acc, p, h, hc => by
    rw [TL.spl_nil] at h
    rw [List.mem_singleton.mp h] at hc
    exact .inl hc
  | d :: l, 0, acc, p, h, hc => by
    cases hp : TL.pre S (d :: l) with
    | true =>
      rw [TL.spl_hit hp] at h
      rcases List.mem_cons.mp h with e | h
      · rw [e] at hc
        exact .inl hc
      rcases mem_spl h hc with h | h
      · simp at h
      · exact .inr (List.mem_cons_of_mem _ h)
    | false =>
      rw [TL.spl_miss hp] at h
      rcases mem_spl h hc with h | h
      · rcases List.mem_append.mp h with h | h
        · exact .inl h
        · rw [List.mem_singleton.mp h]
          exact .inr List.mem_cons_self
      · exact .inr (List.mem_cons_of_mem _ h)
  | d :: l, k + 1, acc, p, h, hc => by
    have h' : p ∈ TL.spl S k acc l := h
    rcases mem_spl h' hc with h | h
    · exact .inl h
    · exact .inr (List.mem_cons_of_mem _ h)
theorem len_spl {S : List Nat} : ∀ {l : List Nat} {k : Nat} {acc p : List Nat}, p ∈ TL.spl S k acc l → p.length ≤ acc.length + l.length
  | [], k, acc, p, h => by
    rw [TL.spl_nil] at h
    rw [List.mem_singleton.mp h]
    simp
  | d :: l, 0, acc, p, h => by
    cases hp : TL.pre S (d :: l) with
    | true =>
      rw [TL.spl_hit hp] at h
      rcases List.mem_cons.mp h with e | h
      · rw [e]
        omega
      have := len_spl h
      simp at this ⊢
      omega
    | false =>
      rw [TL.spl_miss hp] at h
      have := len_spl h
      simp at this ⊢
      omega
  | d :: l, k + 1, acc, p, h => by
    have h' : p ∈ TL.spl S k acc l := h
    have := len_spl h'
    simp
    omega
theorem len_joinL {S : List Nat} : ∀ {ps : List (List Nat)}, (TL.joinL S ps).length ≤ (ps.map List.length).sum + ps.length * S.length
  | [] => by simp [TL.joinL]
  | [p] => by simp [TL.joinL]
  | p :: q :: r => by
    have ih := len_joinL (S := S) (ps := q :: r)
    show (p ++ (S ++ TL.joinL S (q :: r))).length ≤ _
    rw [List.length_append, List.length_append]
    simp only [List.map_cons, List.sum_cons, List.length_cons, Nat.add_mul] at ih ⊢
    omega
theorem strGood_spl {x : Str} {S : List Nat} (h : strGood x = true) {p : List Nat} (hp : p ∈ TL.spl S 0 [] x.cps.toList) : strGood (sx p) = true := by
  refine strGood_mk ?_ fun c hc => ?_
  · have h1 := len_spl hp
    have h2 := strGood_len h
    rw [← cap_eq] at h2
    show (⟨p⟩ : Array Nat).size ≤ cap
    simp only [List.length_nil, length_cps] at h1
    simp
    omega
  · rcases mem_spl hp (show c ∈ p from hc) with z | z
    · simp at z
    · exact strGood_cps h c z
theorem strGood_join {x : Str} (h : strGood x = true) {zs : List Str} (hz : ∀ z ∈ zs, strGood z = true) (hl : (zs.map (·.length)).sum + zs.length * x.length ≤ cap) : strGood (sx (TL.joinL x.cps.toList (zs.map (·.cps.toList)))) = true := by
  refine strGood_mk ?_ fun c hc => ?_
  · have h1 := len_joinL (S := x.cps.toList) (ps := zs.map (·.cps.toList))
    show (⟨TL.joinL _ _⟩ : Array Nat).size ≤ cap
    have e : (zs.map (·.cps.toList)).map List.length = zs.map (·.length) := by
      rw [List.map_map]
      exact List.map_congr_left fun z _ => length_cps z
    rw [e, List.length_map, length_cps] at h1
    simp
    omega
  · rcases mem_joinL (show c ∈ TL.joinL _ _ from hc) with z | ⟨p, hp, z⟩
    · exact strGood_cps h c z
    · obtain ⟨y, hy, rfl⟩ := List.mem_map.mp hp
      exact strGood_cps (hz y hy) c z
/-- text times number -/
theorem mul_ok {x : Str} {n : Int} (h1 : -(2 ^ 63) ≤ n) (h2 : n < 2 ^ 63) (h3 : x.length * n.toNat ≤ cap) : MulOk x n := by
  refine ⟨?_, fun h hc => ?_, fun h hc => ?_⟩
  · have e1 : ¬ n < -(2 ^ 63 : Int) := by omega
    have e2 : ¬ n ≥ 2 ^ 63 := by omega
    rw [decide_eq_false e1, decide_eq_false e2]
    rfl
  · have hn : 0 < n := by omega
    have h4 : (x.length : Int) * n ≤ cap := by
      have : ((x.length * n.toNat : Nat) : Int) ≤ (cap : Int) := by exact_mod_cast h3
      have e : (n.toNat : Int) = n := Int.toNat_of_nonneg (by omega)
      rw [Int.natCast_mul, e] at this
      exact this
    have h5 : (x.length : Int) ≤ (2 ^ 63 - 1) / n := by
      rw [Int.le_ediv_iff_mul_le hn]
      have : (cap : Int) = 16777216 := rfl
      omega
    omega
  · unfold Builtin.Str.tooLong
    have : cap = sizeLine := cap_eq
    simp
    omega
theorem mul_good {x : Str} {n : Int} (h : strGood x = true) (h3 : x.length * n.toNat ≤ cap) : strGood (Txt.mul x n) = true := by
  unfold Txt.mul
  split
  · exact strGood_mk (by show (#[] : Array Nat).size ≤ cap; exact Nat.zero_le _) fun c hc => by simp [Str.empty] at hc
  · split
    · exact h
    · have e : ∀ k : Nat, ((List.replicate k x.cps).foldl (· ++ ·) #[]).toList = (List.replicate k x.cps.toList).flatten := fun k => by
        have gen : ∀ (k : Nat) (acc : Array Nat), ((List.replicate k x.cps).foldl (· ++ ·) acc).toList = acc.toList ++ (List.replicate k x.cps.toList).flatten := fun k => by
          induction k with
          | zero => intro acc; simp
          | succ k ih => intro acc; rw [List.replicate_succ, List.foldl_cons, ih, List.replicate_succ, List.flatten_cons, Array.toList_append, List.append_assoc]
        simpa using gen k #[]
      refine strGood_mk ?_ fun c hc => ?_
      · show ((List.replicate n.toNat x.cps).foldl (· ++ ·) #[]).size ≤ cap
        rw [← Array.length_toList, e]
        rw [List.length_flatten, List.map_replicate, List.sum_replicate_nat, length_cps, Nat.mul_comm]
        exact h3
      · have hc' : c ∈ (List.replicate n.toNat x.cps.toList).flatten := by rw [← e]; exact hc
        obtain ⟨l, hl, hc2⟩ := List.mem_flatten.mp hc'
        rw [(List.mem_replicate.mp hl).2] at hc2
        exact strGood_cps h c hc2

theorem opB (op : Bop) : OpR X (binaryOp (bopO op)) (rB X.K Gd (binD op)) := by
  intro pins s σ H x y v u Q I rx ry h
  obtain ⟨ι, S, a, b, r, R, ra, rb, e, q⟩ := h
  have hcs : cap = sizeLine := cap_eq
  cases op with
  | add =>
    cases ra with
    | int i =>
      cases rb <;> simp [binD] at e
      subst e
      exact op_add pins s σ H _ _ v u Q I rx ry ⟨_, _, rfl, rfl, q.at_ R (.int _)⟩
    | str hi =>
      cases rb <;> simp [binD] at e
      rename_i hj
      obtain ⟨hl, e⟩ := e
      subst e
      exact op_add_str pins s σ H _ _ v u Q I rx ry ⟨_, _, rfl, rfl, by omega, q.at_ R (.str (strGood_app hi hj hl))⟩
    | tup ha ta =>
      cases rb <;> simp [binD] at e
      rename_i hb tb
      obtain ⟨hl, e⟩ := e
      subst e
      have hl1 := ta.length
      have hl2 := tb.length
      refine op_catA pins s σ H _ _ v u Q I rx ry ⟨_, _, _, _, rfl, rfl, ha, hb, by omega, fun e1 => ?_, fun _ e2 => ?_, fun _ _ => ?_⟩
      · subst e1
        cases ta
        exact q.at_ R (.tup hb tb)
      · subst e2
        cases tb
        exact q.at_ R (.tup ha (by rw [List.append_nil]; exact ta))
      · exact q.tup R (ta.append tb)
    | loc ha =>
      rename_i k n a
      cases k <;> cases rb <;> simp [binD] at e
      rename_i k m b hb
      cases k <;> simp [binD] at e
      split at e <;> simp at e
      rename_i xs ys e1 e2
      obtain ⟨hl, e⟩ := e
      subst e
      obtain ⟨vs, h1, h2⟩ := R.lst_at e1 ha
      obtain ⟨us, h3, h4⟩ := R.lst_at e2 hb
      have hl1 := h2.length
      have hl2 := h4.length
      exact op_cat pins s σ H _ _ v u Q I rx ry ⟨_, _, _, _, rfl, rfl, h1, h3, by omega, q.lst R (h2.append h4)⟩
    | _ => simp [binD] at e
  | sub =>
    cases ra <;> cases rb <;> simp [binD] at e
    subst e
    exact op_sub pins s σ H _ _ v u Q I rx ry ⟨_, _, rfl, rfl, q.at_ R (.int _)⟩
  | mul =>
    cases ra with
    | int i =>
      cases rb <;> simp [binD] at e
      obtain ⟨hc, e⟩ := e
      subst e
      exact op_mul pins s σ H _ _ v u Q I rx ry ⟨_, _, rfl, rfl, by unfold CMul; omega, q.at_ R (.int _)⟩
    | tup ha ta =>
      cases rb <;> simp [binD] at e
      obtain ⟨hc, e⟩ := e
      subst e
      have hl1 := ta.length
      rename_i vs1 ds1 kk
      have hne : vs1 ≠ [] := fun z => by
        subst z
        cases ta
        simp at hc
      by_cases h2 : 2 ≤ kk
      · exact op_repT pins s σ H _ _ v u Q I rx ry ⟨_, _, _, rfl, rfl, ha, hne, by omega, by omega, by omega, q.tup R (ta.rep _)⟩
      by_cases h1 : kk = 1
      · subst h1
        refine CVTm.op_rep1 pins s σ H _ _ v u Q I rx ry ⟨_, _, _, rfl, rfl, ha, hne, .inl ⟨rfl, q.at_ R (.tup ha ?_)⟩⟩
        have e1 : (List.replicate (1 : Int).toNat ds1).flatten = ds1 := List.append_nil _
        rw [e1]
        exact ta
      · refine CVTm.op_rep1 pins s σ H _ _ v u Q I rx ry ⟨_, _, _, rfl, rfl, ha, hne, .inr ⟨by omega, by omega, ?_⟩⟩
        have e1 : kk.toNat = 0 := by omega
        rw [e1] at q
        exact q.tup R .nil
    | loc ha =>
      rename_i k n a
      cases k <;> cases rb <;> simp [binD] at e
      split at e <;> simp at e
      rename_i xs e1
      obtain ⟨hc, e⟩ := e
      subst e
      obtain ⟨vs, h1, h2⟩ := R.lst_at e1 ha
      have hl1 := h2.length
      exact op_rep pins s σ H _ _ v u Q I rx ry ⟨_, _, _, rfl, rfl, h1, by omega, by omega, by rw [← hl1]; omega, q.lst R (h2.rep _)⟩
    | str hi =>
      cases rb <;> simp [binD] at e
      rename_i k
      obtain ⟨hc, e⟩ := e
      subst e
      obtain ⟨t, rfl⟩ := (show ∃ t, v = Value.str _ t from rx)
      obtain ⟨t', rfl⟩ := (show ∃ t, u = Value.int k t from ry)
      refine SB.mul (mul_ok (by omega) (by omega) hc.2) fun t2 tk => ?_
      exact ⟨.str _, H, I.tok _, ⟨_, rfl⟩, q.at_ R (.str (mul_good hi hc.2))⟩
    | _ => simp [binD] at e
  | fdiv =>
    cases ra <;> cases rb <;> simp [binD] at e
    obtain ⟨hc, e⟩ := e
    subst e
    exact op_fdiv pins s σ H _ _ v u Q I rx ry ⟨_, _, rfl, rfl, hc, q.at_ R (.int _)⟩
  | mod =>
    cases ra <;> cases rb <;> simp [binD] at e
    obtain ⟨hc, e⟩ := e
    subst e
    exact op_mod pins s σ H _ _ v u Q I rx ry ⟨_, _, rfl, rfl, hc, q.at_ R (.int _)⟩
  | pow =>
    cases ra <;> cases rb <;> simp [binD] at e
    obtain ⟨hc, e⟩ := e
    subst e
    exact op_pow pins s σ H _ _ v u Q I rx ry ⟨_, _, rfl, rfl, ⟨hc.1.1, hc.1.2, by simpa using hc.2⟩, q.at_ R (.int _)⟩

/-! ### == and in -/
theorem mapO_some {α β : Type} {f : α → Option β} : ∀ {xs : List α} {ys : List β}, mapO f xs = some ys → xs.length = ys.length ∧ ∀ (i : Nat) (x : α), xs[i]? = some x → ∃ y, ys[i]? = some y ∧ f x = some y
  | [], ys, h => by simp [mapO] at h; subst h; exact ⟨rfl, fun i x h => by simp at h⟩
  | x :: xs, ys, h => by
    simp only [mapO] at h
    split at h <;> try cases h
    rename_i y e
    split at h <;> cases h
    rename_i zs e2
    obtain ⟨h1, h2⟩ := mapO_some e2
    refine ⟨by simp [h1], fun i z hz => ?_⟩
    cases i with
    | zero => simp at hz; subst hz; exact ⟨y, rfl, e⟩
    | succ i => simp only [List.getElem?_cons_succ] at hz ⊢; exact h2 i z hz
theorem seqs_ok {f : D → Option PyData} {k : Nat} (hf : ∀ d v p, RD K Gd H ι d v → f d = some p → Dp K H v p ∧ p.canLay0 = true ∧ p.depth ≤ k) :
    ∀ {ds : List D} {vs : List V} {ps : List PyData}, RDs K Gd H ι ds vs → mapO f ds = some ps → DpAll K H vs ps ∧ PyData.canLayAll0 ps = true ∧ PyData.depthAll ps ≤ k
  | _, _, ps, .nil, h => by
    simp [mapO] at h
    subst h
    exact ⟨.nil, by simp [PyData.canLayAll0], by simp [PyData.depthAll]⟩
  | _, _, ps, .cons h t, e => by
    simp only [mapO] at e
    split at e <;> try cases e
    rename_i y e1
    split at e <;> cases e
    rename_i zs e2
    obtain ⟨a1, a2, a3⟩ := hf _ _ _ h e1
    obtain ⟨b1, b2, b3⟩ := seqs_ok hf t e2
    refine ⟨.cons a1 b1, by simp [PyData.canLayAll0, a2, b2], ?_⟩
    simp only [PyData.depthAll]
    omega
theorem ints_dp : ∀ ns : List Int, DpAll K H (ns.map V.int) (ns.map PyData.int) ∧ PyData.canLayAll0 (ns.map PyData.int) = true ∧ PyData.depthAll (ns.map PyData.int) ≤ 0
  | [] => ⟨.nil, by simp [PyData.canLayAll0], by simp [PyData.depthAll]⟩
  | n :: ns => by
    obtain ⟨h1, h2, h3⟩ := ints_dp ns
    refine ⟨.cons (.int n) h1, by simp [PyData.canLayAll0, PyData.canLay0, h2], ?_⟩
    simp only [List.map_cons, PyData.depthAll, PyData.depth]
    omega
theorem pd_ok (R : Rel K Gd H ι S) : ∀ (k : Nat) (d : D) (v : V) (p : PyData), RD K Gd H ι d v → pd S k d = some p → Dp K H v p ∧ p.canLay0 = true ∧ p.depth ≤ k
  | k, d, v, p, r, h => by
    cases r with
    | non => cases k <;> (simp [pd] at h; subst h; exact ⟨.non, by simp [PyData.canLay0], by simp [PyData.depth]⟩)
    | bl b => cases k <;> (simp [pd] at h; subst h; exact ⟨.bl b, by simp [PyData.canLay0], by simp [PyData.depth]⟩)
    | int b => cases k <;> (simp [pd] at h; subst h; exact ⟨.int b, by simp [PyData.canLay0], by simp [PyData.depth]⟩)
    | str hs => cases k <;> (simp [pd] at h; subst h; exact ⟨.str _, by simp [PyData.canLay0, strGood_ok hs], by simp [PyData.depth]⟩)
    | tup ht hr =>
      cases k with
      | zero => simp [pd] at h
      | succ k =>
        simp only [pd, Option.map_eq_some_iff] at h
        obtain ⟨ps, e, rfl⟩ := h
        obtain ⟨a1, a2, a3⟩ := seqs_ok (fun d v p => pd_ok R k d v p) hr e
        exact ⟨.tup ht a1, by simp [PyData.canLay0, a2], by simp only [PyData.depth]; omega⟩
    | loc hl =>
      rename_i kd n a
      cases k with
      | zero => simp [pd] at h
      | succ k =>
        cases kd with
        | dct => simp [pd] at h
        | lst =>
          simp only [pd] at h
          split at h <;> try cases h
          rename_i xs e0
          simp only [Option.map_eq_some_iff] at h
          obtain ⟨ps, e, rfl⟩ := h
          obtain ⟨vs, h1, h2⟩ := R.lst_at e0 hl
          obtain ⟨a1, a2, a3⟩ := seqs_ok (fun d v p => pd_ok R k d v p) h2 e
          exact ⟨.lst (.of h1) a1, by simp [PyData.canLay0, a2], by simp only [PyData.depth]; omega⟩
    | scr hs =>
      cases k with
      | zero => simp [pd] at h
      | succ k =>
        simp only [pd, Option.some.injEq] at h
        subst h
        obtain ⟨a1, a2, a3⟩ := ints_dp (K := K) (H := H) _
        exact ⟨.lst hs.sq a1, by simp [PyData.canLay0, a2], by simp only [PyData.depth]; omega⟩
    | gd hg => cases k <;> simp [pd] at h
theorem scal_dp {d : D} {v : V} (r : RD K Gd H ι d v) (h : d.scal = true) : ∃ p, Dp K H v p ∧ p.canLay0 = true ∧ p.depth = 0 ∧ ∀ S k, pd S k d = some p := by
  cases r with
  | non => exact ⟨_, .non, by simp [PyData.canLay0], by simp [PyData.depth], fun S k => by cases k <;> rfl⟩
  | bl b => exact ⟨_, .bl b, by simp [PyData.canLay0], by simp [PyData.depth], fun S k => by cases k <;> rfl⟩
  | int b => exact ⟨_, .int b, by simp [PyData.canLay0], by simp [PyData.depth], fun S k => by cases k <;> rfl⟩
  | str hs => exact ⟨_, .str _, by simp [PyData.canLay0, strGood_ok hs], by simp [PyData.depth], fun S k => by cases k <;> rfl⟩
  | _ => simp [D.scal] at h
theorem eqS_eq {a b : D} {x y : PyData} (ha : a.scal = true) (hb : b.scal = true) (h1 : pd S 60 a = some x) (h2 : pd S 60 b = some y) : eqS a b = PyData.eqv x y := by
  cases a <;> simp [D.scal] at ha <;> cases b <;> simp [D.scal] at hb <;> simp [pd] at h1 h2 <;> subst h1 <;> subst h2 <;> simp [eqS, PyData.eqv]

/-- lists and tuples as the model has them -/
theorem seq_at {pins : List (Addr × Obj)} {s : Shared} {σ : L2.St} {d : D} {v : V} {u : Value} (I : Inv X pins σ H s) (r : RD X.K Gd H ι d v) (R : Rel X.K Gd H ι S) (hd : d.seq = true) (rv : RelV v u) :
    ∃ (a : Addr) (items : Array Value), u = .ref a ∧ (s.heap.IsList a items ∨ s.heap.IsTuple a items) := by
  cases r with
  | tup ht hr =>
    cases rv
    obtain ⟨its, _, p, _⟩ := I.tuple ht
    exact ⟨_, _, rfl, .inr p⟩
  | loc hl =>
    rename_i k n a
    cases k with
    | dct => simp [D.seq] at hd
    | lst =>
      cases rv
      obtain ⟨o, e, h1, h2⟩ := R.at_ hl
      cases o with
      | dct kvs => cases h1
      | lk kvs => cases h1
      | lst xs =>
        obtain ⟨vs, h3, _⟩ := h2
        obtain ⟨its, _, p, _⟩ := I.list (.of h3)
        exact ⟨_, _, rfl, .inl p.isList⟩
  | scr hs =>
    cases rv
    obtain ⟨its, _, p, _⟩ := I.list hs.sq
    exact ⟨_, _, rfl, .inl p.isList⟩
  | _ => simp [D.seq] at hd

def rC (K : PySem.W.Frag) (Gd : Str → Addr → Prop) (f : D → D → Sto → Option Bool) : R2 := fun x y H Q =>
  ∃ ι S a b k, Rel K Gd H ι S ∧ RD K Gd H ι a x ∧ RD K Gd H ι b y ∧ f a b S = some k ∧ Q (.bl k) H

/-! ### dicts of data -/
theorem find_kv (R : Rel K Gd H ι S) {k : Key} : ∀ {ls : List (Key × D)} {us : List (Key × V)} {ub : List (Key × Value)} {qs : List (Key × PyData)}, RKv K Gd H ι ls us → KV us ub → datKv S ls = some qs →
    (valueAt ub k = none ∧ qs.find? (fun kv => decide (kv.1 = k)) = none) ∨ ∃ y u p, valueAt ub k = some y ∧ qs.find? (fun kv => decide (kv.1 = k)) = some (k, p) ∧ RelV u y ∧ Dp K H u p ∧ p.canLay0 = true ∧ p.depth ≤ 59
  | _, _, _, qs, .nil, kv, e => by
    cases kv
    simp only [datKv, Option.some.injEq] at e
    subst e
    exact .inl ⟨rfl, rfl⟩
  | _, _, _, qs, .cons (k := k0) (d := d0) _ h t, kv, e => by
    cases kv with
    | @cons a b l1 l2 r0 kt =>
    simp only [datKv] at e
    split at e <;> try cases e
    rename_i p ps e1 e2
    have ek : b.1 = k0 := r0.1.symm
    by_cases hk : k0 = k
    · subst hk
      obtain ⟨a1, a2, a3⟩ := pd_ok R 59 d0 _ p h e1
      refine .inr ⟨b.2, _, p, ?_, ?_, r0.2, a1, a2, a3⟩
      · simp [valueAt, ek]
      · simp
    · have d1 : decide (b.1 = k) = false := by rw [ek]; exact decide_eq_false hk
      have d2 : decide (k0 = k) = false := decide_eq_false hk
      rcases find_kv (k := k) R t kt e2 with ⟨h1, h2⟩ | ⟨y, u, q, h1, h2, h3⟩
      · refine .inl ⟨?_, ?_⟩
        · simp only [valueAt] at h1 ⊢
          rw [List.find?_cons, d1]
          exact h1
        · rw [List.find?_cons]
          simp only [d2]
          exact h2
      · refine .inr ⟨y, u, q, ?_, ?_, h3⟩
        · simp only [valueAt] at h1 ⊢
          rw [List.find?_cons, d1]
          exact h1
        · rw [List.find?_cons]
          simp only [d2]
          exact h2
theorem hits_kv {X : Cx} {pins : List (Addr × Obj)} {σ : L2.St} {s : Shared} (I : Inv X pins σ H s) (R : Rel X.K Gd H ι S) (hu : X.A.units + 65 < cLine) {ls : List (Key × D)} {us : List (Key × V)} {ub : List (Key × Value)} {qs : List (Key × PyData)} (r1 : RKv X.K Gd H ι ls us) (k1 : KV us ub) (d1 : datKv S ls = some qs) :
    ∀ {ks : List (Key × D)} {vs : List (Key × V)} {va : List (Key × Value)} {ps : List (Key × PyData)}, RKv X.K Gd H ι ks vs → KV vs va → datKv S ks = some ps → PySem.W.KeqHits X.A.in1 s ub va (hitKv qs ps)
  | _, _, _, ps, .nil, kv, e => by
    cases kv
    simp only [datKv, Option.some.injEq] at e
    subst e
    exact .nil
  | _, _, _, ps, .cons (k := k0) (d := d0) _ h t, kv, e => by
    cases kv with
    | @cons a b l1 l2 r0 kt =>
    simp only [datKv] at e
    split at e <;> try cases e
    rename_i p ps' e1 e2
    have ek : b.1 = k0 := r0.1.symm
    obtain ⟨a1, a2, a3⟩ := pd_ok R 59 d0 _ p h e1
    have ih := hits_kv I R hu r1 k1 d1 t kt e2
    obtain ⟨bk, bv⟩ := b
    simp only at ek
    subst ek
    rcases find_kv R (k := bk) r1 k1 d1 with ⟨h1, h2⟩ | ⟨y, u, q, h1, h2, h3, h4, h5, h6⟩
    · have : hitKv qs ((bk, p) :: ps') = false := by simp [hitKv, h2]
      rw [this]
      exact .miss h1
    · have : hitKv qs ((bk, p) :: ps') = (PyData.eqv p q && hitKv qs ps') := by simp [hitKv, h2]
      rw [this]
      obtain ⟨as, w1⟩ := Dp.reads I p _ bv a1 r0.2
      obtain ⟨bs, w2⟩ := Dp.reads I q u y h4 h3
      exact .hit h1 (SeqAt.eqAt_reads p q X.A.in1 s bv y as bs w1 w2 a2 h5 (by show X.A.units + 1 + min p.depth q.depth < cLine; omega)) ih
theorem RKv.length : ∀ {ds : List (Key × D)} {vs : List (Key × V)}, RKv K Gd H ι ds vs → ds.length = vs.length
  | _, _, .nil => rfl
  | _, _, .cons _ _ t => congrArg (· + 1) (RKv.length t)
theorem datKv_len : ∀ {ks : List (Key × D)} {ps : List (Key × PyData)}, datKv S ks = some ps → ps.length = ks.length
  | [], ps, e => by simp only [datKv, Option.some.injEq] at e; subst e; rfl
  | (k, d) :: ks, ps, e => by
    simp only [datKv] at e
    split at e <;> try cases e
    rename_i e2
    simp [datKv_len e2]
theorem dicts_at {X : Cx} {pins : List (Addr × Obj)} {σ : L2.St} {s : Shared} {a b : D} {x y : V} {v u : Value} {k : Bool} (hu : X.A.units + 65 < cLine) (I : Inv X pins σ H s) (R : Rel X.K Gd H ι S) (ra : RD X.K Gd H ι a x) (rb : RD X.K Gd H ι b y) (e : eqKv S a b = some k) (rx : RelV x v) (ry : RelV y u) :
    ∃ p q ka kb r, v = .ref p ∧ u = .ref q ∧ (p == sysModules) = false ∧ (q == sysModules) = false ∧ s.heap.DictOf (mixKind X.prog X.w) p ka ∧ s.heap.DictOf (mixKind X.prog X.w) q kb ∧ PySem.W.KeqHits X.A.in1 s kb ka r ∧ (ka.length == kb.length && r) = k := by
  unfold eqKv at e
  split at e <;> try cases e
  split at e <;> try cases e
  rename_i ks ls e0 e1
  split at e <;> cases e
  rename_i ps qs e2 e3
  cases ra with
  | loc hl =>
  cases rb with
  | loc hm =>
  rename_i p q
  obtain ⟨vs, h1, h2⟩ := R.dct_at e0 hl
  obtain ⟨us, h3, h4⟩ := R.dct_at e1 hm
  cases rx
  cases ry
  obtain ⟨_, ya, va, r1, da⟩ := (show ObjOk X.prog X.w H s.heap p (.dK vs) from I.hok p _ h1)
  obtain ⟨_, yb, vb, r2, db⟩ := (show ObjOk X.prog X.w H s.heap q (.dK us) from I.hok q _ h3)
  have l1 : vs.length = va.length := Paired.length r1
  have l2 : us.length = vb.length := Paired.length r2
  refine ⟨p, q, va, vb, _, rfl, rfl, ya, yb, da, db, hits_kv I R hu h4 r2 e3 h2 r1 e2, ?_⟩
  rw [datKv_len e2, datKv_len e3, h2.length, h4.length, l1, l2]
theorem dicts_eq {X : Cx} {pins : List (Addr × Obj)} {σ : L2.St} {s : Shared} {a b : D} {x y : V} {v u : Value} {k : Bool} {Q : VK} (hu : X.A.units + 65 < cLine) (I : Inv X pins σ H s) (R : Rel X.K Gd H ι S) (ra : RD X.K Gd H ι a x) (rb : RD X.K Gd H ι b y) (e : eqKv S a b = some k) (rx : RelV x v) (ry : RelV y u) (q : Q (.bl k) H) :
    wpAny (model X.prog X.w) X.A (compareOp .Eq v u) (EP X pins σ Q) X.xe s := by
  obtain ⟨p1, p2, ka, kb, r, rfl, rfl, y1, y2, d1, d2, hh, rfl⟩ := dicts_at hu I R ra rb e rx ry
  exact PySem.W.keq_eq (knd := mixKind X.prog X.w) y1 y2 d1 d2 (by omega) (fun _ => hh) ⟨.bl _, H, I, rfl, q⟩
theorem dicts_ne {X : Cx} {pins : List (Addr × Obj)} {σ : L2.St} {s : Shared} {a b : D} {x y : V} {v u : Value} {k : Bool} {Q : VK} (hu : X.A.units + 65 < cLine) (I : Inv X pins σ H s) (R : Rel X.K Gd H ι S) (ra : RD X.K Gd H ι a x) (rb : RD X.K Gd H ι b y) (e : eqKv S a b = some k) (rx : RelV x v) (ry : RelV y u) (q : Q (.bl (!k)) H) :
    wpAny (model X.prog X.w) X.A (compareOp .NotEq v u) (EP X pins σ Q) X.xe s := by
  obtain ⟨p1, p2, ka, kb, r, rfl, rfl, y1, y2, d1, d2, hh, rfl⟩ := dicts_at hu I R ra rb e rx ry
  exact PySem.W.keq_ne (knd := mixKind X.prog X.w) y1 y2 d1 d2 (by omega) (fun _ => hh) ⟨.bl _, H, I, rfl, q⟩
theorem op_eqC (hu : X.A.units + 65 < cLine) : OpR X (compareOp .Eq) (rC X.K Gd fun a b S => eqD S a b) := by
  intro pins s σ H x y v u Q I rx ry h
  obtain ⟨ι, S, a, b, k, R, ra, rb, e, q⟩ := h
  have data : ∀ p r, pd S 60 a = some p → pd S 60 b = some r → Q (.bl (PyData.eqv p r)) H → wpAny (model X.prog X.w) X.A (compareOp .Eq v u) (EP X pins σ Q) X.xe s := fun p r e1 e2 q => by
    obtain ⟨a1, a2, a3⟩ := pd_ok R 60 a x p ra e1
    obtain ⟨b1, b2, b3⟩ := pd_ok R 60 b y r rb e2
    obtain ⟨as, r1⟩ := Dp.reads I p x v a1 rx
    obtain ⟨bs, r2⟩ := Dp.reads I r y u b1 ry
    exact SeqAt.compareEq_reads r1 r2 a2 b2 (by omega) ⟨.bl _, H, I, rfl, q⟩
  simp only [eqD] at e
  split at e
  · rename_i hs
    simp only [Bool.and_eq_true] at hs
    cases e
    obtain ⟨p, _, _, _, e1⟩ := scal_dp ra hs.1
    obtain ⟨r, _, _, _, e2⟩ := scal_dp rb hs.2
    rw [eqS_eq hs.1 hs.2 (e1 S 60) (e2 S 60)] at q
    exact data p r (e1 S 60) (e2 S 60) q
  · split at e
    · rename_i hs
      cases e
      simp only [Bool.or_eq_true, Bool.and_eq_true] at hs
      have fin : EP X pins σ Q (.bool false) s := ⟨.bl false, H, I, rfl, q⟩
      have hu' : X.A.units < cLine := by omega
      rcases hs with ⟨h1, h2⟩ | ⟨h1, h2⟩
      · obtain ⟨l, items, rfl, hl⟩ := seq_at I rb R h2 ry
        rcases hl with hl | hl
        · cases ra with
          | non => cases rx; exact SeqAt.RcAt.none_list hl hu' _ _ _ _ fin
          | bl b => cases rx; exact SeqAt.RcAt.bool_list b hl hu' _ _ _ _ fin
          | int b => obtain ⟨t, rfl⟩ := rx; exact SeqAt.RcAt.int_list b t hl hu' _ _ _ _ fin
          | str hs => obtain ⟨t, rfl⟩ := rx; exact SeqAt.RcAt.str_list _ t hl hu' _ _ _ _ fin
          | _ => simp [D.scal] at h1
        · cases ra with
          | non => cases rx; exact SeqAt.RcAt.none_tuple hl hu' _ _ _ _ fin
          | bl b => cases rx; exact SeqAt.RcAt.bool_tuple b hl hu' _ _ _ _ fin
          | int b => obtain ⟨t, rfl⟩ := rx; exact SeqAt.RcAt.int_tuple b t hl hu' _ _ _ _ fin
          | str hs => obtain ⟨t, rfl⟩ := rx; exact SeqAt.RcAt.str_tuple _ t hl hu' _ _ _ _ fin
          | _ => simp [D.scal] at h1
      · obtain ⟨l, items, rfl, hl⟩ := seq_at I ra R h1 rx
        rcases hl with hl | hl
        · cases rb with
          | non => cases ry; exact SeqAt.RcAt.list_none hl hu' _ _ _ _ fin
          | bl b => cases ry; exact SeqAt.RcAt.list_bool b hl hu' _ _ _ _ fin
          | int b => obtain ⟨t, rfl⟩ := ry; exact SeqAt.RcAt.list_int b t hl hu' _ _ _ _ fin
          | str hs => obtain ⟨t, rfl⟩ := ry; exact SeqAt.RcAt.list_str _ t hl hu' _ _ _ _ fin
          | _ => simp [D.scal] at h2
        · cases rb with
          | non => cases ry; exact SeqAt.RcAt.tuple_none hl hu' _ _ _ _ fin
          | bl b => cases ry; exact SeqAt.RcAt.tuple_bool b hl hu' _ _ _ _ fin
          | int b => obtain ⟨t, rfl⟩ := ry; exact SeqAt.RcAt.tuple_int b t hl hu' _ _ _ _ fin
          | str hs => obtain ⟨t, rfl⟩ := ry; exact SeqAt.RcAt.tuple_str _ t hl hu' _ _ _ _ fin
          | _ => simp [D.scal] at h2
    · split at e
      · cases e
        rename_i e1 e2
        exact data _ _ e1 e2 q
      · exact dicts_eq (by omega) I R ra rb e rx ry q
theorem op_neC (hu : X.A.units + 65 < cLine) : OpR X (compareOp .NotEq) (rC X.K Gd fun a b S => neD S a b) := by
  intro pins s σ H x y v u Q I rx ry h
  obtain ⟨ι, S, a, b, k, R, ra, rb, e, q⟩ := h
  have data : ∀ p r, pd S 60 a = some p → pd S 60 b = some r → Q (.bl (!PyData.eqv p r)) H → wpAny (model X.prog X.w) X.A (compareOp .NotEq v u) (EP X pins σ Q) X.xe s := fun p r e1 e2 q => by
    obtain ⟨a1, a2, a3⟩ := pd_ok R 60 a x p ra e1
    obtain ⟨b1, b2, b3⟩ := pd_ok R 60 b y r rb e2
    obtain ⟨as, r1⟩ := Dp.reads I p x v a1 rx
    obtain ⟨bs, r2⟩ := Dp.reads I r y u b1 ry
    exact SeqAt.compareNe_reads r1 r2 a2 b2 (by omega) ⟨.bl _, H, I, rfl, q⟩
  simp only [neD] at e
  split at e
  · rename_i hs
    simp only [Bool.and_eq_true] at hs
    cases e
    obtain ⟨p, _, _, _, e1⟩ := scal_dp ra hs.1
    obtain ⟨r, _, _, _, e2⟩ := scal_dp rb hs.2
    rw [eqS_eq hs.1 hs.2 (e1 S 60) (e2 S 60)] at q
    exact data p r (e1 S 60) (e2 S 60) q
  · split at e
    · cases e
      rename_i e1 e2
      exact data _ _ e1 e2 q
    · simp only [Option.map_eq_some_iff] at e
      obtain ⟨k', e, rfl⟩ := e
      exact (dicts_ne (by omega) I R ra rb e rx ry q)

/-! ### in -/
theorem seqOf_rd {d : D} {v : V} {xs : List D} (R : Rel K Gd H ι S) (r : RD K Gd H ι d v) (e : seqOf S d = some xs) :
    ∃ a vs, v = .ref a ∧ RDs K Gd H ι xs vs ∧ (SqL K H a vs ∨ SqT K H a vs) := by
  cases r with
  | tup h t => simp [seqOf] at e; subst e; exact ⟨_, _, rfl, t, .inr h⟩
  | loc hl =>
    rename_i k n a
    cases k with
    | dct => simp [seqOf] at e
    | lst =>
      simp only [seqOf] at e
      split at e <;> cases e
      rename_i e0
      obtain ⟨vs, h1, h2⟩ := R.lst_at e0 hl
      exact ⟨a, vs, rfl, h2, .inl (.of h1)⟩
  | scr hs => simp [seqOf] at e; subst e; exact ⟨_, _, rfl, RDs.ints, .inl hs.sq⟩
  | _ => simp [seqOf] at e
theorem lstOf_rd {d : D} {v : V} {xs : List D} (R : Rel K Gd H ι S) (r : RD K Gd H ι d v) (e : lstOf S d = some xs) :
    ∃ a vs, v = .ref a ∧ RDs K Gd H ι xs vs ∧ SqL K H a vs := by
  cases r with
  | loc hl =>
    rename_i k n a
    cases k with
    | dct => simp [lstOf] at e
    | lst =>
      simp only [lstOf] at e
      split at e <;> cases e
      rename_i e0
      obtain ⟨vs, h1, h2⟩ := R.lst_at e0 hl
      exact ⟨a, vs, rfl, h2, .of h1⟩
  | scr hs => simp [lstOf] at e; subst e; exact ⟨_, _, rfl, RDs.ints, hs.sq⟩
  | _ => simp [lstOf] at e

theorem scal_pds {ds : List D} {vs : List V} (r : RDs K Gd H ι ds vs) (h : ds.all D.scal = true) : ∃ ps, (∀ S k, mapO (pd S k) ds = some ps) ∧ PyData.depthAll ps = 0 := by
  induction ds generalizing vs with
  | nil => exact ⟨[], fun _ _ => rfl, by simp [PyData.depthAll]⟩
  | cons d ds ih =>
    cases r with
    | cons h1 t1 =>
      simp only [List.all_cons, Bool.and_eq_true] at h
      obtain ⟨p, _, _, e0, e1⟩ := scal_dp h1 h.1
      obtain ⟨ps, e2, e3⟩ := ih t1 h.2
      refine ⟨p :: ps, fun S k => by simp [mapO, e1, e2], ?_⟩
      simp only [PyData.depthAll, e0, e3]
      rfl
theorem any_eqS {x : D} {p : PyData} (hx : x.scal = true) (e1 : pd S 60 x = some p) : ∀ {ds : List D} {ps : List PyData}, ds.all D.scal = true → mapO (pd S 60) ds = some ps → (ds.any fun y => eqS y x) = ps.any fun y => PyData.eqv y p
  | [], ps, _, e => by simp [mapO] at e; subst e; rfl
  | d :: ds, ps, h, e => by
    simp only [List.all_cons, Bool.and_eq_true] at h
    simp only [mapO] at e
    split at e <;> try cases e
    rename_i y e2
    split at e <;> cases e
    rename_i zs e3
    rw [List.any_cons, List.any_cons, any_eqS hx e1 h.2 e3, eqS_eq h.1 hx e2 e1]
/-- whether what a list holds is a flat thing: never the walked list or tuple -/
theorem flat_eqAt {A : Around} {pins : List (Addr × Obj)} {s : Shared} {σ : L2.St} {d y : D} {v z : V} {u w' : Value} (I : Inv X pins σ H s) (R : Rel X.K Gd H ι S) (r : RD X.K Gd H ι d v) (hd : d.seq = true) (rv : RelV v u)
    (ry : RD X.K Gd H ι y z) (hy : y.scal = true) (rz : RelV z w') (hu : A.units < cLine) : SeqAt.EqAt A s w' u false := by
  obtain ⟨l, items, rfl, hl⟩ := seq_at I r R hd rv
  rcases hl with hl | hl
  · cases ry with
    | non => cases rz; exact SeqAt.EqAt.none_list hl hu
    | bl b => cases rz; exact SeqAt.EqAt.bool_list b hl hu
    | int b => obtain ⟨t, rfl⟩ := rz; exact SeqAt.EqAt.int_list b t hl hu
    | str hs => obtain ⟨t, rfl⟩ := rz; exact SeqAt.EqAt.str_list _ t hl hu
    | _ => simp [D.scal] at hy
  · cases ry with
    | non => cases rz; exact SeqAt.EqAt.none_tuple hl hu
    | bl b => cases rz; exact SeqAt.EqAt.bool_tuple b hl hu
    | int b => obtain ⟨t, rfl⟩ := rz; exact SeqAt.EqAt.int_tuple b t hl hu
    | str hs => obtain ⟨t, rfl⟩ := rz; exact SeqAt.EqAt.str_tuple _ t hl hu
    | _ => simp [D.scal] at hy

/-- what is known of the module's constant dicts -/
structure GdOk (K : PySem.W.Frag) (w : World) (Gd : Str → Addr → Prop) (g : Cst) : Prop where
  ok : ∀ x a, Gd x a → ∃ (es : Array DictEntry) (n : Nat), KDict K w a es n ∧ ∀ kvs, g.gds.lookup x = some kvs → ∀ z : Str, ∃ r, PySem.W.nsIn K a z = some r ∧
    ((valD kvs (.inr z) = none ∧ r = none) ∨ ∃ d v u, valD kvs (.inr z) = some d ∧ r = some u ∧ RelV v u ∧ ∀ H ι, RD K Gd H ι d v)

theorem RKv.val (k : Key) : ∀ {ds : List (Key × D)} {vs : List (Key × V)}, RKv K Gd H ι ds vs → (valD ds k = none ∧ valV vs k = none) ∨ ∃ d v, valD ds k = some d ∧ valV vs k = some v ∧ RD K Gd H ι d v
  | _, _, .nil => .inl ⟨rfl, rfl⟩
  | (l, d) :: ds, (_, v) :: vs, .cons _ h t => by
    by_cases e : l = k
    · refine .inr ⟨d, v, ?_, ?_, h⟩
      · simp [valD, List.find?_cons, e]
      · exact valV_pos e
    · have e1 : valD ((l, d) :: ds) k = valD ds k := by simp [valD, List.find?_cons, e]
      have e2 : valV ((l, v) :: vs) k = valV vs k := valV_neg e
      rw [e1, e2]
      exact RKv.val k t
theorem RKv.any (k : Key) : ∀ {ds : List (Key × D)} {vs : List (Key × V)}, RKv K Gd H ι ds vs → (ds.any fun kv => decide (kv.1 = k)) = vs.any fun kv => decide (kv.1 = k)
  | _, _, .nil => rfl
  | _, _, .cons _ _ t => by rw [List.any_cons, List.any_cons, RKv.any k t]
theorem RKv.put {k : Key} {x : D} {u : V} (gk : keyG k = true) (r : RD K Gd H ι x u) {ds : List (Key × D)} {vs : List (Key × V)} (h : RKv K Gd H ι ds vs) : RKv K Gd H ι (putD ds k x) (putK vs k u) := by
  have rep : ∀ {ds : List (Key × D)} {vs : List (Key × V)}, RKv K Gd H ι ds vs → RKv K Gd H ι (ds.map fun kv => if kv.1 = k then (kv.1, x) else kv) (vs.map fun kv => if kv.1 = k then (kv.1, u) else kv) := fun {ds vs} h => by
    induction h with
    | nil => exact .nil
    | cons g h t ih =>
      rename_i l d ds v vs
      simp only [List.map_cons]
      by_cases e : l = k
      · simp only [e, if_true]; exact .cons gk r ih
      · simp only [e, if_false]; exact .cons g h ih
  have app : ∀ {ds : List (Key × D)} {vs : List (Key × V)}, RKv K Gd H ι ds vs → RKv K Gd H ι (ds ++ [(k, x)]) (vs ++ [(k, u)]) := fun {ds vs} h => by
    induction h with
    | nil => exact .cons gk r .nil
    | cons g h t ih => exact .cons g h ih
  unfold putD putK
  rw [h.any k]
  split
  · exact rep h
  · exact app h
theorem key_good {d : D} {v : V} {k : Key} (r : RD K Gd H ι d v) (e : toKey d = some k) : keyG k = true := by
  cases r <;> simp [toKey] at e <;> subst e
  · rfl
  · assumption
theorem key_rdD {k : Key} (h : keyG k = true) : RD K Gd H ι (keyD k) (kV k) := by
  cases k with
  | inl i => exact .int i
  | inr s => exact .str h
theorem RKv.get {kvs : List (Key × D)} {vs : List (Key × V)} (r : RKv K Gd H ι kvs vs) : ∀ {i : Nat} {k : Key} {v : V}, vs[i]? = some (k, v) → ∃ d, kvs[i]? = some (k, d) ∧ keyG k = true ∧ RD K Gd H ι d v := by
  induction r with
  | nil => intro i k v h; simp at h
  | cons g h t ih =>
    intro i k v e
    cases i with
    | zero =>
      simp at e
      obtain ⟨rfl, rfl⟩ := e
      exact ⟨_, rfl, g, h⟩
    | succ i =>
      simp only [List.getElem?_cons_succ] at e ⊢
      exact ih e
theorem RKv.keys {kvs : List (Key × D)} {vs : List (Key × V)} (r : RKv K Gd H ι kvs vs) : vs.map (·.1) = kvs.map (·.1) ∧ ∀ k ∈ kvs.map (·.1), keyG k = true := by
  induction r with
  | nil => exact ⟨rfl, fun k h => by simp at h⟩
  | cons g h t ih =>
    refine ⟨by simp [ih.1], fun k hk => ?_⟩
    simp only [List.map_cons, List.mem_cons] at hk
    rcases hk with rfl | hk
    · exact g
    · exact ih.2 k hk
theorem key_rd {d : D} {v : V} {k : Key} (r : RD K Gd H ι d v) (e : toKey d = some k) : v = kV k := by
  cases r <;> simp [toKey] at e <;> subst e <;> rfl

theorem str_one {x : Str} {c : Nat} (h : x.cps.toList = [c]) : x = ⟨#[c]⟩ := by
  cases x with
  | mk cps =>
    have : cps = #[c] := by
      have := congrArg List.toArray h
      simpa using this
    rw [this]
theorem mem_ok {g : Cst} (G : GdOk X.K X.w Gd g) (hu : X.A.units + 65 < cLine) (neg : Bool) {f : Value → Value → Sem Value} (hf : f = compareOp (if neg then .NotIn else .In)) :
    OpR X f (rC X.K Gd fun a b S => (cmpD.memD g a b S).map fun k => if neg then !k else k) := by
  intro pins s σ H x y v u Q I rx ry h
  obtain ⟨ι, S, a, b, k, R, ra, rb, e, q⟩ := h
  simp only [Option.map_eq_some_iff] at e
  obtain ⟨k, e, rfl⟩ := e
  have hu1 : X.A.units + 1 < cLine := by omega
  -- a list or a tuple
  have seqs : ∀ (xs : List D), seqOf S b = some xs → inD S a xs = some k → wpAny (model X.prog X.w) X.A (f v u) (EP X pins σ Q) X.xe s := fun xs e0 e1 => by
    obtain ⟨l, vs, rfl, rs, hl⟩ := seqOf_rd R rb e0
    cases ry
    have data : ∀ p ps, pd S 60 a = some p → mapO (pd S 59) xs = some ps → Q (.bl (if neg then !(ps.any fun z => PyData.eqv z p) else ps.any fun z => PyData.eqv z p)) H → wpAny (model X.prog X.w) X.A (f v (.ref l)) (EP X pins σ Q) X.xe s := fun p ps e2 e3 q => by
      obtain ⟨a1, a2, a3⟩ := pd_ok R 60 a x p ra e2
      obtain ⟨b1, b2, b3⟩ := seqs_ok (fun d v p => pd_ok R 59 d v p) rs e3
      obtain ⟨as, r1⟩ := Dp.reads I p x v a1 rx
      subst hf
      rcases hl with hl | hl
      · obtain ⟨bs, r2⟩ := Dp.reads I (.list ps) (.ref l) (.ref l) (.lst hl b1) rfl
        cases neg with
        | false => exact SeqAt.in_list_reads r2 r1 b2 a2 (by omega) ⟨.bl _, H, I, rfl, q⟩
        | true => exact SeqAt.notIn_list_reads r2 r1 b2 a2 (by omega) ⟨.bl _, H, I, rfl, q⟩
      · obtain ⟨bs, r2⟩ := Dp.reads I (.tuple ps) (.ref l) (.ref l) (.tup hl b1) rfl
        cases neg with
        | false => exact SeqAt.in_tuple_reads r2 r1 b2 a2 (by omega) ⟨.bl _, H, I, rfl, q⟩
        | true => exact SeqAt.notIn_tuple_reads r2 r1 b2 a2 (by omega) ⟨.bl _, H, I, rfl, q⟩
    simp only [inD] at e1
    split at e1
    · rename_i hs
      simp only [Bool.and_eq_true] at hs
      cases e1
      obtain ⟨p, _, _, _, e2⟩ := scal_dp ra hs.1
      obtain ⟨ps, e3, _⟩ := scal_pds rs hs.2
      rw [any_eqS hs.1 (e2 S 60) hs.2 (e3 S 60)] at q
      exact data p ps (e2 S 60) (e3 S 59) q
    · split at e1
      · rename_i hs
        simp only [Bool.and_eq_true] at hs
        cases e1
        subst hf
        have at_ : ∀ {its : List Value}, Vals vs its → ∀ z, z ∈ its.toArray → SeqAt.EqAt X.A.in1 s z v ((fun _ : Value => false) z) := fun {its} rv z hz => by
          obtain ⟨i, hi⟩ := List.mem_iff_getElem?.mp (show z ∈ its by simpa using hz)
          obtain ⟨zv, hzv, rz⟩ : ∃ zv, vs[i]? = some zv ∧ RelV zv z := by
            cases hq : vs[i]? with
            | none => rw [rv.none_of hq] at hi; cases hi
            | some zv =>
              obtain ⟨u', h1, h2⟩ := rv.get hq
              rw [hi] at h1; cases h1
              exact ⟨zv, rfl, h2⟩
          obtain ⟨d, hd, rd⟩ := rs.get' hzv
          have hsc := List.all_eq_true.mp hs.2 d (List.mem_of_getElem? hd)
          exact flat_eqAt I R ra hs.1 rx rd hsc rz (by show X.A.units + 1 < cLine; omega)
        have none_ : ∀ its : List Value, (its.toArray.any fun _ : Value => false) = false := fun its => by
          rw [Array.any_eq_false]
          intro i hi
          exact Bool.false_ne_true
        rcases hl with hl | hl
        · obtain ⟨its, rv, pl, _⟩ := I.list hl
          cases neg with
          | false => exact SeqAt.in_listAt _ pl.isList (at_ rv) (by rw [none_]; exact ⟨.bl _, H, I, rfl, q⟩)
          | true => exact SeqAt.notIn_listAt _ pl.isList (at_ rv) (by rw [none_]; exact ⟨.bl _, H, I, rfl, q⟩)
        · obtain ⟨its, rv, pl, _⟩ := I.tuple hl
          cases neg with
          | false => exact SeqAt.in_tupleAt _ pl (at_ rv) (by rw [none_]; exact ⟨.bl _, H, I, rfl, q⟩)
          | true => exact SeqAt.notIn_tupleAt _ pl (at_ rv) (by rw [none_]; exact ⟨.bl _, H, I, rfl, q⟩)
      · split at e1 <;> cases e1
        rename_i e2 e3
        exact data _ _ e2 e3 q
  unfold cmpD.memD at e
  split at e
  · -- a text in a text
    cases e
    rename_i z1 z2
    cases ra
    cases rb
    subst hf
    by_cases hc : ∃ c, z1.cps.toList = [c]
    · obtain ⟨c, hc⟩ := hc
      have e1 := str_one hc
      subst e1
      cases neg with
      | false => exact op_in_sign pins s σ H _ _ v u Q I rx ry ⟨_, _, rfl, rfl, q⟩
      | true => exact op_notIn_sign pins s σ H _ _ v u Q I rx ry ⟨_, _, rfl, rfl, q⟩
    · have e1 : strIn z1 z2 = !(Builtin.Str.occurrences z2 z1 0 z2.length 1).isEmpty := by
        unfold strIn
        split
        · rename_i c hc2
          exact absurd ⟨c, hc2⟩ hc
        · rfl
      rw [e1] at q
      cases neg with
      | false => exact op_in_str pins s σ H _ _ v u Q I rx ry ⟨_, _, rfl, rfl, q⟩
      | true => exact L2.op_notIn_str pins s σ H _ _ v u Q I rx ry ⟨_, _, rfl, rfl, q⟩
  · -- a constant dict
    rename_i z n
    split at e <;> cases e
    rename_i kvs e0
    cases ra
    cases rb with
    | gd hg =>
      obtain ⟨es, m, KD, hk⟩ := G.ok _ _ hg
      obtain ⟨r, hr, hh⟩ := hk kvs e0 z
      have hs : (valD kvs (.inr z)).isSome = r.isSome := by
        rcases hh with ⟨h1, h2⟩ | ⟨d, v, u, h1, h2, _⟩ <;> (rw [h1, h2]; rfl)
      rw [hs] at q
      subst hf
      cases neg with
      | false => exact op_in_kd KD pins s σ H _ _ v u Q I rx ry ⟨z, r, rfl, rfl, hr, q⟩
      | true => exact op_notIn_kd KD pins s σ H _ _ v u Q I rx ry ⟨z, r, rfl, rfl, hr, q⟩
  · -- a dict
    rename_i n _ _
    split at e <;> cases e
    rename_i kvs ky e1 e2
    cases rb with
    | loc hl =>
      obtain ⟨vs, h1, h2⟩ := R.dctR_at e1 hl
      have hx := key_rd ra e2
      subst hx
      cases ry
      have hs : (valD kvs ky).isSome = (valV vs ky).isSome := by
        rcases h2.val ky with ⟨e3, e4⟩ | ⟨d, v, e3, e4, _⟩ <;> (rw [e3, e4]; rfl)
      rw [hs] at q
      subst hf
      cases neg with
      | false => exact d_in hu1 I (dget_r h1) rx fun s' I' => ⟨.bl _, H, I', rfl, q⟩
      | true => exact d_notIn hu1 I (dget_r h1) rx fun s' I' => ⟨.bl _, H, I', rfl, q⟩
  · split at e
    · rename_i xs e0
      exact seqs xs e0 e
    · cases e
end
end CV

set_option Elab.async false
set_option linter.all false
set_option maxRecDepth 100000
set_option maxHeartbeats 4000000
/-! CvU: repr of lists, tuples, dicts. -/
namespace CV
open PySem PySem.Spec PyProof.Rows L2

theorem strOk_append (a b : Str) : PyData.strOk (a ++ b) = (PyData.strOk a && PyData.strOk b) := by
  show (a.cps ++ b.cps).all _ = _
  rw [Array.all_append]
  rfl
theorem strOk_of (s : String) : PyData.strOk (Str.ofString s) = true := by
  rw [Str.ofString_eq_toList]
  unfold PyData.strOk
  simp only [List.all_toArray, List.all_map, List.all_eq_true, Function.comp_apply, decide_eq_true_eq]
  intro c _
  have h := c.valid
  have h2 : c.toNat < 0x110000 := by
    rcases h with h | ⟨_, h⟩
    · exact Nat.lt_trans h (by decide)
    · exact h
  exact h2
theorem strLen (a b : Str) : (a ++ b).length = a.length + b.length := strLen_append a b
theorem textFrom_okS : ∀ (ts : List Str) (k : Nat) (acc : Str), PyData.strOk acc = true → (∀ t ∈ ts, PyData.strOk t = true) → PyData.strOk (textFrom k acc ts) = true
  | [], _, _, h, _ => h
  | t :: ts, k, acc, h, g => textFrom_okS ts (k + 1) _ (by
      rw [strOk_append, strOk_append, h, g t (by simp), strOk_of]
      rfl) fun u hu => g u (by simp [hu])
theorem join_okS (sep : Str) (hs : PyData.strOk sep = true) : ∀ ts : List Str, (∀ t ∈ ts, PyData.strOk t = true) → PyData.strOk (Str.join sep ts) = true
  | [], _ => by rw [Str.join]; decide +kernel
  | [x], g => g x (by simp)
  | x :: y :: r, g => by
    show PyData.strOk (x ++ sep ++ Str.join sep (y :: r)) = true
    rw [strOk_append, strOk_append, g x (by simp), hs, join_okS sep hs (y :: r) fun u hu => g u (by simp at hu; simp [hu])]
    rfl
theorem listText_len : ∀ ts : List Str, (listText ts).length ≤ piled ts + 3
  | [] => by decide
  | t :: r => by
    have h := textFrom_length_pos r 1 (("[" : Str) ++ (if (0 : Nat) > 0 then ", " else "" : String) ++ t) (Nat.succ_pos 0)
    have e : ((("[" : Str) ++ (if (0 : Nat) > 0 then ", " else "" : String) ++ t)).length = 1 + t.length := by
      rw [strLen_append, strLen_append]; rfl
    have hX : (listText (t :: r)).length = (textFrom 0 "[" (t :: r)).length + 1 := by
      show (textFrom 0 "[" (t :: r) ++ "]").length = _
      rw [strLen_append]; rfl
    have hY : (textFrom 0 "[" (t :: r)).length = (textFrom 1 (("[" : Str) ++ (if (0 : Nat) > 0 then ", " else "" : String) ++ t) r).length := rfl
    rw [hX, hY, h, e, piled_cons]; omega
theorem join_len (ts : List Str) : (Str.join ", " ts).length ≤ piled ts := by
  cases ts with
  | nil => exact Nat.le_refl _
  | cons x r =>
    have := join_length_add (x :: r) (by simp)
    omega
theorem tupleText_len (ts : List Str) : (tupleText ts).length ≤ piled ts + 3 := by
  unfold tupleText
  rw [strLen_append, strLen_append]
  have e1 : ((("(" : String) : Str)).length = 1 := rfl
  have e3 : (((if ts.length == 1 then ",)" else ")" : String) : Str)).length ≤ 2 := by split <;> decide
  have := join_len ts
  omega
theorem dictText_len (ts : List Str) : (dictText ts).length ≤ piled ts + 3 := by
  have e : (dictText ts).length = 1 + (Str.join ", " ts).length + 1 := by
    unfold dictText
    rw [strLen_append, strLen_append]; rfl
  have := join_len ts
  omega
mutual
theorem shown_len : ∀ p : PyData, p.shown.length ≤ wtP p
  | .none => by rw [PyData.shown, wtP]; decide
  | .bool b => by rw [PyData.shown, wtP]; cases b <;> decide
  | .int i => by rw [PyData.shown, wtP]; exact Nat.le_refl _
  | .str x => by rw [PyData.shown, wtP]; exact Nat.le_refl _
  | .list xs => by
    rw [PyData.shown, wtP]
    have := listText_len (PyData.shownAll xs)
    have := shownAll_len xs
    omega
  | .tuple xs => by
    rw [PyData.shown, wtP]
    have := tupleText_len (PyData.shownAll xs)
    have := shownAll_len xs
    omega
  | .dict kvs => by
    rw [PyData.shown, wtP]
    have := dictText_len (PyData.shownKv kvs)
    have := shownKv_len kvs
    omega
theorem shownAll_len : ∀ xs : List PyData, piled (PyData.shownAll xs) ≤ wtAll xs
  | [] => by rw [PyData.shownAll, wtAll]; decide
  | x :: xs => by
    rw [PyData.shownAll, wtAll, piled_cons]
    have := shown_len x
    have := shownAll_len xs
    omega
theorem shownKv_len : ∀ kvs : List (PyData × PyData), piled (PyData.shownKv kvs) ≤ wtKv kvs
  | [] => by rw [PyData.shownKv, wtKv]; decide
  | (k, v) :: r => by
    rw [PyData.shownKv, wtKv, piled_cons, strLen, strLen]
    have := shown_len k
    have := shown_len v
    have := shownKv_len r
    have e : ((": " : String) : Str).length = 2 := rfl
    omega
end
mutual
theorem shown_ok : ∀ p : PyData, okP p = true → PyData.strOk p.shown = true
  | .none, _ => by rw [PyData.shown]; exact strOk_of _
  | .bool b, _ => by rw [PyData.shown]; cases b <;> exact strOk_of _
  | .int i, _ => by rw [PyData.shown]; exact strOk_of _
  | .str x, h => by rw [PyData.shown]; simpa [okP] using h
  | .list xs, h => by
    have g := shownAll_ok xs (by simpa [okP] using h)
    rw [PyData.shown]
    unfold listText
    rw [strOk_append, textFrom_okS _ _ _ (strOk_of _) g, strOk_of]
    rfl
  | .tuple xs, h => by
    have g := shownAll_ok xs (by simpa [okP] using h)
    rw [PyData.shown]
    unfold tupleText
    rw [strOk_append, strOk_append, join_okS _ (strOk_of _) _ g, strOk_of, strOk_of]
    rfl
  | .dict kvs, h => by
    have g := shownKv_ok kvs (by simpa [okP] using h)
    rw [PyData.shown]
    unfold dictText
    rw [strOk_append, strOk_append, join_okS _ (strOk_of _) _ g, strOk_of, strOk_of]
    rfl
theorem shownAll_ok : ∀ xs : List PyData, okAll xs = true → ∀ t ∈ PyData.shownAll xs, PyData.strOk t = true
  | [], _, t, ht => by rw [PyData.shownAll] at ht; cases ht
  | x :: xs, h, t, ht => by
    have h' : okP x = true ∧ okAll xs = true := by simpa [okAll] using h
    rw [PyData.shownAll] at ht
    rcases List.mem_cons.mp ht with rfl | ht
    · exact shown_ok x h'.1
    · exact shownAll_ok xs h'.2 t ht
theorem shownKv_ok : ∀ kvs : List (PyData × PyData), okKv kvs = true → ∀ t ∈ PyData.shownKv kvs, PyData.strOk t = true
  | [], _, t, ht => by rw [PyData.shownKv] at ht; cases ht
  | (k, v) :: r, h, t, ht => by
    have h' : (okP k = true ∧ okP v = true) ∧ okKv r = true := by simpa [okKv] using h
    rw [PyData.shownKv] at ht
    rcases List.mem_cons.mp ht with rfl | ht
    · rw [strOk_append, strOk_append, shown_ok k h'.1.1, shown_ok v h'.1.2, strOk_of]
      rfl
    · exact shownKv_ok r h'.2 t ht
end
theorem shown_good {p : PyData} (h : okP p = true) (w : wtP p ≤ cap) : strGood p.shown = true := by
  unfold strGood
  rw [Bool.and_eq_true, decide_eq_true_eq]
  exact ⟨Nat.le_trans (shown_len p) w, shown_ok p h⟩

section
variable {X : Cx} {Gd : Str → Addr → Prop} {H : Hp} {ι : Loc} {S : Sto} {pins : List (Addr × Obj)} {σ : L2.St} {s : Shared}
mutual
/-- what has no lists reads without them -/
theorem pdT_reads (I : Inv X pins σ H s) : ∀ (k : Nat) (d : D) (v : V) (u : Value) (p : PyData), RD X.K Gd H ι d v → RelV v u → pdT k d = some p → Reads s.heap u p [] ∧ p.depth ≤ k
  | k, d, v, u, p, r, ru, h => by
    cases r with
    | non => cases ru; cases k <;> (simp [pdT] at h; subst h; exact ⟨.none, by simp [PyData.depth]⟩)
    | bl b => cases ru; cases k <;> (simp [pdT] at h; subst h; exact ⟨.bool b, by simp [PyData.depth]⟩)
    | int b => obtain ⟨t, rfl⟩ := ru; cases k <;> (simp [pdT] at h; subst h; exact ⟨.int b t, by simp [PyData.depth]⟩)
    | str hs => obtain ⟨t, rfl⟩ := ru; cases k <;> (simp [pdT] at h; subst h; exact ⟨.str _ t, by simp [PyData.depth]⟩)
    | tup ht hr =>
      cases k with
      | zero => simp [pdT] at h
      | succ k =>
        simp only [pdT, Option.map_eq_some_iff] at h
        obtain ⟨ps, e, rfl⟩ := h
        obtain ⟨its, rv, ⟨o, ho, hc, n, hd⟩, _⟩ := I.tuple ht
        obtain ⟨q, z⟩ := pdTs_reads I k _ _ _ ps hr rv e
        cases ru
        exact ⟨.tuple ho hc hd (by simpa using q), by simp only [PyData.depth]; omega⟩
    | loc hl => cases k <;> simp [pdT] at h
    | scr hs => cases k <;> simp [pdT] at h
    | gd hg => cases k <;> simp [pdT] at h
  termination_by k d => (k, 1, 0)
theorem pdTs_reads (I : Inv X pins σ H s) : ∀ (k : Nat) (ds : List D) (vs : List V) (us : List Value) (ps : List PyData), RDs X.K Gd H ι ds vs → Vals vs us → mapO (pdT k) ds = some ps → ReadsAll s.heap us ps [] ∧ PyData.depthAll ps ≤ k
  | k, [], vs, us, ps, r, ru, h => by
    simp [mapO] at h
    subst h
    cases r
    cases ru
    exact ⟨.nil, by simp [PyData.depthAll]⟩
  | k, d :: ds, vs, us, ps, r, ru, h => by
    simp only [mapO] at h
    split at h <;> try cases h
    rename_i y e1
    split at h <;> cases h
    rename_i zs e2
    cases r with
    | cons r1 r2 =>
      cases ru with
      | cons u1 u2 =>
        obtain ⟨q1, z1⟩ := pdT_reads I k d _ _ y r1 u1 e1
        obtain ⟨q2, z2⟩ := pdTs_reads I k ds _ _ zs r2 u2 e2
        refine ⟨ReadsAll.cons q1 q2, ?_⟩
        simp only [PyData.depthAll]
        omega
  termination_by k ds => (k, 2, ds.length)
end
theorem keyPd_reads {h : Heap} {k : Key} {u : Value} (q : keyIs k u = true) : Reads h u (keyPd k) [] ∧ (keyPd k).depth = 0 := by
  rcases keyIs_shape q with ⟨i, t, rfl, rfl⟩ | ⟨x, t, rfl, rfl⟩
  · exact ⟨.int i t, by simp [keyPd, PyData.depth]⟩
  · exact ⟨.str x t, by simp [keyPd, PyData.depth]⟩
theorem kv_reads (I : Inv X pins σ H s) : ∀ (kvs : List (Key × D)) (vs : List (Key × V)) (ws : List (Key × Value)) (es : List DictEntry) (ps : List (PyData × PyData)),
    RKv X.K Gd H ι kvs vs → KV vs ws → PySem.Pairs (mixKind X.prog X.w) es ws → mapO kvPd kvs = some ps →
    ReadsAll s.heap (es.map (·.key)) (ps.map (·.1)) [] ∧ ReadsAll s.heap (es.map (·.val)) (ps.map (·.2)) [] ∧ PyData.depthKv ps ≤ 50
  | [], _, _, _, ps, r, rv, rp, h => by
    simp [mapO] at h
    subst h
    cases r
    cases rv
    cases rp
    exact ⟨.nil, .nil, by simp [PyData.depthKv]⟩
  | (k, d) :: kvs, _, _, _, ps, r, rv, rp, h => by
    simp only [mapO] at h
    split at h <;> try cases h
    rename_i y e1
    split at h <;> cases h
    rename_i zs e2
    simp only [kvPd, Option.map_eq_some_iff] at e1
    obtain ⟨p, e1, rfl⟩ := e1
    cases r with
    | cons _ r1 r2 =>
      cases rv with
      | cons v1 v2 =>
        cases rp with
        | cons p1 p2 p3 =>
          obtain ⟨a1, a2, a3⟩ := kv_reads I kvs _ _ _ zs r2 v2 p3 e2
          have hk := v1.1
          dsimp only at hk
          subst hk
          obtain ⟨b1, b2⟩ := keyPd_reads (h := s.heap) (show keyIs _ _ = true from p1)
          obtain ⟨c1, c2⟩ := pdT_reads I 50 d _ _ p r1 v1.2 e1
          have c3 := p2.symm ▸ c1
          refine ⟨ReadsAll.cons b1 a1, ReadsAll.cons (as := []) (bs := []) c3 a2, ?_⟩
          simp only [PyData.depthKv]
          omega
theorem call_repr (hg : X.A.guards = some []) (hu : X.A.units + 65 < cLine) : CallR X (.builtin "repr") (fun xs H Q => ∃ ι S d v p r, Rel X.K Gd H ι S ∧ RD X.K Gd H ι d v ∧ xs = [v] ∧ reprD S d = some p ∧ reprP p = some r ∧ Post X.K Gd H ι (r, S) Q) := by
  intro pins s σ H xs us Q I r h
  obtain ⟨ι, S, d, v, p, r, R, rv, rfl, e0, e1, q⟩ := h
  unfold reprP at e1
  split at e1 <;> cases e1
  rename_i z
  simp only [Bool.and_eq_true, decide_eq_true_eq] at z
  obtain ⟨⟨z1, z2⟩, z3⟩ := z
  have good := shown_good z2 z3
  obtain ⟨u, rfl, ru⟩ := vals1 r
  have hsz : p.shown.length ≤ sizeLine := by
    rw [← cap_eq]
    exact Nat.le_trans (shown_len p) z3
  have main : ∀ a as, u = .ref a → Reads s.heap (.ref a) p as → (p.hasDict = true → sysModules ∉ as) → p.depth ≤ 60 → wpAny (model X.prog X.w) X.A (call (.builtin "repr") [u]) (EP X pins σ Q) X.xe s := fun a as ea rd hs hd => by
    subst ea
    refine repr_of_reads' rd z1 hs hg (by omega) (fun b o e => e) (fun h' t tk k => ?_) hsz
    exact ⟨.str p.shown, H, I.kept k, ⟨t, rfl⟩, q.at_ R (.str good)⟩
  have plain : pd S 60 d = some p → (∃ a, v = .ref a) → wpAny (model X.prog X.w) X.A (call (.builtin "repr") [u]) (EP X pins σ Q) X.xe s := fun e ⟨a, ea⟩ => by
    obtain ⟨b1, b2, b3⟩ := pd_ok R 60 d v p rv e
    obtain ⟨as, b4⟩ := Dp.reads I p v u b1 ru
    subst ea
    cases ru
    exact main a as rfl b4 (PyData.noDict_hsm (PyData.hasDict_of_canLay p b2)) b3
  cases d with
  | tup xs =>
    refine plain e0 ?_
    cases rv
    exact ⟨_, rfl⟩
  | loc k n =>
    cases k with
    | lst =>
      refine plain e0 ?_
      cases rv
      exact ⟨_, rfl⟩
    | dct =>
      simp only [reprD] at e0
      split at e0 <;> try cases e0
      rename_i kvs e3
      simp only [Option.map_eq_some_iff] at e0
      obtain ⟨ps, e4, rfl⟩ := e0
      cases rv with
      | loc hl =>
        rename_i a
        obtain ⟨vs, h1, h2⟩ := R.dct_at e3 hl
        obtain ⟨_, hs, ws, rel, o, es, ep, ho, hc, hd, _, hp, _⟩ := dk_of I.hok h1
        obtain ⟨a1, a2, a3⟩ := kv_reads I kvs vs ws es.toList ps h2 rel hp e4
        cases ru
        refine main a _ rfl (.dict ho hc.1 hd a1 a2) (fun _ hm => ?_) (by simp only [PyData.depth]; omega)
        simp at hm
        rw [hm] at hs
        simp at hs
  | _ => simp [reprD] at e0
end
end CV

set_option Elab.async false
set_option linter.all false
set_option maxRecDepth 100000
set_option maxHeartbeats 4000000
/-! CvY: sets of texts made of lists, and sorted. -/
namespace CVY
open PySem PySem.Spec PyProof.Rows L2

def sKey (e : Int × Value) : Str := match e.2 with
  | .str x _ => x
  | _ => Str.empty
def SGood (P : Program) (w : World) (e : Int × Value) : Prop := ∃ x t, e.2 = Value.str x t ∧ e.1 = (PySem.strKind P w).hash x
/-- the set of texts at a -/
def TxR (P : Program) (w : World) (h : Heap) (a : Addr) (M : Str → Bool) (c : Nat) : Prop :=
  ∃ o es ep t, h.get? a = some o ∧ o.ExactSet ∧ o.data = .set es ep t ∧ ((∀ e ∈ es.toList, SGood P w e) ∧ (es.toList.map sKey).Nodup ∧ (∀ x, M x = true ↔ x ∈ es.toList.map sKey)) ∧
    es.size < scanBound ∧ t.fits es.size = true ∧ es.size = c ∧ Ris t.place.toList ∧ (w.params.followText "set-order" = true ∨ t.led = true)
/-- a set as it is laid -/
def set0 (w : World) : Obj := { cls := .type "set", dict := none, data := .set #[] 0 (.fresh 0 0 (!w.params.followText "set-order")) }
section
variable {P : Program} {w : World} {h h' : Heap} {a : Addr} {M : Str → Bool} {c : Nat}
theorem TxR.move (R : TxR P w h a M c) (k : ∀ o, h.get? a = some o → h'.get? a = some o) : TxR P w h' a M c := by
  obtain ⟨o, es, ep, t, ho, r⟩ := R
  exact ⟨o, es, ep, t, k o ho, r⟩
theorem TxR.eqv {M' : Str → Bool} (R : TxR P w h a M c) (e : ∀ x, M' x = M x) : TxR P w h a M' c := (funext e : M' = M) ▸ R
theorem sElems {l : List (Int × Value)} (g : ∀ e ∈ l, SGood P w e) : ElemsOf (PySem.strKind P w) l := fun e he => by
  obtain ⟨x, t, h1, h2⟩ := g e he
  exact ⟨⟨x, by rw [h1]; exact strKind_is P w x t, h2⟩, by rw [h1] <;> rfl⟩
theorem sIs {e : Int × Value} (g : SGood P w e) (x : Str) : (PySem.strKind P w).is x e.2 = true ↔ sKey e = x := by
  obtain ⟨y, t, h1, _⟩ := g
  unfold sKey
  rw [h1]
  constructor
  · intro q
    exact (PySem.strKind P w).inj _ _ _ (strKind_is P w y t) q
  · rintro rfl
    exact strKind_is P w _ t
theorem sMem {l : List (Int × Value)} (g : ∀ e ∈ l, SGood P w e) (x : Str) : x ∈ l.map sKey ↔ ∃ e ∈ l, (PySem.strKind P w).is x e.2 = true := by
  rw [List.mem_map]
  exact ⟨fun ⟨e, he, q⟩ => ⟨e, he, (sIs (g e he) x).2 q⟩, fun ⟨e, he, q⟩ => ⟨e, he, (sIs (g e he) x).1 q⟩⟩
theorem TxR.fresh (ho : h.get? a = some (set0 w)) : TxR P w h a (fun _ => false) 0 := by
  refine ⟨set0 w, #[], 0, _, ho, ⟨rfl, rfl, rfl⟩, rfl, ⟨fun e he => by simp at he, by simp, fun k => by simp⟩, by decide, by rfl, rfl, List.Pairwise.nil, ?_⟩
  show _ ∨ (!w.params.followText "set-order") = true
  cases w.params.followText "set-order"
  · exact .inr rfl
  · exact .inl rfl
end
section
variable {P : Program} {w : World} {A : Around} {E : Value → Shared → Prop} {s : Shared} {a : Addr} {M : Str → Bool} {c : Nat}
theorem tx_tail {g : Bool → Sem Unit} (hg : ∀ (b : Bool) (s₁ : Shared) (Q' : Unit → Shared → Prop), Q' () s₁ → wpAny (model P w) A (g b) Q' E s₁)
    {o : Obj} {es : Array (Int × Value)} {ep : Nat} {t : SetTable} (ho : s.heap.get? a = some o) (hex : o.ExactSet) (hd : o.data = .set es ep t) {es1 : Array (Int × Value)} {t2 : SetTable} {M' : Str → Bool}
    (g1 : (∀ e ∈ es1.toList, SGood P w e) ∧ (es1.toList.map sKey).Nodup ∧ (∀ x, M' x = true ↔ x ∈ es1.toList.map sKey))
    (hb1 : es1.size < scanBound) (hf2 : t2.fits es1.size = true) (hr : Ris t2.place.toList) (hl : w.params.followText "set-order" = true ∨ t2.led = true) {wd : Bool} {R : Option Bool → Shared → Prop}
    (hR : ∀ h', Heap.SameBut a s.heap h' → TxR P w h' a M' es1.size → R (some true) { s with heap := h' }) :
    wpAny (model P w) A (storeSet a es1 t2 >>= fun _ => if (!wd && t2.tooFull) = true then (do
        g (relayAll t2 es1 (SetTable.grown es1.size)).2.2
        storeSet a (relayAll t2 es1 (SetTable.grown es1.size)).1 (relayAll t2 es1 (SetTable.grown es1.size)).2.1
        pure (some true)) else pure (some true)) R E s := by
  refine wpAny_bind (wpAny_storeSet_of ho hd ?_ (fits_of_scanBound hb1))
  have ho1 := store_at (es' := es1) (t' := t2) ho hd
  have sb1 := Heap.SameBut.update s.heap a (Obj.putSet es1 t2)
  by_cases hc : (!wd && t2.tooFull) = true
  · rw [if_pos hc]
    have f1 := relayAll_perm t2 es1 (SetTable.grown es1.size)
    have f2 := relayAll_fits t2 es1 (SetTable.grown es1.size)
    have f3 := relayAll_ris t2 es1 (SetTable.grown es1.size)
    have f4 := relayAll_led t2 es1 (SetTable.grown es1.size)
    revert f1 f2 f3 f4
    rcases relayAll t2 es1 (SetTable.grown es1.size) with ⟨es2, t3, gv⟩
    intro f1 f2 f3 f4
    dsimp only at f1 f2 f3 f4 ⊢
    have sz : es2.size = es1.size := by rw [← Array.length_toList, f1.length_eq, Array.length_toList]
    have lim : es2.size < scanBound := sz ▸ hb1
    refine wpAny_bind (hg _ _ _ (wpAny_bind (wpAny_storeSet_of ho1 rfl ?_ (fits_of_scanBound lim))))
    have ho2 := store_at (es' := es2) (t' := t3) ho1 rfl
    refine wpAny_pure (hR _ (sb1.trans (Heap.SameBut.update _ a _)) ⟨_, es2, _, t3, ho2, hex, rfl, ⟨fun e he => g1.1 e (f1.mem_iff.mp he), (f1.map sKey).nodup_iff.mpr g1.2.1, fun x => ?_⟩, lim, f2, sz, f3, ?_⟩)
    · rw [g1.2.2 x]
      exact (f1.map sKey).mem_iff.symm
    · rcases hl with z | z
      · exact .inl z
      · exact .inr (f4.trans z)
  · rw [if_neg hc]
    exact wpAny_pure (hR _ sb1 ⟨_, es1, _, t2, ho1, hex, rfl, g1, hb1, hf2, rfl, hr, hl⟩)
theorem tx_add {x : Str} {tk : Tok} {Q : Bool → Shared → Prop} (R : TxR P w s.heap a M c) (room : c + 1 < scanBound)
    (hQ : ∀ h', Heap.SameBut a s.heap h' → TxR P w h' a (fun y => M y || decide (y = x)) (if M x = true then c else c + 1) → Q (!M x) { s with heap := h' }) :
    wpAny (model P w) A (setAddHashed a (.str x tk) ((PySem.strKind P w).hash x)) Q E s := by
  obtain ⟨o, es, ep, t, ho, hex, hd, ⟨gd, nd, hm⟩, hb, hf, hn, hr, hl⟩ := R
  have key : (PySem.strKind P w).is x (.str x tk) = true := strKind_is P w x tk
  have scn : (Value.str x tk).scannable = true := rfl
  have els : ElemsOf (PySem.strKind P w) es.toList := sElems gd
  unfold setAddHashed setAddHashedIn
  refine wpAny_holding (wpAny_bind (wpAny_setState_of ho hd hf ?_))
  dsimp only
  rw [byScan_of scn hb els]
  simp only [↓reduceIte]
  unfold setAddByScan
  refine wpAny_bind (wpAny_bind (wpAny_rule (wpAny_bind (wpAny_setScan_of key ho hd hf els ?_))))
  cases fi : List.findIdx? (fun e => (PySem.strKind P w).is x e.2) es.toList with
  | some j =>
    dsimp only
    obtain ⟨hj, pj, _⟩ := List.findIdx?_eq_some_iff_getElem.mp fi
    have inM : M x = true := (hm x).2 ((sMem (P := P) (w := w) gd x).2 ⟨es.toList[j], List.getElem_mem hj, pj⟩)
    have q := hQ s.heap (Heap.SameBut.refl a s.heap) ⟨o, es, ep, t, ho, hex, hd, ⟨gd, nd, fun y => by
      rw [Bool.or_eq_true, decide_eq_true_eq, ← hm y]
      exact ⟨fun z => z.elim id (fun e => e ▸ inM), .inl⟩⟩, hb, hf, by rw [if_pos inM]; exact hn, hr, hl⟩
    rw [inM] at q
    exact wpAny_pure (wpAny_pure q)
  | none =>
    dsimp only
    have notin : x ∉ es.toList.map sKey := fun z => by
      obtain ⟨e, he, q⟩ := (sMem (P := P) (w := w) gd x).1 z
      have := List.findIdx?_eq_none_iff.mp fi e he
      rw [q] at this
      cases this
    have inM : M x = false := by
      cases q : M x with
      | false => rfl
      | true => exact absurd ((hm x).1 q) notin
    have told : ∀ (b : Bool) {s₁ : Shared} {Q' : Unit → Shared → Prop}, Q' () s₁ → wpAny (model P w) A (match b with | true => rule "set.scan.the-table-gave-way" | false => pure ()) Q' E s₁ :=
      fun b s₁ Q' q => by cases b <;> first | exact wpAny_pure q | exact wpAny_rule q
    have p1 := layNew_perm t es ((PySem.strKind P w).hash x) (.str x tk)
    have p2 := layNew_fits t es ((PySem.strKind P w).hash x) (.str x tk)
    have p3 := layNew_ris t es ((PySem.strKind P w).hash x) (.str x tk) hr
    have p4 := layNew_led t es ((PySem.strKind P w).hash x) (.str x tk)
    revert p1 p2 p3 p4
    rcases layNew t es ((PySem.strKind P w).hash x) (.str x tk) with ⟨es1, t1, wd, gv⟩
    intro p1 p2 p3 p4
    dsimp only at p1 p2 p3 p4 ⊢
    rw [Array.toList_push] at p1
    have pc : es1.toList.Perm (((PySem.strKind P w).hash x, Value.str x tk) :: es.toList) := p1.trans (List.perm_append_singleton _ _)
    have pk : (es1.toList.map sKey).Perm (x :: es.toList.map sKey) := pc.map sKey
    have gs : (∀ e ∈ es1.toList, SGood P w e) ∧ (es1.toList.map sKey).Nodup ∧ (∀ y, (M y || decide (y = x)) = true ↔ y ∈ es1.toList.map sKey) := by
      refine ⟨fun e he => ?_, pk.nodup_iff.mpr (List.nodup_cons.mpr ⟨notin, nd⟩), fun y => ?_⟩
      · rcases List.mem_cons.mp (pc.mem_iff.mp he) with z | z
        · rw [z]; exact ⟨x, tk, rfl, rfl⟩
        · exact gd e z
      · rw [Bool.or_eq_true, decide_eq_true_eq, hm y, pk.mem_iff, List.mem_cons]
        exact Or.comm
    have sz : es1.size = c + 1 := by rw [← Array.length_toList, pc.length_eq, List.length_cons, Array.length_toList, hn]
    have lim : es1.size < scanBound := by rw [sz]; exact room
    have led : w.params.followText "set-order" = true ∨ t1.led = true := by
      rcases hl with z | z
      · exact .inl z
      · exact .inr (p4.trans z)
    have fin : ∀ h', Heap.SameBut a s.heap h' → TxR P w h' a (fun y => M y || decide (y = x)) es1.size → Q true { s with heap := h' } := fun h' sb r => by
      have q := hQ h' sb
      rw [inM] at q
      rw [sz] at r
      exact q r
    refine wpAny_bind (told _ ?_)
    split
    · refine wpAny_bind ?_
      rw [hashByValue_scannable 8 scn]
      refine wpAny_pure (tx_tail (fun b s₁ Q' q => ?_) ho hex hd gs lim ?_ ?_ ?_ fun h' sb r => ?_)
      · cases b <;> first | exact wpAny_pure q | exact wpAny_rule q
      · first | (split <;> first | exact p2 | exact SetTable.fits_plain_off p2) | exact p2
      · first | (split <;> exact p3) | exact p3
      · first | (split <;> exact led) | exact led
      · dsimp only; exact wpAny_pure (fin h' sb r)
    · refine wpAny_bind (wpAny_pure ?_)
      simp only [↓reduceIte]
      refine tx_tail (fun b s₁ Q' q => ?_) ho hex hd gs lim p2 p3 led fun h' sb r => ?_
      · cases b <;> first | exact wpAny_pure q | exact wpAny_rule q
      · dsimp only; exact wpAny_pure (fin h' sb r)
theorem tx_loop {I : Addr} {fp wr : List Addr} {G : Array GenState → Array GenState → Prop} {n : Nat} {Pv : Nat → Value → Prop} {St : Nat → Shared → Prop} {R : Result → Shared → Prop}
    (W : WalksS P w A.in1 I fp wr G n Pv St) (T : Addr) (away : T ∉ fp) (xs : List Str) (hn : n = xs.length) (lim : xs.length + 1 < scanBound) (val : ∀ i v, Pv i v → ∃ x t, xs[i]? = some x ∧ v = .str x t) :
    ∀ (left i : Nat) (s : Shared), n - i = left → i ≤ n → St i s → (∃ c, c ≤ i ∧ TxR P w s.heap T (fun y => decide (y ∈ xs.take i)) c) →
      (∀ s' c, Moved (T :: wr) G s s' → c ≤ n → TxR P w s'.heap T (fun y => decide (y ∈ xs)) c → R (.ok (.ret .none)) s') →
      codeAny (model P w) A (.builtin "set.update.loop" ⟨[.ref T, .ref I], []⟩) R s := by
  have awayW : T ∉ wr := fun z => away (W.sub _ z)
  have more : ∀ b ∈ wr, b ∈ T :: wr := fun b hb => List.mem_cons_of_mem _ hb
  intro left
  induction left with
  | zero =>
    intro i s hk hi st ⟨c, hc, hS⟩ hR
    obtain rfl : i = n := by omega
    refine codeAny_builtin F.entry_set_update_loop ?_
    rw [Around.under_plainId F.plain_set_update_loop _]
    show wpAny _ A.in1 (pyNext (.ref I) >>= _) _ _ s
    rw [List.take_of_length_le (by omega)] at hS
    refine wpAny_bind (W.done s _ _ st fun s' hm => wpAny_pure (hR s' c (hm.mono more) hc (hS.move fun o e => hm.heap T o awayW e)))
  | succ left ih =>
    intro i s hk hi st ⟨c, hc, hS⟩ hR
    have hlt : i < n := by omega
    refine codeAny_builtin F.entry_set_update_loop ?_
    rw [Around.under_plainId F.plain_set_update_loop _]
    show wpAny _ A.in1 (pyNext (.ref I) >>= _) _ _ s
    refine wpAny_bind (W.item i s _ _ hlt st fun v s' hP st' hm => ?_)
    obtain ⟨x, t, hx, rfl⟩ := val i v hP
    have hS1 : TxR P w s'.heap T (fun y => decide (y ∈ xs.take i)) c := hS.move fun o e => hm.heap T o awayW e
    show wpAny _ A.in1 (holding [Value.str x t] (setAdd T (.str x t)) >>= _) _ _ s'
    refine wpAny_bind (wpAny_holding ?_)
    unfold setAdd
    refine wpAny_holding (wpAny_bind ((PySem.strKind P w).pyHash (k := x) (strKind_is _ _ _ _) (tx_add (s := { s' with toks := s'.toks + 1 }) hS1 (by omega) fun h' sb hS2 => ?_)))
    have hS3 : TxR P w h' T (fun y => decide (y ∈ xs.take (i + 1))) (if decide (x ∈ xs.take i) = true then c else c + 1) := hS2.eqv fun y => by
      rw [List.take_add_one, hx]
      simp [List.mem_append]
    have hc3 : (if decide (x ∈ xs.take i) = true then c else c + 1) ≤ i + 1 := by
      split <;> omega
    refine wpAny_pure ⟨plainId_quiet F.plain_set_update_loop _, ih (i + 1) _ (by omega) hlt (W.frame _ s' _ _ st' (Nat.le_succ _) fun b hb o e => ?_) ⟨_, hc3, hS3⟩ fun s'' c2 hm2 hc2 hS4 => ?_⟩
    · exact (sb.2 b fun z : b = T => away (z ▸ hb)).trans e
    · refine hR s'' c2 (Moved.trans W.gtrans ((hm.mono more).then_heap (Nat.le_succ _) fun b o hb e => ?_) hm2) hc2 hS4
      exact (sb.2 b fun z : b = T => hb (z ▸ List.mem_cons_self)).trans e
theorem strs_val {us : List Value} {xs : List Str} (h : StrsAre us xs) {i : Nat} {v : Value} (e : us[i]? = some v) : ∃ x t, xs[i]? = some x ∧ v = .str x t := by
  induction h generalizing i with
  | nil => simp at e
  | cons n t _ ih =>
    cases i with
    | zero => simp at e; exact ⟨n, t, rfl, e.symm⟩
    | succ i => simpa using ih (by simpa using e)
/-- set(l), a list of texts -/
theorem tx_set {l : Addr} {items : Array Value} (xs : List Str) {Q : Value → Shared → Prop} (calm : A.handled = none) (hl : s.heap.IsList l items) (hit : StrsAre items.toList xs) (lim : xs.length + 1 < scanBound)
    (hQ : ∀ (h' : Heap) (tk c : Nat), TxR P w h' s.heap.objs.size (fun y => decide (y ∈ xs)) c → c ≤ xs.length → (∀ b o, s.heap.get? b = some o → h'.get? b = some o) → Q (.ref s.heap.objs.size) { s with heap := h', toks := tk }) :
    wpAny (model P w) A (call (.type "set") [.ref l]) Q E s := by
  have isz : items.size = xs.length := by
    rw [← Array.length_toList]
    exact StrsAre.len_eq hit
  obtain ⟨c, tl, hmro⟩ := F.called_set.mro
  have hmade := F.called_set.made
  have hsub := F.called_set.sub
  refine wpAny_call (codeAny_of_tree ?_)
  show wpAny _ _ (callAny (.type "set") _) _ _ _
  refine wpAny_pure ⟨Code.quiet_builtin _ (by decide +kernel), codeAny_builtin F.entry_type_call ?_⟩
  rw [Around.under_plain (weight_type_call_type "set" [.ref l] []) rfl]
  have h1 := F.called_set.notType
  have h2 := F.called_set.canCreate
  have hct := F.typeCall_set_1 (.ref l)
  repeat (any_goals (first | assumption | wp_step))
  refine codeAny_mono (code_set_led1 (.ref l) (E := E) (Q₁ := fun obj s₁ => obj = .ref s.heap.objs.size ∧ s₁ = { s with heap := s.heap.push (set0 w) }) ⟨rfl, rfl⟩) fun r s₁ hr => ?_
  rcases r with e | fl
  · exact hr
  cases fl with
  | ret obj =>
    obtain ⟨rfl, rfl⟩ := hr
    have hT0 : (s.heap.push (set0 w)).get? s.heap.objs.size = some (set0 w) := Heap.get?_push_size _ rfl
    have hT : Shared.TypeIs { s with heap := s.heap.push (set0 w) } (.ref s.heap.objs.size) "set" := ⟨_, hT0, rfl⟩
    have hli := F.called_set.init.lookup
    have hbi := F.called_set.init.bind (.ref s.heap.objs.size)
    repeat (any_goals (first | assumption | wp_step))
    refine codeAny_mono (codeAny_call_builtin (R := wants (fun r s₂ => r = .none ∧ ∃ h' tk c, s₂ = { s with heap := h', toks := tk } ∧ TxR P w h' s.heap.objs.size (fun y => decide (y ∈ xs)) c ∧ c ≤ xs.length ∧
        (∀ b o, s.heap.get? b = some o → h'.get? b = some o)) E) F.called_set.init.plain F.entry_set_init (check_set_init_1 hT ?_)) fun r₂ s₂ hr₂ => ?_
    · obtain ⟨⟨ocls, odict, odata, oslots⟩, hol, hcl, nl, hdl⟩ := hl
      simp only at hcl hdl
      subst hcl
      subst hdl
      have hol1 := Heap.get?_push_of_some (set0 w) hol
      have hsls := F.sub_list_set
      have hslf := F.sub_list_frozenset
      have hne : (Value.type "list" == Value.type "dict") = false := by decide
      have hl1 : (s.heap.push (set0 w)).IsList l items := ⟨_, hol1, rfl, nl, rfl⟩
      unfold Builtin.«set.__init__» noKeywords Builtin.Frozenset.updateFrom
      generalize hPI : pyIter = PI
      wp_walk
      subst hPI
      refine wpAny_pyIter_list hl1 (wpAny_bind (wpAny_runValue ?_))
      have hlS : l < s.heap.objs.size := Heap.lt_size hol
      have calm3 : A.in1.in1.in1.handled = none := by simp [calm]
      have z1 : (s.heap.push (set0 w)).objs.size = s.heap.objs.size + 1 := Heap.size_push ..
      have neI : l ≠ (s.heap.push (set0 w)).objs.size := by rw [Heap.size_push]; exact Nat.ne_of_lt (Nat.lt_succ_of_lt hlS)
      have away : s.heap.objs.size ∉ [(s.heap.push (set0 w)).objs.size, l] := by
        rw [Heap.size_push]
        simp only [List.mem_cons, List.not_mem_nil, or_false, not_or]
        exact ⟨Nat.ne_of_lt (Nat.lt_succ_self _), Nat.ne_of_gt hlS⟩
      refine tx_loop ((Walks.list calm3 _ l neI items).toS) s.heap.objs.size away xs isz lim (fun i v hv => strs_val hit (by rw [Array.getElem?_toList]; exact hv)) (items.size - 0) 0 _ (by omega) (Nat.zero_le _)
        ⟨⟨_, Heap.get?_push_size _ rfl, rfl, rfl⟩, (hl1.push _)⟩ ⟨0, Nat.le_refl 0, ?_⟩ fun s' c' hm hc' hS' => ?_
      · exact (TxR.fresh (Heap.get?_push_of_some _ hT0)).eqv fun y => by simp
      · obtain ⟨h', g2, d', tk', os'⟩ := s'
        have eg : g2 = s.gens := hm.gens
        have ed : d' = s.drawn := hm.drawn
        have eo : os' = s.os := hm.os
        subst eg
        subst ed
        subst eo
        show wpAny _ _ _ _ _ _
        refine wpAny_pure ?_
        show wpAny _ _ (ret Value.none) _ _ _
        rw [isz] at hc'
        refine wpAny_pure ⟨rfl, h', tk', c', rfl, hS', hc', fun b o e => ?_⟩
        have hb0 : b < s.heap.objs.size := Heap.lt_size e
        have hb2 : b ≠ (s.heap.push (set0 w)).objs.size := by rw [Heap.size_push]; exact Nat.ne_of_lt (Nat.lt_succ_of_lt hb0)
        exact hm.heap b o (by simp only [List.mem_cons, List.not_mem_nil, or_false, not_or]; exact ⟨Nat.ne_of_lt hb0, hb2⟩) (Heap.get?_push_of_some _ (Heap.get?_push_of_some _ e))
    · rcases r₂ with e | fl₂
      · exact hr₂
      cases fl₂ with
      | ret r =>
        obtain ⟨rfl, h', tk, c', rfl, hS', hc', hk'⟩ := hr₂
        repeat (any_goals (first | assumption | wp_step))
        exact hQ _ _ _ hS' hc' hk'
      | _ => exact hr₂.elim
  | _ => exact hr.elim
/-- sorted(a), the set of texts -/
theorem tx_sorted {Q : Value → Shared → Prop} (R : TxR P w s.heap a M c) (calm : A.handled = none) (few : c ≤ 1000000)
    (hQ : ∀ s' p (out : Array Value) (n : Nat) (ys : List Str), (∀ b o, s.heap.get? b = some o → s'.heap.get? b = some o) → s'.gens = s.gens → s'.os = s.os → s.heap.objs.size ≤ p →
      s'.heap.get? p = some (seqObj "list" out n) → StrsAre out.toList ys → ys.length = c → ys.Nodup → sortedS ys = true → (∀ x, x ∈ ys ↔ M x = true) → Q (.ref p) s') :
    wpAny (model P w) A (call (.builtin "sorted") [.ref a]) Q E s := by
  obtain ⟨o, es, ep, t, ho, hex, hd, ⟨gd, nd, hm⟩, hb, hf, hn, hr, hl⟩ := R
  refine Calls.call_function_entry kind_sorted plain_sorted entry_sorted (args_sorted1 _) ?_
  unfold Builtin.«sorted»
  refine wpAny_bind (m := checkCount "sorted" 1 1 _) (wpAny_pure ?_)
  refine wpAny_bind (collect_set (A := A.in1) calm ⟨o, ho, hex.1, hd⟩ hf hb hr hl fun s1 vs k1 hz g1 o1 pm => ?_)
  have vl : vs.length = c := by rw [pm.length_eq, List.length_map, Array.length_toList]; exact hn
  have all : ∀ v ∈ vs, ∃ x t, v = Value.str x t := fun v hv => by
    obtain ⟨e, he, q⟩ := List.mem_map.mp (pm.mem_iff.mp hv)
    obtain ⟨x, t, q1, _⟩ := gd e he
    exact ⟨x, t, by rw [← q]; exact q1⟩
  have hS : StrsAre vs (vs.map strOf) := strsAre_map vs all
  have pk : (vs.map strOf).Perm (es.toList.map sKey) := by
    have q := pm.map strOf
    rw [List.map_map] at q
    have e : es.toList.map (strOf ∘ fun x => x.2) = es.toList.map sKey := List.map_congr_left fun e he => by
      obtain ⟨x, t, q1, _⟩ := gd e he
      simp only [Function.comp_apply, sKey, q1, strOf]
    rw [e] at q
    exact q
  have hL : vs.length ≤ sizeLine := by rw [vl, sizeLine_eq]; omega
  refine wpAny_bind (wpAny_newList ?_ hL)
  have hoL : (s1.heap.push (seqObj "list" vs.toArray 0)).get? s1.heap.objs.size = some (seqObj "list" vs.toArray 0) := Heap.get?_push_size _ rfl
  refine wpAny_bind (wpAny_holding (wpAny_call_entry slot_list_sort ⟨_, hoL, rfl⟩ entry_list_sort
    (list_sort_treeKAny strKind_oneLt hoL hS.keysOf (fun v₁ v₂ rest e => keyKind_strs (by rw [← e]; exact hS)) hL fun st' hp hs => ⟨_, rfl, ?_⟩) (args_list_sort _)))
  obtain ⟨ys, a1, a2, a3⟩ := sorted_out_str hS hp hs
  obtain ⟨ep2, hat⟩ := sortedHeap_at (vs := vs) (out := (arrOf st').map (·.2)) hoL
  have pn := a2.trans pk
  refine wpAny_pure ⟨_, rfl, hQ _ s1.heap.objs.size _ ep2 ys (fun b u e => ?_) g1 o1 hz hat a1 (by rw [pn.length_eq, List.length_map, Array.length_toList]; exact hn) (pn.nodup_iff.mpr nd) a3 fun x => by rw [pn.mem_iff, ← hm x]⟩
  have q := k1 b u e
  have hlt := Heap.lt_size q
  show (sortedHeap (s1.heap.push (seqObj "list" vs.toArray 0)) s1.heap.objs.size vs ((arrOf st').map (·.2))).get? b = some u
  rw [sortedHeap_old (Nat.ne_of_lt hlt) (by rw [size_push']; exact Nat.lt_succ_of_lt hlt)]
  exact Heap.get?_push_of_some _ q
end
/-! ### the calls, by values -/
def TxO (P : Program) (w : World) (a : Addr) (M : Str → Bool) (c : Nat) : HO := .ext fun h => TxR P w h a M c
theorem TxR.ho {P : Program} {w : World} {H : Hp} {h : Heap} {a : Addr} {M : Str → Bool} {c : Nat} (R : TxR P w h a M c) : ObjOk P w H h a (TxO P w a M c) := by
  have ⟨o, _, _, _, ho, _⟩ := R
  exact ⟨R, ⟨o, ho⟩, fun h1 h2 p k => TxR.move p k⟩
section
variable {X : Cx}
def rTxSet (X : Cx) : List V → Hp → VK → Prop := fun vs H Q => ∃ (l : Addr) (xs : List Str), vs = [V.ref l] ∧ SqL X.K H l (xs.map V.str) ∧ xs.length + 1 < scanBound ∧
  ∀ p c, H p = none → c ≤ xs.length → Q (.ref p) (upd H p (TxO X.prog X.w p (fun y => decide (y ∈ xs)) c))
theorem cr_txSet (hc : X.calm = true) : CallR X (.type "set") (rTxSet X) := by
  intro pins s σ H vs us Q I r h
  obtain ⟨l, xs, rfl, hl, lim, q⟩ := h
  rw [Vals.ref1 r]
  obtain ⟨its, rv, pl, hz⟩ := I.list hl
  refine tx_set xs (I.ok.hd hc) pl.isList (by simpa using rv.strs) lim fun h' tk c R hcl k => ?_
  exact ⟨.ref s.heap.objs.size, _, I.laid (t' := tk) k (Nat.le_refl _) R.ho, rfl, q _ c (I.hok.fresh (Nat.le_refl _)) hcl⟩
def rTxSorted (X : Cx) : List V → Hp → VK → Prop := fun vs H Q => ∃ (a : Addr) (M : Str → Bool) (c : Nat), vs = [V.ref a] ∧ H a = some (TxO X.prog X.w a M c) ∧ c ≤ 1000000 ∧
  ∀ (ys : List Str) (p : Addr), ys.Nodup → sortedS ys = true → (∀ x, x ∈ ys ↔ M x = true) → H p = none → Q (.ref p) (upd H p (.lst (ys.map V.str)))
theorem cr_txSorted (hc : X.calm = true) : CallR X (.builtin "sorted") (rTxSorted X) := by
  intro pins s σ H vs us Q I r h
  obtain ⟨a, M, c, rfl, ha, few, q⟩ := h
  have R : TxR X.prog X.w s.heap a M c := (I.hok a _ ha).1
  rw [Vals.ref1 r]
  refine tx_sorted R (I.ok.hd hc) few fun s' p out n ys k g o hp hat hi hl nd hs hm => ?_
  have hlen : (ys.map V.str).length ≤ sizeLine := by rw [List.length_map, hl, sizeLine_eq]; omega
  have fr : H p = none := I.hok.fresh hp
  have J : Inv X pins σ (upd H p (.lst (ys.map V.str))) { s with heap := s'.heap, gens := s'.gens, drawn := s'.drawn, toks := s'.toks } :=
    I.call (ch := []) (Un.laid k hp fr) (I.hok.laid k hp ⟨hlen, out.toList, n, vals_of_strs hi, hat⟩) (by rw [g]; exact I.bare) (fun _ z => nomatch z)
  have e : s' = { s with heap := s'.heap, gens := s'.gens, drawn := s'.drawn, toks := s'.toks } := by
    cases s'
    cases s
    cases o
    rfl
  rw [e]
  exact ⟨.ref p, _, J, rfl, q ys p nd hs hm fr⟩
/-- sorted(l), texts, however many -/
def rSortTx (K : PySem.W.Frag) : List V → Hp → VK → Prop := fun vs H Q => ∃ (a : Addr) (xs : List Str), vs = [V.ref a] ∧ SqL K H a (xs.map V.str) ∧
  ∀ (ys : List Str) (p : Addr), ys.Perm xs → sortedS ys = true → H p = none → Q (.ref p) (upd H p (.lst (ys.map V.str)))
theorem cr_sortTx : CallR X (.builtin "sorted") (rSortTx X.K) := by
  intro pins s σ H vs us Q I r h
  obtain ⟨a, xs, rfl, hs, q⟩ := h
  obtain ⟨its, rv, hl, hz⟩ := I.list hs
  rw [Vals.ref1 r]
  have hi := rv.strs
  have hz2 : its.length ≤ sizeLine := by rw [← rv.length]; exact hz
  refine sortedKAny strKind_oneLt hl.isList hi.keysOf (fun v₁ v₂ rest e => keyKind_strs (by rw [← e]; exact hi)) hz2 fun st' hp hst => ?_
  obtain ⟨ys, k1, k2, k3⟩ := sorted_out_str hi hp hst
  obtain ⟨ep, hat⟩ := PyProof.Rows.sortedAll_at s.heap its ((arrOf st').map (·.2))
  have hlen : (ys.map V.str).length ≤ sizeLine := by
    rw [List.length_map, k2.length_eq]
    simpa using hz
  exact ⟨.ref _, upd H (s.heap.objs.size + 1) (.lst (ys.map V.str)), I.laid (t' := s.toks) (fun _ _ => PyProof.Rows.sortedAll_old) (Nat.le_succ _) ⟨hlen, _, ep, vals_of_strs k1, hat⟩, rfl, q ys _ k2 k3 (I.hok.fresh (Nat.le_succ _))⟩
end
end CVY

set_option Elab.async false
set_option linter.all false
set_option maxRecDepth 100000
set_option maxHeartbeats 4000000
/-! CvZ: sorted, sorted(set(..)): what they tell. -/
namespace CV
open PySem PySem.Spec PyProof.Rows L2

def LeL (a b : Str) : Prop := a.cps.toList ≤ b.cps.toList
theorem leS_iff {a b : Str} : leS a b = true ↔ LeL a b := by
  unfold leS LeL
  rw [ltCps_eq]
  simp
theorem LeL.anti {a b : Str} (h1 : LeL a b) (h2 : LeL b a) : a = b := by
  have := List.le_antisymm h1 h2
  cases a
  cases b
  exact congrArg Str.mk (Array.toList_inj.mp this)
theorem LeL.total (a b : Str) : LeL a b ∨ LeL b a := List.le_total _ _
theorem LeL.trans {a b c : Str} (h1 : LeL a b) (h2 : LeL b c) : LeL a c := List.le_trans h1 h2
theorem insS_perm (x : Str) : ∀ l : List Str, (insS x l).Perm (x :: l)
  | [] => List.Perm.refl _
  | y :: r => by
    unfold insS
    split
    · exact List.Perm.refl _
    · exact ((insS_perm x r).cons y).trans (List.Perm.swap x y r)
theorem sortS_perm : ∀ l : List Str, (sortS l).Perm l
  | [] => List.Perm.refl _
  | x :: r => (insS_perm x _).trans ((sortS_perm r).cons x)
theorem insS_pw {x : Str} : ∀ {l : List Str}, l.Pairwise LeL → (insS x l).Pairwise LeL
  | [], _ => by simp [insS]
  | y :: r, h => by
    obtain ⟨h1, h2⟩ := List.pairwise_cons.mp h
    unfold insS
    split
    · rename_i c
      have c := leS_iff.mp c
      refine List.pairwise_cons.mpr ⟨fun z hz => ?_, h⟩
      rcases List.mem_cons.mp hz with rfl | hz
      · exact c
      · exact c.trans (h1 z hz)
    · rename_i c
      refine List.pairwise_cons.mpr ⟨fun z hz => ?_, insS_pw h2⟩
      rcases List.mem_cons.mp ((insS_perm x r).mem_iff.mp hz) with rfl | hz
      · rcases LeL.total z y with q | q
        · exact absurd (leS_iff.mpr q) c
        · exact q
      · exact h1 z hz
theorem sortS_pw : ∀ l : List Str, (sortS l).Pairwise LeL
  | [] => List.Pairwise.nil
  | x :: r => insS_pw (sortS_pw r)
theorem sortedS_pw : ∀ {l : List Str}, sortedS l = true → l.Pairwise LeL
  | [], _ => List.Pairwise.nil
  | [x], _ => by simp
  | x :: y :: r, h => by
    have h' : (!ltCps y.cps.toList x.cps.toList && risingS y r) = true := h
    simp only [Bool.and_eq_true] at h'
    have ih := sortedS_pw (l := y :: r) h'.2
    have hxy : LeL x y := leS_iff.mp h'.1
    refine List.pairwise_cons.mpr ⟨fun z hz => ?_, ih⟩
    rcases List.mem_cons.mp hz with rfl | hz
    · exact hxy
    · exact hxy.trans ((List.pairwise_cons.mp ih).1 z hz)
theorem sortS_eq {xs ys : List Str} (p : ys.Perm xs) (s : sortedS ys = true) : ys = sortS xs :=
  List.Perm.eq_of_pairwise (le := LeL) (fun a b _ _ h1 h2 => LeL.anti h1 h2) (sortedS_pw s) (sortS_pw xs) (p.trans (sortS_perm xs).symm)
theorem dedS_mem : ∀ {l : List Str} {x : Str}, x ∈ dedS l ↔ x ∈ l
  | [], x => by simp [dedS]
  | y :: r, x => by
    unfold dedS
    split
    · rename_i c
      simp only [List.any_eq_true, beq_iff_eq] at c
      obtain ⟨z, hz, rfl⟩ := c
      rw [dedS_mem]
      constructor
      · exact fun h => List.mem_cons_of_mem _ h
      · intro h
        rcases List.mem_cons.mp h with rfl | h
        · exact hz
        · exact h
    · rw [List.mem_cons, dedS_mem, List.mem_cons]
theorem dedS_nodup : ∀ l : List Str, (dedS l).Nodup
  | [] => List.nodup_nil
  | y :: r => by
    unfold dedS
    split
    · exact dedS_nodup r
    · rename_i c
      simp only [List.any_eq_true, beq_iff_eq, not_exists, not_and] at c
      exact List.nodup_cons.mpr ⟨fun h => c y (dedS_mem.mp h) rfl, dedS_nodup r⟩
theorem sset_eq {xs ys : List Str} (nd : ys.Nodup) (s : sortedS ys = true) (m : ∀ x, x ∈ ys ↔ x ∈ xs) : ys = sortS (dedS xs) :=
  sortS_eq ((List.perm_ext_iff_of_nodup nd (dedS_nodup xs)).mpr fun x => by rw [m x, dedS_mem]) s
theorem insZ_perm (x : Int) : ∀ l : List Int, (insZ x l).Perm (x :: l)
  | [] => List.Perm.refl _
  | y :: r => by
    unfold insZ
    split
    · exact List.Perm.refl _
    · exact ((insZ_perm x r).cons y).trans (List.Perm.swap x y r)
theorem sortZ_perm : ∀ l : List Int, (sortZ l).Perm l
  | [] => List.Perm.refl _
  | x :: r => (insZ_perm x _).trans ((sortZ_perm r).cons x)
theorem insZ_pw {x : Int} : ∀ {l : List Int}, l.Pairwise (· ≤ ·) → (insZ x l).Pairwise (· ≤ ·)
  | [], _ => by simp [insZ]
  | y :: r, h => by
    obtain ⟨h1, h2⟩ := List.pairwise_cons.mp h
    unfold insZ
    split
    · rename_i c
      refine List.pairwise_cons.mpr ⟨fun z hz => ?_, h⟩
      rcases List.mem_cons.mp hz with rfl | hz
      · exact c
      · exact Int.le_trans c (h1 z hz)
    · rename_i c
      refine List.pairwise_cons.mpr ⟨fun z hz => ?_, insZ_pw h2⟩
      rcases List.mem_cons.mp ((insZ_perm x r).mem_iff.mp hz) with rfl | hz
      · omega
      · exact h1 z hz
theorem sortZ_pw : ∀ l : List Int, (sortZ l).Pairwise (· ≤ ·)
  | [] => List.Pairwise.nil
  | x :: r => insZ_pw (sortZ_pw r)
theorem sortZ_eq {xs ys : List Int} (p : ys.Perm xs) (s : ys.Pairwise (· ≤ ·)) : ys = sortZ xs :=
  List.Perm.eq_of_pairwise (le := (· ≤ ·)) (fun a b _ _ h1 h2 => Int.le_antisymm h1 h2) s (sortZ_pw xs) (p.trans (sortZ_perm xs).symm)

section
variable {X : Cx} {Gd : Str → Addr → Prop} {H : Hp} {ι : Loc} {S : Sto} {K : PySem.W.Frag}
theorem strs_rd : ∀ {ds : List D} {vs : List V} {ys : List Str}, RDs K Gd H ι ds vs → strsOf ds = some ys → vs = ys.map V.str ∧ ∀ y ∈ ys, strGood y = true
  | [], _, ys, .nil, e => by simp [strsOf] at e; subst e; exact ⟨rfl, fun y hy => by cases hy⟩
  | d :: ds, _, ys, .cons h t, e => by
    cases d <;> simp only [strsOf] at e <;> try cases e
    simp only [Option.map_eq_some_iff] at e
    obtain ⟨zs, e1, rfl⟩ := e
    obtain ⟨h1, h2⟩ := strs_rd t e1
    cases h with
    | str hg =>
      rw [h1]
      exact ⟨rfl, fun y hy => by
        rcases List.mem_cons.mp hy with rfl | hy
        · exact hg
        · exact h2 y hy⟩
theorem rd_strs : ∀ {ys : List Str}, (∀ y ∈ ys, strGood y = true) → RDs K Gd H ι (ys.map D.str) (ys.map V.str)
  | [], _ => .nil
  | y :: ys, h => .cons (.str (h y List.mem_cons_self)) (rd_strs fun z hz => h z (List.mem_cons_of_mem _ hz))
theorem ints_rd : ∀ {ds : List D} {vs : List V} {ys : List Int}, RDs K Gd H ι ds vs → intsOf ds = some ys → vs = ys.map V.int
  | [], _, ys, .nil, e => by simp [intsOf] at e; subst e; rfl
  | d :: ds, _, ys, .cons h t, e => by
    cases d <;> simp only [intsOf] at e <;> try cases e
    simp only [Option.map_eq_some_iff] at e
    obtain ⟨zs, e1, rfl⟩ := e
    cases h
    rw [ints_rd t e1]
    rfl
theorem call_sortD : CallR X (.builtin "sorted") (fun xs H Q => ∃ ι S d v l ys, Rel X.K Gd H ι S ∧ RD X.K Gd H ι d v ∧ xs = [v] ∧ lstOf S d = some l ∧ srtD l = some ys ∧ Post X.K Gd H ι (.loc .lst S.length, S ++ [.lst ys]) Q) := by
  intro pins s σ H xs us Q I r h
  obtain ⟨ι, S, d, v, l, ys, R, rv, rfl, e0, e1, q⟩ := h
  obtain ⟨a, vs, rfl, rs, hl⟩ := lstOf_rd R rv e0
  unfold srtD at e1
  split at e1
  · rename_i zs ez
    cases e1
    obtain ⟨rfl, hg⟩ := strs_rd rs ez
    refine CVY.cr_sortTx pins s σ H _ us Q I r ⟨a, zs, rfl, hl, fun ys p hp hs fr => ?_⟩
    rw [sortS_eq hp hs]
    exact q.lst R (rd_strs fun y hy => hg y ((sortS_perm zs).mem_iff.mp hy)) p fr
  · split at e1 <;> cases e1
    rename_i zs ez
    have ev := ints_rd rs ez
    subst ev
    refine cr_sortedI pins s σ H _ us Q I r ⟨a, zs, rfl, hl, fun ys p hp hs fr => ?_⟩
    rw [sortZ_eq hp hs]
    exact q.lst R RDs.ints p fr
end
end CV

set_option Elab.async false
set_option linter.all false
set_option maxRecDepth 100000
set_option maxHeartbeats 4000000
/-! CvDi: l.index(x, i); dicts locked while they are walked. -/
namespace CVDi
open PySem PySem.Spec PyProof.Rows L2 SeqAt
open PySem.MeetsSeq PySem.MeetsSeq2 PySem.MeetsSeq3 PySem.SeqRoads2
/-! ### l.index(x, i) -/
theorem list_indexS (l : Addr) (items : Array Value) (n : Nat) (dd : Option Addr) (sl : Array (Option Value)) (x : Value) (st : Nat) (t : Tok) (e : Value → Bool) (j : Nat) (hj : j < items.size) (hsj : st ≤ j) (hsmall : (j : Int) < 2 ^ 63 - 1)
    (hit : e items[j] = true) (hno : ∀ m (hm : m < items.size), st ≤ m → m < j → e items[m] = false) :
    Meets (Builtin.«list.index» ⟨[.ref l, x, .int (st : Int) t], []⟩)
      (fun A R s => s.heap.get? l = some { cls := .type "list", dict := dd, data := .seq items n, slots := sl } ∧ (∀ y, y ∈ items → EqAt A.in1 s y x (e y)) ∧ R (.ok (.ret (.int j s.toks))) { s with toks := s.toks + 1 }) := by
  intro prog w A R s h
  obtain ⟨hp, g, d, tk, os⟩ := s; obtain ⟨hl, he, h⟩ := h
  have f1 := AutoSeq1.idx_int
  wp_walk using wpAny_loadPart' hl
  have a1 : ((fun i : Int => if i < 0 then max 0 (i + (items.size : Int)) else i) ((some (st : Int)).getD 0)) = (st : Int) := by
    show (if (st : Int) < 0 then _ else (st : Int)) = _
    rw [if_neg (by omega)]
  have a2 : ((fun i : Int => if i < 0 then max 0 (i + (items.size : Int)) else i) ((none : Option Int).getD (2 ^ 63 - 1))) = 2 ^ 63 - 1 := by simp
  rw [a1, a2]
  exact ⟨plainId_quiet plain_index_loop _, codeAny_builtin entry_index_loop (by
    rw [Around.under_plainId plain_index_loop _]
    exact index_loopAt l items n dd sl x e (2 ^ 63 - 1) j hj hsmall hit _ st rfl hsj hno prog w A R _ ⟨hl, he, h⟩)⟩
def rIndexS (K : PySem.W.Frag) : V → List V → Hp → VK → Prop := fun x xs H Q => ∃ (a : Addr) (y : V) (st : Nat) (d : PyData) (ds : List PyData) (j : Nat) (z : PyData), x = V.ref a ∧ xs = [y, .int st] ∧ Dp K H (V.ref a) (.list ds) ∧ Dp K H y d ∧
  SeqAt.shaped (.list ds) = true ∧ SeqAt.shaped d = true ∧ ds[j]? = some z ∧ PyData.eqv z d = true ∧ st ≤ j ∧ (∀ (m : Nat) (z' : PyData), st ≤ m → m < j → ds[m]? = some z' → PyData.eqv z' d = false) ∧ Q (.int (j : Nat)) H
section
variable {X : Cx}
theorem mt_indexS (hu : X.A.units + 65 < cLine) : MtR X "list.index" (rIndexS X.K) := by
  intro pins s σ H x xs v us Q I rx rxs h
  obtain ⟨a, y, st, d, ds, j, z, rfl, rfl, hl, hy, sl, sd, hz, hzj, hst, hno, q⟩ := h
  cases rx
  cases rxs with
  | cons ry rt =>
  cases rt with
  | cons rn rt =>
    cases rt
    rename_i uy un
    obtain ⟨t, rfl⟩ := rn
    obtain ⟨bs, r1⟩ := Dp.reads I d y uy hy ry
    have hxs : PyData.canLayAll0 ds = true := SeqAt.canLay_of_shaped sl
    have hroom : X.A.units + 1 + min (PyData.depthAll ds) d.depth < cLine := room_in_shaped sd hu
    cases hl with
    | lst hs ha =>
      obtain ⟨its, rv, ⟨⟨cls, dd, data, sls⟩, n, ho, hc, hdn, hdt⟩, hlen⟩ := I.list hs
      simp only at hc hdt
      subst hc hdt
      obtain ⟨as, h4⟩ := Dp.readsAll I ds _ its ha rv
      have hn : its.length = ds.length := SeqAt.ReadsAll.length ds its as h4
      have hmap : its.map (SeqAt.readOf s.heap) = ds := SeqAt.readsAll_map ds its as hxs h4
      have hvl := rv.length
      have hsl := sizeLine_eq
      obtain ⟨hjd, _⟩ := List.getElem?_eq_some_iff.mp hz
      have hjl : j < its.length := by omega
      have hj : j < its.toArray.size := by simpa using hjl
      have at_ : ∀ (m : Nat) (hm : m < its.toArray.size) (z' : PyData), ds[m]? = some z' → SeqAt.readOf s.heap its.toArray[m] = z' := by
        intro m hm z' hz'
        have hml : m < its.length := by simpa using hm
        rw [← hmap, List.getElem?_map, List.getElem?_eq_getElem hml] at hz'
        have e1 : SeqAt.readOf s.heap its[m] = z' := Option.some.inj (show some (SeqAt.readOf s.heap its[m]) = some z' from hz')
        simpa using e1
      refine call_meets PySem.F.slot_list_index ⟨_, ho, rfl⟩ PySem.F.entry_list_index (PySem.F.args_list_index_3 _ _ _)
        (list_indexS a its.toArray n dd sls uy st t (fun u => PyData.eqv (SeqAt.readOf s.heap u) d) j hj hst (by omega) ?_ ?_) ⟨ho, SeqAt.items_eqAt (vs := its.toArray) (show ReadsAll s.heap its.toArray.toList ds as from h4) r1 hxs (SeqAt.canLay_of_shaped sd) hroom, ?_⟩
      · show PyData.eqv (SeqAt.readOf s.heap its.toArray[j]) d = true
        rw [at_ j hj z hz]
        exact hzj
      · intro m hm hsm hmj
        have hmd : m < ds.length := by omega
        have hz' : ds[m]? = some ds[m] := List.getElem?_eq_getElem hmd
        show PyData.eqv (SeqAt.readOf s.heap its.toArray[m]) d = false
        rw [at_ m hm _ hz']
        exact hno m _ hsm hmj hz'
      · exact ⟨.int (j : Nat), H, I.tok _, ⟨_, rfl⟩, q⟩

/-! ### locked while walked -/
/-- not locked from the start -/
def NF (X : Cx) (d : Addr) : Prop := ∀ o' u', X.H_0 d ≠ some (.frz o' u')
/-- e's dict is locked behind e -/
def tLk (X : Cx) (td : TE) (R : Addr → Obj → List (Key × V) → Hp → Prop) (σ : L2.St) (H : Hp) : Prop := td σ H fun x H1 => ∃ d kvs, x = .ref d ∧ H1 d = some (.dK kvs) ∧ (NF X d → ∀ od, R d od kvs (upd H1 d (.frz od (.dK kvs))))
theorem pi_keysL {tg e : Expr} {td : TE} (he : PE X e td) : PI X tg e (fun σ H R => tLk X td (fun d od kvs H2 => R (Itk d od kvs) H2) σ H) := by
  refine ⟨fun pins s σ H R I h => ?_⟩
  refine thn (he.run pins s σ H _ I h) fun u s1 ⟨x, H1, I1, rx, d, kvs, ex, hd, q⟩ => ?_
  subst ex
  obtain rfl : u = Value.ref d := rx
  obtain ⟨od, I2⟩ := I1.lock hd trivial
  have q := q (I1.nofrz hd trivial) od
  obtain ⟨hs, hgd, hx, es, ep, vs, hdt, hsz, kv, hm⟩ := I2.frzK upd_same
  refine iter_keys hs hgd hx hdt (pi_one (tk := s1.toks) I2 _ (turn_keys _ hdt) ⟨_, Heap.get?_push_size _ rfl, rfl, ?_⟩ q)
  rw [hsz] <;> rfl
theorem pi_itemsL {e : Expr} {td : TE} {apos cpos : Pos} {elts : List Expr} {kk : Nat} {tpos : Pos} (he : PE X e td) (hbase : attributeBase e "items" X.env (eval e X.env) = eval e X.env := by rfl) (hline : (apos.endLine == cpos.line) = true := by rfl) :
    PI X (.Tuple elts kk tpos) (.Call (.Attribute e "items" apos) [] [] cpos) (fun σ H R => tLk X td (fun d od kvs H2 => R (Iti d od kvs) H2) σ H) := by
  refine ⟨fun pins s σ H R I h => ?_⟩
  refine wpAny_Call_method (T := "dict") (id := "dict.items") hbase rfl hline F.plainAttrs_dict F.slot_dict_items F.type_dict_items (thn (he.run pins s σ H _ I h) fun u s1 ⟨x, H1, I1, rx, d, kvs, ex, hd, q⟩ => ?_)
  subst ex
  obtain rfl : u = Value.ref d := rx
  obtain ⟨od, I2⟩ := I1.lock hd trivial
  have q := q (I1.nofrz hd trivial) od
  obtain ⟨hs, hgd, hx, es, ep, vs, hdt, hsz, kv, hm⟩ := I2.frzK upd_same
  have hl : kvs.length = vs.length := Paired.length kv
  refine ⟨hm.dictOf.typeIs, hm.dictOf.mapOf.noDict, ?_⟩
  have I3 : Inv X pins σ (upd H1 d (.frz od (.dK kvs))) { s1 with heap := s1.heap.push { cls := .type "dict_items", data := .fields #[.ref d] } } := I2.kept (t' := s1.toks) fun b ob q => Heap.get?_push_of_some _ q
  have fin : wpAny (model X.prog X.w) X.A (pyIter (.ref s1.heap.objs.size)) (PIE X pins σ (.Tuple elts kk tpos) R) X.xe { s1 with heap := s1.heap.push { cls := .type "dict_items", data := .fields #[.ref d] } } := by
    refine wpAny_pyIter_items (d := d) (knd := mixKind X.prog X.w) ⟨_, Heap.get?_push_size _ rfl, rfl, rfl⟩ (hm.push _) (pi_one (tk := s1.toks) I3 _ (turn_items _ hdt) ⟨.none, .none, ?_⟩ q)
    rw [hl]
    exact Heap.get?_push_size _ rfl
  show wpAny _ _ (callWith cpos (.builtin "dict.items") [.ref d] [] []) _ X.xe s1
  exact method_meetsIn F.slot_dict_items F.entry_dict_items rfl (PySem.evalArgs_none ⟨rfl, hm.dictOf.typeIs, F.args_dict_items_1 _, _, meets_dict_items (mixKind X.prog X.w) d hs, ⟨vs, hm.dictOf⟩, fin⟩)
/-- locks taken off that were not there at H0 -/
inductive Unl (H0 : Hp) : Hp → Hp → Prop
  | refl {H : Hp} : Unl H0 H H
  | step {H H' : Hp} {d : Addr} {od : Obj} {u : HO} (h : H d = some (.frz od u)) (n : ∀ o' u', H0 d ≠ some (.frz o' u')) (r : Unl H0 (upd H d u) H') : Unl H0 H H'
theorem Unl.inv {pins0 : List (Addr × Obj)} {σ0 : L2.St} {s0 : Shared} {pins : List (Addr × Obj)} {σ : L2.St} {s : Shared} {H0 H H' : Hp} (I0 : Inv X pins0 σ0 H0 s0) (u : Unl H0 H H') : Inv X pins σ H s → Inv X pins σ H' s := by
  induction u with
  | refl => exact id
  | step h n r ih => exact fun I => ih (I.unlock h fun o' u' e => n o' u' (I0.base.frzs _ _ _ e))
theorem pe_unl {e : Expr} {t : TE} (h : PE X e t) : PE X e (fun σ H Q => t σ H fun v H1 => ∃ H2, Unl H H1 H2 ∧ Q v H2) := by
  refine ⟨fun pins s σ H Q I hw => ?_⟩
  refine thn (h.run pins s σ _ _ I hw) fun v s1 ⟨x, H1, I2, r, H2, u, q⟩ => ?_
  exact ⟨x, _, u.inv I I2, r, q⟩
theorem ps_unl {st : Stmt} {t : TS} (h : PS X st t) : PS X st (fun D σ H => t ⟨fun σ' H1 => ∃ H2, Unl H H1 H2 ∧ D.nx σ' H2, fun v H1 => ∃ H2, Unl H H1 H2 ∧ D.rt v H2, fun σ' H1 => ∃ H2, Unl H H1 H2 ∧ D.bk σ' H2, fun σ' H1 => ∃ H2, Unl H H1 H2 ∧ D.ct σ' H2⟩ σ H) := by
  refine ⟨fun pins s σ H D I hw => ?_⟩
  refine thn (h.run pins s σ _ _ I hw) fun f s1 q => ?_
  cases f with
  | next => obtain ⟨σ', H', I2, H2, u, q⟩ := q; exact ⟨σ', _, u.inv I I2, q⟩
  | brk => obtain ⟨σ', H', I2, H2, u, q⟩ := q; exact ⟨σ', _, u.inv I I2, q⟩
  | cont => obtain ⟨σ', H', I2, H2, u, q⟩ := q; exact ⟨σ', _, u.inv I I2, q⟩
  | ret v => obtain ⟨x, σ', H', I2, r, H2, u, q⟩ := q; exact ⟨x, σ', _, u.inv I I2, r, q⟩
end
end CVDi

set_option Elab.async false
set_option linter.all false
set_option maxRecDepth 100000
set_option maxHeartbeats 4000000
/-! CvW: comparisons, items, slices, built-ins, methods, stores. -/
namespace CV
open PySem PySem.Spec PyProof.Rows L2

section
variable {X : Cx} {Gd : Str → Addr → Prop} {H : Hp} {ι : Loc} {S : Sto} {K : PySem.W.Frag} {g : Cst}

def copO : Cop → CmpOp
  | .eq => .Eq
  | .ne => .NotEq
  | .lt => .Lt
  | .le => .LtE
  | .gt => .Gt
  | .ge => .GtE
  | .in_ => .In
  | .notIn => .NotIn
theorem copC_eq {o : CmpOp} {b : Cop} (h : copC o = some b) : copO b = o := by
  cases o <;> simp [copC] at h <;> subst h <;> rfl
theorem opC (G : GdOk X.K X.w Gd g) (hu : X.A.units + 65 < cLine) (op : Cop) : OpR X (compareOp (copO op)) (rC X.K Gd fun a b S => cmpD g op a b S) := by
  have hu' : X.A.units + 64 < cLine := by omega
  have two : ∀ {f : Value → Value → Sem Value} {c : Int → Int → Bool}, OpR X f (rI0 fun i j => .bl (c i j)) → OpR X f (rC X.K Gd fun a b S => match a, b with
      | .int i, .int j => some (c i j)
      | _, _ => none) := fun {f c} h => by
    intro pins s σ H x y v u Q I rx ry q
    obtain ⟨ι, S, a, b, k, R, ra, rb, e, q⟩ := q
    dsimp only at e
    split at e <;> cases e
    cases ra
    cases rb
    exact h pins s σ H _ _ v u Q I rx ry ⟨_, _, rfl, rfl, q⟩
  cases op with
  | eq => exact op_eqC hu
  | ne => exact op_neC hu
  | lt => exact two op_lt
  | le => exact two op_le
  | gt => exact two op_gt
  | ge => exact two op_ge
  | in_ =>
    intro pins s σ H x y v u Q I rx ry q
    obtain ⟨ι, S, a, b, k, R, ra, rb, e, q⟩ := q
    exact mem_ok G hu false rfl pins s σ H x y v u Q I rx ry ⟨ι, S, a, b, k, R, ra, rb, by simpa [cmpD] using e, q⟩
  | notIn =>
    intro pins s σ H x y v u Q I rx ry q
    obtain ⟨ι, S, a, b, k, R, ra, rb, e, q⟩ := q
    refine mem_ok G hu true rfl pins s σ H x y v u Q I rx ry ⟨ι, S, a, b, k, R, ra, rb, ?_, q⟩
    simpa [cmpD] using e

/-! ### is -/
theorem op_isD (neg : Bool) : OpR X (compareOp (if neg then .IsNot else .Is)) (rC X.K Gd fun a b _ => (isD a b).map fun k => if neg then !k else k) := by
  intro pins s σ H x y v u Q I rx ry h
  obtain ⟨ι, S, a, b, k, R, ra, rb, e, q⟩ := h
  simp only [Option.map_eq_some_iff] at e
  obtain ⟨k, e, rfl⟩ := e
  cases rb with
  | non =>
    simp only [isD, Option.some.injEq] at e
    have hk : k = decide (x = .non) := by
      subst e
      cases ra <;> rfl
    subst hk
    cases neg with
    | false => exact op_isN pins s σ H _ _ v u Q I rx ry ⟨rfl, q⟩
    | true => exact op_notN pins s σ H _ _ v u Q I rx ry ⟨rfl, q⟩
  | bl j =>
    cases ra <;> simp [isD] at e
    subst e
    cases neg with
    | false => exact op_isBl pins s σ H _ _ v u Q I rx ry ⟨_, _, rfl, rfl, q⟩
    | true => exact op_notBl pins s σ H _ _ v u Q I rx ry ⟨_, _, rfl, rfl, q⟩
  | _ => simp [isD] at e

/-! ### items -/
def rX (K : PySem.W.Frag) (Gd : Str → Addr → Prop) (f : D → D → Sto → Option D) : R2 := fun x y H Q =>
  ∃ ι S a b d, Rel K Gd H ι S ∧ RD K Gd H ι a x ∧ RD K Gd H ι b y ∧ f a b S = some d ∧ ∀ v, RD K Gd H ι d v → Q v H
theorem atI_rd {ds : List D} {vs : List V} {i : Int} {d : D} (r : RDs K Gd H ι ds vs) (e : atI ds i = some d) : ∃ v, atI vs i = some v ∧ RD K Gd H ι d v := by
  unfold atI at e ⊢
  rw [← r.length]
  cases h : ixN ds.length i with
  | none => rw [h] at e; cases e
  | some j =>
    rw [h] at e
    exact r.get e
theorem good_one {c : Nat} (h : c < 0x110000) : strGood ⟨#[c]⟩ = true :=
  strGood_mk (by show 1 ≤ cap; decide) fun d hd => by simp at hd; omega
theorem ixOp (G : GdOk X.K X.w Gd g) (hu : X.A.units + 65 < cLine) : IxR X (rX X.K Gd fun a b S => ixD g a b S) := by
  intro value slice pins s σ H x y v u Q I rx ry h hs
  obtain ⟨ι, S, a, b, d, R, ra, rb, e, q⟩ := h
  have hu1 : X.A.units + 1 < cLine := by omega
  have seqs : ∀ (xs : List D) (j : Int), b = .int j → seqOf S a = some xs → atI xs j = some d → wpAny (model X.prog X.w) X.A (subscriptTail value slice v u) (EP X pins σ Q) X.xe s := fun xs j eb e0 e1 => by
    obtain ⟨l, vs, rfl, rs, hl⟩ := seqOf_rd R ra e0
    obtain ⟨z, h1, h2⟩ := atI_rd rs e1
    subst eb
    cases rb
    rcases hl with hl | hl
    · exact ix_list value slice pins s σ H _ _ v u Q I rx ry ⟨_, _, _, _, rfl, rfl, hl, h1, q _ h2⟩ hs
    · exact ix_tup value slice pins s σ H _ _ v u Q I rx ry ⟨_, _, _, _, rfl, rfl, hl, h1, q _ h2⟩ hs
  unfold ixD at e
  dsimp only at e
  split at e
  · rename_i z j
    simp only [Option.map_eq_some_iff] at e
    obtain ⟨c, e, rfl⟩ := e
    cases ra with
    | str hz =>
      cases rb
      have hc : c < 0x110000 := by
        obtain ⟨j', _, h2, _⟩ := atI_get e
        exact strGood_cps hz c (List.mem_of_getElem? h2)
      exact ix_str value slice pins s σ H _ _ v u Q I rx ry ⟨_, _, _, rfl, rfl, strGood_len hz, e, q _ (.str (good_one hc))⟩ hs
  · rename_i n z
    split at e
    · rename_i kvs e0
      cases ra with
      | gd hg =>
        cases rb
        obtain ⟨es, m, KD, hk⟩ := G.ok _ _ hg
        obtain ⟨r, hr, hh⟩ := hk kvs e0 z
        rcases hh with ⟨h1, h2⟩ | ⟨d', v', u', h1, h2, h3, h4⟩
        · rw [h1] at e; cases e
        · rw [h1] at e
          cases e
          subst h2
          exact ix_kdict value slice pins s σ H _ _ v u Q I rx ry ⟨_, _, _, rfl, rfl, ⟨es, m, u', KD.at_, KD.lit, hr, h3⟩, q _ (h4 H ι)⟩ hs
    · cases e
  · rename_i n i
    split at e
    · rename_i kvs k e0 e1
      cases ra with
      | loc hl =>
        rename_i ad
        obtain ⟨vs, h1, h2⟩ := R.dctR_at e0 hl
        have hx := key_rd rb e1
        subst hx
        cases rx
        rcases h2.val k with ⟨h3, h4⟩ | ⟨d', v', h3, h4, h5⟩
        · rw [h3] at e; cases e
        · rw [h3] at e
          cases e
          have gget : DGet H ad (kV k) (some v') := by
            have := dget_r (k := k) h1
            rwa [h4] at this
          exact tail_any (dict_typeIs I gget) slot_dict_getitem.lookup (d_getItem hu1 I gget ry fun w' s' I' r' => ⟨v', H, I', r', q _ h5⟩) hs
    · cases e
  · rename_i a' j _ _
    split at e
    · rename_i xs e0
      exact seqs xs j rfl e0 e
    · cases e
  · cases e

/-! ### slices -/
theorem cut_rd {ds : List D} {vs : List V} (r : RDs K Gd H ι ds vs) (lo hi : Option Int) : RDs K Gd H ι (cutD ds lo hi) (cutV vs lo hi) := by
  unfold cutD cutV
  rw [r.length]
  exact (r.drop _).take _
theorem cut_good {z : Str} (h : strGood z = true) (lo hi : Option Int) : strGood ⟨(cutD z.cps.toList lo hi).toArray⟩ = true := by
  refine strGood_mk ?_ fun c hc => ?_
  · have h1 := strGood_len h
    rw [← cap_eq] at h1
    refine Nat.le_trans ?_ h1
    show ((cutD z.cps.toList lo hi).toArray).size ≤ z.length
    rw [List.size_toArray]
    unfold cutD
    rw [List.length_take, List.length_drop, length_cps]
    omega
  · have hc' : c ∈ cutD z.cps.toList lo hi := by simpa using hc
    exact strGood_cps h c (List.mem_of_mem_drop (List.mem_of_mem_take hc'))
def rS (K : PySem.W.Frag) (Gd : Str → Addr → Prop) : V → Option Int → Option Int → Hp → VK → Prop := fun x lo hi H Q =>
  ∃ ι S a r, Rel K Gd H ι S ∧ RD K Gd H ι a x ∧ slD a lo hi S = some r ∧ Post K Gd H ι r Q
theorem slOp : SlR X (rS X.K Gd) := by
  intro pins s σ H x v vl vu lo hi sl Q I rx hs pl pu h
  obtain ⟨ι, S, a, r, R, ra, e, q⟩ := h
  unfold slD at e
  split at e
  · cases e
    cases ra with
    | tup ht hr =>
      rename_i ds ad vs
      refine sl_tupA pins s σ H _ v vl vu lo hi sl Q I rx hs pl pu ⟨_, _, rfl, ht, fun hw => ?_, fun _ => ?_⟩
      · refine q.at_ R (.tup ht ?_)
        have e1 : cutD ds lo hi = ds := by
          unfold cutD
          rw [hr.length, hw.1, hw.2]
          simp only [List.drop_zero, Nat.sub_zero]
          rw [← hr.length, List.take_length]
        show RDs X.K Gd H ι (cutD ds lo hi) vs
        rw [e1]
        exact hr
      · exact q.tup R (cut_rd hr lo hi)
  · cases e
    cases ra with
    | str hz => exact sl_str pins s σ H _ v vl vu lo hi sl Q I rx hs pl pu ⟨_, rfl, strGood_len hz, q.at_ R (.str (cut_good hz lo hi))⟩
  · split at e
    · rename_i xs e1
      cases e
      obtain ⟨l, vs, rfl, rs, hl⟩ := lstOf_rd R ra e1
      exact sl_list pins s σ H _ v vl vu lo hi sl Q I rx hs pl pu ⟨l, vs, rfl, hl, q.lst R (cut_rd rs lo hi)⟩
    · cases e

/-! ### truth -/
theorem truth_ok {d : D} {v : V} {k : Bool} (R : Rel K Gd H ι S) (r : RD K Gd H ι d v) (e : truth S d = some k) : TruV K v H k := by
  cases r with
  | non => simp [truth] at e; subst e; rfl
  | bl b => simp [truth] at e; subst e; rfl
  | int i => simp [truth] at e; subst e; show (_ = (i != 0)); simp
  | str hs => simp only [truth, Option.some.injEq] at e; exact ⟨strGood_len hs, e.symm⟩
  | tup ht hr =>
    simp only [truth, Option.some.injEq] at e
    refine .inr (.inl ⟨_, ht, ?_⟩)
    subst e
    cases hr <;> rfl
  | loc hl =>
    rename_i kd n a
    cases kd with
    | lst =>
      simp only [truth] at e
      split at e <;> cases e
      rename_i e0
      obtain ⟨vs, h1, h2⟩ := R.lst_at e0 hl
      refine .inl ⟨vs, .of h1, ?_⟩
      cases h2 <;> rfl
    | dct =>
      simp only [truth] at e
      split at e <;> cases e
      rename_i e0
      obtain ⟨vs, h1, h2⟩ := R.dct_at e0 hl
      refine .inr (.inr ⟨vs, h1, ?_⟩)
      cases h2 <;> rfl
  | _ => simp [truth] at e

/-! ### built-ins -/
def rF (K : PySem.W.Frag) (Gd : Str → Addr → Prop) (f : List D → Sto → Option (D × Sto)) : List V → Hp → VK → Prop := fun xs H Q =>
  ∃ ι S ds r, Rel K Gd H ι S ∧ RDs K Gd H ι ds xs ∧ f ds S = some r ∧ Post K Gd H ι r Q
theorem bls_rd : ∀ {ds : List D} {vs : List V} {bs : List Bool}, RDs K Gd H ι ds vs → blsOf ds = some bs → vs = bs.map V.bl
  | [], _, bs, .nil, e => by simp [blsOf] at e; subst e; rfl
  | d :: ds, _, bs, .cons h t, e => by
    cases d <;> simp only [blsOf] at e <;> try cases e
    simp only [Option.map_eq_some_iff] at e
    obtain ⟨cs, e1, rfl⟩ := e
    cases h
    rw [bls_rd t e1]
    rfl
/-- what the built-in's name is as a value -/
def biV : Bi → Value
  | .len => .builtin "len"
  | .list => .type "list"
  | .tuple => .type "tuple"
  | .all => .builtin "all"
  | .any => .builtin "any"
  | .abs => .builtin "abs"
  | .max => .builtin "max"
  | .min => .builtin "min"
  | .repr => .builtin "repr"
  | .sset => .none
  | .sorted => .builtin "sorted"
  | .bstr => .type "str"
  | .bint => .type "int"
  | .litems => .none
theorem rds1 {d : D} {vs : List V} (h : RDs K Gd H ι [d] vs) : ∃ v, vs = [v] ∧ RD K Gd H ι d v := by
  cases h with
  | cons h t => cases t; exact ⟨_, rfl, h⟩
theorem rds2 {d e : D} {vs : List V} (h : RDs K Gd H ι [d, e] vs) : ∃ v u, vs = [v, u] ∧ RD K Gd H ι d v ∧ RD K Gd H ι e u := by
  cases h with
  | cons h t =>
    obtain ⟨u, rfl, h2⟩ := rds1 t
    exact ⟨_, _, rfl, h, h2⟩
theorem len_dict : CallR X (.builtin "len") (fun xs H Q => ∃ a kvs, xs = [.ref a] ∧ H a = some (.dK kvs) ∧ Q (.int kvs.length) H) := by
  intro pins s σ H xs us Q I r h
  obtain ⟨a, kvs, rfl, ha, q⟩ := h
  have e := Vals.ref1 r
  subst e
  exact d_len I (.inl ha) fun t s' I' => ⟨.int kvs.length, H, I', ⟨t, rfl⟩, q⟩
theorem num_cps {i : Int} {c : Nat} (h : c ∈ (Str.ofString (toString i)).cps.toList) : c < 0x110000 := by
  rw [PyProof.Rows.signs_ofString] at h
  obtain ⟨d, _, rfl⟩ := List.mem_map.mp h
  have := d.valid
  show d.val.toNat < 0x110000
  rcases this with h | h
  · exact Nat.lt_trans h (by decide)
  · exact h.2
theorem keys_txt : ∀ {kvs : List (Key × D)} {ks : List Str}, strsOf (keysD kvs) = some ks → kvs.map (·.1) = ks.map Sum.inr ∧ kvs.length = ks.length
  | [], ks, e => by simp [keysD, strsOf] at e; subst e; exact ⟨rfl, rfl⟩
  | (k, d) :: kvs, ks, e => by
    cases k with
    | inl i => simp [keysD, keyD, strsOf] at e
    | inr x =>
      have e' : (strsOf (keysD kvs)).map (x :: ·) = some ks := e
      simp only [Option.map_eq_some_iff] at e'
      obtain ⟨zs, e1, rfl⟩ := e'
      obtain ⟨h1, h2⟩ := keys_txt e1
      exact ⟨by simp [h1], by simp [h2]⟩
theorem biOp (hc : X.calm = true) (hg : X.A.guards = some []) (hu : X.A.units + 65 < cLine) (b : Bi) (hb : b ≠ .sset ∧ b ≠ .litems) : CallR X (biV b) (rF X.K Gd (biD b)) := by
  intro pins s σ H xs us Q I r h
  obtain ⟨ι, S, ds, res, R, rs, e, q⟩ := h
  unfold biD at e
  split at e
  · cases e
    obtain ⟨v, rfl, rv⟩ := rds1 rs
    cases rv with
    | str hz => exact call_len_str pins s σ H _ us Q I r ⟨_, rfl, strGood_len hz, q.at_ R (.int _)⟩
  · split at e <;> cases e
    rename_i e0
    obtain ⟨v, rfl, rv⟩ := rds1 rs
    cases rv with
    | loc hl =>
      obtain ⟨vs, h1, h2⟩ := R.dct_at e0 hl
      refine len_dict pins s σ H _ us Q I r ⟨_, vs, rfl, h1, ?_⟩
      rw [← h2.length]
      exact q.at_ R (.int _)
  · simp only [Option.map_eq_some_iff] at e
    obtain ⟨ys, e0, rfl⟩ := e
    obtain ⟨v, rfl, rv⟩ := rds1 rs
    obtain ⟨a, vs, rfl, rs', hl⟩ := seqOf_rd R rv e0
    refine call_len_seq pins s σ H _ us Q I r ⟨a, vs, rfl, hl, ?_⟩
    rw [← rs'.length]
    exact q.at_ R (.int _)
  · simp only [Option.map_eq_some_iff] at e
    obtain ⟨ys, e0, rfl⟩ := e
    obtain ⟨v, rfl, rv⟩ := rds1 rs
    obtain ⟨a, vs, rfl, rs', hl⟩ := seqOf_rd R rv e0
    exact call_list_of pins s σ H _ us Q I r ⟨a, vs, rfl, hl, q.lst R rs'⟩
  · simp only [Option.map_eq_some_iff] at e
    obtain ⟨ys, e0, rfl⟩ := e
    obtain ⟨v, rfl, rv⟩ := rds1 rs
    obtain ⟨a, vs, rfl, rs', hl⟩ := seqOf_rd R rv e0
    refine call_tuple_of pins s σ H _ us Q I r ⟨a, vs, rfl, ?_⟩
    rcases hl with hl | hl
    · exact .inl ⟨hl, q.tup R rs'⟩
    · exact .inr ⟨hl, q.at_ R (.tup hl rs')⟩
  · simp only [Option.map_eq_some_iff, Option.bind_eq_some_iff] at e
    obtain ⟨bs, ⟨ys, e0, e1⟩, rfl⟩ := e
    obtain ⟨v, rfl, rv⟩ := rds1 rs
    obtain ⟨a, vs, rfl, rs', hl⟩ := lstOf_rd R rv e0
    have e2 := bls_rd rs' e1
    subst e2
    exact cr_all hc pins s σ H _ us Q I r ⟨a, bs, rfl, hl, q.at_ R (.bl _)⟩
  · simp only [Option.map_eq_some_iff, Option.bind_eq_some_iff] at e
    obtain ⟨bs, ⟨ys, e0, e1⟩, rfl⟩ := e
    obtain ⟨v, rfl, rv⟩ := rds1 rs
    obtain ⟨a, vs, rfl, rs', hl⟩ := lstOf_rd R rv e0
    have e2 := bls_rd rs' e1
    subst e2
    exact cr_any hc pins s σ H _ us Q I r ⟨a, bs, rfl, hl, q.at_ R (.bl _)⟩
  · cases e
    obtain ⟨v, rfl, rv⟩ := rds1 rs
    cases rv
    exact call_abs pins s σ H _ us Q I r ⟨_, rfl, q.at_ R (.int _)⟩
  · cases e
    obtain ⟨v, u, rfl, rv, ru⟩ := rds2 rs
    cases rv
    cases ru
    exact call_max2 hc pins s σ H _ us Q I r ⟨_, _, rfl, q.at_ R (.int _)⟩
  · cases e
    obtain ⟨v, u, rfl, rv, ru⟩ := rds2 rs
    cases rv
    cases ru
    exact call_min2 hc pins s σ H _ us Q I r ⟨_, _, rfl, q.at_ R (.int _)⟩
  · simp only [Option.map_eq_some_iff, Option.bind_eq_some_iff] at e
    obtain ⟨d, ⟨p, e0, e1⟩, rfl⟩ := e
    obtain ⟨v, rfl, rv⟩ := rds1 rs
    exact call_repr hg hu pins s σ H _ us Q I r ⟨ι, S, _, v, p, d, R, rv, rfl, e0, e1, q⟩
  · exact absurd rfl hb.1
  · -- sorted of a dict
    split at e <;> try cases e
    rename_i kvs e0
    split at e <;> try cases e
    rename_i h64
    simp only [Option.map_eq_some_iff] at e
    obtain ⟨ks, e1, rfl⟩ := e
    obtain ⟨v, rfl, rv⟩ := rds1 rs
    cases rv with
    | loc hl =>
      obtain ⟨vs, h1, h2⟩ := R.dctR_at e0 hl
      obtain ⟨k1, k2⟩ := h2.keys
      obtain ⟨m1, m2⟩ := keys_txt e1
      refine call_sortedD hc pins s σ H _ us Q I r ⟨_, vs, ks, rfl, h1, by rw [k1, m1], by rw [← m2]; simpa using h64, fun ys p hp hs fr => ?_⟩
      rw [sortS_eq hp hs]
      refine q.lst R (rd_strs fun y hy => ?_) p fr
      have hy2 := (sortS_perm ks).mem_iff.mp hy
      exact k2 (.inr y) (by rw [m1]; exact List.mem_map.mpr ⟨y, hy2, rfl⟩)
  · exact absurd rfl hb.2
  · split at e <;> cases e
    rename_i i hc
    simp only [Bool.and_eq_true, decide_eq_true_eq] at hc
    obtain ⟨v, rfl, rv⟩ := rds1 rs
    cases rv
    refine call_str_int pins s σ H _ us Q I r ⟨_, rfl, hc.1, q.at_ R (.str (strGood_mk hc.2 fun c hc => ?_))⟩
    exact num_cps hc
  · cases e
    obtain ⟨v, rfl, rv⟩ := rds1 rs
    cases rv with
    | str hs => exact SkE.call_str_str pins s σ H _ us Q I r ⟨_, rfl, q.at_ R (.str hs)⟩
  · cases e
    obtain ⟨v, rfl, rv⟩ := rds1 rs
    cases rv
    exact call_int1 pins s σ H _ us Q I r (.inl ⟨_, rfl, q.at_ R (.int _)⟩)
  · simp only [Option.map_eq_some_iff, Option.bind_eq_some_iff] at e
    obtain ⟨ys, ⟨l, e0, e1⟩, rfl⟩ := e
    obtain ⟨v, rfl, rv⟩ := rds1 rs
    exact call_sortD pins s σ H _ us Q I r ⟨ι, S, _, v, l, ys, R, rv, rfl, e0, e1, q⟩
  · split at e <;> try cases e
    rename_i hc
    simp only [Option.map_eq_some_iff] at e
    obtain ⟨n, e1, rfl⟩ := e
    obtain ⟨v, rfl, rv⟩ := rds1 rs
    cases rv
    exact call_int_str pins s σ H _ us Q I r ⟨_, _, rfl, e1, hc, q.at_ R (.int _)⟩
  · cases e

/-! ### methods of lists -/
def meId : Me → String
  | .append => "list.append"
  | .reverse => "list.reverse"
  | .extend => "list.extend"
  | .pop => "list.pop"
  | .join => "str.join"
  | .split => "str.split"
  | .get => "dict.get"
  | .setd => "dict.setdefault"
  | .popi => "list.pop"
  | .index => "list.index"
def rM (K : PySem.W.Frag) (Gd : Str → Addr → Prop) (f : D → List D → Sto → Option (D × Sto)) : V → List V → Hp → VK → Prop := fun x xs H Q =>
  ∃ ι S d ds r, Rel K Gd H ι S ∧ RD K Gd H ι d x ∧ RDs K Gd H ι ds xs ∧ f d ds S = some r ∧ Post K Gd H ι r Q
theorem Codes_split {x y : Str} (hy : y.cps.toList ≠ []) (hk : y.cps.all (· < 256) = true) : Txt.split x y = (TL.spl y.cps.toList 0 [] x.cps.toList).map sx := by
  refine TL.map_tl_inj ?_
  rw [TL.split_spl x y hy (TL.kind_ok hk), List.map_map]
  conv => lhs; rw [← List.map_id (TL.spl _ _ _ _)]
  rfl
theorem fstAt_spec {d : PyData} {i : Nat} : ∀ {ds : List PyData} {k j : Nat}, fstAt d i k ds = some j → ∃ z, ds[j - k]? = some z ∧ k ≤ j ∧ PyData.eqv z d = true ∧ i ≤ j ∧ ∀ m z', i ≤ k + m → k + m < j → ds[m]? = some z' → PyData.eqv z' d = false
  | [], k, j, h => by simp [fstAt] at h
  | y :: r, k, j, h => by
    unfold fstAt at h
    split at h
    · rename_i hc
      simp only [Bool.and_eq_true, Nat.ble_eq] at hc
      cases h
      exact ⟨y, by simp, Nat.le_refl _, hc.2, hc.1, fun m z' h1 h2 => by omega⟩
    · rename_i hc
      obtain ⟨z, h1, h2, h3, h4, h5⟩ := fstAt_spec h
      refine ⟨z, ?_, by omega, h3, h4, fun m z' a1 a2 a3 => ?_⟩
      · rw [show j - k = (j - (k + 1)) + 1 by omega, List.getElem?_cons_succ]
        exact h1
      · cases m with
        | zero =>
          simp at a3
          subst a3
          have hb : Nat.ble i k = true := Nat.ble_eq.mpr (by omega)
          simpa [hb] using hc
        | succ m =>
          simp only [List.getElem?_cons_succ] at a3
          exact h5 m z' (by omega) (by omega) a3
theorem meOp (hu : X.A.units + 65 < cLine) (m : Me) : MtR X (meId m) (rM X.K Gd (meD m)) := by
  intro pins s σ H x xs v us Q I rx rxs h
  obtain ⟨ι, S, d, ds, res, R, rd, rs, e, q⟩ := h
  have hcs : cap = sizeLine := cap_eq
  unfold meD at e
  split at e
  · rename_i sa
    unfold meS at e
    cases rd with
    | str hsg =>
    split at e
    · rename_i xa
      split at e <;> try cases e
      rename_i zs ez
      split at e <;> cases e
      rename_i hl
      obtain ⟨v1, rfl, rv⟩ := rds1 rs
      cases e3 : seqOf S xa with
      | none => rw [e3] at ez; cases ez
      | some ys =>
      rw [e3] at ez
      obtain ⟨a, vs, rfl, rs', hq⟩ := seqOf_rd R rv e3
      obtain ⟨rfl, hgd⟩ := strs_rd rs' ez
      refine mt_join pins s σ H _ _ v us Q I rx rxs ⟨sa, a, zs, rfl, rfl, hq, hl, ?_⟩
      have e4 : Txt.join sa zs = sx (TL.joinL sa.cps.toList (zs.map (·.cps.toList))) := by
        apply TL.ext_tl
        rw [TL.join_eq, TL.tl_join]
        rfl
      rw [e4]
      exact q.at_ R (.str (strGood_join hsg hgd hl))
    · rename_i b
      split at e <;> cases e
      rename_i hb
      simp only [Bool.and_eq_true, bne_iff_ne, ne_eq, decide_eq_true_eq] at hb
      obtain ⟨⟨hb1, hb2⟩, hb3⟩ := hb
      obtain ⟨v1, rfl, rv⟩ := rds1 rs
      cases rv with
      | str hbg =>
      refine mt_split pins s σ H _ _ v us Q I rx rxs ⟨sa, b, rfl, rfl, by simpa using hb1, by omega, fun p hp => ?_⟩
      have hbn : b.cps.toList ≠ [] := fun z => hb1 (by rw [← length_cps, z]; rfl)
      have e4 : (Txt.split sa b) = (TL.spl b.cps.toList 0 [] sa.cps.toList).map sx := by
        have e5 := Codes_split (x := sa) (y := b) hbn hb2
        exact e5
      have e6 : ((TL.spl b.cps.toList 0 [] sa.cps.toList).map fun l => D.str (sx l)) = ((TL.spl b.cps.toList 0 [] sa.cps.toList).map sx).map D.str := by rw [List.map_map]; rfl
      rw [e6] at q
      rw [e4]
      exact q.lst R (rd_strs fun y hy => by
        obtain ⟨l, hl, rfl⟩ := List.mem_map.mp hy
        exact strGood_spl hsg hl) p hp
    · cases e
  · rename_i n
    split at e
    · rename_i ys e0
      cases rd with
      | loc hl =>
        rename_i ad
        obtain ⟨vs, h1, h2⟩ := R.lst_at e0 hl
        have hne : Nf H ad := ⟨_, h1, fun _ _ z => nomatch z⟩
        have hlen := h2.length
        split at e
        · rename_i y
          split at e <;> cases e
          rename_i hz
          obtain ⟨z, rfl, rz⟩ := rds1 rs
          exact mt_append pins s σ H _ _ v us Q I rx rxs ⟨_, vs, z, rfl, rfl, h1, by omega, q.wlst R hl hne (h2.append (.cons rz .nil)) .non⟩
        · cases e
          cases rs
          exact mt_reverse pins s σ H _ _ v us Q I rx rxs ⟨_, vs, rfl, rfl, h1, q.wlst R hl hne h2.rev .non⟩
        · split at e
          · rename_i k zs e1
            split at e <;> cases e
            rename_i hz
            obtain ⟨z, rfl, rz⟩ := rds1 rs
            cases rz with
            | loc hk =>
              obtain ⟨ws, h3, h4⟩ := R.lst_at e1 hk
              have hlen2 := h4.length
              exact mt_extend pins s σ H _ _ v us Q I rx rxs ⟨_, _, vs, ws, rfl, rfl, h1, h3, by omega, q.wlst R hl hne (h2.append h4) .non⟩
          · cases e
        · split at e
          · rename_i y e1
            cases e
            cases rs
            obtain ⟨z, h3, h4⟩ := h2.get e1
            rw [hlen] at h3
            exact mt_pop pins s σ H _ _ v us Q I rx rxs ⟨_, vs, z, rfl, rfl, h1, h3, q.wlst R hl hne h2.dropLast h4⟩
          · cases e
        · split at e
          · rename_i y ys'
            cases e
            cases h2 with
            | cons hy ht =>
            rename_i vy vt
            obtain ⟨z, rfl, rz⟩ := rds1 rs
            cases rz
            exact mt_popAt pins s σ H _ _ v us Q I rx rxs ⟨_, _, 0, 0, vy, rfl, rfl, h1, by omega, by omega, by simp [seqIndex?], rfl, q.wlst R hl hne ht hy⟩
          · cases e
        · rename_i xv i
          split at e <;> try cases e
          rename_i hi
          split at e <;> try cases e
          rename_i d0 ds0 e1 e2
          simp only [Option.map_eq_some_iff] at e
          obtain ⟨j, e3, rfl⟩ := e
          obtain ⟨zv, zi, rfl, rz, ri⟩ := rds2 rs
          cases ri
          obtain ⟨a1, a2, a3⟩ := pd_ok R 60 xv zv d0 rz e1
          have e4 : pd S 60 (.loc .lst n) = some (.list ds0) := by
            rw [pd, e0]
            simp only [e2, Option.map_some]
          obtain ⟨b1, b2, b3⟩ := pd_ok R 60 (.loc .lst n) (.ref ad) (.list ds0) (.loc hl) e4
          obtain ⟨zz, f1, _, f2, f3, f4⟩ := fstAt_spec e3
          rw [Nat.sub_zero] at f1
          have hit : (i.toNat : Int) = i := Int.toNat_of_nonneg hi
          refine CVDi.mt_indexS hu pins s σ H _ _ v us Q I rx rxs ⟨ad, zv, i.toNat, d0, ds0, j, _, rfl, by rw [hit], b1, a1, ?_, ?_, f1, f2, f3, fun m z' g1 g2 g3 => f4 m z' (by omega) (by omega) g3, q.at_ R (.int _)⟩
          · unfold SeqAt.shaped
            rw [b2]
            simp
            omega
          · unfold SeqAt.shaped
            rw [a2]
            simp
            omega
        · cases e
    · cases e
  · -- dicts
    rename_i n
    split at e
    · rename_i k d
      split at e <;> cases e
      rename_i kvs ky e0 e1
      cases rd with
      | loc hl =>
      obtain ⟨zk, zd, rfl, rk, rzd⟩ := rds2 rs
      obtain ⟨vs, h1, h2⟩ := R.dctR_at e0 hl
      have hk := key_rd rk e1
      subst hk
      cases rx
      cases rxs with
      | cons ry rt =>
      cases rt with
      | cons rw' rt =>
      cases rt
      refine d_get2 (by omega) I (dget_r (k := ky) h1) ry rw' fun w' s' I' rw2 => ⟨_, H, I', rw2, ?_⟩
      rcases h2.val ky with ⟨h3, h4⟩ | ⟨d', v', h3, h4, h5⟩
      · rw [h3] at q
        rw [h4]
        exact q.at_ R rzd
      · rw [h3] at q
        rw [h4]
        exact q.at_ R h5
    · rename_i k d
      split at e <;> try cases e
      rename_i kvs ky e0 e1
      split at e <;> try cases e
      rename_i hz
      cases rd with
      | loc hl =>
      rename_i ad
      obtain ⟨zk, zd, rfl, rk, rzd⟩ := rds2 rs
      obtain ⟨vs, h1, h2⟩ := R.dct_at e0 hl
      have hk := key_rd rk e1
      have hgk := key_good rk e1
      subst hk
      have hne : Nf H ad := ⟨_, h1, fun _ _ z => nomatch z⟩
      have hlen := h2.length
      cases rx
      cases rxs with
      | cons ry rt =>
      cases rt with
      | cons rw' rt =>
      cases rt
      refine d_setd I h1 ry rw' (by omega) (fun v' hv w' s' I' rw2 => ⟨_, H, I', rw2, ?_⟩) fun hn w' s' I' rw2 => ⟨_, _, I', rw2, ?_⟩
      · rcases h2.val ky with ⟨h3, h4⟩ | ⟨d', v'', h3, h4, h5⟩
        · rw [h4] at hv; cases hv
        · rw [h3] at e
          cases e
          rw [h4] at hv
          cases hv
          exact q.at_ R h5
      · rcases h2.val ky with ⟨h3, h4⟩ | ⟨d', v'', h3, h4, h5⟩
        · rw [h3] at e
          cases e
          have x : Ext H ι (upd H ad (.dK (putK vs ky zd))) ι := Ext.write hl hne
          exact q _ _ ι (R.write (ob := .dct (putD kvs ky d)) hl hne ⟨_, upd_same, (RKv.put hgk rzd h2).keep (x.keeps R)⟩) (rzd.keep (x.keeps R)) x
        · rw [h4] at hn; cases hn
    · cases e
  · cases e

/-! ### stores by an index -/
def rP (K : PySem.W.Frag) (Gd : Str → Addr → Prop) : V → V → V → Hp → (Hp → Prop) → Prop := fun o i v H Q =>
  ∃ ι S a b d S', Rel K Gd H ι S ∧ RD K Gd H ι a o ∧ RD K Gd H ι b i ∧ RD K Gd H ι d v ∧ setD a b d S = some S' ∧ ∀ H', Rel K Gd H' ι S' → Ext H ι H' ι → Q H'
theorem setOp (hu : X.A.units + 65 < cLine) : PSet X (rP X.K Gd) := by
  intro pins s σ H o i v ov iv u Q I ro ri rv h
  obtain ⟨ι, S, a, b, d, S', R, ra, rb, rd, e, q⟩ := h
  have hcs : cap = sizeLine := cap_eq
  unfold setD at e
  split at e
  · split at e
    · rename_i n j xs e0
      split at e <;> cases e
      rename_i k hk
      cases ra with
      | loc hl =>
        rename_i ad
        cases rb
        obtain ⟨vs, h1, h2⟩ := R.lst_at e0 hl
        have hne : Nf H ad := ⟨_, h1, fun _ _ z => nomatch z⟩
        rw [h2.length] at hk
        refine set_list pins s σ H _ _ v ov iv u Q I ro ri rv ⟨_, vs, _, k, rfl, rfl, h1, hk, ?_⟩
        have x : Ext H ι (upd H ad (.lst (vs.set k v))) ι := Ext.write hl hne
        exact q _ (R.write (ob := .lst (xs.set k d)) hl hne ⟨_, upd_same, (h2.set rd k).keep (x.keeps R)⟩) x
    · cases e
  · split at e
    · rename_i n i' kvs k e0 e1
      split at e <;> cases e
      rename_i hz
      cases ra with
      | loc hl =>
        rename_i ad
        obtain ⟨vs, h1, h2⟩ := R.dct_at e0 hl
        have hne : Nf H ad := ⟨_, h1, fun _ _ z => nomatch z⟩
        have hlen := h2.length
        have hk := key_rd rb e1
        subst hk
        cases ro
        have x : Ext H ι (upd H ad (.dK (putK vs k v))) ι := Ext.write hl hne
        exact d_setItem (by omega) I (DPut.k (k := k) h1 (by omega)) ri rv fun s' I' =>
          ⟨_, I', q _ (R.write (ob := .dct (putD kvs k d)) hl hne ⟨_, upd_same, (RKv.put (key_good rb e1) rd h2).keep (x.keeps R)⟩) x⟩
    · cases e
  · cases e

/-! ### isinstance -/
theorem tyOf_ok {d : D} {v : V} {t : String} (R : Rel K Gd H ι S) (r : RD K Gd H ι d v) (e : tyOf d = some t) : TyX K H v (.type t) := by
  cases r with
  | non => cases e; exact .base .non
  | bl b => cases e; exact .base (.bl b)
  | int i => cases e; exact .base (.int i)
  | str hs => cases e; exact .base (.str _)
  | tup ht hr =>
    cases e
    rcases ht with (h | ⟨o, h⟩) | ⟨o, its, n, h, hc, _⟩
    · exact .base (.tup h)
    · exact .fTuple h
    · exact .kTuple h hc
  | loc hl =>
    rename_i k n a
    obtain ⟨o, e0, h1, h2⟩ := R.at_ hl
    cases k with
    | lst =>
      cases e
      cases o with
      | lst xs => obtain ⟨vs, h3, _⟩ := h2; exact .base (.lst h3)
      | dct xs => cases h1
      | lk xs => cases h1
    | dct =>
      cases e
      cases o with
      | lst xs => cases h1
      | dct xs => obtain ⟨vs, h3, _⟩ := h2; exact .base (.dK h3)
      | lk xs => obtain ⟨vs, ⟨od, h3⟩, _⟩ := h2; exact .fDict h3
  | _ => simp [tyOf] at e
end
end CV

set_option Elab.async false
set_option linter.all false
set_option maxRecDepth 100000
set_option maxHeartbeats 4000000
/-! CvN: defs that know that no repr stands around them. -/
namespace CVN
open PySem PySem.Spec PyProof.Rows L2
/-- a promise kept wherever no repr is under way -/
structure FnG (P : Program) (w : World) (K : PySem.W.Frag) (mg : Str → Option Value) (base : Heap) (CX : CXT) (k : Nat) (f : Addr) (fd : FuncData) (ps : List Str) (sp : Sp) : Prop where
  len : ∀ vs H Q E, sp vs H Q E → vs.length = ps.length
  go : ∀ (A : Around), A.guards = some [] → ∀ (outer : List Env) (s : Shared) (H : Hp) (args : Args) (us : List Value) (vs : List V) (Q : VK) (E : XK), Room k A → Env0 P w K mg base A outer s H → BindsTo s fd args (ps.zip us) → Vals vs us → sp vs H Q E →
    codeAny (model P w) A (.call (.ref f) args) (CR CX outer P w H s Q E) s
theorem guards_deeper {A : Around} {env : Env} (h : A.guards = some []) : (A.deeper env).guards = some [] := by
  first | exact h | (unfold Around.deeper; exact h) | (simp [Around.deeper, h])
section
variable {P : Program} {w : World} {K : PySem.W.Frag} {mg : Str → Option Value} {base : Heap} {x qual : Str} {params : Arguments} {body : List Stmt} {scope : Scope} {dvs : List V} {kws : List (Str × V)} {f : Addr} {fd : FuncData}
/-- the rule for a def -/
theorem fnG_of {CX : CXT} {N ps : List Str} {k : Nat} {sp : Sp} (F : FunD K x qual params body scope dvs kws f fd) (S : FnScope N ps scope) (hlen : ∀ vs H Q E, sp vs H Q E → vs.length = ps.length)
    (hb : ∀ (cdv : Value) (A : Around) (outer : List Env) (s : Shared) (H : Hp) (vs : List V) (Q : VK) (E : XK), A.guards = some [] → Room k (A.deeper (envOfC qual scope s.heap.objs.size f cdv)) → sp vs H Q E →
      ∃ t, PSs (cxOf CX P w K mg base N qual scope f cdv A outer s H E) body t ∧ t { nx := fun _ H' => Q .non H', rt := Q } (start N vs) H) : FnG P w K mg base CX (k + 1) f fd ps sp := by
  obtain ⟨oc, od, dV, kV, doc, pm, an, cdv, ct, osl, rfl, look, code, _, _⟩ := F.ex
  constructor
  · exact hlen
  intro A hg outer s H args us vs Q E room env0 bind rel promise
  have inK : K.In s.heap := env0.mod.kin.keeps fun a o q => (env0.bs a o q).1
  have noLim : s.heap.NoLimit := env0.mod.nolimit.keeps fun a o q => (env0.bs a o q).1
  have kinds : ∀ y ∈ ps.zip us, scope.names.lookup y.1 = some .local ∨ (scope.names.lookup y.1 = some .cell ∧ ((cellsFrom (s.heap.objs.size + 1) scope.names []).lookup y.1).isSome = true) := by
    rintro ⟨m, v⟩ hm
    exact (S.par m (List.of_mem_zip hm).1).imp id fun q => ⟨q, PySem.W.cellsFrom_some _ _ _ (.inl q)⟩
  refine codeAny_call_function room.depth (inK _ _ look) rfl S.co S.gen rfl (PySem.W.codeRec_of inK code) (bind _ _ _ _ ?_)
  refine wpAny_newFunctionEnv_cells S.kind kinds fun env henv s1 call => ?_
  subst henv
  refine ⟨noLim.keeps call.toInCall.keep, codeAny_func ?_⟩
  obtain ⟨t, walks, reads⟩ := hb cdv A outer s H vs Q E hg (room.deeper _) promise
  refine wpAny_mono (walks.run [] s1 (start N vs) H _ (inv_start S room.hd env0 (hlen _ _ _ _ promise) rel call) reads) ?_ fun _ _ z => z
  intro flow s' z
  cases flow with
  | ret u =>
    obtain ⟨v, st, H', inv, hv, q⟩ := z
    exact ⟨v, H', inv.os, inv.bare, inv.base, inv.hok, hv, q⟩
  | next =>
    obtain ⟨st, H', inv, q⟩ := z
    exact ⟨.non, H', inv.os, inv.bare, inv.base, inv.hok, rfl, q⟩
  | brk => exact z.choose_spec.choose_spec.2.elim
  | cont => exact z.choose_spec.choose_spec.2.elim
end
section
variable {X : Cx} {CX : CXT} {k : Nat} {f : Addr} {fd : FuncData} {ps : List Str} {sp : Sp} {E : XK} {x : Str} {p pos : Pos} {e : Expr} {es : List Expr} {t : TA}
theorem runG {pins : List (Addr × Obj)} {σ : L2.St} {H : Hp} {s : Shared} {Q : VK} {us : List Value} {vs : List V} (F : FnG X.prog X.w X.K X.mg X.base CX k f fd ps sp) (hg : X.A.guards = some []) (hr : Room k X.A) (hb : Binds X.K fd ps []) (hx : Passes CX X E)
    (I : Inv X pins σ H s) (r : Vals vs us) (h : sp vs H Q E) : wpAny (model X.prog X.w) X.A (call (.ref f) us) (EP X pins σ Q) X.xe s := by
  have size : (us ++ []).length = ps.length := by rw [List.append_nil, ← r.length]; exact F.len _ _ _ _ h
  have bind := hb s us I.kIn size
  rw [List.append_nil] at bind
  refine wpAny_call (codeAny_mono (F.go X.A hg X.stack s H ⟨us, []⟩ us vs Q E hr I.env0 bind r h) ?_)
  intro res s' z
  cases res with
  | error er => exact hx pins σ H s er s' I z
  | ok fl => cases fl with
    | ret u => exact I.after z
    | next => exact z.elim
    | brk => exact z.elim
    | cont => exact z.elim
/-- f(e, ..) -/
theorem pe_callG (F : FnG X.prog X.w X.K X.mg X.base CX k f fd ps sp) (hg : X.A.guards = some []) (hr : Room k X.A) (gl : Gl X x) (hm : X.mg x = some (.ref f)) (kp : PySem.W.keepIn X.K (.ref f) = true) (hb : Binds X.K fd ps []) (hx : Passes CX X E)
    (ha : PA X (e :: es) t) (hdb : (x == ("__debug__" : Str)) = false) (he : starEach (e :: es) X.env = (false, eval e X.env) :: starEach es X.env) (hpl : (backTo pos (starEach es X.env)).any (·.1) = false) :
    PE X (.Call (.Name x p) (e :: es) [] pos) (tCall sp [] E t) := by
  constructor
  intro pins s σ H Q I h
  refine wpAny_Call_Name_kw (ld_glob I gl hm ?_ hdb)
  refine PySem.W.callWith_K (h₀ := X.base) I.ok.mod.kin kp (thn (ha.run pos pins s σ H _ I h) ?_) he hpl
  rintro us s1 ⟨vs, H1, I1, r, q⟩
  rw [List.append_nil] at q
  exact ⟨I1.kIn, runG F hg hr hb hx I1 r q⟩
/-- f() -/
theorem pe_callG0 (F : FnG X.prog X.w X.K X.mg X.base CX k f fd ps sp) (hg : X.A.guards = some []) (hr : Room k X.A) (gl : Gl X x) (hm : X.mg x = some (.ref f)) (kp : PySem.W.keepIn X.K (.ref f) = true) (hb : Binds X.K fd ps []) (hx : Passes CX X E)
    (hdb : (x == ("__debug__" : Str)) = false) : PE X (.Call (.Name x p) [] [] pos) (tCall sp [] E tNil) := by
  constructor
  intro pins s σ H Q I h
  refine wpAny_Call_Name_kw (ld_glob I gl hm ?_ hdb)
  exact PySem.W.callWith_K0 I.kIn kp (runG (us := []) (vs := []) F hg hr hb hx I .nil h)
end
/-- the law's call, where the heap that is told of holds the script alone -/
theorem core_call {P : Program} {w : World} {K : PySem.W.Frag} {mg mb : Str → Option Value} {CX : CXT} {k : Nat} {fa a : Addr} {fd : FuncData} {x : Str} {sp : Sp} {s₁ : Shared} {items : List Value} {ns : List Int}
    (inK : K.In s₁.heap) (gl : s₁.heap.Ns mainGlobals mg) (bl : s₁.heap.Ns builtinsNs mb) (boot : ∀ x : Str, x ≠ "__name__" → mb x = bootBuiltins x) (noLim : s₁.heap.NoLimit) (noGen : s₁.gens = #[])
    (script : s₁.heap.get? a = some { cls := .type "list", data := .seq items.toArray }) (room : Room k callerA)
    (F : ∀ base : Heap, K.In base → base.Ns mainGlobals mg → FnG P w K mg base CX k fa fd [x] sp) (bind : ∀ (s : Shared) (u : Value), BindsTo s fd ⟨[u], []⟩ [(x, u)])
    (told : ∀ H : Hp, Only H → SqL K H a (ns.map V.int) → sp [.ref a] H (fun v _ => v = .bl true) fun _ _ _ => False)
    (noExc : ∀ H e s', CX [] H s₁ (fun _ _ _ => False) e s' → False)
    (H : Hp) (only : Only H) (sq : SqL K H a (ns.map V.int)) (ok : HOk P w H s₁.heap) (alone : ∀ b, H b ≠ none → b = a) (out : H a ≠ none → K.lookup a = none) :
    codeAny (model P w) callerA (.call (.ref fa) ⟨[.ref a], []⟩) (fun r s' => r = .ok (.ret (.bool true)) ∧ OldK s₁.heap s'.heap ∧ s'.os = s₁.os ∧ AllBare s'.gens) s₁ := by
  have dictFree : ∀ {b : Addr} {o : Obj} {es : Array DictEntry} {ep : Nat}, s₁.heap.get? b = some o → o.data = .dict es ep → H b = none := by
    intro b o es ep q dt
    refine Classical.byContradiction fun z => ?_
    have := alone b z
    subst this
    rw [script] at q
    cases q
    cases dt
  have nsIn : ∀ {b : Addr} {m : Str → Option Value}, s₁.heap.Ns b m → (hidT s₁.heap H).Ns b m := by
    rintro b m ⟨o, es, ep, q, dt, rest⟩
    exact ⟨o, es, ep, hidT_get q (dictFree q dt), dt, rest⟩
  have kIn : K.In (hidT s₁.heap H) := by
    intro b o q
    refine hidT_get (inK b o q) (Classical.byContradiction fun z => ?_)
    have := alone b z
    subst this
    rw [out z] at q
    cases q
  have lim : (hidT s₁.heap H).NoLimit := by
    obtain ⟨mc, z1, z2⟩ := noLim
    exact ⟨mc, nsIn z1, z2⟩
  have env0 : Env0 P w K mg (hidT s₁.heap H) callerA [] s₁ H :=
    { frames := rfl, mod := ⟨kIn, nsIn gl, ⟨mb, nsIn bl, boot⟩, lim⟩, bs := fun b o q => of_hidT q, bsz := Nat.le_of_eq (hidT_size _ _), funs := trivial, frf := (fun b z => absurd (show b ∈ ([] : List Addr) from z) (by simp)), hok := ok, bare := .of_eq noGen }
  have run := (F _ kIn (nsIn gl)).go callerA rfl [] s₁ H ⟨[.ref a], []⟩ [.ref a] [.ref a] _ _ room env0 (bind s₁ (.ref a)) (.cons rfl .nil) (told H only sq)
  refine codeAny_mono run fun r s' z => ?_
  match r, z with
  | .error e, z => exact (noExc H e s' z).elim
  | .ok .next, z => exact z.elim
  | .ok .brk, z => exact z.elim
  | .ok .cont, z => exact z.elim
  | .ok (.ret u), ⟨v, H', os, bare, un, ok', rel, yes⟩ =>
    have yes : v = .bl true := yes
    subst yes
    have : u = Value.bool true := rel
    subst this
    refine ⟨rfl, OldK.of_keep fun b o q => ?_, os, bare⟩
    cases known : H b with
    | none => exact un.keep b o q known (by intro z; cases z) (by simp)
    | some t =>
      rcases only b with z | ⟨ob, xs, z⟩
      · rw [known] at z; cases z
      · obtain ⟨e1, _⟩ := ok b _ z
        obtain ⟨e2, _⟩ := ok' b _ (un.frzs b ob _ z)
        rw [q] at e1
        cases e1
        exact e2
/-- the law's call -/
theorem lawG_call {P : Program} {w : World} {K : PySem.W.Frag} {mg mb : Str → Option Value} {CX : CXT} {k : Nat} {fa a : Addr} {fd : FuncData} {x : Str} {sp : Sp} {s₁ : Shared} {items : List Value} {ns : List Int}
    (inK : K.In s₁.heap) (gl : s₁.heap.Ns mainGlobals mg) (bl : s₁.heap.Ns builtinsNs mb) (boot : ∀ x : Str, x ≠ "__name__" → mb x = bootBuiltins x) (noLim : s₁.heap.NoLimit) (noGen : s₁.gens = #[])
    (script : s₁.heap.get? a = some { cls := .type "list", data := .seq items.toArray }) (whole : IntsAre items ns) (few : ns.length ≤ sizeLine) (room : Room k callerA)
    (F : ∀ base : Heap, K.In base → base.Ns mainGlobals mg → FnG P w K mg base CX k fa fd [x] sp) (bind : ∀ (s : Shared) (u : Value), BindsTo s fd ⟨[u], []⟩ [(x, u)])
    (told : ∀ H : Hp, Only H → SqL K H a (ns.map V.int) → sp [.ref a] H (fun v _ => v = .bl true) fun _ _ _ => False)
    (noExc : ∀ H e s', CX [] H s₁ (fun _ _ _ => False) e s' → False) :
    codeAny (model P w) callerA (.call (.ref fa) ⟨[.ref a], []⟩) (fun r s' => r = .ok (.ret (.bool true)) ∧ OldK s₁.heap s'.heap ∧ s'.os = s₁.os ∧ AllBare s'.gens) s₁ := by
  have vals := vals_ints whole
  have size : items.toArray.size ≤ sizeLine := by rw [List.size_toArray, whole.length]; exact few
  have go := core_call (items := items) (ns := ns) inK gl bl boot noLim noGen script room F bind told noExc
  by_cases own : K.lookup a = none
  · refine go (fun b => if b = a then some (.frz { cls := .type "list", data := .seq items.toArray } (.lst (ns.map V.int))) else none) (fun b => ?_) (.inl (.inr ⟨{ cls := .type "list", data := .seq items.toArray }, if_pos rfl⟩)) (fun b u z => ?_) (fun b z => ?_) fun _ => own
    · by_cases c : b = a
      · exact .inr ⟨_, _, if_pos c⟩
      · exact .inl (if_neg c)
    · by_cases c : b = a
      · have z := (if_pos c).symm.trans z
        cases z
        subst c
        exact ⟨script, by rw [List.length_map]; exact few, items, _, vals, script⟩
      · have z := (if_neg c).symm.trans z
        cases z
    · exact Classical.byContradiction fun c => z (if_neg c)
  · obtain ⟨o, ho⟩ := Option.ne_none_iff_exists'.mp own
    have q := inK a o ho
    rw [script] at q
    cases q
    exact go (fun _ => none) (fun _ => .inl rfl) (.inr ⟨_, items.toArray, _, ho, rfl, rfl, rfl, size, by simpa using vals⟩) (fun b u z => by cases z) (fun b z => absurd rfl z) fun z => absurd rfl z
/-- a law whose defs know their guards -/
theorem walk_ofG {l : PySem.W.OpenLaw} {n k : Nat} {q : Program} {loose : List Str} {XP : (Str → Option Value) → Heap → Prop} {YP : World → Heap → Prop} {d : DefRec} {CX : CXT} {x : Str}
    (most : l.most = some n) (fits : n ≤ sizeLine) (noDfl : d.params.defaults = []) (room : Room k callerA)
    (F : ∀ (w : World) (mg : Str → Option Value) (fa : Addr) (h : Heap), YP w h → h.Ns mainGlobals mg → mg d.name = some (.ref fa) →
      ∃ (K : PySem.W.Frag) (fd : FuncData) (sp : Sp), K.In h ∧ (∀ (s : Shared) (u : Value), BindsTo s fd ⟨[u], []⟩ [(x, u)]) ∧
        (∀ (H : Hp) (a : Addr) (ns : List Int), ns.length ≤ n → Only H → SqL K H a (ns.map V.int) → sp [.ref a] H (fun v _ => v = .bl true) fun _ _ _ => False) ∧
        ∀ base : Heap, K.In base → base.Ns mainGlobals mg → FnG l.prog w K mg base CX k fa fd [x] sp)
    (noExc : ∀ (H : Hp) (s : Shared) (e : Value) (s' : Shared), CX [] H s (fun _ _ _ => False) e s' → False) :
    PySem.W.WalkO q loose XP YP l.row.toRowW d [] (fun f vs => PySem.call f vs) := by
  refine Att.attach_call most noDfl ?_
  intro w s₀ s₁ mg mb fa o pm cd doc a vs ns G Y _ _ _ named object whole few noGen
  obtain ⟨K, fd, sp, inK, bind, told, keep⟩ := F w mg fa _ Y G.T.g named
  exact lawG_call inK G.T.g G.T.b G.T.builtins G.T.nolimit noGen object whole (Nat.le_trans few fits) room keep bind (fun H only sq => told H a ns few only sq) fun H e s' => noExc H s₁ e s'
end CVN

set_option Elab.async false
set_option linter.all false
set_option maxRecDepth 100000
set_option maxHeartbeats 4000000
/-! CvE: expressions, tests, targets, what is walked. -/
namespace CV
open PySem PySem.Spec PyProof.Rows L2

/-! ### weaker wishes -/
theorem PE.imp {X : Cx} {e : Expr} {t t' : TE} (h : PE X e t) (w : ∀ σ H Q, t' σ H Q → t σ H Q) : PE X e t' := ⟨fun pins s σ H Q I q => h.run pins s σ H Q I (w _ _ _ q)⟩
theorem PT.imp {X : Cx} {e : Expr} {t t' : TT} (h : PT X e t) (w : ∀ σ H Q, t' σ H Q → t σ H Q) : PT X e t' := ⟨fun pins s σ H Q I q => h.run pins s σ H Q I (w _ _ _ q)⟩
theorem PA.imp {X : Cx} {e : List Expr} {t t' : TA} (h : PA X e t) (w : ∀ σ H Q, t' σ H Q → t σ H Q) : PA X e t' := ⟨fun pos pins s σ H Q I q => h.run pos pins s σ H Q I (w _ _ _ q)⟩
theorem PO.imp {X : Cx} {e : Option Expr} {t t' : TO} (h : PO X e t) (w : ∀ σ H Q, t' σ H Q → t σ H Q) : PO X e t' := ⟨fun pins s σ H Q I q => h.run pins s σ H Q I (w _ _ _ q)⟩
theorem PI.imp {X : Cx} {tg e : Expr} {t t' : TI} (h : PI X tg e t) (w : ∀ σ H R, t' σ H R → t σ H R) : PI X tg e t' := ⟨fun pins s σ H Q I q => h.run pins s σ H Q I (w _ _ _ q)⟩
theorem PG.imp {X : Cx} {e : Expr} {t t' : TG} (h : PG X e t) (w : ∀ v σ H Q, t' v σ H Q → t v σ H Q) : PG X e t' := ⟨fun pins s σ H v u Q I r q => h.run pins s σ H v u Q I r (w _ _ _ _ q)⟩
theorem PGs.imp {X : Cx} {e : List Expr} {t t' : TGs} (h : PGs X e t) (w : ∀ v σ H Q, t' v σ H Q → t v σ H Q) : PGs X e t' := ⟨fun pins s σ H v u Q I r q => h.run pins s σ H v u Q I r (w _ _ _ _ q)⟩
theorem PS.imp {X : Cx} {e : Stmt} {t t' : TS} (h : PS X e t) (w : ∀ D σ H, t' D σ H → t D σ H) : PS X e t' := ⟨fun pins s σ H D I q => h.run pins s σ H D I (w _ _ _ q)⟩
theorem PSs.imp {X : Cx} {e : List Stmt} {t t' : TS} (h : PSs X e t) (w : ∀ D σ H, t' D σ H → t D σ H) : PSs X e t' := ⟨fun pins s σ H D I q => h.run pins s σ H D I (w _ _ _ q)⟩
theorem PI.or {X : Cx} {tg e : Expr} {t t' : TI} (h : PI X tg e t) (h' : PI X tg e t') : PI X tg e (fun σ H R => t σ H R ∨ t' σ H R) := ⟨fun pins s σ H Q I q => q.elim (h.run pins s σ H Q I) (h'.run pins s σ H Q I)⟩

section
variable {K : PySem.W.Frag} {Gd : Str → Addr → Prop} {H H' : Hp} {ι ι' : Loc} {S S' : Sto} {σ : L2.St} {env : Env}

/-! ### readings by the evaluator -/
def tE (K : PySem.W.Frag) (Gd : Str → Addr → Prop) (g : Cst) (F : FT) (e : E) : TE := fun σ H Q =>
  ∃ ι S env r, Rel K Gd H ι S ∧ REnv K Gd H ι σ env ∧ evE g F e env S = some r ∧ Post K Gd H ι r Q
def tT (K : PySem.W.Frag) (Gd : Str → Addr → Prop) (g : Cst) (F : FT) (e : E) : TT := fun σ H Q =>
  ∃ ι S env b S', Rel K Gd H ι S ∧ REnv K Gd H ι σ env ∧ evT g F e env S = some (b, S') ∧ ∀ H' ι', Rel K Gd H' ι' S' → Ext H ι H' ι' → Q b H'
def tA (K : PySem.W.Frag) (Gd : Str → Addr → Prop) (g : Cst) (F : FT) (es : List E) : TA := fun σ H Q =>
  ∃ ι S env ds S', Rel K Gd H ι S ∧ REnv K Gd H ι σ env ∧ evEs g F es env S = some (ds, S') ∧ ∀ vs H' ι', Rel K Gd H' ι' S' → RDs K Gd H' ι' ds vs → Ext H ι H' ι' → Q vs H'
def tO (K : PySem.W.Frag) (Gd : Str → Addr → Prop) (g : Cst) (F : FT) (e : Option E) : TO := fun σ H Q =>
  ∃ ι S env i S', Rel K Gd H ι S ∧ REnv K Gd H ι σ env ∧ evO g F e env S = some (i, S') ∧ ∀ H' ι', Rel K Gd H' ι' S' → Ext H ι H' ι' → Q i H'

theorem REnv.keep (k : Kp K H ι H' ι') (h : REnv K Gd H ι σ env) : REnv K Gd H' ι' σ env := ⟨h.1, fun i d e => let ⟨v, h1, h2⟩ := h.2 i d e; ⟨v, h1, h2.keep k⟩⟩
theorem REnv.set {i : Nat} {d : D} {v : V} (h : REnv K Gd H ι σ env) (r : RD K Gd H ι d v) : REnv K Gd H ι (σ.set i (some v)) (env.set i (some d)) := by
  refine ⟨by simp [h.1], fun j e q => ?_⟩
  by_cases hj : i = j
  · subst hj
    have hl : i < env.length := by
      have := (List.getElem?_eq_some_iff.mp q).1
      simpa using this
    rw [List.getElem?_set_self hl] at q
    cases q
    exact ⟨v, by rw [List.getElem?_set_self (by rw [h.1]; exact hl)], r⟩
  · rw [List.getElem?_set_ne hj] at q ⊢
    exact h.2 j e q
theorem REnv.wipe (h : REnv K Gd H ι σ env) : ∀ vs : List Nat, REnv K Gd H ι (wipe σ vs) (wipeD env vs)
  | [] => h
  | v :: vs => by
    have ih := REnv.wipe h vs
    unfold L2.wipe wipeD
    refine ⟨by simp [ih.1], fun j e q => ?_⟩
    by_cases hj : v = j
    · subst hj
      have hl : v < (wipeD env vs).length := by
        have := (List.getElem?_eq_some_iff.mp q).1
        simpa using this
      rw [List.getElem?_set_self hl] at q
      cases q
    · rw [List.getElem?_set_ne hj] at q ⊢
      exact ih.2 j e q

/-! ### parts -/
variable {g : Cst} {F : FT}
theorem imp_bin {ia ib : E} {f : D → D → Sto → Option (D × Sto)} {r2 : R2} {x : E}
    (hx : ∀ env S r, evE g F x env S = some r → ∃ a S1 b S2 r', evE g F ia env S = some (a, S1) ∧ evE g F ib env S1 = some (b, S2) ∧ f a b S2 = some r' ∧ r = gc S r')
    (hr : ∀ x y H Q, rB K Gd f x y H Q → r2 x y H Q) : ∀ σ H Q, tE K Gd g F x σ H Q → tOp r2 (tE K Gd g F ia) (tE K Gd g F ib) σ H Q := by
  intro σ H Q ⟨ι, S, env, r, R, en, e, q⟩
  obtain ⟨a, S1, b, S2, r', e1, e2, e3, rfl⟩ := hx env S r e
  refine ⟨ι, S, env, (a, S1), R, en, e1, fun v1 H1 ι1 R1 r1 x1 => ?_⟩
  refine ⟨ι1, S1, env, (b, S2), R1, en.keep (x1.keeps R), e2, fun v2 H2 ι2 R2 r2' x2 => ?_⟩
  refine hr _ _ _ _ ⟨ι2, S2, a, b, r', R2, r1.keep (x2.keeps R1), r2', e3, ?_⟩
  exact Post.step (x1.trans x2) (q.gc R)
end

/-! ### the context -/
/-- what a def promises, by the evaluator -/
def spF (K : PySem.W.Frag) (Gd : Str → Addr → Prop) (F : FT) (f : Str) (np : Nat) : Sp := fun vs H Q _ =>
  ∃ ι S ds r, Rel K Gd H ι S ∧ RDs K Gd H ι ds vs ∧ ds.length = np ∧ F f ds S = some r ∧ Post K Gd H ι r Q
/-- the built-in names that the evaluator uses are the built-in ones -/
def bltNames : List Str := ["len", "list", "tuple", "all", "any", "abs", "max", "min", "isinstance", "int", "str", "bool", "dict", "range", "repr", "sorted", "set"]
structure FnAt (P : Program) (w : World) (K : PySem.W.Frag) (mg : Str → Option Value) (base : Heap) (Gd : Str → Addr → Prop) (F : FT) (k : Nat) (x : Str) : Prop where
  ex : ∃ (fa : Addr) (fd : FuncData) (ps : List Str), CVN.FnG P w K mg base CX0 k fa fd ps (spF K Gd F x ps.length) ∧ mg x = some (.ref fa) ∧ PySem.W.keepIn K (.ref fa) = true ∧ Binds K fd ps [] ∧
    ∀ ds S r, F x ds S = some r → ds.length = ps.length
structure Ok (X : Cx) (tb : Tb) (N : List Str) (Gd : Str → Addr → Prop) (g : Cst) (F : FT) (k : Nat) : Prop where
  names : X.N = N
  nd : X.N.Nodup
  calm : X.calm = true
  room : Room k X.A
  gu : X.A.guards = some []
  G : GdOk X.K X.w Gd g
  cst : ∀ x d, tb.cst.lookup x = some d → ∃ u v, X.mg x = some u ∧ RelV v u ∧ ∀ H ι, RD X.K Gd H ι d v
  gds : ∀ x ∈ tb.gds, ∃ a, X.mg x = some (.ref a) ∧ Gd x a
  fns : ∀ x ∈ tb.fns, FnAt X.prog X.w X.K X.mg X.base Gd F k x
  blt : ∀ x ∈ bltNames, X.mg x = none

section
variable {X : Cx} {tb : Tb} {N : List Str} {Gd : Str → Addr → Prop} {g : Cst} {F : FT} {k : Nat}
theorem Ok.hu (O : Ok X tb N Gd g F k) : X.A.units + 65 < cLine := by
  have := O.room.un
  omega
/-- in a comprehension's block -/
theorem Ok.blk (O : Ok X tb N Gd g F k) {s : Shared} {H : Hp} {scope : Scope} {C : Addr} {cl : List (Str × Addr)} {fp : List Addr} : Ok (X.blk s H scope (compEnvC scope cl C X.env) fp) tb N Gd g F k :=
  ⟨O.names, O.nd, O.calm, O.room, O.gu, O.G, O.cst, O.gds, O.fns, O.blt⟩

theorem seen_vis {X : Cx} {sc : Scope} (e : X.env.scope = sc) {x : Str} (h : seen sc x = true) : Vis X.env.scope x := by
  subst e
  unfold seen at h
  unfold Vis
  split at h <;> first | (rename_i q; exact .inl q) | (rename_i q; exact .inr (.inl q)) | (rename_i q; exact .inr (.inr q)) | cases h
theorem owned_loc {X : Cx} {sc : Scope} (e : X.env.scope = sc) {x : Str} (h : owned sc x = true) : L2.Loc X.env.scope x := by
  subst e
  unfold owned at h
  unfold L2.Loc
  split at h <;> first | (rename_i q; exact .inl q) | (rename_i q; exact .inr q) | cases h
theorem glob_gl {X : Cx} {sc : Scope} (e : X.env.scope = sc) {x : Str} (h : glob sc x = true) : Gl X x := by
  subst e
  unfold glob at h
  unfold Gl
  split at h
  · rename_i q
    exact q
  · cases h
theorem ixOf_get {x : Str} : ∀ {ys : List Str} {n i : Nat}, ixOf x ys n = some i → n ≤ i ∧ ys[i - n]? = some x
  | [], _, _, h => by simp [ixOf] at h
  | y :: ys, n, i, h => by
    unfold ixOf at h
    split at h
    · rename_i e
      cases h
      subst e
      exact ⟨Nat.le_refl _, by simp⟩
    · obtain ⟨h1, h2⟩ := ixOf_get h
      refine ⟨by omega, ?_⟩
      have e : i - n = (i - (n + 1)) + 1 := by omega
      rw [e, List.getElem?_cons_succ]
      exact h2
theorem ixOf_at {x : Str} {ys : List Str} {i : Nat} (h : ixOf x ys 0 = some i) : ys[i]? = some x := by
  have := (ixOf_get h).2
  simpa using this
theorem plainN_ok {x : Str} (h : plainN x = true) : (x == ("__debug__" : Str)) = false ∧ (x == ("__classdict__" : Str)) = false ∧ x ≠ "__name__" := by
  unfold plainN at h
  simp only [Bool.and_eq_true, Bool.not_eq_true'] at h
  exact ⟨h.1.1, h.1.2, fun e => by
    have := h.2
    rw [e] at this
    simp at this⟩
theorem star_cons {e : Expr} {es : List Expr} {env : PySem.Env} (h : notStar e = true) : starEach (e :: es) env = (false, eval e env) :: starEach es env := by
  cases e <;> first | rfl | cases h
theorem star_plain {pos : Pos} {env : PySem.Env} : ∀ {es : List Expr}, es.all notStar = true → (backTo pos (starEach es env)).any (·.1) = false
  | [], _ => rfl
  | e :: es, h => by
    simp only [List.all_cons, Bool.and_eq_true] at h
    rw [star_cons h.1]
    show (false || (backTo pos (starEach es env)).any (·.1)) = false
    rw [star_plain h.2]
    rfl

/-! ### single expressions -/
theorem se_var {i : Nat} {x : Str} {pos : Pos} {sc : Scope} (O : Ok X tb N Gd g F k) (hs : X.env.scope = sc) (h : seen sc x = true) (hp : plainN x = true) (hi : ixOf x N 0 = some i) : PE X (.Name x pos) (tE X.K Gd g F (.var i)) := by
  obtain ⟨p1, p2, _⟩ := plainN_ok hp
  refine PE.imp (pe_var (i := i) (by rw [O.names]; exact ixOf_at hi) (seen_vis hs h) p1 p2) fun σ H Q q => ?_
  obtain ⟨ι, S, env, r, R, en, e, q⟩ := q
  simp only [evE] at e
  split at e <;> cases e
  rename_i d e0
  obtain ⟨v, h1, h2⟩ := en.2 i d e0
  exact ⟨v, h1, q.at_ R h2⟩
theorem se_cst {e : Expr} {d : D} {v : V} (h : PE X e (tC v)) (r : ∀ H ι, RD X.K Gd H ι d v) : PE X e (tE X.K Gd g F (.cst d)) := by
  refine PE.imp h fun σ H Q q => ?_
  obtain ⟨ι, S, env, r', R, en, e, q⟩ := q
  simp only [evE, Option.some.injEq] at e
  subst e
  exact q.at_ R (r _ _)
theorem se_bin {a b : Expr} {ia ib : E} {op : Operator} {o : Bop} {pos : Pos} (ho : bopC op = some o) (ha : PE X a (tE X.K Gd g F ia)) (hb : PE X b (tE X.K Gd g F ib)) : PE X (.BinOp a op b pos) (tE X.K Gd g F (.bin o ia ib)) := by
  have e := bopC_eq ho
  subst e
  refine PE.imp (pe_op (opB (Gd := Gd) o) ha hb) (imp_bin (f := binD o) (fun env S r h => ?_) fun x y H Q q => q)
  simp only [evE] at h
  split at h <;> try cases h
  rename_i a S1 e1
  split at h <;> try cases h
  rename_i b S2 e2
  simp only [Option.map_eq_some_iff] at h
  obtain ⟨r', e3, rfl⟩ := h
  exact ⟨a, S1, b, S2, r', e1, e2, e3, rfl⟩
theorem se_neg {a : Expr} {ia : E} {pos : Pos} (ha : PE X a (tE X.K Gd g F ia)) : PE X (.UnaryOp .USub a pos) (tE X.K Gd g F (.neg ia)) := by
  refine PE.imp (pe_un un_neg ha) fun σ H Q q => ?_
  obtain ⟨ι, S, env, r, R, en, e, q⟩ := q
  simp only [evE] at e
  split at e <;> cases e
  rename_i i S1 e1
  refine ⟨ι, S, env, (.int i, S1), R, en, e1, fun v H1 ι1 R1 r1 x1 => ?_⟩
  cases r1
  exact ⟨i, rfl, (q.step x1).at_ R1 (.int _)⟩
/-- two values compared -/
theorem imp_cmp {ia ib : E} {f : D → D → Sto → Option Bool} {r2 : R2} {x : E} {fin : Sto → D × Sto → D × Sto} (hfin : ∀ S r, fin S r = r ∨ fin S r = gc S r)
    (hx : ∀ env S r, evE g F x env S = some r → ∃ a S1 b S2 k, evE g F ia env S = some (a, S1) ∧ evE g F ib env S1 = some (b, S2) ∧ f a b S2 = some k ∧ r = fin S (.bl k, S2))
    (hr : ∀ x y H Q, rC X.K Gd f x y H Q → r2 x y H Q) : ∀ σ H Q, tE X.K Gd g F x σ H Q → tOp r2 (tE X.K Gd g F ia) (tE X.K Gd g F ib) σ H Q := by
  intro σ H Q ⟨ι, S, env, r, R, en, e, q⟩
  obtain ⟨a, S1, b, S2, k, e1, e2, e3, rfl⟩ := hx env S r e
  refine ⟨ι, S, env, (a, S1), R, en, e1, fun v1 H1 ι1 R1 r1 x1 => ?_⟩
  refine ⟨ι1, S1, env, (b, S2), R1, en.keep (x1.keeps R), e2, fun v2 H2 ι2 R2 r2' x2 => ?_⟩
  refine hr _ _ _ _ ⟨ι2, S2, a, b, k, R2, r1.keep (x2.keeps R1), r2', e3, ?_⟩
  have q' : Post X.K Gd H ι (.bl k, S2) Q := by
    rcases hfin S (.bl k, S2) with h | h
    · rw [h] at q; exact q
    · rw [h] at q; exact q.gc R
  exact (q'.step (x1.trans x2)).at_ R2 (.bl k)
theorem se_cmp {a b : Expr} {ia ib : E} {op : CmpOp} {o : Cop} {pos : Pos} (O : Ok X tb N Gd g F k) (ho : copC op = some o) (hm : behindInMarks op b = false) (ha : PE X a (tE X.K Gd g F ia)) (hb : PE X b (tE X.K Gd g F ib)) :
    PE X (.Compare a [op] [b] pos) (tE X.K Gd g F (.cmp o ia ib)) ∧ PT X (.Compare a [op] [b] pos) (tT X.K Gd g F (.cmp o ia ib)) := by
  have e := copC_eq ho
  subst e
  have w : ∀ σ H Q, tE X.K Gd g F (.cmp o ia ib) σ H Q → tOp (rC X.K Gd fun a b S => cmpD g o a b S) (tE X.K Gd g F ia) (tE X.K Gd g F ib) σ H Q :=
    imp_cmp (f := fun a b S => cmpD g o a b S) (fin := gc) (fun S r => .inr rfl) (fun env S r h => by
      simp only [evE] at h
      split at h <;> try cases h
      rename_i a S1 e1
      split at h <;> try cases h
      rename_i b S2 e2
      simp only [Option.map_eq_some_iff] at h
      obtain ⟨r', e3, rfl⟩ := h
      exact ⟨a, S1, b, S2, r', e1, e2, e3, rfl⟩) fun x y H Q q => q
  refine ⟨PE.imp (pe_cmpR (opC O.G O.hu o) ha hb hm) w, PT.imp (pt_cmpR (opC O.G O.hu o) ha hb hm) fun σ H Q q => ?_⟩
  obtain ⟨ι, S, env, c, S', R, en, e, q⟩ := q
  refine w σ H _ ?_
  simp only [evT] at e
  split at e <;> try cases e
  rename_i d S1 e1
  split at e <;> cases e
  rename_i e2
  refine ⟨ι, S, env, (d, _), R, en, e1, fun v H1 ι1 R1 r1 x1 => ?_⟩
  have hd : ∃ j, d = .bl j := by
    simp only [evE] at e1
    split at e1 <;> try cases e1
    split at e1 <;> try cases e1
    simp only [Option.map_eq_some_iff] at e1
    obtain ⟨j, _, h⟩ := e1
    have hg := congrArg Prod.fst h
    refine ⟨j, ?_⟩
    have : ∀ S2, (gc S (.bl j, S2)).1 = .bl j := fun S2 => by
      unfold gc gc0
      split
      · rfl
      · split <;> rfl
    rw [this] at hg
    exact hg.symm
  obtain ⟨j, rfl⟩ := hd
  cases r1
  simp only [truth, Option.some.injEq] at e2
  subst e2
  exact ⟨j, rfl, q _ _ R1 x1⟩

theorem se_chain {a b c : Expr} {ia ib ic : E} {op op' : CmpOp} {o o' : Cop} {pos : Pos} (O : Ok X tb N Gd g F k) (ho : copC op = some o) (ho' : copC op' = some o') (hm : lastMarks [op, op'] [b, c] = false)
    (ha : PE X a (tE X.K Gd g F ia)) (hb : PE X b (tE X.K Gd g F ib)) (hc : PE X c (tE X.K Gd g F ic)) :
    PE X (.Compare a [op, op'] [b, c] pos) (tE X.K Gd g F (.chain o o' ia ib ic)) ∧ PT X (.Compare a [op, op'] [b, c] pos) (tT X.K Gd g F (.chain o o' ia ib ic)) := by
  have e := copC_eq ho
  subst e
  have e := copC_eq ho'
  subst e
  have w : ∀ σ H Q, (∃ ι S env kb S', Rel X.K Gd H ι S ∧ REnv X.K Gd H ι σ env ∧ evE g F (.chain o o' ia ib ic) env S = some (.bl kb, S') ∧ ∀ H' ι', Rel X.K Gd H' ι' S' → Ext H ι H' ι' → Q (.bl kb) H') →
      tChain (rC X.K Gd fun a b S => cmpD g o a b S) (rC X.K Gd fun a b S => cmpD g o' a b S) (tE X.K Gd g F ia) (tE X.K Gd g F ib) (tE X.K Gd g F ic) σ H Q := by
    intro σ H Q ⟨ι, S, env, kb, S', R, en, e, q⟩
    simp only [evE] at e
    split at e <;> try cases e
    rename_i a S1 e1
    split at e <;> try cases e
    rename_i b S2 e2
    refine ⟨ι, S, env, (a, S1), R, en, e1, fun v1 H1 ι1 R1 r1 x1 => ?_⟩
    refine ⟨ι1, S1, env, (b, S2), R1, en.keep (x1.keeps R), e2, fun v2 H2 ι2 R2 r2 x2 => ?_⟩
    have r1' := r1.keep (x2.keeps R1)
    split at e
    · rename_i e3
      split at e <;> try cases e
      rename_i c S3 e4
      simp only [Option.map_eq_some_iff] at e
      obtain ⟨j, e5, e6⟩ := e
      cases e6
      refine ⟨ι2, S2, a, b, true, R2, r1', r2, e3, true, rfl, ?_⟩
      refine iteT ?_
      refine ⟨ι2, S2, env, (c, _), R2, (en.keep (x1.keeps R)).keep (x2.keeps R1), e4, fun v3 H3 ι3 R3 r3 x3 => ?_⟩
      exact ⟨ι3, _, b, c, _, R3, r2.keep (x3.keeps R2), r3, e5, q _ _ R3 ((x1.trans x2).trans x3)⟩
    · rename_i e3
      cases e
      refine ⟨ι2, _, a, b, false, R2, r1', r2, e3, false, rfl, ?_⟩
      refine iteF ?_
      exact q _ _ R2 (x1.trans x2)
    · cases e
  have hd : ∀ env S r, evE g F (.chain o o' ia ib ic) env S = some r → ∃ j, r.1 = .bl j := fun env S r e => by
    simp only [evE] at e
    split at e <;> try cases e
    split at e <;> try cases e
    split at e <;> try cases e
    · split at e <;> try cases e
      simp only [Option.map_eq_some_iff] at e
      obtain ⟨j, _, h⟩ := e
      exact ⟨j, by rw [← h]⟩
    · exact ⟨false, rfl⟩
  refine ⟨PE.imp (pe_chain (opC O.G O.hu o) (opC O.G O.hu o') ha hb hc hm) fun σ H Q q => ?_, PT.imp (pt_chain (opC O.G O.hu o) (opC O.G O.hu o') ha hb hc hm) fun σ H Q q => ?_⟩
  · obtain ⟨ι, S, env, r, R, en, e, q⟩ := q
    obtain ⟨j, hj⟩ := hd env S r e
    refine w σ H Q ⟨ι, S, env, j, r.2, R, en, by rw [e, ← hj], fun H' ι' R' x' => ?_⟩
    exact q _ H' ι' R' (by rw [hj]; exact .bl j) x'
  · obtain ⟨ι, S, env, c, S', R, en, e, q⟩ := q
    simp only [evT] at e
    split at e <;> try cases e
    rename_i d S1 e1
    split at e <;> cases e
    rename_i e2
    obtain ⟨j, hj⟩ := hd env S _ e1
    have hj : d = .bl j := hj
    subst hj
    simp only [truth, Option.some.injEq] at e2
    subst e2
    exact w σ H _ ⟨ι, S, env, j, _, R, en, e1, fun H' ι' R' x' => ⟨j, rfl, q _ _ R' x'⟩⟩

theorem se_is {a b : Expr} {ia ib : E} {neg : Bool} {pos : Pos} (O : Ok X tb N Gd g F k) (ha : PE X a (tE X.K Gd g F ia)) (hb : PE X b (tE X.K Gd g F ib)) :
    PE X (.Compare a [if neg then .IsNot else .Is] [b] pos) (tE X.K Gd g F (.is_ neg ia ib)) ∧ PT X (.Compare a [if neg then .IsNot else .Is] [b] pos) (tT X.K Gd g F (.is_ neg ia ib)) := by
  have hm : behindInMarks (if neg then .IsNot else .Is) b = false := nobehind b (by cases neg <;> decide) (by cases neg <;> decide)
  have w : ∀ σ H Q, tE X.K Gd g F (.is_ neg ia ib) σ H Q → tOp (rC X.K Gd fun a b _ => (isD a b).map fun k => if neg then !k else k) (tE X.K Gd g F ia) (tE X.K Gd g F ib) σ H Q :=
    imp_cmp (f := fun a b _ => (isD a b).map fun k => if neg then !k else k) (fin := fun _ r => r) (fun S r => .inl rfl) (fun env S r h => by
      simp only [evE] at h
      split at h <;> try cases h
      rename_i a S1 e1
      split at h <;> try cases h
      rename_i b S2 e2
      simp only [Option.map_eq_some_iff] at h
      obtain ⟨r', e3, rfl⟩ := h
      exact ⟨a, S1, b, S2, _, e1, e2, by rw [e3]; rfl, rfl⟩) fun x y H Q q => q
  refine ⟨PE.imp (pe_cmpR (op_isD (Gd := Gd) neg) ha hb hm) w, PT.imp (pt_cmpR (op_isD (Gd := Gd) neg) ha hb hm) fun σ H Q q => ?_⟩
  obtain ⟨ι, S, env, c, S', R, en, e, q⟩ := q
  refine w σ H _ ?_
  simp only [evT] at e
  split at e <;> try cases e
  rename_i d S1 e1
  split at e <;> cases e
  rename_i e2
  refine ⟨ι, S, env, (d, _), R, en, e1, fun v H1 ι1 R1 r1 x1 => ?_⟩
  have hd : ∃ j, d = .bl j := by
    simp only [evE] at e1
    split at e1 <;> try cases e1
    split at e1 <;> try cases e1
    simp only [Option.map_eq_some_iff] at e1
    obtain ⟨j, _, h⟩ := e1
    cases h
    exact ⟨_, rfl⟩
  obtain ⟨j, rfl⟩ := hd
  cases r1
  simp only [truth, Option.some.injEq] at e2
  subst e2
  exact ⟨j, rfl, q _ _ R1 x1⟩

/-- an expression whose test is its value's truth -/
theorem st_plain {a : Expr} {ia : E} (ha : PE X a (tE X.K Gd g F ia)) (he : ∀ whole, isTrue a X.env whole = (do let v ← whole; standAt a.pos; holding [v] (truthy v)))
    (hi : ∀ env S, evT g F ia env S = match evE g F ia env S with
      | some (d, S1) => match truth S1 d with
        | some k => some (k, S1)
        | none => none
      | none => none) : PT X a (tT X.K Gd g F ia) := by
  refine PT.imp (pt_truth ha he) fun σ H Q q => ?_
  obtain ⟨ι, S, env, c, S', R, en, e, q⟩ := q
  rw [hi] at e
  split at e <;> try cases e
  rename_i d S1 e1
  split at e <;> cases e
  rename_i e2
  exact ⟨ι, S, env, (d, _), R, en, e1, fun v H1 ι1 R1 r1 x1 => ⟨c, truth_ok R1 r1 e2, q _ _ R1 x1⟩⟩

theorem se_and {a : Expr} {b : Expr} {rest : List Expr} {ia ib : E} {pos : Pos} (ha : PE X a (tE X.K Gd g F ia)) (hb : PE X (.BoolOp .And (b :: rest) pos) (tE X.K Gd g F ib)) :
    PE X (.BoolOp .And (a :: b :: rest) pos) (tE X.K Gd g F (.and_ ia ib)) := by
  refine PE.imp (pe_and ha hb) fun σ H Q q => ?_
  obtain ⟨ι, S, env, r, R, en, e, q⟩ := q
  simp only [evE] at e
  split at e <;> try cases e
  · rename_i S1 e1
    refine ⟨ι, S, env, (.bl true, S1), R, en, e1, fun v H1 ι1 R1 r1 x1 => ?_⟩
    cases r1
    exact ⟨true, rfl, iteT (⟨ι1, S1, env, r, R1, en.keep (x1.keeps R), e, q.step x1⟩)⟩
  · rename_i S1 e1
    refine ⟨ι, S, env, (.bl false, S1), R, en, e1, fun v H1 ι1 R1 r1 x1 => ?_⟩
    cases r1
    exact ⟨false, rfl, iteF ((q.step x1).at_ R1 (.bl _))⟩
theorem se_or {a : Expr} {b : Expr} {rest : List Expr} {ia ib : E} {pos : Pos} (ha : PE X a (tE X.K Gd g F ia)) (hb : PE X (.BoolOp .Or (b :: rest) pos) (tE X.K Gd g F ib)) :
    PE X (.BoolOp .Or (a :: b :: rest) pos) (tE X.K Gd g F (.or_ ia ib)) := by
  refine PE.imp (pe_or ha hb) fun σ H Q q => ?_
  obtain ⟨ι, S, env, r, R, en, e, q⟩ := q
  simp only [evE] at e
  split at e <;> try cases e
  · rename_i S1 e1
    refine ⟨ι, S, env, (.bl false, S1), R, en, e1, fun v H1 ι1 R1 r1 x1 => ?_⟩
    cases r1
    exact ⟨false, rfl, iteF (⟨ι1, S1, env, r, R1, en.keep (x1.keeps R), e, q.step x1⟩)⟩
  · rename_i S1 e1
    refine ⟨ι, S, env, (.bl true, S1), R, en, e1, fun v H1 ι1 R1 r1 x1 => ?_⟩
    cases r1
    exact ⟨true, rfl, iteT ((q.step x1).at_ R1 (.bl _))⟩
theorem ptBool {op : BoolOp} {vs : List Expr} {pos : Pos} {t : TT} (h : PT X (.BoolOp op vs pos) t) : PW X (.BoolOp op vs pos) t := ⟨fun whole pins s σ H Q I q => by
  have := h.run pins s σ H Q I q
  rw [arm_isTrue_BoolOp] at this ⊢
  exact this⟩
theorem st_and {a : Expr} {b : Expr} {rest : List Expr} {ia ib : E} {pos : Pos} (ha : PT X a (tT X.K Gd g F ia)) (hb : PT X (.BoolOp .And (b :: rest) pos) (tT X.K Gd g F ib)) :
    PT X (.BoolOp .And (a :: b :: rest) pos) (tT X.K Gd g F (.and_ ia ib)) := by
  refine PT.imp (pw_and ha (ptBool hb)).pt fun σ H Q q => ?_
  obtain ⟨ι, S, env, c, S', R, en, e, q⟩ := q
  simp only [evT] at e
  split at e <;> try cases e
  · rename_i S1 e1
    refine ⟨ι, S, env, true, S1, R, en, e1, fun H1 ι1 R1 x1 => ?_⟩
    refine iteT ?_
    exact ⟨ι1, S1, env, c, S', R1, en.keep (x1.keeps R), e, fun H' ι' R' x' => q _ _ R' (x1.trans x')⟩
  · rename_i e1
    refine ⟨ι, S, env, false, _, R, en, e1, fun H1 ι1 R1 x1 => ?_⟩
    refine iteF ?_
    exact q _ _ R1 x1
theorem st_or {a : Expr} {b : Expr} {rest : List Expr} {ia ib : E} {pos : Pos} (ha : PT X a (tT X.K Gd g F ia)) (hb : PT X (.BoolOp .Or (b :: rest) pos) (tT X.K Gd g F ib)) :
    PT X (.BoolOp .Or (a :: b :: rest) pos) (tT X.K Gd g F (.or_ ia ib)) := by
  refine PT.imp (pw_or ha (ptBool hb)).pt fun σ H Q q => ?_
  obtain ⟨ι, S, env, c, S', R, en, e, q⟩ := q
  simp only [evT] at e
  split at e <;> try cases e
  · rename_i S1 e1
    refine ⟨ι, S, env, false, S1, R, en, e1, fun H1 ι1 R1 x1 => ?_⟩
    refine iteF ?_
    exact ⟨ι1, S1, env, c, S', R1, en.keep (x1.keeps R), e, fun H' ι' R' x' => q _ _ R' (x1.trans x')⟩
  · rename_i e1
    refine ⟨ι, S, env, true, _, R, en, e1, fun H1 ι1 R1 x1 => ?_⟩
    refine iteT ?_
    exact q _ _ R1 x1
theorem se_not {a : Expr} {ia : E} {pos : Pos} (ha : PE X a (tE X.K Gd g F ia)) : PE X (.UnaryOp .Not a pos) (tE X.K Gd g F (.not_ ia)) := by
  refine PE.imp (pe_not ha) fun σ H Q q => ?_
  obtain ⟨ι, S, env, r, R, en, e, q⟩ := q
  simp only [evE] at e
  split at e <;> cases e
  rename_i k S1 e1
  refine ⟨ι, S, env, (.bl k, S1), R, en, e1, fun v H1 ι1 R1 r1 x1 => ?_⟩
  cases r1
  exact ⟨k, rfl, (q.step x1).at_ R1 (.bl _)⟩
theorem st_not {a : Expr} {ia : E} {pos : Pos} (ha : PT X a (tT X.K Gd g F ia)) : PT X (.UnaryOp .Not a pos) (tT X.K Gd g F (.not_ ia)) := by
  refine PT.imp (pt_not ha) fun σ H Q q => ?_
  obtain ⟨ι, S, env, c, S', R, en, e, q⟩ := q
  simp only [evT] at e
  split at e <;> cases e
  rename_i k e1
  exact ⟨ι, S, env, k, _, R, en, e1, fun H1 ι1 R1 x1 => q _ _ R1 x1⟩
theorem se_ife {c a b : Expr} {ic ia ib : E} {pos : Pos} (hc : PT X c (tT X.K Gd g F ic)) (ha : PE X a (tE X.K Gd g F ia)) (hb : PE X b (tE X.K Gd g F ib)) : PE X (.IfExp c a b pos) (tE X.K Gd g F (.ife ic ia ib)) := by
  refine PE.imp (pe_ifExp hc ha hb) fun σ H Q q => ?_
  obtain ⟨ι, S, env, r, R, en, e, q⟩ := q
  simp only [evE] at e
  split at e <;> try cases e
  · rename_i S1 e1
    refine ⟨ι, S, env, true, S1, R, en, e1, fun H1 ι1 R1 x1 => ?_⟩
    refine iteT ?_
    exact ⟨ι1, S1, env, r, R1, en.keep (x1.keeps R), e, q.step x1⟩
  · rename_i S1 e1
    refine ⟨ι, S, env, false, S1, R, en, e1, fun H1 ι1 R1 x1 => ?_⟩
    refine iteF ?_
    exact ⟨ι1, S1, env, r, R1, en.keep (x1.keeps R), e, q.step x1⟩
theorem pt_ifExp {tc ta tb : TT} {c a b : Expr} {pos : Pos} (hc : PT X c tc) (ha : PT X a ta) (hb : PT X b tb) : PT X (.IfExp c a b pos) (fun σ H Q => tc σ H fun k H1 => if k = true then ta σ H1 Q else tb σ H1 Q) := by
  refine ⟨fun pins s σ H Q I h => ?_⟩
  refine isTrue_IfExp (thn (hc.run pins s σ H _ I h) fun d s1 ⟨H1, I1, q1⟩ => ?_)
  cases d with
  | true => exact ha.run pins s1 σ H1 Q I1 q1
  | false => exact hb.run pins s1 σ H1 Q I1 q1
theorem st_ife {c a b : Expr} {ic ia ib : E} {pos : Pos} (hc : PT X c (tT X.K Gd g F ic)) (ha : PT X a (tT X.K Gd g F ia)) (hb : PT X b (tT X.K Gd g F ib)) : PT X (.IfExp c a b pos) (tT X.K Gd g F (.ife ic ia ib)) := by
  refine PT.imp (pt_ifExp hc ha hb) fun σ H Q q => ?_
  obtain ⟨ι, S, env, k, S', R, en, e, q⟩ := q
  simp only [evT] at e
  split at e <;> try cases e
  · rename_i S1 e1
    refine ⟨ι, S, env, true, S1, R, en, e1, fun H1 ι1 R1 x1 => ?_⟩
    refine iteT ?_
    exact ⟨ι1, S1, env, k, S', R1, en.keep (x1.keeps R), e, fun H' ι' R' x' => q _ _ R' (x1.trans x')⟩
  · rename_i S1 e1
    refine ⟨ι, S, env, false, S1, R, en, e1, fun H1 ι1 R1 x1 => ?_⟩
    refine iteF ?_
    exact ⟨ι1, S1, env, k, S', R1, en.keep (x1.keeps R), e, fun H' ι' R' x' => q _ _ R' (x1.trans x')⟩

/-! ### lists of expressions -/
theorem sa_nil : PA X [] (tA X.K Gd g F []) := PA.imp pa_nil fun σ H Q q => by
  obtain ⟨ι, S, env, ds, S', R, en, e, q⟩ := q
  simp only [evEs, Option.some.injEq, Prod.mk.injEq] at e
  obtain ⟨rfl, rfl⟩ := e
  exact q [] H ι R .nil Ext.refl
theorem sa_cons {e : Expr} {es : List Expr} {ie : E} {ies : List E} (hn : notStar e = true) (he : PE X e (tE X.K Gd g F ie)) (hes : PA X es (tA X.K Gd g F ies)) : PA X (e :: es) (tA X.K Gd g F (ie :: ies)) :=
  PA.imp (pa_cons he hes (star_cons hn)) fun σ H Q q => by
    obtain ⟨ι, S, env, ds, S', R, en, e, q⟩ := q
    simp only [evEs] at e
    split at e <;> try cases e
    rename_i d S1 e1
    split at e <;> cases e
    rename_i ds' e2
    refine ⟨ι, S, env, (d, S1), R, en, e1, fun v H1 ι1 R1 r1 x1 => ?_⟩
    refine ⟨ι1, S1, env, ds', _, R1, en.keep (x1.keeps R), e2, fun vs H2 ι2 R2 r2 x2 => ?_⟩
    exact q _ _ _ R2 (.cons (r1.keep (x2.keeps R1)) r2) (x1.trans x2)
theorem se_tup {es : List Expr} {ies : List E} {n : Nat} {pos : Pos} (h : PA X es (tA X.K Gd g F ies)) : PE X (.Tuple es n pos) (tE X.K Gd g F (.tup ies)) :=
  PE.imp (pe_tup h) fun σ H Q q => by
    obtain ⟨ι, S, env, r, R, en, e, q⟩ := q
    simp only [evE] at e
    split at e <;> try cases e
    rename_i ds S1 e1
    split at e <;> cases e
    rename_i hl
    refine ⟨ι, S, env, ds, S1, R, en, e1, fun vs H1 ι1 R1 r1 x1 => ⟨by rw [← r1.length, ← cap_eq]; exact hl, fun p hp => ?_⟩⟩
    exact (q.step x1).tup R1 r1 p hp
theorem se_lst {es : List Expr} {ies : List E} {pos : Pos} (h : PA X es (tA X.K Gd g F ies)) : PE X (.List es pos) (tE X.K Gd g F (.lst ies)) :=
  PE.imp (pe_lst h) fun σ H Q q => by
    obtain ⟨ι, S, env, r, R, en, e, q⟩ := q
    simp only [evE] at e
    split at e <;> try cases e
    rename_i ds S1 e1
    split at e <;> cases e
    rename_i hl
    refine ⟨ι, S, env, ds, S1, R, en, e1, fun vs H1 ι1 R1 r1 x1 => ⟨by rw [← r1.length, ← cap_eq]; exact hl, fun p hp => ?_⟩⟩
    exact (q.step x1).lst R1 r1 p hp

/-! ### calls -/
theorem se_call {f : Str} {p pos : Pos} {e : Expr} {es : List Expr} {ies : List E} {sc : Scope} (O : Ok X tb N Gd g F k) (hs : X.env.scope = sc) (hg : glob sc f = true) (hp : plainN f = true) (hf : f ∈ tb.fns) (hn : (e :: es).all notStar = true)
    (h : PA X (e :: es) (tA X.K Gd g F ies)) : PE X (.Call (.Name f p) (e :: es) [] pos) (tE X.K Gd g F (.call f ies)) := by
  obtain ⟨fa, fd, ps, hF, hm, hk, hb, hl⟩ := (O.fns f hf).ex
  simp only [List.all_cons, Bool.and_eq_true] at hn
  refine PE.imp (CVN.pe_callG hF O.gu O.room (glob_gl hs hg) hm hk hb pass0 h (plainN_ok hp).1 (star_cons hn.1) (star_plain hn.2)) fun σ H Q q => ?_
  obtain ⟨ι, S, env, r, R, en, ev, q⟩ := q
  simp only [evE] at ev
  split at ev <;> try cases ev
  rename_i ds S1 e1
  simp only [Option.map_eq_some_iff] at ev
  obtain ⟨r', e2, rfl⟩ := ev
  refine ⟨ι, S, env, ds, S1, R, en, e1, fun vs H1 ι1 R1 r1 x1 => ?_⟩
  exact ⟨ι1, S1, ds, r', R1, by rw [List.append_nil]; exact r1, hl _ _ _ e2, e2, (q.gc R).step x1⟩
theorem se_call0 {f : Str} {p pos : Pos} {sc : Scope} (O : Ok X tb N Gd g F k) (hs : X.env.scope = sc) (hg : glob sc f = true) (hp : plainN f = true) (hf : f ∈ tb.fns) :
    PE X (.Call (.Name f p) [] [] pos) (tE X.K Gd g F (.call f [])) := by
  obtain ⟨fa, fd, ps, hF, hm, hk, hb, hl⟩ := (O.fns f hf).ex
  refine PE.imp (CVN.pe_callG0 hF O.gu O.room (glob_gl hs hg) hm hk hb pass0 (plainN_ok hp).1) fun σ H Q q => ?_
  obtain ⟨ι, S, env, r, R, en, ev, q⟩ := q
  simp only [evE, evEs, Option.map_eq_some_iff] at ev
  obtain ⟨r', e2, rfl⟩ := ev
  exact ⟨ι, S, [], r', R, .nil, hl _ _ _ e2, e2, q.gc R⟩
theorem imp_bi {ies : List E} {f : List D → Sto → Option (D × Sto)} {x : E} (hx : ∀ env S r, evE g F x env S = some r → ∃ ds S1 r', evEs g F ies env S = some (ds, S1) ∧ f ds S1 = some r' ∧ r = gc S r') :
    ∀ σ H Q, tE X.K Gd g F x σ H Q → tCB (rF X.K Gd f) (tA X.K Gd g F ies) σ H Q := by
  intro σ H Q ⟨ι, S, env, r, R, en, ev, q⟩
  obtain ⟨ds, S1, r', e1, e2, rfl⟩ := hx env S r ev
  exact ⟨ι, S, env, ds, S1, R, en, e1, fun vs H1 ι1 R1 r1 x1 => ⟨ι1, S1, ds, r', R1, r1, e2, (q.gc R).step x1⟩⟩
theorem se_bi {f : Str} {p pos : Pos} {e : Expr} {es : List Expr} {ies : List E} {sc : Scope} {b : Bi} (O : Ok X tb N Gd g F k) (hs : X.env.scope = sc) (hg : glob sc f = true) (hp : plainN f = true) (hb : biC f (e :: es).length = some b) (hn : (e :: es).all notStar = true)
    (h : PA X (e :: es) (tA X.K Gd g F ies)) : PE X (.Call (.Name f p) (e :: es) [] pos) (tE X.K Gd g F (.bi b ies)) := by
  simp only [List.all_cons, Bool.and_eq_true] at hn
  obtain ⟨p1, _, p3⟩ := plainN_ok hp
  have w := imp_bi (X := X) (Gd := Gd) (g := g) (F := F) (ies := ies) (f := biD b) (x := .bi b ies) fun env S r ev => by
    simp only [evE] at ev
    split at ev <;> try cases ev
    rename_i ds S1 e1
    simp only [Option.map_eq_some_iff] at ev
    obtain ⟨r', e2, rfl⟩ := ev
    exact ⟨ds, S1, r', e1, e2, rfl⟩
  have hB : ∀ id, biV b = .builtin id → (b ≠ .sset ∧ b ≠ .litems) → X.mg f = none → bootBuiltins f = some (.builtin id) → PE X (.Call (.Name f p) (e :: es) [] pos) (tE X.K Gd g F (.bi b ies)) := fun id e1 nb hm hv => by
    have ho := biOp (Gd := Gd) O.calm O.gu O.hu b nb
    rw [e1] at ho
    exact PE.imp (pe_callB ho (glob_gl hs hg) hm hv h p3 p1 (star_cons hn.1) (star_plain hn.2)) w
  have hT : ∀ T, biV b = .type T → (b ≠ .sset ∧ b ≠ .litems) → X.mg f = none → bootBuiltins f = some (.type T) → PE X (.Call (.Name f p) (e :: es) [] pos) (tE X.K Gd g F (.bi b ies)) := fun T e1 nb hm hv => by
    have ho := biOp (Gd := Gd) O.calm O.gu O.hu b nb
    rw [e1] at ho
    exact PE.imp (pe_callTy ho (glob_gl hs hg) hm hv h p3 p1 (star_cons hn.1) (star_plain hn.2)) w
  unfold biC at hb
  split at hb
  · rename_i q; cases hb; obtain ⟨rfl, _⟩ := q; exact hB "len" rfl (by decide) (O.blt _ (by simp [bltNames])) (by decide +kernel)
  split at hb
  · rename_i q; cases hb; obtain ⟨rfl, _⟩ := q; exact hT "list" rfl (by decide) (O.blt _ (by simp [bltNames])) (by decide +kernel)
  split at hb
  · rename_i q; cases hb; obtain ⟨rfl, _⟩ := q; exact hT "tuple" rfl (by decide) (O.blt _ (by simp [bltNames])) (by decide +kernel)
  split at hb
  · rename_i q; cases hb; obtain ⟨rfl, _⟩ := q; exact hB "all" rfl (by decide) (O.blt _ (by simp [bltNames])) (by decide +kernel)
  split at hb
  · rename_i q; cases hb; obtain ⟨rfl, _⟩ := q; exact hB "any" rfl (by decide) (O.blt _ (by simp [bltNames])) (by decide +kernel)
  split at hb
  · rename_i q; cases hb; obtain ⟨rfl, _⟩ := q; exact hB "abs" rfl (by decide) (O.blt _ (by simp [bltNames])) (by decide +kernel)
  split at hb
  · rename_i q; cases hb; obtain ⟨rfl, _⟩ := q; exact hB "max" rfl (by decide) (O.blt _ (by simp [bltNames])) (by decide +kernel)
  split at hb
  · rename_i q; cases hb; obtain ⟨rfl, _⟩ := q; exact hB "min" rfl (by decide) (O.blt _ (by simp [bltNames])) (by decide +kernel)
  split at hb
  · rename_i q; cases hb; obtain ⟨rfl, _⟩ := q; exact hB "repr" rfl (by decide) (O.blt _ (by simp [bltNames])) (by decide +kernel)
  split at hb
  · rename_i q; cases hb; obtain ⟨rfl, _⟩ := q; exact hB "sorted" rfl (by decide) (O.blt _ (by simp [bltNames])) (by decide +kernel)
  unfold biC2 at hb
  split at hb
  · rename_i q; cases hb; obtain ⟨rfl, _⟩ := q; exact hT "str" rfl (by decide) (O.blt _ (by simp [bltNames])) (by decide +kernel)
  split at hb
  · rename_i q; cases hb; obtain ⟨rfl, _⟩ := q; exact hT "int" rfl (by decide) (O.blt _ (by simp [bltNames])) (by decide +kernel)
  · cases hb
/-- sorted(set(a)) -/
theorem se_sset {f x : Str} {p p2 pos pos2 : Pos} {a : Expr} {ia : E} {sc : Scope} (O : Ok X tb N Gd g F k) (hs : X.env.scope = sc) (hf : f = "sorted") (hg : glob sc f = true) (hx : x = "set") (hgx : glob sc x = true) (hn : notStar a = true)
    (ha : PE X a (tE X.K Gd g F ia)) : PE X (.Call (.Name f p) [.Call (.Name x p2) [a] [] pos2] [] pos) (tE X.K Gd g F (.bi .sset [ia])) := by
  subst hf
  subst hx
  have p1 : PE X (.Call (.Name "set" p2) [a] [] pos2) (tCB (CVY.rTxSet X) (tCons (tE X.K Gd g F ia) tNil)) :=
    pe_callTy (CVY.cr_txSet O.calm) (glob_gl hs hgx) (O.blt _ (by simp [bltNames])) (by decide +kernel) (pa_cons ha pa_nil (star_cons hn)) (by decide) (by decide) (star_cons hn) (star_plain (es := []) (by rfl))
  refine PE.imp (pe_callB (CVY.cr_txSorted O.calm) (glob_gl hs hg) (O.blt _ (by simp [bltNames])) (by decide +kernel) (pa_cons p1 pa_nil (star_cons rfl)) (by decide) (by decide) (star_cons rfl) (star_plain (es := []) (by rfl))) fun σ H Q q => ?_
  obtain ⟨ι, S, env, r, R, en, ev, q⟩ := q
  simp only [evE, evEs] at ev
  cases e2 : evE g F ia env S with
  | none => rw [e2] at ev; simp at ev
  | some r0 =>
  obtain ⟨d, S1⟩ := r0
  rw [e2] at ev
  simp only [biD, Option.map_eq_some_iff, Option.bind_eq_some_iff] at ev
  obtain ⟨r', ⟨ys, ⟨l, e3, e4⟩, rfl⟩, rfl⟩ := ev
  refine ⟨ι, S, env, (d, S1), R, en, e2, fun v H1 ι1 R1 r1 x1 => ?_⟩
  obtain ⟨ad, vs, rfl, rs, hl⟩ := lstOf_rd R1 r1 e3
  unfold ssetD at e4
  split at e4 <;> try cases e4
  rename_i zs ez
  split at e4 <;> cases e4
  rename_i few
  obtain ⟨rfl, hgd⟩ := strs_rd rs ez
  refine ⟨ad, zs, rfl, hl, by unfold scanBound; omega, fun t c fr hc => ?_⟩
  refine ⟨t, _, c, rfl, upd_same, by omega, fun ys t2 nd hso hm fr2 => ?_⟩
  rw [sset_eq (xs := zs) nd hso fun x => by rw [hm x, decide_eq_true_eq]]
  exact (((q.gc R).step x1).step (Ext.fresh fr)).lst (R1.fresh fr) (rd_strs fun y hy => hgd y (dedS_mem.mp ((sortS_perm _).mem_iff.mp hy))) t2 fr2
end
end CV

set_option Elab.async false
set_option linter.all false
set_option maxRecDepth 100000
set_option maxHeartbeats 4000000
/-! CvT: t[::-1] of a tuple. -/
namespace CVT
open PySem PySem.Spec PyProof.Rows L2 HT
section
variable {prog : Program} {w : World} {A : Around} {E : Value → Shared → Prop} {s : Shared}
theorem applied_rev {sl : Addr} {vl vu vs : Value} {n : Nat} {Q : Int × Int × Nat → Shared → Prop} (hs : s.heap.IsSliceOf sl vl vu vs) (pl : IsPart vl none) (pu : IsPart vu none) (ps : IsPart vs (some (-1)))
    (h : Q ((n : Int) - 1, -1, n) s) : wpAny (model prog w) A (Builtin.Slice.sliceApplied (.ref sl) (pure (n : Int))) Q E s := by
  obtain ⟨os, hos, hcs, hds⟩ := id hs
  unfold Builtin.Slice.sliceApplied Builtin.Slice.sliceFields
  refine wpAny_bind (wpAny_bind (wpAny_field hos hds (x := vl) rfl (wpAny_bind (wpAny_field hos hds (x := vu) rfl (wpAny_bind (wpAny_field hos hds (x := vs) rfl (wpAny_pure ?_)))))))
  refine wpAny_bind (slicePart_ ps ?_)
  show wpAny _ _ (if ((-1 : Int) == 0) = true then _ else _) _ _ s
  rw [if_neg (by decide)]
  refine wpAny_bind (slicePart_ pl (wpAny_bind (slicePart_ pu (wpAny_bind (wpAny_pure ?_)))))
  show wpAny _ _ (match Builtin.Slice.sliceAdjust none none (-1) (n : Int) with | (lo, hi) => pure (lo, (-1 : Int), Builtin.Slice.slicePlaces lo hi (-1))) _ _ s
  have e : Builtin.Slice.sliceAdjust none none (-1) (n : Int) = ((n : Int) - 1, -1) := rfl
  rw [e]
  have e2 : Builtin.Slice.slicePlaces ((n : Int) - 1) (-1) (-1) = n := by
    unfold Builtin.Slice.slicePlaces
    rw [if_neg (by decide)]
    by_cases c : (n : Int) - 1 > -1
    · rw [if_pos c]
      have : ((n : Int) - 1 - -1 - 1) / (- -1) + 1 = n := by
        rw [show (- -1 : Int) = 1 by decide, Int.ediv_one]
        omega
      rw [this]
      omega
    · rw [if_neg c]
      omega
  show wpAny _ _ (pure ((n : Int) - 1, (-1 : Int), Builtin.Slice.slicePlaces ((n : Int) - 1) (-1) (-1))) _ _ s
  rw [e2]
  exact wpAny_pure h
theorem pick_rev (xs : Array Value) : ((List.range xs.size).filterMap fun (k : Nat) => xs[(((xs.size : Int) - 1) + (k : Int) * -1).toNat]?).toArray = xs.toList.reverse.toArray := by
  congr 1
  have e : ∀ k ∈ List.range xs.size, xs[(((xs.size : Int) - 1) + (k : Int) * -1).toNat]? = some (xs.toList.reverse[k]?.getD .none) := fun k hk => by
    have hk := List.mem_range.mp hk
    have h1 : (((xs.size : Int) - 1) + (k : Int) * -1).toNat = xs.size - 1 - k := by omega
    rw [h1, List.getElem?_reverse (by simpa using hk)]
    simp only [Array.length_toList]
    have h2 : xs.size - 1 - k < xs.size := by omega
    simp [h2]
  have e2 : ∀ l : List Nat, (∀ k ∈ l, k ∈ List.range xs.size) → l.filterMap (fun (k : Nat) => xs[(((xs.size : Int) - 1) + (k : Int) * -1).toNat]?) = l.map fun k => xs.toList.reverse[k]?.getD .none := fun l => by
    induction l with
    | nil => intro _; rfl
    | cons k l ih =>
      intro h
      rw [List.filterMap_cons, e k (h k List.mem_cons_self), ih fun j hj => h j (List.mem_cons_of_mem _ hj)]
      rfl
  rw [e2 _ fun k hk => hk]
  apply List.ext_getElem
  · simp
  · intro i h1 h2
    simp only [List.length_map, List.length_range] at h1
    have h3 : i < xs.toList.reverse.length := by simpa using h1
    simp only [List.getElem_map, List.getElem_range, List.getElem?_eq_getElem h3, Option.getD_some]
theorem getItem_rev {t sl : Addr} {items : Array Value} {vl vu vs : Value} {Q : Value → Shared → Prop} (ht : IsTup s.heap t items) (hs : s.heap.IsSliceOf sl vl vu vs) (pl : IsPart vl none) (pu : IsPart vu none) (ps : IsPart vs (some (-1)))
    (h : Q (.ref s.heap.objs.size) { s with heap := s.heap.push { cls := .type "tuple", data := .seq items.toList.reverse.toArray } })
    (hsz : items.size ≤ sizeLine) : wpAny (model prog w) A (getItem (.ref t) (.ref sl)) Q E s := by
  have htake : sizeOk (.seq items.toList.reverse.toArray) := by
    show items.toList.reverse.toArray.size ≤ sizeLine
    rw [List.size_toArray, List.length_reverse, Array.length_toList]
    exact hsz
  obtain ⟨os, hos, hcs, hds⟩ := id hs
  have hTs : s.TypeIs (.ref sl) "slice" := ⟨os, hos, hcs⟩
  unfold getItem
  try with_reducible refine wpAny_holding ?_
  first | refine wpAny_bind (wpAny_pure ?_) | skip
  refine wpAny_bind (wpAny_sequenceKey ht.typeIs (by decide) ?_)
  refine wpAny_bind (wpAny_callSpecial?_slot (name := Str.ofString "__getitem__") ht.typeIs PyProof.Rows.slot_tuple_getitem
    (wpAny_call_entry PyProof.Rows.slot_tuple_getitem ht.typeIs entry_tuple_getitem ?_ (args_tuple_getitem _ _)))
  show wpAny _ _ (Builtin.Tuple.tupleItemsOf (.ref t) >>= _) _ _ s
  refine wpAny_bind (tupleItemsOf_ ht ?_)
  refine wpAny_bind (wpAny_typeOf hTs ?_)
  rw [if_pos (by decide)]
  refine wpAny_bind (applied_rev hs pl pu ps ?_)
  have hno : ¬ ((((items.size : Int) - 1) == 0 && (-1 : Int) == 1 && items.size == items.size) = true) := by
    intro q
    rw [Bool.and_eq_true, Bool.and_eq_true] at q
    exact absurd q.1.2 (by decide)
  show wpAny _ _ (if (((items.size : Int) - 1) == 0 && (-1 : Int) == 1 && items.size == items.size) = true then _ else _) _ _ s
  rw [if_neg hno, pick_rev]
  first
    | exact wpAny_bind (m := Builtin.Tuple.tupleExact _) (wpAny_newObj_type (wpAny_pure ⟨_, rfl, wpAny_pure h⟩) htake)
    | exact wpAny_bind (m := Builtin.Tuple.tupleExact _) (wpAny_newObj_type (wpAny_bind (wpAny_pure (wpAny_pure ⟨_, rfl, wpAny_pure h⟩))) htake)
    | exact wpAny_bind (wpAny_bind (m := Builtin.Tuple.tupleExact _) (wpAny_newObj_type (wpAny_pure (wpAny_pure ⟨_, rfl, wpAny_pure h⟩)) htake))
    | exact wpAny_bind (wpAny_bind (m := Builtin.Tuple.tupleExact _) (wpAny_newObj_type (wpAny_pure ⟨_, rfl, wpAny_pure h⟩) htake))
end
section
variable {X : Cx}
def tRev (K : PySem.W.Frag) (te : TE) : TE := fun σ H Q => te σ H fun x H1 => ∃ a xs, x = .ref a ∧ ((SqL K H1 a xs ∧ ∀ p, H1 p = none → Q (.ref p) (upd H1 p (.lst xs.reverse))) ∨ (SqT K H1 a xs ∧ ∀ p, H1 p = none → Q (.ref p) (upd H1 p (.tup xs.reverse))))
theorem pe_rev {e : Expr} {te : TE} {k : Nat} {p1 p2 p3 pos : Pos} (he : PE X e te) : PE X (.Subscript e (.Slice none none (some (.UnaryOp .USub (.Constant (.int 1) k p1) p2)) p3) pos) (tRev X.K te) := by
  refine ⟨fun pins s σ H Q I h => ?_⟩
  refine Subscript_ (thn (he.run pins s σ H _ I h) fun v s1 ⟨x, H1, I1, r1, q1⟩ => ?_)
  obtain ⟨a, xs, ex, hx⟩ := q1
  subst ex
  cases r1
  have hst : PO X (some (.UnaryOp .USub (.Constant (.int 1) k p1) p2)) (tPart (tUn (rU fun i => .int (-i)) (tC (.int 1)))) := po_some (pe_un un_neg pe_int)
  refine wpAny_Slice (thn (po_none.run pins s1 σ H1 (fun o H2 => o = none ∧ H2 = H1) I1 ⟨rfl, rfl⟩) fun vl s2 ⟨l, H2, I2, pl, el, e2⟩ => ?_)
  subst el e2
  refine thn (po_none.run pins s2 σ H2 (fun o H3 => o = none ∧ H3 = H2) I2 ⟨rfl, rfl⟩) fun vu s3 ⟨u, H3, I3, pu, eu, e3⟩ => ?_
  subst eu e3
  refine thn (hst.run pins s3 σ H3 (fun o H4 => o = some (-1) ∧ H4 = H3) I3 ⟨1, rfl, -1, rfl, rfl, rfl⟩) fun vs s4 ⟨o, H4, I4, ps, eo, e4⟩ => ?_
  subst eo e4
  have I5 : Inv X pins σ H4 { s4 with heap := s4.heap.push { cls := .type "slice", data := .fields #[vl, vu, vs] } } := I4.kept (t' := s4.toks) fun b ob q => Heap.get?_push_of_some _ q
  show wpAny (model X.prog X.w) X.A (subscriptTail e (.Slice none none (some (.UnaryOp .USub (.Constant (.int 1) k p1) p2)) p3) (.ref a) (.ref s4.heap.objs.size)) (EP X pins σ Q) X.xe { s4 with heap := s4.heap.push { cls := .type "slice", data := .fields #[vl, vu, vs] } }
  rcases hx with ⟨hx, q⟩ | ⟨hx, q⟩
  · obtain ⟨its, r, ht, hz⟩ := I5.list hx
    have hlen := r.length
    refine tail_any (ops := [.ref a, .ref s4.heap.objs.size]) ht.isList.typeIs (PySem.slot_list_getitem.lookup) ?_ (by with_unfolding_all rfl)
    refine wpAny_getItem_list_slice ht.isList (Heap.IsSliceOf.new _ vl vu vs) pl pu ps (by decide) ?_ (by rw [List.size_toArray]; omega)
    rw [PySem.W.krv_pick]
    refine ⟨.ref _, _, I5.laid (t' := s4.toks) (o := .lst xs.reverse) (fun b ob q => Heap.get?_push_of_some _ q) (Nat.le_refl _) ?_, rfl, q _ (I5.hok.fresh (Nat.le_refl _))⟩
    exact ⟨by rw [List.length_reverse]; exact hz, _, 0, r.reverse, Heap.get?_push_size _ rfl⟩
  · obtain ⟨its, r, ht, hz⟩ := I5.tuple hx
    have hlen : its.toArray.size = xs.length := by rw [List.size_toArray]; exact r.length.symm
    refine tail_any (ops := [.ref a, .ref s4.heap.objs.size]) ht.typeIs PyProof.Rows.slot_tuple_getitem.lookup ?_ (by with_unfolding_all rfl)
    refine getItem_rev ht (Heap.IsSliceOf.new _ vl vu vs) pl pu ps ?_ (by rw [hlen]; exact hz)
    refine ⟨.ref _, _, I5.laid (t' := s4.toks) (o := .tup xs.reverse) (fun b ob q => Heap.get?_push_of_some _ q) (Nat.le_refl _) ?_, rfl, q _ (I5.hok.fresh (Nat.le_refl _))⟩
    exact ⟨by rw [List.length_reverse]; exact hz, _, r.reverse, IsTup.new _ _⟩
end
end CVT

set_option Elab.async false
set_option linter.all false
set_option maxRecDepth 100000
set_option maxHeartbeats 4000000
/-! CvDu: a, b, c = text. -/
namespace CVDi
open PySem PySem.Spec PyProof.Rows L2
section
variable {P : Program} {w : World} {A : Around} {E : Value → Shared → Prop}
theorem draw_walk {I : Addr} {fp wr : List Addr} {n : Nat} {Pv : Nat → Value → Prop} {St : Nat → Heap → Prop} (W : Walks P w A I fp wr n Pv St) : ∀ (k i : Nat) (s : Shared) (Q : List Value → Shared → Prop), St i s.heap → i + k ≤ n →
    (∀ vs h' tk, St (i + k) h' → (∀ b o, b ∉ wr → s.heap.get? b = some o → h'.get? b = some o) → vs.length = k → (∀ j v, vs[j]? = some v → Pv (i + j) v) → Q vs { s with heap := h', toks := tk }) → wpAny (model P w) A (draw (.ref I) k) Q E s
  | 0, i, s, Q, st, _, hQ => by
    show wpAny _ _ (pure []) Q E s
    exact wpAny_pure (hQ [] s.heap s.toks st (fun _ _ _ h => h) rfl fun j v h => by simp at h)
  | k + 1, i, s, Q, st, hl, hQ => by
    show wpAny _ _ (pyNext (.ref I) >>= _) Q E s
    refine wpAny_bind (W.item i s _ _ (by omega) st fun v h1 tk1 pv st1 k1 => ?_)
    dsimp only
    refine wpAny_bind (wpAny_holding (draw_walk W k (i + 1) _ _ st1 (by omega) fun vs h2 tk2 st2 k2 hv hp => wpAny_pure ?_))
    refine hQ (v :: vs) h2 tk2 (by rw [show i + (k + 1) = i + 1 + k by omega]; exact st2) (fun b o hb e => k2 b o hb (k1 b o hb e)) (by simp [hv]) fun j u hj => ?_
    cases j with
    | zero =>
      simp at hj
      subst hj
      exact pv
    | succ j =>
      simp only [List.getElem?_cons_succ] at hj
      have := hp j u hj
      rw [show i + 1 + j = i + (j + 1) by omega] at this
      exact this
theorem unpack_text {s : Shared} {x : Str} {t : Tok} {Q : List Value → Shared → Prop} (hh : A.handled = none)
    (hQ : ∀ vs h' tk, (∀ b o, s.heap.get? b = some o → h'.get? b = some o) → Vals (x.cps.toList.map fun c => V.str ⟨#[c]⟩) vs → Q vs { s with heap := h', toks := tk }) : wpAny (model P w) A (unpackItems (.str x t) x.cps.size none) Q E s := by
  unfold unpackItems
  refine wpAny_bind ?_
  unfold notIterableAtAll
  refine wpAny_bind (wpAny_specialOf (T := "str") (v := .str x t) rfl F.slot_str_iter.lookup ?_)
  refine wpAny_pure ?_
  simp only [Bool.false_eq_true, if_false]
  refine wpAny_bind (wpAny_holding (wpAny_pyIter_str fun o St W hst => ?_))
  try dsimp only
  refine wpAny_bind (wpAny_holding (draw_walk (W A hh) x.cps.size 0 _ _ hst (by omega) fun vs h1 tk1 st1 k1 hl hp => ?_))
  rw [if_neg (by omega)]
  rw [Nat.zero_add] at st1
  refine wpAny_bind (wpAny_holding ((W A hh).done { s with heap := h1, toks := tk1 } _ _ st1 fun h2 tk2 k2 => ?_))
  simp only [Option.isSome_none, Bool.false_eq_true, if_false]
  refine wpAny_pure (hQ vs h2 tk2 (fun b u e => ?_) ?_)
  · have nI : b ∉ [s.heap.objs.size] := fun z => by
      have e1 : b = s.heap.objs.size := List.mem_singleton.mp z
      have lt := Heap.lt_size e
      rw [e1] at lt
      exact absurd lt (Nat.lt_irrefl _)
    exact k2 b u nI (k1 b u nI (Heap.get?_push_of_some _ e))
  · have gen : ∀ (l : List Nat) (vs : List Value) (i : Nat), vs.length = l.length → (∀ j v, vs[j]? = some v → ∃ c u, l[j]? = some c ∧ v = Value.str ⟨#[c]⟩ u) → Vals (l.map fun c => V.str ⟨#[c]⟩) vs := fun l => by
      induction l with
      | nil =>
        intro vs i hl _
        cases vs with
        | nil => exact .nil
        | cons _ _ => simp at hl
      | cons c l ih =>
        intro vs i hl h
        cases vs with
        | nil => simp at hl
        | cons v vs =>
          obtain ⟨c', u, e1, e2⟩ := h 0 v rfl
          have e1 : some c = some c' := e1
          cases e1
          subst e2
          exact .cons ⟨u, rfl⟩ (ih vs i (by simpa using hl) fun j v hj => h (j + 1) v (by simpa using hj))
    refine gen x.cps.toList vs 0 (by simpa using hl) fun j v hj => ?_
    obtain ⟨c, u, e1, e2⟩ := hp j v hj
    rw [Nat.zero_add] at e1
    exact ⟨c, u, by rw [Array.getElem?_toList]; exact e1, e2⟩
end
section
variable {X : Cx}
theorem pg_tupS {es : List Expr} {k : Nat} {t : TGs} {n : Nat} {pos : Pos} (hc : X.calm = true) (h : PGs X es t)
    (hn : (assignEach es X.env).length = n) (hst : (assignEach es X.env).findIdx? (·.1) = none) : PG X (.Tuple es k pos) (fun v σ H Q => ∃ x : Str, v = .str x ∧ x.cps.size = n ∧ t (x.cps.toList.map fun c => .str ⟨#[c]⟩) σ H Q) := by
  refine ⟨fun pins s σ H v u Q I r hw => ?_⟩
  obtain ⟨x, e1, hl, hw⟩ := hw
  subst e1
  obtain ⟨tk, rfl⟩ := r
  rw [assign_Tuple]
  refine wpAny_bind (wpAny_standAt ?_)
  unfold unpack
  rw [hn, hst, ← hl]
  refine wpAny_bind (wpAny_holding (unpack_text (I.ok.hd hc) fun vs h' tk' kp rv => ?_))
  have I1 : Inv X pins σ H { s with heap := h', toks := tk' } := I.kept fun b o e => kp b o e
  exact h.run pins _ σ H _ vs Q I1 rv hw
end
end CVDi

set_option Elab.async false
set_option linter.all false
set_option maxRecDepth 100000
set_option maxHeartbeats 4000000
/-! CvF: isinstance, methods, items, slices, dicts, walks, comprehensions, targets. -/
namespace CV
open PySem PySem.Spec PyProof.Rows L2

section
variable {K : PySem.W.Frag} {Gd : Str → Addr → Prop} {H H' : Hp} {ι ι' : Loc} {S S' : Sto}
/-- an object that the store doesn't know is changed -/
def Loose (H : Hp) (ι : Loc) (p : Addr) : Prop := (∀ q ∈ ι, q.1 ≠ p) ∧ (H p = none ∨ (∃ xs, H p = some (.lst xs)) ∨ ∃ kvs, H p = some (.dK kvs))
theorem Loose.keeps {p : Addr} {o : HO} (l : Loose H ι p) : Kp K H ι (upd H p o) ι where
  tup := fun a xs h => by
    have ne : ∀ u, H a = some u → (∀ xs, u ≠ .lst xs) → (∀ xs, u ≠ .dK xs) → a ≠ p := fun u e n1 n2 z => by
      subst z
      rcases l.2 with q | ⟨ys, q⟩ | ⟨ys, q⟩
      · rw [q] at e; cases e
      · rw [q] at e; cases e; exact n1 _ rfl
      · rw [q] at e; cases e; exact n2 _ rfl
    rcases h with (h | ⟨u, h⟩) | h
    · exact .inl (.inl (by rw [upd_ne (ne _ h (fun _ z => nomatch z) (fun _ z => nomatch z))]; exact h))
    · exact .inl (.inr ⟨u, by rw [upd_ne (ne _ h (fun _ z => nomatch z) (fun _ z => nomatch z))]; exact h⟩)
    · exact .inr h
  frz := fun a xs h => by
    have ne : ∀ u, H a = some u → (∀ xs, u ≠ .lst xs) → (∀ xs, u ≠ .dK xs) → a ≠ p := fun u e n1 n2 z => by
      subst z
      rcases l.2 with q | ⟨ys, q⟩ | ⟨ys, q⟩
      · rw [q] at e; cases e
      · rw [q] at e; cases e; exact n1 _ rfl
      · rw [q] at e; cases e; exact n2 _ rfl
    rcases h with ⟨u, h⟩ | h
    · exact .inl ⟨u, by rw [upd_ne (ne _ h (fun _ z => nomatch z) (fun _ z => nomatch z))]; exact h⟩
    · exact .inr h
  loc := fun _ _ h => h
theorem RO.keep {a : Addr} {o : Ob} (k : Kp K H ι H' ι') (hs : H' a = H a) (h : RO K Gd H ι a o) : RO K Gd H' ι' a o := by
  cases o with
  | lst ds => obtain ⟨vs, h1, h2⟩ := h; exact ⟨vs, hs.trans h1, h2.keep k⟩
  | dct ds => obtain ⟨vs, h1, h2⟩ := h; exact ⟨vs, hs.trans h1, h2.keep k⟩
  | lk ds => obtain ⟨vs, ⟨od, h1⟩, h2⟩ := h; exact ⟨vs, ⟨od, hs.trans h1⟩, h2.keep k⟩
theorem Rel.loose (R : Rel K Gd H ι S) {p : Addr} {o : HO} (l : Loose H ι p) : Rel K Gd (upd H p o) ι S where
  len := R.len
  nd := R.nd
  ob := fun n u e => by
    obtain ⟨a, h1, h2⟩ := R.ob n u e
    exact ⟨a, h1, h2.keep l.keeps (upd_ne (l.1 _ (List.mem_of_getElem? h1)))⟩
/-- an object that the store didn't know is taken into it -/
theorem Rel.claim (R : Rel K Gd H ι S) {p : Addr} {ob : Ob} (hp : ∀ q ∈ ι, q.1 ≠ p) (ho : RO K Gd H ι p ob) : Rel K Gd H (ι ++ [(p, ob.kd)]) (S ++ [ob]) := by
  have kp : Kp K H ι H (ι ++ [(p, ob.kd)]) := ⟨fun _ _ h => h, fun _ _ h => h, fun n y h => by
    rw [List.getElem?_append_left (List.getElem?_eq_some_iff.mp h).1]; exact h⟩
  refine ⟨by simp [R.len], ?_, fun n u e => ?_⟩
  · rw [List.map_append, List.nodup_append]
    refine ⟨R.nd, by simp, fun a ha b hb => ?_⟩
    simp at hb
    subst hb
    obtain ⟨q, hq, rfl⟩ := List.mem_map.mp ha
    exact hp q hq
  · by_cases hn : n < S.length
    · rw [List.getElem?_append_left hn] at e
      obtain ⟨a, h1, h2⟩ := R.ob n u e
      exact ⟨a, kp.loc _ _ h1, h2.keep kp rfl⟩
    · have hn' : n = S.length := by
        have := (List.getElem?_eq_some_iff.mp e).1
        simp at this
        omega
      subst hn'
      simp at e
      subst e
      exact ⟨p, by rw [← R.len]; simp, ho.keep kp rfl⟩
/-- .. and what is new to whom began at H -/
theorem Ext.claim {p : Addr} {k : Kd} (x : Ext H ι H' ι') (hp : H p = none) : Ext H ι H' (ι' ++ [(p, k)]) where
  pre := by obtain ⟨t, rfl⟩ := x.pre; exact ⟨t ++ [(p, k)], by simp⟩
  new := fun q hq => by
    rcases List.mem_append.mp hq with h | h
    · exact x.new q h
    · simp at h; subst h; exact .inr hp
  frm := x.frm
  dom := x.dom
  fz := x.fz
/-- .. a loose object made behind H is changed -/
theorem Ext.loose {p : Addr} {o : HO} (x : Ext H ι H' ι') (hp : H p = none) : Ext H ι (upd H' p o) ι' where
  pre := x.pre
  new := x.new
  frm := fun a u h n => by rw [upd_ne (ne_of_none h hp)]; exact x.frm a u h n
  dom := fun a h => by
    by_cases e : a = p
    · subst e; exact hp
    · rw [upd_ne e] at h; exact x.dom a h
  fz := fun a od u h => by rw [upd_ne (ne_of_none h hp)]; exact x.fz a od u h
/-- what the store didn't know, it doesn't know behind a piece of work -/
theorem Ext.out {p : Addr} {o : HO} (x : Ext H ι H' ι') (hp : ∀ q ∈ ι, q.1 ≠ p) (ho : H p = some o) : (∀ q ∈ ι', q.1 ≠ p) ∧ H' p = some o :=
  And.intro (fun q hq z => by
    rcases x.new q hq with h | h
    · exact hp q h z
    · rw [z, ho] at h
      cases h) (x.frm p o ho hp)
end

section
variable {X : Cx} {tb : Tb} {N : List Str} {Gd : Str → Addr → Prop} {g : Cst} {F : FT} {k : Nat}

/-! ### isinstance -/
theorem tyC_ok {sc : Scope} (O : Ok X tb N Gd g F k) (hs : X.env.scope = sc) {e : Expr} {t : String} (h : tyC sc e = some t) : PE X e (tC (.ty t)) := by
  cases e <;> simp only [tyC] at h <;> try cases h
  rename_i x pos
  split at h <;> try cases h
  rename_i hg
  simp only [Bool.and_eq_true] at hg
  obtain ⟨p1, _, p3⟩ := plainN_ok hg.2
  have gl := glob_gl hs hg.1
  split at h
  · rename_i q; cases h; subst q; exact pe_bltn gl (O.blt _ (by simp [bltNames])) (u := .type "int") (by decide +kernel) rfl p3 p1
  split at h
  · rename_i q; cases h; subst q; exact pe_bltn gl (O.blt _ (by simp [bltNames])) (u := .type "str") (by decide +kernel) rfl p3 p1
  split at h
  · rename_i q; cases h; subst q; exact pe_bltn gl (O.blt _ (by simp [bltNames])) (u := .type "bool") (by decide +kernel) rfl p3 p1
  split at h
  · rename_i q; cases h; subst q; exact pe_bltn gl (O.blt _ (by simp [bltNames])) (u := .type "tuple") (by decide +kernel) rfl p3 p1
  split at h
  · rename_i q; cases h; subst q; exact pe_bltn gl (O.blt _ (by simp [bltNames])) (u := .type "list") (by decide +kernel) rfl p3 p1
  split at h
  · rename_i q; cases h; subst q; exact pe_bltn gl (O.blt _ (by simp [bltNames])) (u := .type "dict") (by decide +kernel) rfl p3 p1
  · cases h
theorem notStar_ty {sc : Scope} {e : Expr} {t : String} (h : tyC sc e = some t) : notStar e = true := by
  cases e <;> first | rfl | (simp [tyC] at h)
theorem se_isi1 {sc : Scope} {a c : Expr} {ia : E} {t : String} {p pos : Pos} (O : Ok X tb N Gd g F k) (hs : X.env.scope = sc) (hg : glob sc "isinstance" = true) (hn : notStar a = true) (ha : PE X a (tE X.K Gd g F ia)) (ht : tyC sc c = some t) :
    PE X (.Call (.Name "isinstance" p) [a, c] [] pos) (tE X.K Gd g F (.isi ia [t])) := by
  have hc := tyC_ok O hs ht
  have nc := notStar_ty ht
  refine PE.imp (pe_callB call_isi (glob_gl hs hg) (O.blt _ (by simp [bltNames])) (by decide +kernel) (pa_cons ha (pa_cons hc pa_nil (star_cons nc)) (star_cons hn)) (by decide) (by decide) (star_cons hn) (star_plain (by simp [nc]))) fun σ H Q q => ?_
  obtain ⟨ι, S, env, r, R, en, ev, q⟩ := q
  simp only [evE] at ev
  split at ev <;> try cases ev
  rename_i x S1 e1
  split at ev <;> try cases ev
  rename_i ty e2
  split at ev <;> cases ev
  rename_i b e3
  refine ⟨ι, S, env, (x, S1), R, en, e1, fun v H1 ι1 R1 r1 x1 => ?_⟩
  simp only [List.foldr_cons, List.foldr_nil] at e3
  split at e3 <;> try cases e3
  rename_i b1 b2 e4 e5
  cases e5
  refine ⟨v, .ty t, .type ty, .type t, b1, rfl, .ty t, tyOf_ok R1 r1 e2, kit_ty e4, ?_⟩
  have := (q.step x1).at_ R1 (.bl (b1 || false))
  simpa using this

/-! ### methods -/
theorem attr_base {o : Expr} {m : Str} {env : PySem.Env} {whole : Sem Value} (h : notCall0 o = true) : attributeBase o m env whole = whole := by
  cases o <;> try rfl
  rename_i f args kws pos
  cases args with
  | nil => cases h
  | cons a as => cases f <;> rfl
theorem meC_at {m : Str} {n : Nat} {me : Me} (h : meC m n = some me) : (me = .append ∧ m = "append" ∧ n = 1) ∨ (me = .reverse ∧ m = "reverse" ∧ n = 0) ∨ (me = .extend ∧ m = "extend" ∧ n = 1) ∨ (me = .pop ∧ m = "pop" ∧ n = 0) ∨ (me = .join ∧ m = "join" ∧ n = 1) ∨ (me = .split ∧ m = "split" ∧ n = 1) ∨ (me = .popi ∧ m = "pop" ∧ n = 1) ∨ n = 2 := by
  unfold meC at h
  split at h
  · rename_i q; cases h; exact .inl ⟨rfl, q.1, q.2⟩
  split at h
  · rename_i q; cases h; exact .inr (.inl ⟨rfl, q.1, q.2⟩)
  split at h
  · rename_i q; cases h; exact .inr (.inr (.inl ⟨rfl, q.1, q.2⟩))
  split at h
  · rename_i q; cases h; exact .inr (.inr (.inr (.inl ⟨rfl, q.1, q.2⟩)))
  split at h
  · rename_i q; cases h; exact .inr (.inr (.inr (.inr (.inl ⟨rfl, q.1, q.2⟩))))
  split at h
  · rename_i q; cases h; exact .inr (.inr (.inr (.inr (.inr (.inl ⟨rfl, q.1, q.2⟩)))))
  split at h
  · rename_i q; cases h; exact .inr (.inr (.inr (.inr (.inr (.inr (.inl ⟨rfl, q.1, q.2⟩))))))
  unfold meC2 at h
  split at h
  · rename_i q; exact .inr (.inr (.inr (.inr (.inr (.inr (.inr q.2))))))
  split at h
  · rename_i q; exact .inr (.inr (.inr (.inr (.inr (.inr (.inr q.2))))))
  split at h
  · rename_i q; exact .inr (.inr (.inr (.inr (.inr (.inr (.inr q.2))))))
  · cases h
theorem meD_list {m : Me} {x : D} {xs : List D} {S : Sto} {r : D × Sto} (h : meD m x xs S = some r) (h1 : m ≠ .join) (h2 : m ≠ .split) (h3 : m ≠ .get) (h4 : m ≠ .setd) : ∃ n, x = .loc .lst n := by
  unfold meD at h
  split at h
  · unfold meS at h
    split at h
    · exact absurd rfl h1
    · exact absurd rfl h2
    · cases h
  · exact ⟨_, rfl⟩
  · split at h
    · exact absurd rfl h3
    · exact absurd rfl h4
    · cases h
  · cases h
theorem meD_dct {m : Me} {x : D} {xs : List D} {S : Sto} {r : D × Sto} (h : meD m x xs S = some r) (h1 : m = .get ∨ m = .setd) : ∃ n, x = .loc .dct n := by
  unfold meD at h
  split at h
  · unfold meS at h
    rcases h1 with rfl | rfl <;> simp at h
  · split at h <;> try cases h
    rcases h1 with rfl | rfl <;> simp at h
  · exact ⟨_, rfl⟩
  · cases h
theorem meD_str {m : Me} {x : D} {xs : List D} {S : Sto} {r : D × Sto} (h : meD m x xs S = some r) (h1 : m = .join ∨ m = .split) : ∃ s, x = .str s := by
  unfold meD at h
  split at h
  · exact ⟨_, rfl⟩
  · split at h <;> try cases h
    rcases h1 with rfl | rfl <;> simp at h
  · rcases h1 with rfl | rfl <;> simp at h
  · cases h
theorem few_ok {cpos : Pos} {env : PySem.Env} {e : Expr} (h : notStar e = true) : ((backTo cpos (starEach [e] env)).all (fun x => !x.1) && (backToKw cpos (keywordEach [] env)).all (fun x => x.1.isSome)
      && decide (([e] : List Expr).length + ([] : List Keyword).length + (if ([] : List Keyword).isEmpty then 0 else 1) < 30)) = true := by
  rw [star_cons h]
  rfl
theorem se_meth1 {o e : Expr} {m : Str} {apos cpos : Pos} {io ie : E} {me : Me} (hu : X.A.units + 65 < cLine) (hm : meC m 1 = some me) (hn : notStar e = true) (h0 : notCall0 o = true) (hl : (apos.endLine == cpos.line) = true) (ho : PE X o (tE X.K Gd g F io)) (ha : PA X [e] (tA X.K Gd g F [ie])) (he : PE X e (tE X.K Gd g F ie)) :
    PE X (.Call (.Attribute o m apos) [e] [] cpos) (tE X.K Gd g F (.meth me io [ie])) := by
  have ws : (me = .join ∨ me = .split) → ∀ σ H Q, tE X.K Gd g F (.meth me io [ie]) σ H Q → tM1 (rM X.K Gd (meD me)) (tE X.K Gd g F io) (tE X.K Gd g F ie) σ H Q := by
    intro hme σ H Q ⟨ι, S, env, r, R, en, ev, q⟩
    unfold evE at ev
    split at ev <;> try cases ev
    rename_i x S1 e1
    simp only [evEs] at ev
    cases e2 : evE g F ie env S1 with
    | none => rw [e2] at ev; simp at ev
    | some r2 =>
    obtain ⟨y, S2⟩ := r2
    rw [e2] at ev
    simp only [Option.map_eq_some_iff] at ev
    obtain ⟨r', e3, rfl⟩ := ev
    obtain ⟨sx, rfl⟩ := meD_str e3 hme
    refine ⟨ι, S, env, (_, S1), R, en, e1, fun v H1 ι1 R1 r1 x1 => ?_⟩
    have hv : ∃ a, v = V.str a := by cases r1 with | str h => exact ⟨_, rfl⟩
    refine ⟨hv, ι1, S1, env, (y, S2), R1, en.keep (x1.keeps R), e2, fun v2 H2 ι2 R2 r2 x2 => ?_⟩
    exact ⟨ι2, S2, _, [y], r', R2, r1.keep (x2.keeps R1), .cons r2 .nil, e3, (q.gc R).step (x1.trans x2)⟩
  have w : me ≠ .join → me ≠ .split → me ≠ .get → me ≠ .setd → ∀ σ H Q, tE X.K Gd g F (.meth me io [ie]) σ H Q → tBM X.K "list" (rM X.K Gd (meD me)) (tE X.K Gd g F io) (tA X.K Gd g F [ie]) σ H Q := by
    intro hj1 hj2 hj3 hj4 σ H Q ⟨ι, S, env, r, R, en, ev, q⟩
    unfold evE at ev
    split at ev <;> try cases ev
    rename_i x S1 e1
    split at ev <;> try cases ev
    rename_i ds S2 e2
    simp only [Option.map_eq_some_iff] at ev
    obtain ⟨r', e3, rfl⟩ := ev
    obtain ⟨n, rfl⟩ := meD_list e3 hj1 hj2 hj3 hj4
    refine ⟨ι, S, env, (_, S1), R, en, e1, fun v H1 ι1 R1 r1 x1 => ?_⟩
    have ty : tyV X.K "list" v H1 := by
      cases r1 with
      | loc hl =>
        obtain ⟨ob, h1, h2, h3⟩ := R1.at_ hl
        cases ob with
        | lst xs => obtain ⟨vs, h4, _⟩ := h3; exact .inl ⟨rfl, vs, .of h4⟩
        | dct xs => cases h2
        | lk xs => cases h2
    refine ⟨ty, ι1, S1, env, ds, S2, R1, en.keep (x1.keeps R), e2, fun vs H2 ι2 R2 r2 x2 => ?_⟩
    exact ⟨ι2, S2, _, ds, r', R2, r1.keep (x2.keeps R1), r2, e3, (q.gc R).step (x1.trans x2)⟩
  rcases meC_at hm with ⟨rfl, rfl, _⟩ | ⟨_, _, h⟩ | ⟨rfl, rfl, _⟩ | ⟨_, _, h⟩ | ⟨rfl, rfl, _⟩ | ⟨rfl, rfl, _⟩ | ⟨rfl, rfl, _⟩ | h
  · exact PE.imp (pe_bm PySem.F.plainAttrs_list PySem.F.slot_list_append PySem.F.type_list_append (meOp (Gd := Gd) hu .append) ho ha (attr_base h0) (few_ok hn) hl (star_cons hn) rfl) (w (by decide) (by decide) (by decide) (by decide))
  · cases h
  · exact PE.imp (pe_bm PySem.F.plainAttrs_list PySem.F.slot_list_extend PySem.F.type_list_extend (meOp (Gd := Gd) hu .extend) ho ha (attr_base h0) (few_ok hn) hl (star_cons hn) rfl) (w (by decide) (by decide) (by decide) (by decide))
  · cases h
  · exact PE.imp (pe_m1 PySem.F.slot_str_join PySem.F.type_str_join (meOp (Gd := Gd) hu .join) ho he (star_cons hn) (attr_base h0) hl) (ws (.inl rfl))
  · exact PE.imp (pe_m1 PySem.F.slot_str_split PySem.F.type_str_split (meOp (Gd := Gd) hu .split) ho he (star_cons hn) (attr_base h0) hl) (ws (.inr rfl))
  · exact PE.imp (pe_bm PySem.F.plainAttrs_list PySem.F.slot_list_pop PySem.F.type_list_pop (meOp (Gd := Gd) hu .popi) ho ha (attr_base h0) (few_ok hn) hl (star_cons hn) rfl) (w (by decide) (by decide) (by decide) (by decide))
  · cases h
theorem se_meth0 {o : Expr} {m : Str} {apos cpos : Pos} {io : E} {me : Me} (hu : X.A.units + 65 < cLine) (hm : meC m 0 = some me) (h0 : notCall0 o = true) (hl : (apos.endLine == cpos.line) = true) (ho : PE X o (tE X.K Gd g F io)) :
    PE X (.Call (.Attribute o m apos) [] [] cpos) (tE X.K Gd g F (.meth me io [])) := by
  have w : me ≠ .join → me ≠ .split → me ≠ .get → me ≠ .setd → ∀ σ H Q, tE X.K Gd g F (.meth me io []) σ H Q → tBM0 X.K "list" (rM X.K Gd (meD me)) (tE X.K Gd g F io) σ H Q := by
    intro hj1 hj2 hj3 hj4 σ H Q ⟨ι, S, env, r, R, en, ev, q⟩
    unfold evE at ev
    split at ev <;> try cases ev
    rename_i x S1 e1
    simp only [evEs, Option.map_eq_some_iff] at ev
    obtain ⟨r', e3, rfl⟩ := ev
    obtain ⟨n, rfl⟩ := meD_list e3 hj1 hj2 hj3 hj4
    refine ⟨ι, S, env, (_, S1), R, en, e1, fun v H1 ι1 R1 r1 x1 => ?_⟩
    have ty : tyV X.K "list" v H1 := by
      cases r1 with
      | loc hl =>
        obtain ⟨ob, h1, h2, h3⟩ := R1.at_ hl
        cases ob with
        | lst xs => obtain ⟨vs, h4, _⟩ := h3; exact .inl ⟨rfl, vs, .of h4⟩
        | dct xs => cases h2
        | lk xs => cases h2
    exact ⟨ty, ι1, S1, _, [], r', R1, r1, .nil, e3, (q.gc R).step x1⟩
  rcases meC_at hm with ⟨_, _, h⟩ | ⟨rfl, rfl, _⟩ | ⟨_, _, h⟩ | ⟨rfl, rfl, _⟩ | ⟨_, _, h⟩ | ⟨_, _, h⟩ | ⟨_, _, h⟩ | h
  · cases h
  · exact PE.imp (pe_bm0 PySem.F.plainAttrs_list PySem.F.slot_list_reverse PySem.F.type_list_reverse (meOp (Gd := Gd) hu .reverse) ho (attr_base h0) hl) (w (by decide) (by decide) (by decide) (by decide))
  · cases h
  · exact PE.imp (pe_bm0 PySem.F.plainAttrs_list PySem.F.slot_list_pop PySem.F.type_list_pop (meOp (Gd := Gd) hu .pop) ho (attr_base h0) hl) (w (by decide) (by decide) (by decide) (by decide))
  · cases h
  · cases h
  · cases h
  · cases h
/-! ### methods of two arguments -/
theorem few_ok2 {cpos : Pos} {env : PySem.Env} {e f : Expr} (h : notStar e = true) (h2 : notStar f = true) : ((backTo cpos (starEach [e, f] env)).all (fun x => !x.1) && (backToKw cpos (keywordEach [] env)).all (fun x => x.1.isSome)
      && decide (([e, f] : List Expr).length + ([] : List Keyword).length + (if ([] : List Keyword).isEmpty then 0 else 1) < 30)) = true := by
  rw [star_cons h, star_cons h2]
  rfl
theorem pe_d2 {o e f : Expr} {apos cpos : Pos} {td ty tx : TE} {name : Str} {id : String} {r : V → List V → Hp → VK → Prop} (slot : PySem.Slot "dict" name id) (hty : typeOf (.builtin id) = pure (.type "method_descriptor")) (hm : MtR X id r)
    (ho : PE X o td) (he : PE X e ty) (hf : PE X f tx) (m : M2 X o name apos e f cpos) : PE X (.Call (.Attribute o name apos) [e, f] [] cpos) (fun σ H Q => td σ H fun x H1 => (∃ a, x = .ref a ∧ IsD H1 a) ∧ ty σ H1 fun y H2 => tx σ H2 fun z H3 => r x [y, z] H3 Q) := by
  refine ⟨fun pins s σ H Q I h => ?_⟩
  refine wpAny_Call_method m.base m.few m.line PySem.F.plainAttrs_dict slot hty (thn (ho.run pins s σ H _ I h) fun u s1 ⟨x, H1, I1, rx, ⟨a, ex, d⟩, q1⟩ => ?_)
  subst ex
  obtain rfl : u = Value.ref a := rx
  obtain ⟨t1, t2, _⟩ := isD_at I1 d
  refine ⟨t1, t2, ?_⟩
  rw [m.trees]
  refine Calls.callWith_builtin rfl (Calls.evalArgs_plain (Calls.spliced_cons (thn (he.run pins s1 σ H1 _ I1 q1) fun iv s2 ⟨y, H2, I2, ry, q2⟩ =>
    Calls.spliced_cons (thn (hf.run pins s2 σ H2 _ I2 q2) fun fv s3 ⟨z, H3, I3, rz, q3⟩ => Calls.spliced_nil ?_))))
  exact hm pins s3 σ H3 (.ref a) [y, z] (.ref a) [iv, fv] Q I3 rfl (.cons ry (.cons rz .nil)) q3
theorem se_meth2 {o e f : Expr} {m : Str} {apos cpos : Pos} {io ie jf : E} {me : Me} (hu : X.A.units + 65 < cLine) (hm : meC m 2 = some me) (hn : notStar e = true) (hn2 : notStar f = true) (h0 : notCall0 o = true) (hl : (apos.endLine == cpos.line) = true) (ho : PE X o (tE X.K Gd g F io)) (he : PE X e (tE X.K Gd g F ie)) (hf : PE X f (tE X.K Gd g F jf)) (ha : PA X [e, f] (tA X.K Gd g F [ie, jf])) :
    PE X (.Call (.Attribute o m apos) [e, f] [] cpos) (tE X.K Gd g F (.meth me io [ie, jf])) := by
  have m2 : M2 X o m apos e f cpos := ⟨attr_base h0, few_ok2 hn hn2, hl, by rw [star_cons hn, star_cons hn2]; rfl⟩
  have wd : (me = .get ∨ me = .setd) → ∀ σ H Q, tE X.K Gd g F (.meth me io [ie, jf]) σ H Q → (tE X.K Gd g F io) σ H fun x H1 => (∃ a, x = .ref a ∧ IsD H1 a) ∧ (tE X.K Gd g F ie) σ H1 fun y H2 => (tE X.K Gd g F jf) σ H2 fun z H3 => (rM X.K Gd (meD me)) x [y, z] H3 Q := by
    intro hme σ H Q ⟨ι, S, env, r, R, en, ev, q⟩
    unfold evE at ev
    split at ev <;> try cases ev
    rename_i x S1 e1
    simp only [evEs] at ev
    cases e2 : evE g F ie env S1 with
    | none => rw [e2] at ev; simp at ev
    | some r2 =>
    obtain ⟨y, S2⟩ := r2
    rw [e2] at ev
    cases e3 : evE g F jf env S2 with
    | none => simp only [e3] at ev; simp at ev
    | some r3 =>
    obtain ⟨z, S3⟩ := r3
    simp only [e3, Option.map_eq_some_iff] at ev
    obtain ⟨r', e4, rfl⟩ := ev
    obtain ⟨n, rfl⟩ := meD_dct e4 hme
    refine ⟨ι, S, env, (_, S1), R, en, e1, fun v H1 ι1 R1 r1 x1 => ?_⟩
    have hv : ∃ a, v = .ref a ∧ IsD H1 a := by
      cases r1 with
      | loc hl =>
        obtain ⟨ob, h1, h2, h3⟩ := R1.at_ hl
        cases ob with
        | lst xs => cases h2
        | dct xs => obtain ⟨vs, h4, _⟩ := h3; exact ⟨_, rfl, .inl ⟨vs, .inl h4⟩⟩
        | lk xs => obtain ⟨vs, h4, _⟩ := h3; exact ⟨_, rfl, .inl ⟨vs, .inr h4⟩⟩
    refine ⟨hv, ι1, S1, env, (y, S2), R1, en.keep (x1.keeps R), e2, fun v2 H2 ι2 R2 r2 x2 => ?_⟩
    refine ⟨ι2, S2, env, (z, S3), R2, (en.keep (x1.keeps R)).keep (x2.keeps R1), e3, fun v3 H3 ι3 R3 r3 x3 => ?_⟩
    exact ⟨ι3, S3, _, [y, z], r', R3, (r1.keep (x2.keeps R1)).keep (x3.keeps R2), .cons (r2.keep (x3.keeps R2)) (.cons r3 .nil), e4, (q.gc R).step ((x1.trans x2).trans x3)⟩
  have wl : me = .index → ∀ σ H Q, tE X.K Gd g F (.meth me io [ie, jf]) σ H Q → tBM X.K "list" (rM X.K Gd (meD me)) (tE X.K Gd g F io) (tA X.K Gd g F [ie, jf]) σ H Q := by
    intro hme σ H Q ⟨ι, S, env, r, R, en, ev, q⟩
    unfold evE at ev
    split at ev <;> try cases ev
    rename_i x S1 e1
    split at ev <;> try cases ev
    rename_i ds S2 e2
    simp only [Option.map_eq_some_iff] at ev
    obtain ⟨r', e3, rfl⟩ := ev
    obtain ⟨n, rfl⟩ := meD_list e3 (by rw [hme]; decide) (by rw [hme]; decide) (by rw [hme]; decide) (by rw [hme]; decide)
    refine ⟨ι, S, env, (_, S1), R, en, e1, fun v H1 ι1 R1 r1 x1 => ?_⟩
    have ty : tyV X.K "list" v H1 := by
      cases r1 with
      | loc hl =>
        obtain ⟨ob, h1, h2, h3⟩ := R1.at_ hl
        cases ob with
        | lst xs => obtain ⟨vs, h4, _⟩ := h3; exact .inl ⟨rfl, vs, .of h4⟩
        | dct xs => cases h2
        | lk xs => cases h2
    refine ⟨ty, ι1, S1, env, ds, S2, R1, en.keep (x1.keeps R), e2, fun vs H2 ι2 R2 r2 x2 => ?_⟩
    exact ⟨ι2, S2, _, ds, r', R2, r1.keep (x2.keeps R1), r2, e3, (q.gc R).step (x1.trans x2)⟩
  have hm' : (me = .get ∧ m = "get") ∨ (me = .setd ∧ m = "setdefault") ∨ (me = .index ∧ m = "index") := by
    unfold meC at hm
    iterate 7
      split at hm
      · rename_i q; exact absurd q.2 (by decide)
    unfold meC2 at hm
    split at hm
    · rename_i q; cases hm; exact .inl ⟨rfl, q.1⟩
    split at hm
    · rename_i q; cases hm; exact .inr (.inl ⟨rfl, q.1⟩)
    split at hm
    · rename_i q; cases hm; exact .inr (.inr ⟨rfl, q.1⟩)
    · cases hm
  rcases hm' with ⟨rfl, rfl⟩ | ⟨rfl, rfl⟩ | ⟨rfl, rfl⟩
  · exact PE.imp (pe_d2 PySem.F.slot_dict_get PySem.F.type_dict_get (meOp (Gd := Gd) hu .get) ho he hf m2) (wd (.inl rfl))
  · exact PE.imp (pe_d2 PySem.F.slot_dict_setdefault PySem.F.type_dict_setdefault (meOp (Gd := Gd) hu .setd) ho he hf m2) (wd (.inr rfl))
  · exact PE.imp (pe_bm PySem.F.plainAttrs_list PySem.F.slot_list_index PySem.F.type_list_index (meOp (Gd := Gd) hu .index) ho ha (attr_base h0) (few_ok2 hn hn2) hl (star_cons hn) (by rw [star_cons hn2]; rfl)) (wl rfl)

/-! ### items and slices -/
theorem plain_ix {i : Expr} (h : notSlice i = true) : PlainIx i := by
  intro o v
  cases i <;> first | rfl | cases h
theorem se_ix {a i : Expr} {ia ii : E} {pos : Pos} (O : Ok X tb N Gd g F k) (hn : notSlice i = true) (ha : PE X a (tE X.K Gd g F ia)) (hi : PE X i (tE X.K Gd g F ii)) : PE X (.Subscript a i pos) (tE X.K Gd g F (.ix ia ii)) := by
  refine PE.imp (pe_ix (ixOp O.G O.hu) ha hi (plain_ix hn)) fun σ H Q q => ?_
  obtain ⟨ι, S, env, r, R, en, ev, q⟩ := q
  simp only [evE] at ev
  split at ev <;> try cases ev
  rename_i x S1 e1
  split at ev <;> try cases ev
  rename_i y S2 e2
  simp only [Option.map_eq_some_iff] at ev
  obtain ⟨d, e3, rfl⟩ := ev
  refine ⟨ι, S, env, (x, S1), R, en, e1, fun v1 H1 ι1 R1 r1 x1 => ?_⟩
  refine ⟨ι1, S1, env, (y, S2), R1, en.keep (x1.keeps R), e2, fun v2 H2 ι2 R2 r2 x2 => ?_⟩
  exact ⟨ι2, S2, x, y, d, R2, r1.keep (x2.keeps R1), r2, e3, fun v rv => ((q.gc R).step (x1.trans x2)).at_ R2 rv⟩
theorem so_none : PO X none (tO X.K Gd g F none) := PO.imp po_none fun σ H Q q => by
  obtain ⟨ι, S, env, i, S', R, en, ev, q⟩ := q
  simp only [evO, Option.some.injEq, Prod.mk.injEq] at ev
  obtain ⟨rfl, rfl⟩ := ev
  exact q H ι R Ext.refl
theorem so_some {e : Expr} {ie : E} (h : PE X e (tE X.K Gd g F ie)) : PO X (some e) (tO X.K Gd g F (some ie)) := PO.imp (po_some h) fun σ H Q q => by
  obtain ⟨ι, S, env, i, S', R, en, ev, q⟩ := q
  simp only [evO] at ev
  split at ev <;> cases ev
  rename_i j e1
  refine ⟨ι, S, env, (.int j, _), R, en, e1, fun v H1 ι1 R1 r1 x1 => ?_⟩
  cases r1
  exact ⟨j, rfl, q _ _ R1 x1⟩
theorem se_sl {a : Expr} {lo hi : Option Expr} {ia : E} {il ih : Option E} {p2 pos : Pos} (ha : PE X a (tE X.K Gd g F ia)) (hl : PO X lo (tO X.K Gd g F il)) (hh : PO X hi (tO X.K Gd g F ih)) :
    PE X (.Subscript a (.Slice lo hi none p2) pos) (tE X.K Gd g F (.sl ia il ih)) := by
  refine PE.imp (pe_slice (slOp (Gd := Gd)) ha hl hh) fun σ H Q q => ?_
  obtain ⟨ι, S, env, r, R, en, ev, q⟩ := q
  simp only [evE] at ev
  split at ev <;> try cases ev
  rename_i x S1 e1
  split at ev <;> try cases ev
  rename_i l S2 e2
  split at ev <;> try cases ev
  rename_i h S3 e3
  simp only [Option.map_eq_some_iff] at ev
  obtain ⟨r', e4, rfl⟩ := ev
  refine ⟨ι, S, env, (x, S1), R, en, e1, fun v1 H1 ι1 R1 r1 x1 => ?_⟩
  refine ⟨ι1, S1, env, l, S2, R1, en.keep (x1.keeps R), e2, fun H2 ι2 R2 x2 => ?_⟩
  refine ⟨ι2, S2, env, h, S3, R2, (en.keep (x1.keeps R)).keep (x2.keeps R1), e3, fun H3 ι3 R3 x3 => ?_⟩
  exact ⟨ι3, S3, x, r', R3, (r1.keep (x2.keeps R1)).keep (x3.keeps R2), e4, (q.gc R).step ((x1.trans x2).trans x3)⟩
theorem se_rev {a : Expr} {ia : E} {n : Nat} {p1 p2 p3 pos : Pos} (ha : PE X a (tE X.K Gd g F ia)) :
    PE X (.Subscript a (.Slice none none (some (.UnaryOp .USub (.Constant (.int 1) n p1) p2)) p3) pos) (tE X.K Gd g F (.rev ia)) := by
  refine PE.imp (CVT.pe_rev ha) fun σ H Q q => ?_
  obtain ⟨ι, S, env, r, R, en, ev, q⟩ := q
  simp only [evE] at ev
  split at ev <;> try cases ev
  rename_i x S1 e1
  simp only [Option.map_eq_some_iff] at ev
  obtain ⟨r', e2, rfl⟩ := ev
  unfold revD at e2
  split at e2
  · cases e2
    rename_i xs
    refine ⟨ι, S, env, (_, S1), R, en, e1, fun v1 H1 ι1 R1 r1 x1 => ?_⟩
    cases r1 with
    | tup h rs =>
      refine ⟨_, _, rfl, .inr ⟨h, fun p hp => ?_⟩⟩
      exact ((q.gc R).step x1).tup R1 rs.rev p hp
  · split at e2 <;> cases e2
    rename_i xs e3
    refine ⟨ι, S, env, (x, S1), R, en, e1, fun v1 H1 ι1 R1 r1 x1 => ?_⟩
    obtain ⟨l, vs, rfl, rs, hl⟩ := lstOf_rd R1 r1 e3
    exact ⟨l, vs, rfl, .inl ⟨hl, ((q.gc R).step x1).lst R1 rs.rev⟩⟩
end
end CV

set_option Elab.async false
set_option linter.all false
set_option maxRecDepth 100000
set_option maxHeartbeats 4000000
/-! CvG: dicts written out, walks, comprehensions, targets. -/
namespace CV
open PySem PySem.Spec PyProof.Rows L2

section
variable {K : PySem.W.Frag} {Gd : Str → Addr → Prop} {H H' : Hp} {ι ι' : Loc} {S S' : Sto}

/-! ### what a loop walks -/
/-- the model's iterator J walks w -/
def WkOk (K : PySem.W.Frag) (Gd : Str → Addr → Prop) (H0 : Hp) (ι0 : Loc) (w : Wk) (J : It) : Prop :=
  ∀ (i : Nat) (H : Hp) (ι : Loc) (S : Sto), Rel K Gd H ι S → Kp K H0 ι0 H ι → Fz H0 H → w.ok S = true →
    (∀ x, w.items[i]? = some x → J.go i H ∧ ∀ v H', J.yld i H v H' → Rel K Gd H' ι S ∧ Ext H ι H' ι ∧ RD K Gd H' ι x v) ∧ (w.items.length ≤ i → J.stop i H)
theorem yl {x : D} {v : V} (e : H' = H) (R : Rel K Gd H ι S) (r : RD K Gd H ι x v) : Rel K Gd H' ι S ∧ Ext H ι H' ι ∧ RD K Gd H' ι x v := by
  subst e
  exact ⟨R, .refl, r⟩
theorem wk_tup {ds : List D} {vs : List V} {a : Addr} (h : SqT K H a vs) (r : RDs K Gd H ι ds vs) : WkOk K Gd H ι (.fix ds) (Itt K a) := by
  intro i H1 ι1 S1 R1 kp _ _
  have h1 := kp.tup _ _ h
  have r1 := r.keep kp
  refine ⟨fun x hx => ?_, fun hl => ⟨vs, h1, by rw [← r.length]; exact hl⟩⟩
  obtain ⟨v, hv, rv⟩ := r1.get hx
  refine ⟨⟨vs, v, h1, hv⟩, fun v' H' ⟨e, y⟩ => yl e R1 ?_⟩
  have := y vs h1
  rw [hv] at this
  cases this
  exact rv
theorem wk_scr {ns : List Int} {a : Addr} (h : SqF K H a (ns.map V.int)) : WkOk K Gd H ι (.fix (ns.map D.int)) (Itl K a) := by
  intro i H1 ι1 S1 R1 kp _ _
  have h1 := (kp.frz _ _ h).sq
  have r1 : RDs K Gd H1 ι1 (ns.map D.int) (ns.map V.int) := RDs.ints
  refine ⟨fun x hx => ?_, fun hl => ⟨_, h1, by rw [← r1.length]; exact hl⟩⟩
  obtain ⟨v, hv, rv⟩ := r1.get hx
  refine ⟨⟨_, v, h1, hv⟩, fun v' H' ⟨e, y⟩ => yl e R1 ?_⟩
  have := y _ h1
  rw [hv] at this
  cases this
  exact rv
theorem wk_lst {n : Nat} {ds : List D} {a : Addr} (hl : ι[n]? = some (a, .lst)) : WkOk K Gd H ι (.lst n ds) (Itl K a) := by
  intro i H1 ι1 S1 R1 kp _ ok
  have h1 := kp.loc _ _ hl
  have e0 : S1[n]? = some (.lst ds) := by
    unfold Wk.ok at ok
    simp only at ok
    split at ok
    · rename_i o e
      rw [e, Ob.beq_eq ok]
    · cases ok
  obtain ⟨vs, h2, r1⟩ := R1.lst_at e0 h1
  have h2' : SqL K H1 a vs := .of h2
  refine ⟨fun x hx => ?_, fun hl => ⟨vs, h2', by rw [← r1.length]; exact hl⟩⟩
  obtain ⟨v, hv, rv⟩ := r1.get hx
  refine ⟨⟨vs, v, h2', hv⟩, fun v' H' ⟨e, y⟩ => yl e R1 ?_⟩
  have := y vs h2'
  rw [hv] at this
  cases this
  exact rv
theorem wk_str {x : Str} (h : strGood x = true) : WkOk K Gd H ι (.fix (x.cps.toList.map fun c => .str ⟨#[c]⟩)) (Its x) := by
  intro i H1 ι1 S1 R1 kp _ _
  refine ⟨fun y hy => ?_, fun hl => ?_⟩
  · have hy : (x.cps.toList.map fun c => D.str ⟨#[c]⟩)[i]? = some y := hy
    rw [List.getElem?_map] at hy
    cases e : x.cps.toList[i]? with
    | none => rw [e] at hy; cases hy
    | some c =>
      rw [e] at hy
      cases hy
      have hi : i < x.cps.size := by
        have := (List.getElem?_eq_some_iff.mp e).1
        simpa using this
      refine ⟨hi, fun v' H' ⟨e1, c', e2, e3⟩ => yl e1 R1 ?_⟩
      have e4 : x.cps[i]? = some c := by rw [← Array.getElem?_toList]; exact e
      rw [e4] at e2
      cases e2
      subst e3
      exact .str (good_one (strGood_cps h c (List.mem_of_getElem? e)))
  · have hl : (x.cps.toList.map fun c => D.str ⟨#[c]⟩).length ≤ i := hl
    show x.cps.size ≤ i
    simpa using hl
theorem wk_rng {lo hi : Int} : WkOk K Gd H ι (.fix (rngItems lo hi)) (Itr lo (hi - lo).toNat) := by
  intro i H1 ι1 S1 R1 kp _ _
  have hlen : (rngItems lo hi).length = (hi - lo).toNat := by unfold rngItems; simp
  refine ⟨fun y hy => ?_, fun hl => ?_⟩
  · have hy : (rngItems lo hi)[i]? = some y := hy
    have hi' : i < (hi - lo).toNat := by rw [← hlen]; exact (List.getElem?_eq_some_iff.mp hy).1
    refine ⟨hi', fun v' H' ⟨e1, e2⟩ => yl e1 R1 ?_⟩
    unfold rngItems at hy
    rw [List.getElem?_map, List.getElem?_range hi'] at hy
    cases hy
    subst e2
    exact .int _
  · have hl : (rngItems lo hi).length ≤ i := hl
    rw [hlen] at hl
    exact hl
end

section
variable {X : Cx} {tb : Tb} {N : List Str} {Gd : Str → Addr → Prop} {g : Cst} {F : FT} {k : Nat}

def tW (K : PySem.W.Frag) (Gd : Str → Addr → Prop) (g : Cst) (F : FT) (e : E) : TI := fun σ H R =>
  ∃ ι S env w S', Rel K Gd H ι S ∧ REnv K Gd H ι σ env ∧ evW g F e env S = some (w, S') ∧ ∀ J H' ι', Rel K Gd H' ι' S' → WkOk K Gd H' ι' w J → Ext H ι H' ι' → R J H'

theorem sw_plain {tg e : Expr} {ie : E} (he : PE X e (tE X.K Gd g F ie))
    (hi : ∀ env S, evW g F ie env S = match evE g F ie env S with
      | some (d, S1) => match wkOf S1 d with
        | some w => some (w, S1)
        | none => none
      | none => none) : PI X tg e (tW X.K Gd g F ie) := by
  refine PI.imp (PI.or (pi_list he) (PI.or (pi_tup he) (pi_str he))) fun σ H R q => ?_
  obtain ⟨ι, S, env, w, S', Rl, en, ev, q⟩ := q
  rw [hi] at ev
  split at ev <;> try cases ev
  rename_i d S1 e1
  split at ev <;> cases ev
  rename_i e2
  unfold wkOf at e2
  split at e2
  · cases e2
    refine .inr (.inl ⟨ι, S, env, (_, _), Rl, en, e1, fun v H1 ι1 R1 r1 x1 => ?_⟩)
    cases r1 with
    | tup h r => exact ⟨_, rfl, ⟨_, h⟩, q _ _ ι1 R1 (wk_tup h r) x1⟩
  · cases e2
    refine .inl ⟨ι, S, env, (_, _), Rl, en, e1, fun v H1 ι1 R1 r1 x1 => ?_⟩
    cases r1 with
    | scr h => exact ⟨_, rfl, ⟨_, h.sq⟩, q _ _ ι1 R1 (wk_scr h) x1⟩
  · cases e2
    refine .inr (.inr ⟨ι, S, env, (_, _), Rl, en, e1, fun v H1 ι1 R1 r1 x1 => ?_⟩)
    cases r1 with
    | str h => exact ⟨_, rfl, q _ _ ι1 R1 (wk_str h) x1⟩
  · split at e2 <;> cases e2
    rename_i e3
    refine .inl ⟨ι, S, env, (_, _), Rl, en, e1, fun v H1 ι1 R1 r1 x1 => ?_⟩
    cases r1 with
    | loc h =>
      obtain ⟨vs, h4, _⟩ := R1.lst_at e3 h
      exact ⟨_, rfl, ⟨vs, .of h4⟩, q _ _ ι1 R1 (wk_lst h) x1⟩
  · cases e2
theorem sw_rng1 {tg a : Expr} {ia : E} {sc : Scope} {p pos : Pos} (O : Ok X tb N Gd g F k) (hs : X.env.scope = sc) (hg : glob sc "range" = true) (hn : notStar a = true) (ha : PA X [a] (tA X.K Gd g F [ia])) :
    PI X tg (.Call (.Name "range" p) [a] [] pos) (tW X.K Gd g F (.rng [ia])) := by
  refine PI.imp (pi_range1 (glob_gl hs hg) (O.blt _ (by simp [bltNames])) ha (star_cons hn)) fun σ H R q => ?_
  obtain ⟨ι, S, env, w, S', Rl, en, ev, q⟩ := q
  unfold evW at ev
  split at ev
  · rename_i j S1 e1
    split at ev <;> cases ev
    rename_i hb
    simp only [Bool.and_eq_true, decide_eq_true_eq] at hb
    refine ⟨ι, S, env, [.int j], _, Rl, en, e1, fun vs H1 ι1 R1 r1 x1 => ?_⟩
    obtain ⟨v, rfl, rv⟩ := rds1 r1
    cases rv
    refine ⟨j, rfl, hb.1, hb.2, ?_⟩
    have := q (Itr 0 (j - 0).toNat) H1 ι1 R1 wk_rng x1
    simpa using this
  · rename_i i j S1 e1
    have : evEs g F [ia] env S = some ([.int i, .int j], S1) := e1
    unfold evEs at this
    split at this <;> try cases this
    unfold evEs at this
    simp at this
  · cases ev
theorem sw_rng2 {tg a b : Expr} {ia ib : E} {sc : Scope} {p pos : Pos} (O : Ok X tb N Gd g F k) (hs : X.env.scope = sc) (hg : glob sc "range" = true) (hn : notStar a = true) (hn2 : notStar b = true) (ha : PA X [a, b] (tA X.K Gd g F [ia, ib])) :
    PI X tg (.Call (.Name "range" p) [a, b] [] pos) (tW X.K Gd g F (.rng [ia, ib])) := by
  refine PI.imp (pi_range2 (glob_gl hs hg) (O.blt _ (by simp [bltNames])) ha (by rw [star_cons hn, star_cons hn2]; rfl) (star_cons hn2)) fun σ H R q => ?_
  obtain ⟨ι, S, env, w, S', Rl, en, ev, q⟩ := q
  unfold evW at ev
  split at ev
  · rename_i j S1 e1
    have : evEs g F [ia, ib] env S = some ([.int j], S1) := e1
    unfold evEs at this
    split at this <;> try cases this
    split at this <;> try cases this
    rename_i e2
    unfold evEs at e2
    split at e2 <;> try cases e2
    split at e2 <;> cases e2
  · rename_i i j S1 e1
    split at ev <;> cases ev
    rename_i hb
    simp only [Bool.and_eq_true, decide_eq_true_eq] at hb
    refine ⟨ι, S, env, [.int i, .int j], _, Rl, en, e1, fun vs H1 ι1 R1 r1 x1 => ?_⟩
    obtain ⟨v, u, rfl, rv, ru⟩ := rds2 r1
    cases rv
    cases ru
    exact ⟨i, j, rfl, ⟨hb.1.1.1, hb.1.1.2, hb.1.2, hb.2⟩, q _ H1 ι1 R1 wk_rng x1⟩
  · cases ev

/-! ### targets -/
/-- what a store to a target is: the slots of the target alone are changed -/
def gT (K : PySem.W.Frag) (Gd : Str → Addr → Prop) (t : T) : TG := fun v σ H Q =>
  ∃ ι S d env env', Rel K Gd H ι S ∧ RD K Gd H ι d v ∧ REnv K Gd H ι σ env ∧ asg t d env S = some env' ∧
    ∀ σ', REnv K Gd H ι σ' env' → (∀ vs : List Nat, (∀ i ∈ t.slots, i ∈ vs) → wipe σ' vs = wipe σ vs) → Q σ' H
def gTs (K : PySem.W.Frag) (Gd : Str → Addr → Prop) (ts : List T) : TGs := fun us σ H Q =>
  ∃ ι S ds env env', Rel K Gd H ι S ∧ RDs K Gd H ι ds us ∧ REnv K Gd H ι σ env ∧ asgAll ts ds env S = some env' ∧
    ∀ σ', REnv K Gd H ι σ' env' → (∀ vs : List Nat, (∀ i ∈ T.slotsAll ts, i ∈ vs) → wipe σ' vs = wipe σ vs) → Q σ' H
theorem wipe_set {σ : L2.St} {i : Nat} {v : Option V} : ∀ {vs : List Nat}, i ∈ vs → wipe (σ.set i v) vs = wipe σ vs
  | [], h => by simp at h
  | j :: vs, h => by
    unfold L2.wipe
    by_cases e : i = j
    · subst e
      have : ∀ (σ : L2.St) (vs : List Nat), (wipe (σ.set i v) vs).set i none = (wipe σ vs).set i none := fun σ vs => by
        induction vs with
        | nil => simp [L2.wipe]
        | cons j vs ih =>
          unfold L2.wipe
          by_cases e : j = i
          · subst e
            simp only [List.set_set]
            exact ih
          · rw [List.set_comm _ _ e, ih, List.set_comm _ _ (Ne.symm e)]
      exact this σ vs
    · rcases List.mem_cons.mp h with h | h
      · exact absurd h e
      · rw [wipe_set h]
theorem wipe_idem (σ : L2.St) (vs : List Nat) : wipe (wipe σ vs) vs = wipe σ vs := by
  have : ∀ (ws : List Nat), (∀ i ∈ ws, i ∈ vs) → wipe (wipe σ ws) vs = wipe σ vs := fun ws => by
    induction ws with
    | nil => intro _; rfl
    | cons i ws ih =>
      intro h
      show wipe ((wipe σ ws).set i none) vs = _
      rw [wipe_set (h i (List.mem_cons_self ..))]
      exact ih fun j hj => h j (List.mem_cons_of_mem _ hj)
  exact this vs fun _ h => h

/-- what may be stored: sc tells it -/
def Tgt (X : Cx) (sc : Scope) : Prop := ∀ x, owned sc x = true → L2.Loc X.env.scope x ∧ (X.fn x = true ∨ X.env.scope.names.lookup x = some .local)
theorem gs_nm {x : Str} {pos : Pos} {i : Nat} {sc : Scope} (O : Ok X tb N Gd g F k) (hT : Tgt X sc) (ho : owned sc x = true) (hi : ixOf x N 0 = some i) :
    PG X (.Name x pos) (gT X.K Gd (.nm i)) := by
  obtain ⟨hx, hf⟩ := hT x ho
  refine PG.imp (pg_name (i := i) O.nd (by rw [O.names]; exact ixOf_at hi) hx hf) fun v σ H Q q => ?_
  obtain ⟨ι, S, d, env, env', R, r, en, e, q⟩ := q
  simp only [asg, Option.some.injEq] at e
  subst e
  exact q _ (en.set r) fun vs h => wipe_set (h i (by simp [T.slots]))
theorem gs_nil : PGs X [] (gTs X.K Gd []) := PGs.imp pgs_nil fun us σ H Q q => by
  obtain ⟨ι, S, ds, env, env', R, r, en, e, q⟩ := q
  cases ds with
  | cons d ds => simp [asgAll] at e
  | nil =>
    cases r
    simp only [asgAll, Option.some.injEq] at e
    subst e
    exact ⟨rfl, q σ en fun _ _ => rfl⟩
theorem tgt_cons {e : Expr} {es : List Expr} {env : PySem.Env} (h : notStar e = true) : assignEach (e :: es) env = (false, assign e env) :: assignEach es env := by
  cases e <;> first | rfl | cases h
theorem gs_cons {e : Expr} {es : List Expr} {t : T} {ts : List T} (hn : notStar e = true) (h1 : PG X e (gT X.K Gd t)) (h2 : PGs X es (gTs X.K Gd ts)) : PGs X (e :: es) (gTs X.K Gd (t :: ts)) := by
  refine PGs.imp (pgs_cons h1 h2 (by rw [tgt_cons hn]; rfl)) fun us σ H Q q => ?_
  obtain ⟨ι, S, ds, env, env', R, r, en, ev, q⟩ := q
  cases ds with
  | nil => simp [asgAll] at ev
  | cons d ds =>
    cases r with
    | cons r rs =>
      simp only [asgAll] at ev
      split at ev <;> try cases ev
      rename_i env1 e1
      refine ⟨_, _, rfl, ι, S, d, env, env1, R, r, en, e1, fun σ1 en1 w1 => ?_⟩
      refine ⟨ι, S, ds, env1, env', R, rs, en1, ev, fun σ2 en2 w2 => q σ2 en2 fun vs hv => ?_⟩
      rw [w2 vs fun i hi => hv i (by simp [T.slotsAll, hi]), w1 vs fun i hi => hv i (by simp [T.slotsAll, hi])]
theorem tgt_len {env : PySem.Env} : ∀ {es : List Expr}, es.all notStar = true → (assignEach es env).length = es.length ∧ (assignEach es env).findIdx? (·.1) = none
  | [], _ => ⟨rfl, rfl⟩
  | e :: es, h => by
    simp only [List.all_cons, Bool.and_eq_true] at h
    rw [tgt_cons h.1]
    obtain ⟨h1, h2⟩ := tgt_len (env := env) h.2
    exact ⟨by simp [h1], by rw [List.findIdx?_cons, h2]; rfl⟩
theorem asgAll_len : ∀ {ts : List T} {ds : List D} {env env' : Env} {S : Sto}, asgAll ts ds env S = some env' → ts.length = ds.length
  | [], [], _, _, _, _ => rfl
  | [], _ :: _, _, _, _, h => by simp [asgAll] at h
  | _ :: _, [], _, _, _, h => by simp [asgAll] at h
  | t :: ts, d :: ds, env, env', S, h => by
    simp only [asgAll] at h
    split at h <;> try cases h
    simp [asgAll_len h]
theorem PG.or {e : Expr} {t t' : TG} (h : PG X e t) (h' : PG X e t') : PG X e (fun v σ H Q => t v σ H Q ∨ t' v σ H Q) := ⟨fun pins s σ H v u Q I r q => q.elim (h.run pins s σ H v u Q I r) (h'.run pins s σ H v u Q I r)⟩
theorem chars_rd {K : PySem.W.Frag} {H : Hp} {ι : Loc} : ∀ {l : List Nat}, (∀ c ∈ l, c < 0x110000) → RDs K Gd H ι (l.map fun c => D.str ⟨#[c]⟩) (l.map fun c => V.str ⟨#[c]⟩)
  | [], _ => .nil
  | c :: l, h => .cons (.str (good_one (h c List.mem_cons_self))) (chars_rd fun d hd => h d (List.mem_cons_of_mem _ hd))
theorem gs_tup {es : List Expr} {n : Nat} {pos : Pos} {ts : List T} (O : Ok X tb N Gd g F k) (hn : es.all notStar = true) (hl : es.length = ts.length) (h : PGs X es (gTs X.K Gd ts)) : PG X (.Tuple es n pos) (gT X.K Gd (.tup ts)) := by
  obtain ⟨h1, h2⟩ := tgt_len (env := X.env) hn
  refine PG.imp (PG.or (pg_tup (n := es.length) O.calm h h1 h2) (CVDi.pg_tupS (n := es.length) O.calm h h1 h2)) fun v σ H Q q => ?_
  obtain ⟨ι, S, d, env, env', R, r, en, e, q⟩ := q
  cases r with
  | str hs =>
    rename_i x
    simp only [asg] at e
    have hlen := asgAll_len e
    rw [List.length_map] at hlen
    refine .inr ⟨x, rfl, by rw [← Array.length_toList, ← hlen, hl], ι, S, _, env, env', R, chars_rd (strGood_cps hs), en, e, fun σ' en' w => q σ' en' fun vs hv => w vs fun i hi => hv i (by simpa [T.slots] using hi)⟩
  | tup ht hr =>
    simp only [asg] at e
    refine .inl ⟨_, _, rfl, ht, by rw [← hr.length, ← asgAll_len e, hl], ι, S, _, env, env', R, hr, en, e, fun σ' en' w => q σ' en' fun vs hv => w vs fun i hi => hv i (by simpa [T.slots] using hi)⟩
  | _ => simp [asg] at e

theorem tgt_blk {s : Shared} {H : Hp} {scope : Scope} {C : Addr} {cl : List (Str × Addr)} {fp : List Addr} : Tgt (X.blk s H scope (compEnvC scope cl C X.env) fp) scope := by
  intro x h
  unfold owned at h
  have e : (X.blk s H scope (compEnvC scope cl C X.env) fp).env.scope = L2.relS scope X.env.scope := rfl
  split at h
  · rename_i q
    have q2 := L2.lookup_relS_keep (sc := X.env.scope) (by decide) q
    exact ⟨.inl q2, .inr q2⟩
  · rename_i q
    have q2 := L2.lookup_relS_keep (sc := X.env.scope) (by decide) q
    exact ⟨.inr q2, .inl (by show (scope.names.lookup x == some .cell) = true; rw [q]; rfl)⟩
  · cases h

/-! ### comprehensions -/
theorem lcLoop_ok {w : Wk} {elt : Env → Sto → Option (D × Sto)} {ifs : Env → Sto → Option (Bool × Sto)} {t : T} {env0 : Env} : ∀ {xs acc : List D} {S : Sto} {r : List D × Sto}, lcLoop elt ifs t env0 w xs acc S = some r → w.ok S = true
  | [], acc, S, r, h => by
    unfold lcLoop at h
    split at h <;> first | assumption | cases h
  | x :: xs, acc, S, r, h => by
    unfold lcLoop at h
    split at h <;> first | assumption | cases h
theorem lc_imp {it elt : E} {ifs : List E} {t : T} {own : List Nat} (ht : ∀ i ∈ t.slots, i ∈ own) {tt : TT} (htt : ∀ σ H Q, (∃ ι S env b S', Rel X.K Gd H ι S ∧ REnv X.K Gd H ι σ env ∧ evIfs g F ifs env S = some (b, S') ∧ ∀ H' ι', Rel X.K Gd H' ι' S' → Ext H ι H' ι' → Q b H') → tt σ H Q) :
    ∀ σ H Q, tE X.K Gd g F (.lc elt t it ifs own) σ H Q → tLc (tW X.K Gd g F it) (gT X.K Gd t) tt (tE X.K Gd g F elt) own σ H Q := by
  intro σ H Q ⟨ι, S, env, r, R, en, ev, q⟩
  unfold evE at ev
  split at ev <;> try cases ev
  rename_i w S1 e1
  split at ev <;> cases ev
  rename_i ds S2 e2
  refine ⟨ι, S, env, w, S1, R, en, e1, fun J H1 ι1 R1 wk x1 => ?_⟩
  have en1 := (en.keep (x1.keeps R)).wipe own
  intro D hD
  refine ⟨fun i m Hi => m = w.items.length - i ∧ i ≤ w.items.length ∧ ∃ ιi Si acc vs, Rel X.K Gd Hi ιi Si ∧ Ext H1 ι1 Hi ιi ∧ (∀ p ∈ ιi, p.1 ≠ D) ∧ Hi D = some (.lst vs) ∧ RDs X.K Gd Hi ιi acc vs ∧
    lcLoop (evE g F elt) (evIfs g F ifs) t (wipeD env own) w (w.items.drop i) acc Si = some (ds, S2), ⟨w.items.length, by simp, Nat.zero_le _, ι1, S1, [], [], R1.fresh hD, (Ext.refl (H := H1) (ι := ι1)).loose hD, R1.none_ne hD, upd_same, .nil, by simpa using e2⟩, ?_⟩
  rintro i m Hi ⟨rfl, hi, ιi, Si, acc, vs, Ri, xi, hDi, hDl, racc, el⟩
  have kpi : Kp X.K H1 ι1 Hi ιi := xi.keeps R1
  have wki := wk i Hi ιi Si Ri kpi xi.fz (lcLoop_ok el)
  by_cases hlt : i < w.items.length
  · -- one more turn
    have hd : w.items.drop i = w.items[i] :: w.items.drop (i + 1) := List.drop_eq_getElem_cons hlt
    rw [hd] at el
    unfold lcLoop at el
    rw [if_pos (by split at el <;> first | assumption | cases el)] at el
    obtain ⟨hgo, hy⟩ := wki.1 w.items[i] (by simp [hlt])
    refine .inr ⟨hgo, fun H' => ∃ ι' S' acc' vs', Rel X.K Gd H' ι' S' ∧ Ext H1 ι1 H' ι' ∧ (∀ p ∈ ι', p.1 ≠ D) ∧ H' D = some (.lst vs') ∧ RDs X.K Gd H' ι' acc' vs' ∧
      lcLoop (evE g F elt) (evIfs g F ifs) t (wipeD env own) w (w.items.drop (i + 1)) acc' S' = some (ds, S2), fun H' ⟨ι', S', acc', vs', h1, h2, h3, h4, h5, h6⟩ => ⟨w.items.length - (i + 1), by omega, rfl, hlt, ι', S', acc', vs', h1, h2, h3, h4, h5, h6⟩, fun v H' y => ?_⟩
    obtain ⟨Ry, xy, rv⟩ := hy v H' y
    obtain ⟨hDi, hDl⟩ := xy.out hDi hDl
    have racc := racc.keep (xy.keeps Ri)
    have kpi := kpi.trans (xy.keeps Ri)
    have xi := xi.trans xy
    have Ri := Ry
    split at el <;> try cases el
    rename_i env2 ea
    refine ⟨ιi, Si, w.items[i], wipeD env own, env2, Ry, rv, en1.keep kpi, ea, fun σ2 en2 wp => ⟨?_, ?_⟩⟩
    · rw [wp own ht]
      exact wipe_idem σ own
    · split at el
      · -- the element is kept
        rename_i Sb eb
        split at el <;> try cases el
        rename_i yv Sc ec
        split at el <;> try cases el
        rename_i hlen
        refine htt _ _ _ ⟨ιi, Si, env2, true, Sb, Ri, en2, eb, fun Hb ιb Rb xb => iteT ?_⟩
        refine ⟨ιb, Sb, env2, (yv, Sc), Rb, en2.keep (xb.keeps Ri), ec, fun v2 Hc ιc Rc rc xc => ?_⟩
        have xbc := xb.trans xc
        obtain ⟨o1, o2⟩ := xbc.out hDi hDl
        have racc' := racc.keep (xbc.keeps Ri)
        have hl : vs.length < sizeLine := by
          rw [← racc.length, ← cap_eq]
          exact hlen
        refine ⟨vs, o2, hl, ιc, Sc, acc ++ [yv], vs ++ [v2], ?_, ?_, o1, upd_same, ?_, el⟩
        · exact Rc.loose ⟨o1, .inr (.inl ⟨_, o2⟩)⟩
        · exact (xi.trans xbc).loose hD
        · have kp : Kp X.K Hc ιc (upd Hc D (.lst (vs ++ [v2]))) ιc := Loose.keeps ⟨o1, .inr (.inl ⟨_, o2⟩)⟩
          exact (racc'.append (.cons rc .nil)).keep kp
      · rename_i Sb eb
        refine htt _ _ _ ⟨ιi, Si, env2, false, Sb, Ri, en2, eb, fun Hb ιb Rb xb => iteF ?_⟩
        obtain ⟨o1, o2⟩ := xb.out hDi hDl
        exact ⟨ιb, Sb, acc, vs, Rb, xi.trans xb, o1, o2, racc.keep (xb.keeps Ri), el⟩
      · cases el
  · -- the end
    have e : i = w.items.length := by omega
    subst e
    simp only [List.drop_length] at el
    unfold lcLoop at el
    split at el <;> cases el
    refine .inl ⟨wki.2 (Nat.le_refl _), ?_⟩
    have xx : Ext H ι Hi ιi := x1.trans xi
    have hn : H D = none := x1.dom D hD
    have q' : Post X.K Gd H ι (.loc .lst S2.length, S2 ++ [.lst ds]) Q := q.gc R
    refine q' _ Hi (ιi ++ [(D, .lst)]) (Ri.claim (ob := .lst ds) hDi ⟨vs, hDl, racc⟩) (.loc (by rw [← Ri.len]; simp)) (xx.claim hn)
end
end CV

set_option Elab.async false
set_option linter.all false
set_option maxRecDepth 100000
set_option maxHeartbeats 4000000
/-! CvH: what cE makes of an expression is what the model's eval does. -/
namespace CV
open PySem PySem.Spec PyProof.Rows L2

section
variable {X : Cx} {tb : Tb} {N : List Str} {Gd : Str → Addr → Prop} {g : Cst} {F : FT} {k : Nat}

theorem allO_some {α β : Type} {f : α → Option β} : ∀ {xs : List α} {ys : List β}, allO (xs.map f) = some ys → xs.length = ys.length ∧ ∀ (i : Nat) (x : α), xs[i]? = some x → ∃ y, ys[i]? = some y ∧ f x = some y
  | [], ys, h => by simp [allO] at h; subst h; exact ⟨rfl, fun i x h => by simp at h⟩
  | x :: xs, ys, h => by
    simp only [List.map_cons] at h
    cases e : f x with
    | none => rw [e] at h; simp [allO] at h
    | some y =>
      rw [e] at h
      simp only [allO, Option.map_eq_some_iff] at h
      obtain ⟨zs, e2, rfl⟩ := h
      obtain ⟨h1, h2⟩ := allO_some e2
      refine ⟨by simp [h1], fun i z hz => ?_⟩
      cases i with
      | zero => simp at hz; subst hz; exact ⟨y, rfl, e⟩
      | succ i => simp only [List.getElem?_cons_succ] at hz ⊢; exact h2 i z hz
theorem allO_cons {α β : Type} {f : α → Option β} {x : α} {xs : List α} {ys : List β} (h : allO ((x :: xs).map f) = some ys) : ∃ z zs, f x = some z ∧ allO (xs.map f) = some zs ∧ ys = z :: zs := by
  simp only [List.map_cons] at h
  cases e : f x with
  | none => rw [e] at h; simp [allO] at h
  | some y =>
    rw [e] at h
    simp only [allO, Option.map_eq_some_iff] at h
    obtain ⟨zs, e2, rfl⟩ := h
    exact ⟨y, zs, rfl, e2, rfl⟩
theorem allO_nil {α β : Type} {f : α → Option β} {ys : List β} (h : allO (([] : List α).map f) = some ys) : ys = [] := by
  simp [allO] at h
  exact h

/-- an expression, as a value, as a test, as what is walked -/
structure Sound (X : Cx) (Gd : Str → Addr → Prop) (g : Cst) (F : FT) (e : Expr) (ir : E) : Prop where
  val : PE X e (tE X.K Gd g F ir)
  tst : PT X e (tT X.K Gd g F ir)
  wlk : ∀ tg, PI X tg e (tW X.K Gd g F ir)
theorem Sound.plain {e : Expr} {ir : E} (he : PE X e (tE X.K Gd g F ir)) (h1 : ∀ whole, isTrue e X.env whole = (do let v ← whole; standAt e.pos; holding [v] (truthy v)))
    (h2 : ∀ env S, evT g F ir env S = match evE g F ir env S with
      | some (d, S1) => match truth S1 d with
        | some k => some (k, S1)
        | none => none
      | none => none)
    (h3 : ∀ env S, evW g F ir env S = match evE g F ir env S with
      | some (d, S1) => match wkOf S1 d with
        | some w => some (w, S1)
        | none => none
      | none => none) : Sound X Gd g F e ir := ⟨he, st_plain he h1 h2, fun _ => sw_plain he h3⟩
theorem Sound.test {e : Expr} {ir : E} (he : PE X e (tE X.K Gd g F ir)) (ht : PT X e (tT X.K Gd g F ir))
    (h3 : ∀ env S, evW g F ir env S = match evE g F ir env S with
      | some (d, S1) => match wkOf S1 d with
        | some w => some (w, S1)
        | none => none
      | none => none) : Sound X Gd g F e ir := ⟨he, ht, fun _ => sw_plain he h3⟩

/-- a list of expressions -/
theorem soundEs {f : Expr → Option E} : ∀ {es : List Expr} {ies : List E}, (∀ e ∈ es, ∀ ie, f e = some ie → PE X e (tE X.K Gd g F ie)) → es.all notStar = true → allO (es.map f) = some ies → PA X es (tA X.K Gd g F ies)
  | [], ies, _, _, h => by
    have := allO_nil h
    subst this
    exact sa_nil
  | e :: es, ies, ih, hn, h => by
    obtain ⟨z, zs, e1, e2, rfl⟩ := allO_cons h
    simp only [List.all_cons, Bool.and_eq_true] at hn
    exact sa_cons hn.1 (ih e (List.mem_cons_self ..) z e1) (soundEs (fun e he => ih e (List.mem_cons_of_mem _ he)) hn.2 e2)

/-! ### dicts written out -/
theorem key_pe {o : Option Expr} {ky : L2.Key} (h : keyC o = some ky) : ∃ e, o = some e ∧ PE X e (tC (kV ky)) := by
  unfold keyC at h
  split at h
  · split at h <;> cases h
    exact ⟨_, rfl, pe_str⟩
  · cases h
    exact ⟨_, rfl, pe_int⟩
  · cases h
theorem key_gd {o : Option Expr} {ky : L2.Key} (h : keyC o = some ky) : keyG ky = true := by
  unfold keyC at h
  split at h
  · split at h <;> cases h
    assumption
  · cases h
    rfl
  · cases h
theorem sd_pps {pos : Pos} {f : Expr → Option E} : ∀ {ks : List (Option Expr)} {vs : List Expr} {kys : List L2.Key} {ies : List E}, (∀ e ∈ vs, ∀ ie, f e = some ie → PE X e (tE X.K Gd g F ie)) → allO (ks.map keyC) = some kys → allO (vs.map f) = some ies → ks.length = vs.length →
    PPs X pos ks vs ((kys.zip ies).map fun p => (tC (kV p.1), tE X.K Gd g F p.2)) ∧ kys.length = ies.length ∧ ks.all (·.isSome) = true ∧ kys.length = ks.length ∧ ∀ ky ∈ kys, keyG ky = true
  | [], [], kys, ies, _, h1, h2, _ => by
    have a := allO_nil h1
    have b := allO_nil h2
    subst a b
    exact ⟨pps_nil, rfl, rfl, rfl, fun ky h => by simp at h⟩
  | [], _ :: _, _, _, _, _, _, h => by simp at h
  | _ :: _, [], _, _, _, _, _, h => by simp at h
  | o :: ks, v :: vs, kys, ies, ih, h1, h2, hl => by
    obtain ⟨z, zs, e1, e2, rfl⟩ := allO_cons h1
    obtain ⟨y, ys, e3, e4, rfl⟩ := allO_cons h2
    obtain ⟨e, rfl, pk⟩ := key_pe (X := X) e1
    obtain ⟨p, q1, q2, q3, q4⟩ := sd_pps (fun e he => ih e (List.mem_cons_of_mem _ he)) e2 e4 (by simpa using hl)
    exact ⟨pps_cons pk (ih v (List.mem_cons_self ..) y e3) p, by simp [q1], by simp [q2], by simp [q3], fun ky hk => by
      rcases List.mem_cons.mp hk with rfl | hk
      · exact key_gd e1
      · exact q4 ky hk⟩
theorem tPairs_ev {ies : List E} : ∀ {kys : List L2.Key} {σ : L2.St} {H : Hp} {Q : List (V × V) → Hp → Prop}, kys.length = ies.length →
    (∃ ι S env ds S', Rel X.K Gd H ι S ∧ REnv X.K Gd H ι σ env ∧ evEs g F ies env S = some (ds, S') ∧ ∀ vs H' ι', Rel X.K Gd H' ι' S' → RDs X.K Gd H' ι' ds vs → Ext H ι H' ι' → Q ((kys.zip vs).map fun p => (kV p.1, p.2)) H') →
    tPairs ((kys.zip ies).map fun p => (tC (kV p.1), tE X.K Gd g F p.2)) σ H Q := by
  induction ies with
  | nil =>
    intro kys σ H Q hl ⟨ι, S, env, ds, S', R, en, ev, q⟩
    cases kys with
    | cons _ _ => simp at hl
    | nil =>
      simp only [evEs, Option.some.injEq, Prod.mk.injEq] at ev
      obtain ⟨rfl, rfl⟩ := ev
      exact q [] H ι R .nil Ext.refl
  | cons ie ies ih =>
    intro kys σ H Q hl ⟨ι, S, env, ds, S', R, en, ev, q⟩
    cases kys with
    | nil => simp at hl
    | cons ky kys =>
      simp only [evEs] at ev
      split at ev <;> try cases ev
      rename_i d S1 e1
      split at ev <;> cases ev
      rename_i ds' e2
      refine (show tE X.K Gd g F ie σ H _ from ⟨ι, S, env, (d, S1), R, en, e1, fun v H1 ι1 R1 r1 x1 => ?_⟩)
      refine ih (by simpa using hl) ⟨ι1, S1, env, ds', _, R1, en.keep (x1.keeps R), e2, fun vs H2 ι2 R2 r2 x2 => ?_⟩
      exact q (v :: vs) H2 ι2 R2 (.cons (r1.keep (x2.keeps R1)) r2) (x1.trans x2)
theorem merge_rd {K : PySem.W.Frag} {H : Hp} {ι : Loc} : ∀ {kys : List L2.Key} {ds : List D} {vs : List V} {acc : List (L2.Key × D)} {accv : List (L2.Key × V)}, kys.length = ds.length → (∀ ky ∈ kys, keyG ky = true) → RDs K Gd H ι ds vs → RKv K Gd H ι acc accv →
    RKv K Gd H ι ((kys.zip ds).foldl (fun acc kv => putD acc kv.1 kv.2) acc) ((kys.zip vs).foldl (fun acc kv => putK acc kv.1 kv.2) accv)
  | [], _, _, _, _, _, _, _, r => r
  | _ :: _, [], _, _, _, h, _, _, _ => by simp at h
  | ky :: kys, d :: ds, _, acc, accv, h, hg, .cons rd rs, r => merge_rd (kys := kys) (ds := ds) (by simpa using h) (fun k hk => hg k (List.mem_cons_of_mem _ hk)) rs (RKv.put (hg ky List.mem_cons_self) rd r)
theorem se_dct {ks : List (Option Expr)} {vs : List Expr} {pos : Pos} {kys : List L2.Key} {ies : List E} {trs : List (TE × TE)} (hp : PPs X pos ks vs ((kys.zip ies).map fun p => (tC (kV p.1), tE X.K Gd g F p.2))) (hl : kys.length = ies.length) (hall : ks.all (·.isSome) = true) (hkl : kys.length = ks.length) (hgood : ∀ ky ∈ kys, keyG ky = true) (hlen : ks.length = vs.length) :
    PE X (.Dict ks vs pos) (tE X.K Gd g F (.dct kys ies)) := by
  -- what the evaluator asks
  have evs_len : ∀ (ies : List E) (env : Env) (S : Sto) (ds : List D) (S1 : Sto), evEs g F ies env S = some (ds, S1) → ds.length = ies.length := fun ies => by
    induction ies with
    | nil => intro env S ds S1 h; simp only [evEs, Option.some.injEq, Prod.mk.injEq] at h; rw [← h.1]; rfl
    | cons e es ih =>
      intro env S ds S1 h
      simp only [evEs] at h
      split at h <;> try cases h
      split at h <;> cases h
      rename_i e2
      simp [ih _ _ _ _ e2]
  by_cases h0 : ks = []
  · subst h0
    cases kys with
    | cons _ _ => simp at hkl
    | nil =>
      cases ies with
      | cons _ _ => simp at hl
      | nil =>
        cases vs with
        | cons _ _ => simp at hlen
        | nil =>
          refine PE.imp pe_dnewK fun σ H Q q => ?_
          obtain ⟨ι, S, env, r, R, en, ev, q⟩ := q
          simp [evE, evEs] at ev
          subst ev
          intro p hp
          exact q _ _ (ι ++ [(p, .dct)]) (R.alloc (ob := .dct []) hp ⟨[], upd_same, .nil⟩) (.loc (by rw [← R.len]; simp)) (Ext.alloc hp)
  · by_cases h15 : ks.length ≤ 15
    · refine PE.imp (pe_disp hp hall hlen h0 h15) fun σ H Q q => ?_
      obtain ⟨ι, S, env, r, R, en, ev, q⟩ := q
      simp only [evE] at ev
      split at ev <;> try cases ev
      rename_i ds S1 e1
      split at ev <;> cases ev
      rename_i hc
      simp only [Bool.and_eq_true, decide_eq_true_eq, beq_iff_eq] at hc
      intro p hp
      refine tPairs_ev hl ⟨ι, S, env, ds, S1, R.fresh hp, en.keep ((Ext.fresh (ι := ι) hp).keeps R), e1, fun us H2 ι2 R2 r2 x2 => ?_⟩
      obtain ⟨o1, o2⟩ := x2.out (R.none_ne hp) upd_same
      refine ⟨o2, kys.zip us, rfl, ?_, ?_⟩
      · rw [List.length_zip, hc.2, r2.length]
        have := r2.length
        omega
      · have l : Loose H2 ι2 p := ⟨o1, .inr (.inr ⟨_, o2⟩)⟩
        have R3 := R2.loose (o := .dK (mergeK [] (kys.zip us))) l
        have x3 : Ext H ι (upd H2 p (.dK (mergeK [] (kys.zip us)))) ι2 := ((Ext.fresh hp).trans x2).loose hp
        have m : RKv X.K Gd H2 ι2 _ (mergeK [] (kys.zip us)) := merge_rd hc.2 hgood r2 .nil
        exact q _ _ (ι2 ++ [(p, .dct)]) (R3.claim (ob := .dct _) o1 ⟨_, upd_same, m.keep l.keeps⟩) (.loc (by rw [← R2.len]; simp)) (x3.claim hp)
    · refine ⟨fun pins s σ H Q I q => ?_⟩
      obtain ⟨ι, S, env, r, R, en, ev, q⟩ := q
      simp only [evE] at ev
      split at ev <;> try cases ev
      rename_i ds S1 e1
      split at ev <;> cases ev
      rename_i hc
      simp only [Bool.and_eq_true, decide_eq_true_eq, beq_iff_eq] at hc
      omega

theorem fold_ok {n : Nat} {sc : Scope} {e : Expr} {ir : E} {env : PySem.Env} (h : cE tb N n sc e = some ir) (x : Value) : foldedSetIterable e env x = pure x := by
  cases e <;> try rfl
  cases n with
  | zero => simp [cE] at h
  | succ n => simp [cE] at h

/-! ### targets -/
theorem soundT : ∀ (n : Nat) {sc : Scope} {e : Expr} {t : T}, Ok X tb N Gd g F k → Tgt X sc → cT N n sc e = some t → PG X e (gT X.K Gd t)
  | 0, _, _, _, _, _, h => by simp [cT] at h
  | n + 1, sc, e, t, O, hT, h => by
    unfold cT at h
    split at h
    · split at h <;> try cases h
      rename_i ho
      simp only [Option.map_eq_some_iff] at h
      obtain ⟨i, e1, rfl⟩ := h
      exact gs_nm O hT ho e1
    · rename_i es _ _
      split at h <;> try cases h
      rename_i hn
      simp only [Option.map_eq_some_iff] at h
      obtain ⟨ts, e1, rfl⟩ := h
      have all : ∀ (es : List Expr) (ts : List T), es.all notStar = true → allO (es.map (cT N n sc)) = some ts → PGs X es (gTs X.K Gd ts) := fun es => by
        induction es with
        | nil => intro ts _ h; have := allO_nil h; subst this; exact gs_nil
        | cons e es ih =>
          intro ts hn h
          obtain ⟨z, zs, e1, e2, rfl⟩ := allO_cons h
          simp only [List.all_cons, Bool.and_eq_true] at hn
          exact gs_cons hn.1 (soundT n O hT e1) (ih zs hn.2 e2)
      exact gs_tup O hn (allO_some e1).1 (all es ts hn e1)
    · cases h
end
end CV

set_option Elab.async false
set_option linter.all false
set_option maxRecDepth 100000
set_option maxHeartbeats 8000000
/-! CvGd: dicts that are walked, dict comprehensions, comprehensions of two fors. -/
namespace CV
open PySem PySem.Spec PyProof.Rows L2

section
variable {K : PySem.W.Frag} {Gd : Str → Addr → Prop} {H H' : Hp} {ι ι' : Loc} {S S' : Sto}
theorem wk_keys {kvs : List (Key × D)} {vs : List (Key × V)} {d : Addr} {od : Obj} (h : H d = some (.frz od (.dK vs))) (r : RKv K Gd H ι kvs vs) : WkOk K Gd H ι (.fix (keysD kvs)) (Itk d od vs) := by
  intro i H1 ι1 S1 R1 kp fz _
  have h1 := fz _ _ _ h
  have hlen := r.length
  refine ⟨fun x hx => ?_, fun hl => ⟨h1, ?_⟩⟩
  · have hx : (keysD kvs)[i]? = some x := hx
    unfold keysD at hx
    rw [List.getElem?_map] at hx
    cases e : kvs[i]? with
    | none => rw [e] at hx; cases hx
    | some kv =>
      rw [e] at hx
      cases hx
      have hi : i < vs.length := by rw [← hlen]; exact (List.getElem?_eq_some_iff.mp e).1
      refine ⟨⟨h1, hi⟩, fun v H2 ⟨e1, k, u, e2, e3⟩ => yl e1 R1 ?_⟩
      obtain ⟨d', e4, hg, _⟩ := r.get e2
      rw [e] at e4
      cases e4
      rw [e3]
      exact key_rdD hg
  · have hl : (keysD kvs).length ≤ i := hl
    simp [keysD] at hl
    omega
end

section
variable {X : Cx} {tb : Tb} {N : List Str} {Gd : Str → Addr → Prop} {g : Cst} {F : FT} {k : Nat}
theorem PE.or {e : Expr} {t t' : TE} (h : PE X e t) (h' : PE X e t') : PE X e (fun σ H Q => t σ H Q ∨ t' σ H Q) := ⟨fun pins s σ H Q I q => q.elim (h.run pins s σ H Q I) (h'.run pins s σ H Q I)⟩
theorem PS.or {e : Stmt} {t t' : TS} (h : PS X e t) (h' : PS X e t') : PS X e (fun D σ H => t D σ H ∨ t' D σ H) := ⟨fun pins s σ H D I q => q.elim (h.run pins s σ H D I) (h'.run pins s σ H D I)⟩
/-- a lock is taken off -/
theorem unl_ok {H0 Hi : Hp} {ι0 ιi : Loc} {S S3 : Sto} {n : Nat} {d : Addr} (Ri : Rel X.K Gd Hi ιi S) (e : unl n S = some S3) (hl : ιi[n]? = some (d, .dct)) (x : Ext H0 ι0 Hi ιi) (hH : ∀ od u, H0 d ≠ some (.frz od u)) :
    ∃ vs od, Hi d = some (.frz od (.dK vs)) ∧ Rel X.K Gd (upd Hi d (.dK vs)) ιi S3 ∧ Ext H0 ι0 (upd Hi d (.dK vs)) ιi ∧ Kp X.K Hi ιi (upd Hi d (.dK vs)) ιi := by
  unfold unl at e
  split at e <;> cases e
  rename_i kvs e0
  obtain ⟨b, h1, h2⟩ := Ri.ob n _ e0
  rw [hl] at h1
  cases h1
  obtain ⟨vs, ⟨od, h3⟩, h4⟩ := h2
  have ne : ∀ a u, Hi a = some u → (∀ od xs, u ≠ .frz od (.dK xs)) → a ≠ d := fun a u e n z => by
    subst z
    rw [h3] at e
    cases e
    exact n _ _ rfl
  have kp : Kp X.K Hi ιi (upd Hi d (.dK vs)) ιi := {
    tup := fun a xs h => by
      rcases h with (h | ⟨u, h⟩) | h
      · exact .inl (.inl (by rw [upd_ne (ne _ _ h (fun _ _ z => nomatch z))]; exact h))
      · exact .inl (.inr ⟨u, by rw [upd_ne (ne _ _ h (fun _ _ z => nomatch z))]; exact h⟩)
      · exact .inr h
    frz := fun a xs h => by
      rcases h with ⟨u, h⟩ | h
      · exact .inl ⟨u, by rw [upd_ne (ne _ _ h (fun _ _ z => nomatch z))]; exact h⟩
      · exact .inr h
    loc := fun _ _ h => h }
  refine ⟨vs, od, h3, ⟨by simp [Ri.len], Ri.nd, fun m u e => ?_⟩, ⟨x.pre, x.new, fun a o h n' => ?_, fun a h => ?_, fun a od' u h => ?_⟩, kp⟩
  · by_cases hm : m = n
    · subst hm
      have hl' : m < S.length := by
        have := (List.getElem?_eq_some_iff.mp e).1
        simpa using this
      rw [List.getElem?_set_self hl'] at e
      cases e
      exact ⟨d, hl, vs, upd_same, h4.keep kp⟩
    · rw [List.getElem?_set_ne (Ne.symm hm)] at e
      obtain ⟨a, h5, h6⟩ := Ri.ob m u e
      exact ⟨a, h5, h6.keep kp (upd_ne fun z => hm (Ri.ne_ix h5 hl z))⟩
  · have hi := x.frm a o h n'
    by_cases z : a = d
    · subst z
      rw [h3] at hi
      cases hi
      exact absurd h (hH _ _)
    · rw [upd_ne z]
      exact hi
  · by_cases z : a = d
    · subst z; rw [upd_same] at h; cases h
    · rw [upd_ne z] at h
      exact x.dom a h
  · by_cases z : a = d
    · subst z; exact absurd h (hH _ _)
    · rw [upd_ne z]
      exact x.fz a od' u h

/-- what is known of a dict that is locked to be walked -/
def tK (X : Cx) (Gd : Str → Addr → Prop) (g : Cst) (F : FT) (e : E) (R : Addr → Obj → List (Key × V) → Hp → Prop) (σ : L2.St) (H : Hp) : Prop :=
  ∃ ι S env n kvs S1, Rel X.K Gd H ι S ∧ REnv X.K Gd H ι σ env ∧ evE g F e env S = some (.loc .dct n, S1) ∧ S1[n]? = some (.dct kvs) ∧
    ∀ d od vs H2 ι2, Rel X.K Gd H2 ι2 (S1.set n (.lk kvs)) → ι2[n]? = some (d, .dct) → H2 d = some (.frz od (.dK vs)) → RKv X.K Gd H2 ι2 kvs vs → Ext H ι H2 ι2 → (∀ od u, H d ≠ some (.frz od u)) → R d od vs H2
theorem tk_lk {ie : E} {R : Addr → Obj → List (Key × V) → Hp → Prop} {σ : L2.St} {H : Hp} (h : tK X Gd g F ie R σ H) : CVDi.tLk X (tE X.K Gd g F ie) R σ H := by
  obtain ⟨ι, S, env, n, kvs, S1, Rl, en, e1, e2, q⟩ := h
  refine ⟨ι, S, env, _, Rl, en, e1, fun v H1 ι1 R1 r1 x1 => ?_⟩
  cases r1 with
  | loc hl =>
    rename_i d
    obtain ⟨vs, h1, h2⟩ := R1.dct_at e2 hl
    have hne : Nf H1 d := ⟨_, h1, fun _ _ z => nomatch z⟩
    refine ⟨d, vs, rfl, h1, fun _ od => ?_⟩
    have x2 : Ext H1 ι1 (upd H1 d (.frz od (.dK vs))) ι1 := Ext.write hl hne
    refine q d od vs _ ι1 (R1.write (ob := .lk kvs) hl hne ⟨vs, ⟨od, upd_same⟩, h2.keep (x2.keeps R1)⟩) hl upd_same (h2.keep (x2.keeps R1)) (x1.trans x2) fun od' u z => ?_
    have := x1.fz _ _ _ z
    rw [h1] at this
    cases this
theorem sk_keys {tg e : Expr} {ie : E} (he : PE X e (tE X.K Gd g F ie)) : PI X tg e (fun σ H R => tK X Gd g F ie (fun d od vs H2 => R (Itk d od vs) H2) σ H) := PI.imp (CVDi.pi_keysL he) fun σ H R q => tk_lk q
theorem sk_items {e : Expr} {ie : E} {apos cpos : Pos} {elts : List Expr} {kk : Nat} {tpos : Pos} (he : PE X e (tE X.K Gd g F ie)) (h0 : notCall0 e = true) (hl : (apos.endLine == cpos.line) = true) :
    PI X (.Tuple elts kk tpos) (.Call (.Attribute e "items" apos) [] [] cpos) (fun σ H R => tK X Gd g F ie (fun d od vs H2 => R (Iti d od vs) H2) σ H) := PI.imp (CVDi.pi_itemsL he (attr_base h0) hl) fun σ H R q => tk_lk q

/-! ### dict comprehensions -/
theorem dcLoop_ok {w : Wk} {ek ev : Env → Sto → Option (D × Sto)} {t : T} {env0 : Env} : ∀ {xs : List D} {acc : List (Key × D)} {S : Sto} {r : List (Key × D) × Sto}, dcLoop ek ev t env0 w xs acc S = some r → w.ok S = true
  | [], acc, S, r, h => by
    unfold dcLoop at h
    split at h <;> first | assumption | cases h
  | x :: xs, acc, S, r, h => by
    unfold dcLoop at h
    split at h <;> first | assumption | cases h
theorem dc_turns {kx vx : E} {t : T} {own : List Nat} (ht : ∀ i ∈ t.slots, i ∈ own) {w : Wk} {J : It} {H1 : Hp} {ι1 : Loc} {S1 S2 : Sto} {env : Env} {σ : L2.St} {kvs : List (Key × D)} {D : Addr} (R1 : Rel X.K Gd H1 ι1 S1) (en1 : REnv X.K Gd H1 ι1 (wipe σ own) (wipeD env own)) (wk : WkOk X.K Gd H1 ι1 w J) (hD : H1 D = none)
    (e2 : dcLoop (evE g F kx) (evE g F vx) t (wipeD env own) w w.items [] S1 = some (kvs, S2)) {Qd : Hp → Prop}
    (fin : ∀ Hi ιi vs, Rel X.K Gd Hi ιi S2 → Ext H1 ι1 Hi ιi → (∀ p ∈ ιi, p.1 ≠ D) → Hi D = some (.dK vs) → RKv X.K Gd Hi ιi kvs vs → Qd Hi) :
    ∃ W : Nat → Nat → Hp → Prop, (∃ m, W 0 m (upd H1 D (.dK []))) ∧ ∀ i m H, W i m H →
      (J.stop i H ∧ Qd H) ∨ (J.go i H ∧ ∃ Nx : Hp → Prop, (∀ H', Nx H' → ∃ m', m' < m ∧ W (i + 1) m' H') ∧ ∀ x H', J.yld i H x H' → gT X.K Gd t x (wipe σ own) H' fun σ2 H2 => wipe σ2 own = wipe σ own ∧ tYes σ2 H2 fun b H3 =>
        if b = true then tE X.K Gd g F kx σ2 H3 fun y H4 => tE X.K Gd g F vx σ2 H4 fun z H5 => ∃ kvs k, y = kV k ∧ H5 D = some (.dK kvs) ∧ kvs.length < sizeLine ∧ Nx (upd H5 D (.dK (putK kvs k z))) else Nx H3) := by
  refine ⟨fun i m Hi => m = w.items.length - i ∧ i ≤ w.items.length ∧ ∃ ιi Si acc vs, Rel X.K Gd Hi ιi Si ∧ Ext H1 ι1 Hi ιi ∧ (∀ p ∈ ιi, p.1 ≠ D) ∧ Hi D = some (.dK vs) ∧ RKv X.K Gd Hi ιi acc vs ∧
    dcLoop (evE g F kx) (evE g F vx) t (wipeD env own) w (w.items.drop i) acc Si = some (kvs, S2), ⟨w.items.length, by simp, Nat.zero_le _, ι1, S1, [], [], R1.fresh hD, (Ext.refl (H := H1) (ι := ι1)).loose hD, R1.none_ne hD, upd_same, .nil, by simpa using e2⟩, ?_⟩
  rintro i m Hi ⟨rfl, hi, ιi, Si, acc, vs, Ri, xi, hDi, hDl, racc, el⟩
  have kpi : Kp X.K H1 ι1 Hi ιi := xi.keeps R1
  have wki := wk i Hi ιi Si Ri kpi xi.fz (dcLoop_ok el)
  by_cases hlt : i < w.items.length
  · have hd : w.items.drop i = w.items[i] :: w.items.drop (i + 1) := List.drop_eq_getElem_cons hlt
    rw [hd] at el
    unfold dcLoop at el
    rw [if_pos (by split at el <;> first | assumption | cases el)] at el
    obtain ⟨hgo, hy⟩ := wki.1 w.items[i] (by simp [hlt])
    refine .inr ⟨hgo, fun H' => ∃ ι' S' acc' vs', Rel X.K Gd H' ι' S' ∧ Ext H1 ι1 H' ι' ∧ (∀ p ∈ ι', p.1 ≠ D) ∧ H' D = some (.dK vs') ∧ RKv X.K Gd H' ι' acc' vs' ∧
      dcLoop (evE g F kx) (evE g F vx) t (wipeD env own) w (w.items.drop (i + 1)) acc' S' = some (kvs, S2), fun H' ⟨ι', S', acc', vs', h1, h2, h3, h4, h5, h6⟩ => ⟨w.items.length - (i + 1), by omega, rfl, hlt, ι', S', acc', vs', h1, h2, h3, h4, h5, h6⟩, fun v H' y => ?_⟩
    obtain ⟨Ry, xy, rv⟩ := hy v H' y
    obtain ⟨hDi, hDl⟩ := xy.out hDi hDl
    have racc := racc.keep (xy.keeps Ri)
    have kpi := kpi.trans (xy.keeps Ri)
    have xi := xi.trans xy
    have Ri := Ry
    split at el <;> try cases el
    rename_i env2 ea
    refine ⟨ιi, Si, w.items[i], wipeD env own, env2, Ri, rv, en1.keep kpi, ea, fun σ2 en2 wp => ⟨?_, ?_⟩⟩
    · rw [wp own ht]
      exact wipe_idem σ own
    · split at el <;> try cases el
      rename_i kv Sb eb
      split at el <;> try cases el
      rename_i yv Sc ec
      split at el <;> try cases el
      rename_i ky ek
      split at el <;> try cases el
      rename_i hlen
      unfold tYes
      simp only [if_true]
      refine ⟨ιi, Si, env2, (kv, Sb), Ri, en2, eb, fun v1 Hb ιb Rb rb xb => ?_⟩
      refine ⟨ιb, Sb, env2, (yv, Sc), Rb, en2.keep (xb.keeps Ri), ec, fun v2 Hc ιc Rc rc xc => ?_⟩
      have xbc := xb.trans xc
      obtain ⟨o1, o2⟩ := xbc.out hDi hDl
      have racc' := racc.keep (xbc.keeps Ri)
      have hl : vs.length < sizeLine := by
        rw [← racc.length, ← cap_eq]
        exact hlen
      have hk := key_rd rb ek
      have hgk := key_good rb ek
      have l : Loose Hc ιc D := ⟨o1, .inr (.inr ⟨_, o2⟩)⟩
      refine ⟨vs, ky, hk, o2, hl, ιc, Sc, putD acc ky yv, putK vs ky v2, Rc.loose l, (xi.trans xbc).loose hD, o1, upd_same, ?_, el⟩
      exact (RKv.put hgk rc racc').keep l.keeps
  · have e : i = w.items.length := by omega
    subst e
    simp only [List.drop_length] at el
    unfold dcLoop at el
    split at el <;> cases el
    exact .inl ⟨wki.2 (Nat.le_refl _), fin Hi ιi vs Ri xi hDi hDl racc⟩
theorem dc_imp {kx vx it : E} {t : T} {own : List Nat} (ht : ∀ i ∈ t.slots, i ∈ own) : ∀ σ H Q, tE X.K Gd g F (.dcl kx vx t it own) σ H Q →
    tDc (tW X.K Gd g F it) (gT X.K Gd t) tYes (tE X.K Gd g F kx) (tE X.K Gd g F vx) own σ H Q ∨
    tDc (fun σ H R => tK X Gd g F it (fun d od vs H2 => R (Itk d od vs) H2) σ H) (gT X.K Gd t) tYes (tE X.K Gd g F kx) (tE X.K Gd g F vx) own σ H (fun v H1 => ∃ H2, CVDi.Unl H H1 H2 ∧ Q v H2) := by
  intro σ H Q ⟨ι, S, env, r, R, en, ev, q⟩
  unfold evE at ev
  split at ev
  · rename_i w S1 e1
    split at ev <;> cases ev
    rename_i kvs S2 e2
    refine .inl ⟨ι, S, env, w, S1, R, en, e1, fun J H1 ι1 R1 wk x1 D hD => dc_turns ht R1 ((en.keep (x1.keeps R)).wipe own) wk hD e2 fun Hi ιi vs Ri xi hDi hDl racc => ?_⟩
    have hn : H D = none := x1.dom D hD
    have q' : Post X.K Gd H ι (.loc .dct S2.length, S2 ++ [.dct kvs]) Q := q.gc R
    exact q' _ Hi (ιi ++ [(D, .dct)]) (Ri.claim (ob := .dct kvs) hDi ⟨vs, hDl, racc⟩) (.loc (by rw [← Ri.len]; simp)) ((x1.trans xi).claim hn)
  · split at ev <;> try cases ev
    rename_i n S1 e1
    split at ev <;> try cases ev
    rename_i kvs e2
    split at ev <;> try cases ev
    rename_i kvs2 S2 e3
    split at ev <;> cases ev
    rename_i S3 e4
    refine .inr ⟨ι, S, env, n, kvs, S1, R, en, e1, e2, fun d od vs H2 ι2 R2 hl hd rk x2 hH D hD => dc_turns (w := .fix (keysD kvs)) ht R2 ((en.keep (x2.keeps R)).wipe own) (wk_keys hd rk) hD e3 fun Hi ιi us Ri xi hDi hDl racc => ?_⟩
    have hn : H D = none := x2.dom D hD
    have hli := (xi.keeps R2).loc _ _ hl
    have xx := x2.trans xi
    obtain ⟨ws, od', g1, g2, g3, g4⟩ := unl_ok Ri e4 hli xx hH
    have hne : D ≠ d := fun z => hDi _ (List.mem_of_getElem? hli) z.symm
    refine ⟨_, .step g1 hH .refl, ?_⟩
    have q' : Post X.K Gd H ι (.loc .dct S3.length, S3 ++ [.dct kvs2]) Q := q.gc R
    exact q' _ _ (ιi ++ [(D, .dct)]) (g2.claim (ob := .dct kvs2) hDi ⟨us, by rw [upd_ne hne]; exact hDl, racc.keep g4⟩) (.loc (by rw [← g2.len]; simp)) (g3.claim hn)

/-! ### comprehensions of two fors -/
theorem l2Loop_ok {w : Wk} {elt e1 : Env → Sto → Option (D × Sto)} {t t1 : T} {env0 : Env} : ∀ {xs acc : List D} {ls : List Nat} {S : Sto} {r : List D × List Nat × Sto}, l2Loop elt e1 t t1 env0 w xs acc ls S = some r → w.ok S = true
  | [], acc, ls, S, r, h => by
    unfold l2Loop at h
    split at h <;> first | assumption | cases h
  | x :: xs, acc, ls, S, r, h => by
    unfold l2Loop at h
    split at h <;> first | assumption | cases h
/-- all locks of a list taken off -/
theorem unlAll_ok {H0 : Hp} {ι0 : Loc} : ∀ {ls : List Nat} {Hi : Hp} {ιi : Loc} {S S3 : Sto} {D : Addr} {vs : List V} {acc : List CV.D}, Rel X.K Gd Hi ιi S → unlAll ls S = some S3 → (∀ n ∈ ls, ∃ d, ιi[n]? = some (d, .dct) ∧ ∀ od u, H0 d ≠ some (.frz od u)) → Ext H0 ι0 Hi ιi →
    (∀ p ∈ ιi, p.1 ≠ D) → Hi D = some (.lst vs) → RDs X.K Gd Hi ιi acc vs → ∃ H3, CVDi.Unl H0 Hi H3 ∧ Rel X.K Gd H3 ιi S3 ∧ Ext H0 ι0 H3 ιi ∧ H3 D = some (.lst vs) ∧ RDs X.K Gd H3 ιi acc vs
  | [], Hi, ιi, S, S3, D, vs, acc, R, e, _, x, hD, hl, ra => by
    simp only [unlAll, Option.some.injEq] at e
    subst e
    exact ⟨Hi, .refl, R, x, hl, ra⟩
  | n :: ls, Hi, ιi, S, S3, D, vs, acc, R, e, hls, x, hD, hl, ra => by
    simp only [unlAll] at e
    split at e <;> try cases e
    rename_i S1 e1
    obtain ⟨d, hd, hH⟩ := hls n List.mem_cons_self
    obtain ⟨ws, od', g1, g2, g3, g4⟩ := unl_ok R e1 hd x hH
    have hne : D ≠ d := fun z => hD _ (List.mem_of_getElem? hd) z.symm
    obtain ⟨H3, u, a1, a2, a3, a4⟩ := unlAll_ok g2 e (fun m hm => hls m (List.mem_cons_of_mem _ hm)) g3 hD (by rw [upd_ne hne]; exact hl) (ra.keep g4)
    exact ⟨H3, .step g1 hH u, a1, a2, a3, a4⟩
theorem l2_imp {elt it e1 : E} {t t1 : T} {own : List Nat} (ht : ∀ i ∈ t.slots, i ∈ own) : ∀ σ H Q, tE X.K Gd g F (.lc2 elt t it t1 e1 own) σ H Q →
    tLc2 (tW X.K Gd g F it) (gT X.K Gd t) tYes (fun σ H R => tK X Gd g F e1 (fun d od vs H2 => R (Itk d od vs) H2) σ H) (gT X.K Gd t1) tYes (tE X.K Gd g F elt) own t1.slots σ H (fun v H1 => ∃ H2, CVDi.Unl H H1 H2 ∧ Q v H2) := by
  intro σ H Q ⟨ι, S, env, r, R, en, ev, q⟩
  unfold evE at ev
  split at ev <;> try cases ev
  rename_i w S1 e0
  split at ev <;> try cases ev
  rename_i ds lsF S2 e2
  split at ev <;> cases ev
  rename_i S3 e3
  refine ⟨ι, S, env, w, S1, R, en, e0, fun J H1 ι1 R1 wk x1 => ?_⟩
  have en1 := (en.keep (x1.keeps R)).wipe own
  intro D hD
  have hnD : H D = none := x1.dom D hD
  refine ⟨fun i m Hi => m = w.items.length - i ∧ i ≤ w.items.length ∧ ∃ ιi Si acc ls vs, Rel X.K Gd Hi ιi Si ∧ Ext H1 ι1 Hi ιi ∧ (∀ p ∈ ιi, p.1 ≠ D) ∧ Hi D = some (.lst vs) ∧ RDs X.K Gd Hi ιi acc vs ∧ (∀ n ∈ ls, ∃ d, ιi[n]? = some (d, .dct) ∧ ∀ od u, H d ≠ some (.frz od u)) ∧
    l2Loop (evE g F elt) (evE g F e1) t t1 (wipeD env own) w (w.items.drop i) acc ls Si = some (ds, lsF, S2), ⟨w.items.length, by simp, Nat.zero_le _, ι1, S1, [], [], [], R1.fresh hD, (Ext.refl (H := H1) (ι := ι1)).loose hD, R1.none_ne hD, upd_same, .nil, fun n hn => by simp at hn, by simpa using e2⟩, ?_⟩
  rintro i m Hi ⟨rfl, hi, ιi, Si, acc, ls, vs, Ri, xi, hDi, hDl, racc, hls, el⟩
  have kpi : Kp X.K H1 ι1 Hi ιi := xi.keeps R1
  have wki := wk i Hi ιi Si Ri kpi xi.fz (l2Loop_ok el)
  by_cases hlt : i < w.items.length
  · have hd : w.items.drop i = w.items[i] :: w.items.drop (i + 1) := List.drop_eq_getElem_cons hlt
    rw [hd] at el
    unfold l2Loop at el
    rw [if_pos (by split at el <;> first | assumption | cases el)] at el
    obtain ⟨hgo, hy⟩ := wki.1 w.items[i] (by simp [hlt])
    refine .inr ⟨hgo, fun H' => ∃ ι' S' acc' ls' vs', Rel X.K Gd H' ι' S' ∧ Ext H1 ι1 H' ι' ∧ (∀ p ∈ ι', p.1 ≠ D) ∧ H' D = some (.lst vs') ∧ RDs X.K Gd H' ι' acc' vs' ∧ (∀ n ∈ ls', ∃ d, ι'[n]? = some (d, .dct) ∧ ∀ od u, H d ≠ some (.frz od u)) ∧
      l2Loop (evE g F elt) (evE g F e1) t t1 (wipeD env own) w (w.items.drop (i + 1)) acc' ls' S' = some (ds, lsF, S2), fun H' ⟨ι', S', acc', ls', vs', h1, h2, h3, h4, h5, h6, h7⟩ => ⟨w.items.length - (i + 1), by omega, rfl, hlt, ι', S', acc', ls', vs', h1, h2, h3, h4, h5, h6, h7⟩, fun v H' y => ?_⟩
    obtain ⟨Ry, xy, rv⟩ := hy v H' y
    obtain ⟨hDi, hDl⟩ := xy.out hDi hDl
    have racc := racc.keep (xy.keeps Ri)
    have kpi := kpi.trans (xy.keeps Ri)
    have xi := xi.trans xy
    have Ri := Ry
    split at el <;> try cases el
    rename_i env2 ea
    refine ⟨ιi, Si, w.items[i], wipeD env own, env2, Ri, rv, en1.keep kpi, ea, fun σ2 en2 wp => ⟨?_, ?_⟩⟩
    · rw [wp own ht]
      exact wipe_idem σ own
    · unfold tYes
      simp only [if_true]
      split at el <;> try cases el
      rename_i n Sb eb
      split at el <;> try cases el
      rename_i kvs ek
      split at el <;> try cases el
      rename_i acc1 Sc ec
      -- the inner walk
      refine ⟨ιi, Si, env2, n, kvs, Sb, Ri, en2, eb, ek, fun d od us H2 ι2 R2 hl2 hd2 rk x2 hH2 => ?_⟩
      obtain ⟨o1, o2⟩ := x2.out hDi hDl
      have en3 := (en2.keep (x2.keeps Ri)).wipe t1.slots
      have hHd : ∀ od u, H d ≠ some (.frz od u) := fun od u z => hH2 od u ((x1.trans xi).fz _ _ _ z)
      have wk2 := wk_keys hd2 rk
      refine ⟨fun j m Hj => m = (keysD kvs).length - j ∧ j ≤ (keysD kvs).length ∧ ∃ ιj Sj accj vsj, Rel X.K Gd Hj ιj Sj ∧ (Ext H1 ι1 Hj ιj ∧ Kp X.K H2 ι2 Hj ιj ∧ Fz H2 Hj) ∧ (∀ p ∈ ιj, p.1 ≠ D) ∧ Hj D = some (.lst vsj) ∧ RDs X.K Gd Hj ιj accj vsj ∧
        lcLoop (evE g F elt) (fun _ S => some (true, S)) t1 (wipeD env2 t1.slots) (.fix (keysD kvs)) ((keysD kvs).drop j) accj Sj = some (acc1, Sc), ⟨(keysD kvs).length, by simp, Nat.zero_le _, ι2, _, acc, vs, R2, ⟨xi.trans x2, ⟨fun _ _ h => h, fun _ _ h => h, fun _ _ h => h⟩, fun _ _ _ h => h⟩, o1, o2, racc.keep (x2.keeps Ri), by simpa using ec⟩, ?_⟩
      rintro j m Hj ⟨rfl, hj, ιj, Sj, accj, vsj, Rj, ⟨xj, kpj, fzj⟩, hDj, hDlj, raccj, elj⟩
      have wkj := wk2 j Hj ιj Sj Rj kpj fzj (lcLoop_ok elj)
      by_cases hltj : j < (keysD kvs).length
      · have hdj : (keysD kvs).drop j = (keysD kvs)[j] :: (keysD kvs).drop (j + 1) := List.drop_eq_getElem_cons hltj
        rw [hdj] at elj
        unfold lcLoop at elj
        rw [if_pos (by split at elj <;> first | assumption | cases elj)] at elj
        obtain ⟨hgoj, hyj⟩ := wkj.1 (keysD kvs)[j] (show (keysD kvs)[j]? = _ by simp [hltj])
        refine .inr ⟨hgoj, fun H' => ∃ ι' S' acc' vs', Rel X.K Gd H' ι' S' ∧ (Ext H1 ι1 H' ι' ∧ Kp X.K H2 ι2 H' ι' ∧ Fz H2 H') ∧ (∀ p ∈ ι', p.1 ≠ D) ∧ H' D = some (.lst vs') ∧ RDs X.K Gd H' ι' acc' vs' ∧
          lcLoop (evE g F elt) (fun _ S => some (true, S)) t1 (wipeD env2 t1.slots) (.fix (keysD kvs)) ((keysD kvs).drop (j + 1)) acc' S' = some (acc1, Sc), fun H' ⟨ι', S', acc', vs', h1, h2, h3, h4, h5, h6⟩ => ⟨(keysD kvs).length - (j + 1), by omega, rfl, hltj, ι', S', acc', vs', h1, h2, h3, h4, h5, h6⟩, fun v H' y => ?_⟩
        obtain ⟨Ry, xy, rv⟩ := hyj v H' y
        obtain ⟨hDj, hDlj⟩ := xy.out hDj hDlj
        have raccj := raccj.keep (xy.keeps Rj)
        have kpj := kpj.trans (xy.keeps Rj)
        have xj := xj.trans xy
        have fzj : Fz H2 H' := fun a od u h => xy.fz _ _ _ (fzj a od u h)
        have Rj := Ry
        split at elj <;> try cases elj
        rename_i env4 eaj
        refine ⟨ιj, Sj, (keysD kvs)[j], wipeD env2 t1.slots, env4, Rj, rv, en3.keep kpj, eaj, fun σ4 en4 wp4 => ⟨?_, ?_⟩⟩
        · rw [wp4 t1.slots fun i hi => hi]
          exact wipe_idem σ2 t1.slots
        · simp only [if_true]
          simp only at elj
          split at elj <;> try cases elj
          rename_i yv Sd ed
          split at elj <;> try cases elj
          rename_i hlen
          refine ⟨ιj, Sj, env4, (yv, Sd), Rj, en4, ed, fun v2 Hc ιc Rc rc xc => ?_⟩
          obtain ⟨p1, p2⟩ := xc.out hDj hDlj
          have racc' := raccj.keep (xc.keeps Rj)
          have hl : vsj.length < sizeLine := by
            rw [← raccj.length, ← cap_eq]
            exact hlen
          have l : Loose Hc ιc D := ⟨p1, .inr (.inl ⟨_, p2⟩)⟩
          refine ⟨vsj, p2, hl, ιc, Sd, accj ++ [yv], vsj ++ [v2], Rc.loose l, ⟨(xj.trans xc).loose hD, kpj.trans ((xc.keeps Rj).trans l.keeps), fun a od u h => ?_⟩, p1, upd_same, (racc'.append (.cons rc .nil)).keep l.keeps, elj⟩
          have h9 := xc.fz _ _ _ (fzj a od u h)
          rw [upd_ne fun z => by
            rw [z, p2] at h9
            cases h9]
          exact h9
      · have e : j = (keysD kvs).length := by omega
        subst e
        simp only [List.drop_length] at elj
        unfold lcLoop at elj
        split at elj <;> cases elj
        refine .inl ⟨wkj.2 (Nat.le_refl _), ιj, _, _, n :: ls, vsj, Rj, xj, hDj, hDlj, raccj, fun n' hn' => ?_, el⟩
        rcases List.mem_cons.mp hn' with rfl | hn'
        · exact ⟨d, kpj.loc _ _ hl2, hHd⟩
        · obtain ⟨d', h1, h2⟩ := hls n' hn'
          exact ⟨d', kpj.loc _ _ ((x2.keeps Ri).loc _ _ h1), h2⟩
  · have e : i = w.items.length := by omega
    subst e
    simp only [List.drop_length] at el
    unfold l2Loop at el
    split at el <;> cases el
    refine .inl ⟨wki.2 (Nat.le_refl _), ?_⟩
    have xx : Ext H ι Hi ιi := x1.trans xi
    obtain ⟨H3, u, a1, a2, a3, a4⟩ := unlAll_ok Ri e3 hls xx hDi hDl racc
    refine ⟨H3, u, ?_⟩
    have q' : Post X.K Gd H ι (.loc .lst S3.length, S3 ++ [.lst ds]) Q := q.gc R
    exact q' _ H3 (ιi ++ [(D, .lst)]) (a1.claim (ob := .lst ds) hDi ⟨vs, a3, a4⟩) (.loc (by rw [← a1.len]; simp)) (a2.claim hnD)
/-! ### {k: v} -/
theorem se_dc1 {a b : Expr} {ik iv : E} {pos : Pos} (hk : PE X a (tE X.K Gd g F ik)) (hv : PE X b (tE X.K Gd g F iv)) : PE X (.Dict [some a] [b] pos) (tE X.K Gd g F (.dc1 ik iv)) := by
  refine PE.imp (pe_disp (pps_cons hk hv pps_nil) rfl rfl (by simp) (by simp)) fun σ H Q q => ?_
  obtain ⟨ι, S, env, r, R, en, ev, q⟩ := q
  simp only [evE] at ev
  split at ev <;> try cases ev
  rename_i x S1 e1
  split at ev <;> try cases ev
  rename_i y S2 e2
  split at ev <;> cases ev
  rename_i ky e3
  intro p hp
  have R0 : Rel X.K Gd (upd H p (.dK [])) ι S := R.fresh hp
  have k0 := (Ext.fresh (ι := ι) (o := .dK []) hp).keeps R
  refine (show tE X.K Gd g F ik σ (upd H p (.dK [])) _ from ⟨ι, S, env, (x, S1), R0, en.keep k0, e1, fun v1 H1 ι1 R1 r1 x1 => ?_⟩)
  refine (show tE X.K Gd g F iv σ H1 _ from ⟨ι1, S1, env, (y, S2), R1, (en.keep k0).keep (x1.keeps R0), e2, fun v2 H2 ι2 R2 r2 x2 => ?_⟩)
  have hkv := key_rd r1 e3
  have hkg := key_good r1 e3
  subst hkv
  have x12 := x1.trans x2
  obtain ⟨o1, o2⟩ := x12.out (R.none_ne hp) upd_same
  refine ⟨o2, [(ky, v2)], rfl, by simp, ?_⟩
  have l : Loose H2 ι2 p := ⟨o1, .inr (.inr ⟨_, o2⟩)⟩
  have R3 := R2.loose (o := .dK (mergeK [] [(ky, v2)])) l
  have x3 : Ext H ι (upd H2 p (.dK (mergeK [] [(ky, v2)]))) ι2 := ((Ext.fresh hp).trans x12).loose hp
  have m : RKv X.K Gd H2 ι2 [(ky, y)] (mergeK [] [(ky, v2)]) := .cons hkg r2 .nil
  exact q _ _ (ι2 ++ [(p, .dct)]) (R3.claim (ob := .dct [(ky, y)]) o1 ⟨_, upd_same, m.keep l.keeps⟩) (.loc (by rw [← R2.len]; simp)) (x3.claim hp)
/-! ### list(d.items()) -/
theorem items_rd {K : PySem.W.Frag} {H H' : Hp} {ι : Loc} : ∀ {ts : List Addr} {vs : List (Key × V)} {kvs : List (Key × CV.D)}, Paired (fun (t : Addr) (q : Key × V) => H' t = some (.tup [kV q.1, q.2])) ts vs → RKv K Gd H ι kvs vs → (∀ d v, RD K Gd H ι d v → RD K Gd H' ι d v) → RDs K Gd H' ι (itemsD kvs) (ts.map V.ref)
  | _, _, _, .nil, .nil, _ => .nil
  | _, _, _, .cons h t, .cons g r rt, k => .cons (.tup (.of h) (.cons (key_rdD g) (.cons (k _ _ r) .nil))) (items_rd t rt k)
theorem litD {d : CV.D} {S : Sto} {r : CV.D × Sto} (h : biD .litems [d] S = some r) : ∃ n kvs, d = .loc .dct n ∧ S[n]? = some (.dct kvs) ∧ kvs.length ≤ cap ∧ r = (.loc .lst S.length, S ++ [.lst (itemsD kvs)]) := by
  cases d with
  | loc kd n =>
    cases kd with
    | lst => simp [biD] at h
    | dct =>
      simp only [biD] at h
      split at h <;> try cases h
      rename_i kvs e
      split at h <;> cases h
      rename_i hl
      exact ⟨n, kvs, rfl, e, hl, rfl⟩
  | _ => simp [biD] at h
theorem se_litems {e : Expr} {ie : E} {p apos cpos pos : Pos} {f : Str} {sc : Scope} (O : Ok X tb N Gd g F k) (hs : X.env.scope = sc) (hf : f = "list") (hg : glob sc f = true) (h0 : notCall0 e = true) (hl : (apos.endLine == cpos.line) = true) (he : PE X e (tE X.K Gd g F ie)) :
    PE X (.Call (.Name f p) [.Call (.Attribute e "items" apos) [] [] cpos] [] pos) (tE X.K Gd g F (.bi .litems [ie])) := by
  subst hf
  refine PE.imp (LiI.pe_listItems O.calm he (glob_gl hs hg) (O.blt _ (by simp [bltNames])) (by decide +kernel) (attr_base h0) hl (star_cons rfl)) fun σ H Q q => ?_
  obtain ⟨ι, S, env, r, R, en, ev, q⟩ := q
  simp only [evE, evEs] at ev
  cases e2 : evE g F ie env S with
  | none => rw [e2] at ev; simp at ev
  | some r0 =>
  obtain ⟨d, S1⟩ := r0
  rw [e2] at ev
  simp only [Option.map_eq_some_iff] at ev
  obtain ⟨r', e3, rfl⟩ := ev
  refine ⟨ι, S, env, (d, S1), R, en, e2, fun v H1 ι1 R1 r1 x1 => ?_⟩
  obtain ⟨n, kvs, rfl, e4, hle, rfl⟩ := litD e3
  cases r1 with
  | loc hl' =>
  rename_i ad
  obtain ⟨vs, h1, h2⟩ := R1.dct_at e4 hl'
  refine ⟨ad, vs, rfl, h1, fun H' p' ts hext hp hts hpn hH' hpr => ?_⟩
  have same : ∀ q ∈ ι1, H' q.1 = H1 q.1 := fun q hq => by
    rcases R1.mut hq with ⟨xs, h⟩ | ⟨xs, h⟩ | ⟨od, xs, h⟩ <;> rw [hext _ _ h, h]
  have dom : ∀ a, H' a = none → H1 a = none := fun a h => by
    cases e : H1 a with
    | none => rfl
    | some o =>
      rw [hext _ _ e] at h
      cases h
  have x2 : Ext H1 ι1 H' ι1 := ⟨⟨[], by simp⟩, fun q hq => .inl hq, fun a o h _ => hext _ _ h, dom, fun a od u h => hext _ _ h⟩
  have R2 := R1.keepX x2 same
  have rit := items_rd (Gd := Gd) hpr h2 fun d v r => r.keep (x2.keeps R1)
  have q' : Post X.K Gd H ι (.loc .lst S1.length, S1 ++ [.lst (itemsD kvs)]) Q := q.gc R
  have hpn1 : ∀ q ∈ ι1, q.1 ≠ p' := R1.none_ne hp
  exact q' _ H' (ι1 ++ [(p', .lst)]) (R2.claim (ob := .lst (itemsD kvs)) hpn1 ⟨_, hH', rit⟩) (.loc (by rw [← R1.len]; simp)) ((x1.trans x2).claim (x1.dom p' hp))
end
end CV

set_option Elab.async false
set_option linter.all false
set_option maxRecDepth 100000
set_option maxHeartbeats 8000000
/-! CvJ: cE is sound. -/
namespace CV
open PySem PySem.Spec PyProof.Rows L2

section
variable {tb : Tb} {N : List Str} {Gd : Str → Addr → Prop} {g : Cst} {F : FT} {k : Nat}

def E.isRng : E → Bool
  | .rng _ => true
  | _ => false
def E.isTst : E → Bool
  | .and_ _ _ => true
  | .or_ _ _ => true
  | .not_ _ => true
  | .ife _ _ _ => true
  | _ => false
theorem evW_pl {ir : E} (h : ir.isRng = false) (env : Env) (S : Sto) : evW g F ir env S = match evE g F ir env S with
      | some (d, S1) => match wkOf S1 d with
        | some w => some (w, S1)
        | none => none
      | none => none := by
  cases ir <;> first | (exact absurd (show true = false from h) (by decide)) | (unfold evW; rfl) | (rw [evW]; intro es z; cases z) | (simp [evW]; done)
theorem evT_pl {ir : E} (h : ir.isTst = false) (env : Env) (S : Sto) : evT g F ir env S = match evE g F ir env S with
      | some (d, S1) => match truth S1 d with
        | some k => some (k, S1)
        | none => none
      | none => none := by
  cases ir <;> first | (exact absurd (show true = false from h) (by decide)) | (unfold evT; rfl) | (simp [evT]; done)
theorem se_rng {X : Cx} {e : Expr} {es : List E} : PE X e (tE X.K Gd g F (.rng es)) := ⟨fun pins s σ H Q I q => by
  obtain ⟨ι, S, env, r, R, en, ev, q⟩ := q
  simp [evE] at ev⟩
theorem st_rng {X : Cx} {e : Expr} {es : List E} : PT X e (tT X.K Gd g F (.rng es)) := ⟨fun pins s σ H Q I q => by
  obtain ⟨ι, S, env, b, S', R, en, ev, q⟩ := q
  simp [evT, evE] at ev⟩
theorem sw_never {X : Cx} {tg e : Expr} {es : List E} (h : es.length ≠ 1 ∧ es.length ≠ 2) : PI X tg e (tW X.K Gd g F (.rng es)) := ⟨fun pins s σ H R I q => by
  obtain ⟨ι, S, env, w, S', Rl, en, ev, q⟩ := q
  have evs_len : ∀ (ies : List E) (env : Env) (S : Sto) (ds : List D) (S1 : Sto), evEs g F ies env S = some (ds, S1) → ds.length = ies.length := fun ies => by
    induction ies with
    | nil => intro env S ds S1 h; simp only [evEs, Option.some.injEq, Prod.mk.injEq] at h; rw [← h.1]; rfl
    | cons e es ih =>
      intro env S ds S1 h
      simp only [evEs] at h
      split at h <;> try cases h
      split at h <;> cases h
      rename_i e2
      simp [ih _ _ _ _ e2]
  unfold evW at ev
  split at ev
  · rename_i e1
    have := evs_len _ _ _ _ _ e1
    exact absurd this.symm h.1
  · rename_i e1
    have := evs_len _ _ _ _ _ e1
    exact absurd this.symm h.2
  · cases ev⟩

theorem soundE : ∀ (n : Nat) {X : Cx} {sc : Scope} {e : Expr} {ir : E}, Ok X tb N Gd g F k → X.env.scope = sc → cE tb N n sc e = some ir → Sound X Gd g F e ir
  | 0, _, _, _, _, _, _, h => by simp [cE] at h
  | n + 1, X, sc, e, ir, O, hs, h => by
    have ih : ∀ {e : Expr} {ir : E}, cE tb N n sc e = some ir → Sound X Gd g F e ir := fun h => soundE n O hs h
    have ihs : ∀ {es : List Expr} {ies : List E}, es.all notStar = true → allO (es.map (cE tb N n sc)) = some ies → PA X es (tA X.K Gd g F ies) := fun hn h => soundEs (fun e _ ie he => (ih he).val) hn h
    unfold cE at h
    split at h
    · -- int
      cases h
      exact .plain (se_cst pe_int fun _ _ => .int _) (fun _ => rfl) (evT_pl rfl) (evW_pl rfl)
    · -- str
      split at h <;> cases h
      rename_i hg
      exact .plain (se_cst pe_str fun _ _ => .str hg) (fun _ => rfl) (evT_pl rfl) (evW_pl rfl)
    · cases h
      exact .plain (se_cst pe_bl fun _ _ => .bl _) (fun _ => rfl) (evT_pl rfl) (evW_pl rfl)
    · cases h
      exact .plain (se_cst pe_non fun _ _ => .non) (fun _ => rfl) (evT_pl rfl) (evW_pl rfl)
    · -- Name
      rename_i x p
      split at h <;> try cases h
      rename_i hp
      have hp : plainN x = true := by simpa using hp
      obtain ⟨p1, p2, p3⟩ := plainN_ok hp
      split at h
      · rename_i hv
        simp only [Option.map_eq_some_iff] at h
        obtain ⟨i, e1, rfl⟩ := h
        exact .plain (se_var O hs hv hp e1) (fun _ => rfl) (evT_pl rfl) (evW_pl rfl)
      · split at h <;> try cases h
        rename_i hg
        split at h
        · rename_i d e1
          cases h
          obtain ⟨u, v, hm, rv, rd⟩ := O.cst x d e1
          exact .plain (se_cst (pe_glob (glob_gl hs hg) hm rv p1) rd) (fun _ => rfl) (evT_pl rfl) (evW_pl rfl)
        · split at h <;> cases h
          rename_i hx
          obtain ⟨a, hm, ga⟩ := O.gds x hx
          exact .plain (se_cst (v := .ref a) (pe_glob (glob_gl hs hg) hm rfl p1) fun _ _ => .gd ga) (fun _ => rfl) (evT_pl rfl) (evW_pl rfl)
    · -- Tuple
      split at h <;> try cases h
      rename_i hn
      simp only [Option.map_eq_some_iff] at h
      obtain ⟨ies, e1, rfl⟩ := h
      exact .plain (se_tup (ihs hn e1)) (fun _ => rfl) (evT_pl rfl) (evW_pl rfl)
    · split at h <;> try cases h
      rename_i hn
      simp only [Option.map_eq_some_iff] at h
      obtain ⟨ies, e1, rfl⟩ := h
      exact .plain (se_lst (ihs hn e1)) (fun _ => rfl) (evT_pl rfl) (evW_pl rfl)
    · -- Dict
      split at h
      · rename_i ks' vs' e1 e2
        split at h <;> cases h
        rename_i hl
        obtain ⟨q1, q2, q3, q4, q5⟩ := sd_pps (X := X) (Gd := Gd) (g := g) (F := F) (fun e _ ie he => (ih he).val) e1 e2 hl
        exact .plain (se_dct (trs := []) q1 q2 q3 q4 q5 hl) (fun _ => rfl) (evT_pl rfl) (evW_pl rfl)
      · split at h <;> try cases h
        split at h <;> cases h
        rename_i e1 e2
        exact .plain (se_dc1 (ih e1).val (ih e2).val) (fun _ => rfl) (evT_pl rfl) (evW_pl rfl)
    · -- BinOp
      split at h <;> cases h
      rename_i e1 e2 e3
      exact .plain (se_bin e1 (ih e2).val (ih e3).val) (fun _ => rfl) (evT_pl rfl) (evW_pl rfl)
    · simp only [Option.map_eq_some_iff] at h
      obtain ⟨ia, e1, rfl⟩ := h
      exact .plain (se_neg (ih e1).val) (fun _ => rfl) (evT_pl rfl) (evW_pl rfl)
    · simp only [Option.map_eq_some_iff] at h
      obtain ⟨ia, e1, rfl⟩ := h
      exact .test (se_not (ih e1).val) (st_not (ih e1).tst) (evW_pl rfl)
    · -- BoolOp of one
      rename_i op a pos
      have s := ih h
      refine ⟨pe_one s.val, ?_, fun tg => ⟨fun pins s' σ H R I q => ?_⟩⟩
      · cases op with
        | And => exact (pw_and1 s.tst).pt
        | Or => exact (pw_or1 s.tst).pt
      · have := (s.wlk tg).run pins s' σ H R I q
        exact BoolOp_one this
    · -- and
      split at h <;> cases h
      rename_i e1 e2
      exact .test (se_and (ih e1).val (ih e2).val) (st_and (ih e1).tst (ih e2).tst) (evW_pl rfl)
    · split at h <;> cases h
      rename_i e1 e2
      exact .test (se_or (ih e1).val (ih e2).val) (st_or (ih e1).tst (ih e2).tst) (evW_pl rfl)
    · split at h <;> cases h
      rename_i e1 e2 e3
      exact .test (se_ife (ih e1).tst (ih e2).val (ih e3).val) (st_ife (ih e1).tst (ih e2).tst (ih e3).tst) (evW_pl rfl)
    · -- is
      split at h <;> cases h
      rename_i e1 e2
      obtain ⟨q1, q2⟩ := se_is (neg := false) O (ih e1).val (ih e2).val
      exact .test q1 q2 (evW_pl rfl)
    · split at h <;> cases h
      rename_i e1 e2
      obtain ⟨q1, q2⟩ := se_is (neg := true) O (ih e1).val (ih e2).val
      exact .test q1 q2 (evW_pl rfl)
    · -- Compare
      split at h <;> try cases h
      rename_i hm
      split at h <;> cases h
      rename_i e1 e2 e3
      obtain ⟨q1, q2⟩ := se_cmp O e1 (by simpa using hm) (ih e2).val (ih e3).val
      exact .test q1 q2 (evW_pl rfl)
    · split at h <;> try cases h
      rename_i hm
      split at h <;> cases h
      rename_i e1 e2 e3 e4 e5
      obtain ⟨q1, q2⟩ := se_chain O e1 e2 (by simpa using hm) (ih e3).val (ih e4).val (ih e5).val
      exact .test q1 q2 (evW_pl rfl)
    · -- list(d.items())
      split at h <;> try cases h
      rename_i hc
      simp only [Bool.and_eq_true, decide_eq_true_eq] at hc
      simp only [Option.map_eq_some_iff] at h
      obtain ⟨ia, e1, rfl⟩ := h
      obtain ⟨⟨⟨⟨⟨⟨hf, hm⟩, hp⟩, hg⟩, hnf⟩, h0⟩, hl⟩ := hc
      subst hm
      exact .plain (se_litems O hs hf hg h0 hl (ih e1).val) (fun _ => rfl) (evT_pl rfl) (evW_pl rfl)
    · -- f(..)
      rename_i f p args pos hover
      split at h <;> try cases h
      rename_i hc
      have hc : plainN f = true ∧ glob sc f = true ∧ args.all notStar = true := by
        simp only [Bool.not_eq_true, Bool.not_eq_false', Bool.and_eq_true, Bool.not_not] at hc
        simpa [and_assoc] using hc
      obtain ⟨hp, hg, hn⟩ := hc
      split at h
      · rename_i hf
        simp only [Option.map_eq_some_iff] at h
        obtain ⟨ies, e1, rfl⟩ := h
        cases args with
        | nil =>
          have := allO_nil e1
          subst this
          exact .plain (se_call0 O hs hg hp hf) (fun _ => rfl) (evT_pl rfl) (evW_pl rfl)
        | cons a as => exact .plain (se_call O hs hg hp hf hn (ihs hn e1)) (fun _ => rfl) (evT_pl rfl) (evW_pl rfl)
      · split at h
        · rename_i hf
          subst hf
          split at h
          · split at h <;> cases h
            rename_i e1 e2
            simp only [List.all_cons, Bool.and_eq_true] at hn
            exact .plain (se_isi1 O hs hg hn.1 (ih e1).val e2) (fun _ => rfl) (evT_pl rfl) (evW_pl rfl)
          · cases h
        · split at h
          · rename_i hf
            subst hf
            simp only [Option.map_eq_some_iff] at h
            obtain ⟨ies, e1, rfl⟩ := h
            refine ⟨se_rng, st_rng, fun tg => ?_⟩
            match args, ies, hn, e1 with
            | [], ies, hn, e1 =>
              have := allO_nil e1
              subst this
              exact sw_never (by simp)
            | [a], ies, hn, e1 =>
              have hl := (allO_some e1).1
              match ies, hl, e1 with
              | [ia], _, e1 => exact sw_rng1 O hs hg (by simpa using hn) (ihs hn e1)
            | [a, b], ies, hn, e1 =>
              have hl := (allO_some e1).1
              match ies, hl, e1 with
              | [ia, ib], _, e1 =>
                simp only [List.all_cons, Bool.and_eq_true] at hn
                exact sw_rng2 O hs hg hn.1 hn.2.1 (ihs (by simp [hn]) e1)
            | a :: b :: c :: r, ies, hn, e1 =>
              have hl := (allO_some e1).1
              exact sw_never (by simp at hl; omega)
          · split at h
            · rename_i a ha
              simp only [Option.map_eq_some_iff] at h
              obtain ⟨ia, e1, rfl⟩ := h
              unfold setIn at ha
              split at ha <;> try cases ha
              split at ha <;> cases ha
              rename_i hc2
              simp only [Bool.and_eq_true, decide_eq_true_eq] at hc2
              obtain ⟨⟨⟨hf, hx⟩, hgx⟩, hna⟩ := hc2
              exact .plain (se_sset O hs hf hg hx hgx hna (ih e1).val) (fun _ => rfl) (evT_pl rfl) (evW_pl rfl)
            split at h
            · rename_i b hb
              simp only [Option.map_eq_some_iff] at h
              obtain ⟨ies, e1, rfl⟩ := h
              cases args with
              | nil => simp [biC, biC2] at hb
              | cons a as => exact .plain (se_bi O hs hg hp hb hn (ihs hn e1)) (fun _ => rfl) (evT_pl rfl) (evW_pl rfl)
            · cases h
    · -- o.m(..)
      rename_i o m apos args cpos
      split at h <;> try cases h
      rename_i hc
      simp only [Bool.and_eq_true] at hc
      split at h <;> cases h
      rename_i me io ies e1 e2 e3
      have hl := (allO_some e3).1
      match args, ies, hl, e1, e3, hc with
      | [], [], _, e1, e3, hc => exact .plain (se_meth0 O.hu e1 hc.1.2 hc.2 (ih e2).val) (fun _ => rfl) (evT_pl rfl) (evW_pl rfl)
      | [a], [ia], _, e1, e3, hc =>
        obtain ⟨z, zs, ez, _, hz⟩ := allO_cons e3
        injection hz with hz1 hz2
        subst hz1
        exact .plain (se_meth1 O.hu e1 (by simpa using hc.1.1) hc.1.2 hc.2 (ih e2).val (ihs hc.1.1 e3) (ih ez).val) (fun _ => rfl) (evT_pl rfl) (evW_pl rfl)
      | [a, b], [ia, ib], _, e1, e3, hc =>
        obtain ⟨z, zs, ez, e5, hz⟩ := allO_cons e3
        obtain ⟨z2, zs2, ez2, _, hz2⟩ := allO_cons e5
        injection hz with hz1 hz3
        rw [hz2] at hz3
        injection hz3 with hz4 hz5
        subst hz1 hz4
        have h1 := hc.1.1
        simp only [List.all_cons, Bool.and_eq_true] at h1
        exact .plain (se_meth2 O.hu e1 h1.1 h1.2.1 hc.1.2 hc.2 (ih e2).val (ih ez).val (ih ez2).val (ihs hc.1.1 e3)) (fun _ => rfl) (evT_pl rfl) (evW_pl rfl)
      | a :: b :: c :: r, _, _, e1, _, _ => simp [meC, meC2] at e1
    · simp only [Option.map_eq_some_iff] at h
      obtain ⟨ia, e1, rfl⟩ := h
      exact .plain (se_rev (ih e1).val) (fun _ => rfl) (evT_pl rfl) (evW_pl rfl)
    · -- slices
      split at h <;> cases h
      rename_i e1 e2 e3
      have so : ∀ {o : Option Expr} {io : Option E}, cOp (cE tb N n sc) o = some io → PO X o (tO X.K Gd g F io) := fun {o io} h => by
        cases o with
        | none => simp [cOp] at h; subst h; exact so_none
        | some e =>
          simp only [cOp, Option.map_eq_some_iff] at h
          obtain ⟨ie, e1, rfl⟩ := h
          exact so_some (ih e1).val
      exact .plain (se_sl (ih e1).val (so e2) (so e3)) (fun _ => rfl) (evT_pl rfl) (evW_pl rfl)
    · split at h <;> try cases h
      rename_i hn
      split at h <;> cases h
      rename_i e1 e2
      exact .plain (se_ix O hn (ih e1).val (ih e2).val) (fun _ => rfl) (evT_pl rfl) (evW_pl rfl)
    · -- comprehensions
      rename_i elt tg it ifs scope pos
      split at h <;> try cases h
      rename_i hb
      split at h <;> try cases h
      rename_i x t i js e1 e2 e3 e4
      split at h <;> cases h
      rename_i hc
      simp only [Bool.and_eq_true, decide_eq_true_eq, List.all_eq_true] at hc
      have hbk : BlkOk X.N X.env.scope scope (ownOf N scope.names) := by
        rw [O.names, hs]
        exact blkOk_by hb
      have hifs : ∃ tt : TT, (∀ (s : Shared) (H : Hp) (C : Addr) (cl : List (Str × Addr)) (fp : List Addr), PTs (X.blk s H scope (compEnvC scope cl C X.env) fp) ifs tt) ∧
          ∀ σ H Q, (∃ ι S env b S', Rel X.K Gd H ι S ∧ REnv X.K Gd H ι σ env ∧ evIfs g F js env S = some (b, S') ∧ ∀ H' ι', Rel X.K Gd H' ι' S' → Ext H ι H' ι' → Q b H') → tt σ H Q := by
        have hl := (allO_some e4).1
        match ifs, js, hl, e4, hc with
        | [], [], _, _, _ =>
          refine ⟨tYes, fun s H C cl fp => pts_nil, fun σ H Q ⟨ι, S, env, b, S', R, en, ev, q⟩ => ?_⟩
          simp only [evIfs, Option.some.injEq, Prod.mk.injEq] at ev
          obtain ⟨rfl, rfl⟩ := ev
          exact q H ι R Ext.refl
        | [c], [jc], _, e4, _ =>
          obtain ⟨z, zs, a1, a2, a3⟩ := allO_cons e4
          cases a3
          refine ⟨tT X.K Gd g F jc, fun s H C cl fp => pts_one (soundE n (X := X.blk s H scope (compEnvC scope cl C X.env) fp) O.blk (by show L2.relS scope X.env.scope = _; rw [hs]) a1).tst, fun σ H Q ⟨ι, S, env, b, S', R, en, ev, q⟩ => ?_⟩
          exact ⟨ι, S, env, b, S', R, en, by simpa [evIfs] using ev, q⟩
        | _ :: _ :: _, _ :: _ :: _, _, _, hc => simp at hc
      obtain ⟨tt, h1, h2⟩ := hifs
      refine .plain (PE.imp (pe_lc (own := ownOf N scope.names) O.calm O.nd ((ih e3).wlk tg) hbk (fun s H C cl fp => soundT n (X := X.blk s H scope (compEnvC scope cl C X.env) fp) O.blk tgt_blk e2) h1
        (fun s H C cl fp => (soundE n (X := X.blk s H scope (compEnvC scope cl C X.env) fp) O.blk (by show L2.relS scope X.env.scope = _; rw [hs]) e1).val) (fold_ok e3)) (lc_imp (fun i hi => hc.2 i hi) h2)) (fun _ => rfl) (evT_pl rfl) (evW_pl rfl)
    · -- comprehensions of two fors
      rename_i elt tg it tg1 it1 scope pos
      split at h <;> try cases h
      rename_i hb
      split at h <;> try cases h
      rename_i x t i t1 i1 e1 e2 e3 e4 e5
      split at h <;> cases h
      rename_i hc
      simp only [Bool.and_eq_true, decide_eq_true_eq, List.all_eq_true] at hc
      have hbk : BlkOk X.N X.env.scope scope (ownOf N scope.names) := by
        rw [O.names, hs]
        exact blkOk_by hb
      refine .plain (PE.imp (CVDi.pe_unl (pe_lc2 (own := ownOf N scope.names) (vs1 := t1.slots) O.calm O.nd ((ih e3).wlk tg) hbk hc.2 (fun s H C cl fp => soundT n (X := X.blk s H scope (compEnvC scope cl C X.env) fp) O.blk tgt_blk e2) (fun s H C cl fp => pts_nil)
        (fun s H C cl fp => sk_keys (soundE n (X := X.blk s H scope (compEnvC scope cl C X.env) fp) O.blk (by show L2.relS scope X.env.scope = _; rw [hs]) e5).val)
        (fun s H C cl fp => soundT n (X := X.blk s H scope (compEnvC scope cl C X.env) fp) O.blk tgt_blk e4) (fun s H C cl fp => pts_nil)
        (fun s H C cl fp => (soundE n (X := X.blk s H scope (compEnvC scope cl C X.env) fp) O.blk (by show L2.relS scope X.env.scope = _; rw [hs]) e1).val) (fold_ok e3) (fun env x => fold_ok e5 x))) (l2_imp (fun i hi => hc.1 i hi))) (fun _ => rfl) (evT_pl rfl) (evW_pl rfl)
    · -- dict comprehensions
      rename_i kx vx tg it scope pos
      split at h <;> try cases h
      rename_i hb
      split at h <;> try cases h
      rename_i x y t i e1 e2 e3 e4
      split at h <;> cases h
      rename_i hc
      simp only [decide_eq_true_eq, List.all_eq_true] at hc
      have hbk : BlkOk X.N X.env.scope scope (ownOf N scope.names) := by
        rw [O.names, hs]
        exact blkOk_by hb
      have pg : ∀ (s : Shared) (H : Hp) (C : Addr) (cl : List (Str × Addr)) (fp : List Addr), PG (X.blk s H scope (compEnvC scope cl C X.env) fp) tg (gT X.K Gd t) := fun s H C cl fp => soundT n (X := X.blk s H scope (compEnvC scope cl C X.env) fp) O.blk tgt_blk e3
      have pk : ∀ (s : Shared) (H : Hp) (C : Addr) (cl : List (Str × Addr)) (fp : List Addr), PE (X.blk s H scope (compEnvC scope cl C X.env) fp) kx (tE X.K Gd g F x) := fun s H C cl fp => (soundE n (X := X.blk s H scope (compEnvC scope cl C X.env) fp) O.blk (by show L2.relS scope X.env.scope = _; rw [hs]) e1).val
      have pv : ∀ (s : Shared) (H : Hp) (C : Addr) (cl : List (Str × Addr)) (fp : List Addr), PE (X.blk s H scope (compEnvC scope cl C X.env) fp) vx (tE X.K Gd g F y) := fun s H C cl fp => (soundE n (X := X.blk s H scope (compEnvC scope cl C X.env) fp) O.blk (by show L2.relS scope X.env.scope = _; rw [hs]) e2).val
      have p1 := pe_dc (pos := pos) (own := ownOf N scope.names) O.calm O.nd ((ih e4).wlk tg) hbk pg (fun s H C cl fp => pts_nil) pk pv (fold_ok e4)
      have p2 := CVDi.pe_unl (pe_dc (pos := pos) (own := ownOf N scope.names) O.calm O.nd (sk_keys (tg := tg) (ih e4).val) hbk pg (fun s H C cl fp => pts_nil) pk pv (fold_ok e4))
      exact .plain (PE.imp (PE.or p1 p2) (dc_imp fun i hi => hc i hi)) (fun _ => rfl) (evT_pl rfl) (evW_pl rfl)
    · cases h
end
end CV

set_option Elab.async false
set_option linter.all false
set_option maxRecDepth 100000
set_option maxHeartbeats 4000000
/-! CvDs: name = {k: v for ..} on one line. -/
namespace CVDs
open PySem PySem.Spec PyProof.Rows L2

section
variable {X : Cx}
theorem ps_setDc {i : Nat} {y : Str} {py : Pos} {kx vx tg iter : Expr} {ifs : List Expr} {scope : Scope} {own : List (Str × Nat)} {pos spos : Pos} {wi : TI} {g : TG} {tt : TT} {tk tv : TE} (hc : X.calm = true) (hN : X.N.Nodup) (hy : X.N[i]? = some y) (hyl : X.env.scope.names.lookup y = some .local)
    (hsw : swapsWith (.DictComp kx vx [⟨tg, iter, ifs, 0⟩] scope pos) (some (.Name y py)) spos.line X.env = pure true) (hi : PI X tg iter wi) (ok : BlkOk X.N X.env.scope scope own)
    (hg : ∀ (s : Shared) (H : Hp) (C : Addr) (cl : List (Str × Addr)) (fp : List Addr), PG (X.blk s H scope (compEnvC scope cl C X.env) fp) tg g) (ht : ∀ (s : Shared) (H : Hp) (C : Addr) (cl : List (Str × Addr)) (fp : List Addr), PTs (X.blk s H scope (compEnvC scope cl C X.env) fp) ifs tt)
    (hk : ∀ (s : Shared) (H : Hp) (C : Addr) (cl : List (Str × Addr)) (fp : List Addr), PE (X.blk s H scope (compEnvC scope cl C X.env) fp) kx tk)
    (he : ∀ (s : Shared) (H : Hp) (C : Addr) (cl : List (Str × Addr)) (fp : List Addr), PE (X.blk s H scope (compEnvC scope cl C X.env) fp) vx tv) (hs : ∀ x, foldedSetIterable iter X.env x = pure x) :
    PS X (.Assign [.Name y py] (.DictComp kx vx [⟨tg, iter, ifs, 0⟩] scope pos) spos) (tAsg (tDc wi g tt tk tv (own.map (·.2))) (gName i)) := by
  refine ⟨fun pins s σ H D I h => ?_⟩
  rw [exec_Assign_Name_used _ _ _ _ hsw]
  refine wpAny_bind (wpAny_standAt (wpAny_bind ?_))
  show wpAny _ X.A (do let _ ← comprehension (.DictComp kx vx [⟨tg, iter, ifs, 0⟩] scope pos) scope X.env (firstIterPos [⟨tg, iter, ifs, 0⟩] pos) (newDict #[]) false (eval iter X.env) (some (assign (.Name y py) X.env))) _ _ s
  have h : tDc wi g tt tk tv (own.map (·.2)) σ H (fun x H1 => gName i x σ H1 D.nx) := h
  refine wpAny_bind (thn (dc_core (Qf := fun _ s' => SP X pins D .next s') hc hN I hi ok hg ht hk he hs h fun L C s' m H' I' q hn f => ?_) fun _ s' hq => wpAny_pure (wpAny_pure hq))
  show wpAny _ _ (assign (.Name y py) X.env (.ref L)) _ _ _
  refine wpAny_assign_Name (store_ok2 (v := V.ref L) I' hN hy (.inl hyl) rfl (fun s2 I2 ⟨a, sb, ha⟩ => ?_) (.inr hyl))
  obtain ⟨f0, f1, f2, f3, f4, f5⟩ := f
  have haC : C ≠ a := by
    rcases ha with z | z
    · rw [z]; exact f1
    · exact fun e => f4 y a z e.symm
  refine ⟨m, hn.sameBut sb haC, fun h3 sb3 => ?_⟩
  exact ⟨_, H', I2.turned (t' := s2.toks) (fun b o hb e => (sb3.2 b hb).trans e) f0 f1 f3 f4 f5, q⟩
theorem sw_true {kx vx : Expr} {gs : List Comprehension} {scope : Scope} {pos py : Pos} {y : Str} {l : Nat} {env : Env} (hk : env.scope.kind = .function) (hy : env.scope.names.lookup y = some .local) (hl : (py.line == pos.line) = true)
    (ha : (scope.names.any fun (n, k) => n == y && (k == .local || k == .cell)) = false) : swapsWith (.DictComp kx vx gs scope pos) (some (.Name y py)) l env = pure true := by
  have ky : env.kindOf y = some .local := hy
  have hb : env.blockKind = .function := by unfold Env.blockKind; rw [hk]; rfl
  unfold swapsWith
  simp only [hb, ky, ha, Expr.pos, hl]
  rfl
end
end CVDs

set_option Elab.async false
set_option linter.all false
set_option maxRecDepth 100000
set_option maxHeartbeats 8000000
/-! CvK: statements, defs. -/
namespace CV
open PySem PySem.Spec PyProof.Rows L2

section
variable {K : PySem.W.Frag} {Gd : Str → Addr → Prop} {g : Cst} {F : FT} {fuel : Nat}
/-- what is wanted behind a statement -/
def CPost (K : PySem.W.Frag) (Gd : Str → Addr → Prop) (H : Hp) (ι : Loc) (r : Fl × Env × Sto) (D : Ends) : Prop :=
  match r.1 with
  | .nx => ∀ σ' H' ι', Rel K Gd H' ι' r.2.2 → REnv K Gd H' ι' σ' r.2.1 → Ext H ι H' ι' → D.nx σ' H'
  | .bk => ∀ σ' H' ι', Rel K Gd H' ι' r.2.2 → REnv K Gd H' ι' σ' r.2.1 → Ext H ι H' ι' → D.bk σ' H'
  | .ct => ∀ σ' H' ι', Rel K Gd H' ι' r.2.2 → REnv K Gd H' ι' σ' r.2.1 → Ext H ι H' ι' → D.ct σ' H'
  | .rt d => ∀ v H' ι', Rel K Gd H' ι' r.2.2 → RD K Gd H' ι' d v → Ext H ι H' ι' → D.rt v H'
theorem CPost.step {H H1 : Hp} {ι ι1 : Loc} {r : Fl × Env × Sto} {D : Ends} (x : Ext H ι H1 ι1) (h : CPost K Gd H ι r D) : CPost K Gd H1 ι1 r D := by
  obtain ⟨f, env, S⟩ := r
  cases f with
  | nx => exact fun σ' H' ι' a b c => h σ' H' ι' a b (x.trans c)
  | bk => exact fun σ' H' ι' a b c => h σ' H' ι' a b (x.trans c)
  | ct => exact fun σ' H' ι' a b c => h σ' H' ι' a b (x.trans c)
  | rt d => exact fun σ' H' ι' a b c => h σ' H' ι' a b (x.trans c)
def tS (K : PySem.W.Frag) (Gd : Str → Addr → Prop) (g : Cst) (F : FT) (fuel : Nat) (c : C) : TS := fun D σ H =>
  ∃ ι S env r, Rel K Gd H ι S ∧ REnv K Gd H ι σ env ∧ evC g F fuel c env S = some r ∧ CPost K Gd H ι r D
def tSs (K : PySem.W.Frag) (Gd : Str → Addr → Prop) (g : Cst) (F : FT) (fuel : Nat) (cs : List C) : TS := fun D σ H =>
  ∃ ι S env r, Rel K Gd H ι S ∧ REnv K Gd H ι σ env ∧ evCs g F fuel cs env S = some r ∧ CPost K Gd H ι r D
end

section
variable {X : Cx} {tb : Tb} {N : List Str} {Gd : Str → Addr → Prop} {g : Cst} {F : FT} {k : Nat} {fuel : Nat}

theorem swaps_no {e : Expr} {t : Option Expr} {l : Nat} {env : PySem.Env} (h : notComp e = true) : swapsWith e t l env = pure false := by
  cases e <;> first | rfl | cases h

theorem ss_exp {e : Expr} {ie : E} {pos : Pos} (hn : notComp e = true) (he : PE X e (tE X.K Gd g F ie)) : PS X (.Expr e pos) (tS X.K Gd g F fuel (.exp ie)) := by
  refine PS.imp (ps_expr he (swaps_no hn)) fun D σ H q => ?_
  obtain ⟨ι, S, env, r, R, en, ev, q⟩ := q
  simp only [evC] at ev
  split at ev <;> cases ev
  rename_i d S1 e1
  exact ⟨ι, S, env, (d, S1), R, en, e1, fun v H1 ι1 R1 r1 x1 => q σ H1 ι1 R1 (en.keep (x1.keeps R)) x1⟩
theorem ss_asgW {tg e : Expr} {t : T} {ie : E} {pos : Pos} (hn : swapsWith e (some tg) pos.line X.env = pure false) (hw : swappedStores [tg] e X.env = pure none) (ht : notStar tg = true) (he : PE X e (tE X.K Gd g F ie)) (hg : PG X tg (gT X.K Gd t)) :
    PS X (.Assign [tg] e pos) (tS X.K Gd g F fuel (.asg t ie)) := by
  refine PS.imp (ps_asg he hg hn hw (by rw [tgt_cons ht]; rfl)) fun D σ H q => ?_
  obtain ⟨ι, S, env, r, R, en, ev, q⟩ := q
  simp only [evC] at ev
  split at ev <;> try cases ev
  rename_i d S1 e1
  split at ev <;> cases ev
  rename_i env1 e2
  refine ⟨ι, S, env, (d, S1), R, en, e1, fun v H1 ι1 R1 r1 x1 => ?_⟩
  exact ⟨ι1, S1, d, env, env1, R1, r1, en.keep (x1.keeps R), e2, fun σ' en' _ => q σ' H1 ι1 R1 en' x1⟩
theorem swL_cell {elt : Expr} {gs : List Comprehension} {scope : Scope} {pos py : Pos} {y : Str} {l : Nat} {env : PySem.Env} (hy : env.scope.names.lookup y = some .cell) : swapsWith (.ListComp elt gs scope pos) (some (.Name y py)) l env = pure false := by
  have ky : env.kindOf y = some .cell := hy
  have e : (NameKind.cell == NameKind.local) = false := rfl
  unfold swapsWith
  simp [ky, e]
theorem swD_cell {kx vx : Expr} {gs : List Comprehension} {scope : Scope} {pos py : Pos} {y : Str} {l : Nat} {env : PySem.Env} (hy : env.scope.names.lookup y = some .cell) : swapsWith (.DictComp kx vx gs scope pos) (some (.Name y py)) l env = pure false := by
  have ky : env.kindOf y = some .cell := hy
  have e : (NameKind.cell == NameKind.local) = false := rfl
  unfold swapsWith
  simp [ky, e]
theorem ss_asg {tg e : Expr} {t : T} {ie : E} {pos : Pos} (hn : notComp e = true) (hw : swappedStores [tg] e X.env = pure none) (ht : notStar tg = true) (he : PE X e (tE X.K Gd g F ie)) (hg : PG X tg (gT X.K Gd t)) :
    PS X (.Assign [tg] e pos) (tS X.K Gd g F fuel (.asg t ie)) := by
  refine PS.imp (ps_asg he hg (swaps_no hn) hw (by rw [tgt_cons ht]; rfl)) fun D σ H q => ?_
  obtain ⟨ι, S, env, r, R, en, ev, q⟩ := q
  simp only [evC] at ev
  split at ev <;> try cases ev
  rename_i d S1 e1
  split at ev <;> cases ev
  rename_i env1 e2
  refine ⟨ι, S, env, (d, S1), R, en, e1, fun v H1 ι1 R1 r1 x1 => ?_⟩
  exact ⟨ι1, S1, d, env, env1, R1, r1, en.keep (x1.keeps R), e2, fun σ' en' _ => q σ' H1 ι1 R1 en' x1⟩
theorem ss_sto {o i e : Expr} {io ii ie : E} {p pos : Pos} (O : Ok X tb N Gd g F k) (hn : notComp e = true) (hi : notSlice i = true) (ho : PE X o (tE X.K Gd g F io)) (hii : PE X i (tE X.K Gd g F ii)) (he : PE X e (tE X.K Gd g F ie)) :
    PS X (.Assign [.Subscript o i p] e pos) (tS X.K Gd g F fuel (.sto io ii ie)) := by
  have hsub : PG X (.Subscript o i p) (gSub (tE X.K Gd g F io) (tE X.K Gd g F ii) (rP X.K Gd)) := pg_sub ho hii (setOp O.hu) (by intro v; cases i <;> first | rfl | cases hi)
  refine PS.imp (ps_asg he hsub (by unfold swapsWithSole; exact swaps_no hn) (by cases e <;> rfl) (by rfl)) fun D σ H q => ?_
  obtain ⟨ι, S, env, r, R, en, ev, q⟩ := q
  simp only [evC] at ev
  split at ev <;> try cases ev
  rename_i v S1 e1
  split at ev <;> try cases ev
  rename_i x S2 e2
  split at ev <;> try cases ev
  rename_i y S3 e3
  split at ev <;> cases ev
  rename_i S4 e4
  refine ⟨ι, S, env, (v, S1), R, en, e1, fun v1 H1 ι1 R1 r1 x1 => ?_⟩
  have en1 := en.keep (x1.keeps R)
  refine ⟨ι1, S1, env, (x, S2), R1, en1, e2, fun v2 H2 ι2 R2 r2 x2 => ?_⟩
  have en2 := en1.keep (x2.keeps R1)
  refine ⟨ι2, S2, env, (y, S3), R2, en2, e3, fun v3 H3 ι3 R3 r3 x3 => ?_⟩
  have en3 := en2.keep (x3.keeps R2)
  refine ⟨ι3, S3, x, y, v, S4, R3, r2.keep (x3.keeps R2), r3, (r1.keep (x2.keeps R1)).keep (x3.keeps R2), e4, fun H4 R4 x4 => ?_⟩
  exact q σ H4 ι3 R4 (en3.keep (x4.keeps R3)) (((x1.trans x2).trans x3).trans x4)
theorem ss_ret {e : Expr} {ie : E} {pos : Pos} (he : PE X e (tE X.K Gd g F ie)) : PS X (.Return (some e) pos) (tS X.K Gd g F fuel (.ret ie)) := by
  refine PS.imp (ps_ret he) fun D σ H q => ?_
  obtain ⟨ι, S, env, r, R, en, ev, q⟩ := q
  simp only [evC] at ev
  split at ev <;> cases ev
  rename_i d S1 e1
  exact ⟨ι, S, env, (d, S1), R, en, e1, fun v H1 ι1 R1 r1 x1 => q v H1 ι1 R1 r1 x1⟩
theorem ss_retN {pos : Pos} : PS X (.Return none pos) (tS X.K Gd g F fuel .retN) := by
  refine PS.imp ps_retN fun D σ H q => ?_
  obtain ⟨ι, S, env, r, R, en, ev, q⟩ := q
  simp only [evC] at ev
  cases ev
  exact q _ H ι R .non Ext.refl
theorem ss_dead {st : Stmt} : PS X st (tS X.K Gd g F fuel (.exp (.rng []))) := ⟨fun pins s σ H D I q => by
  obtain ⟨ι, S, env, r, R, en, ev, q⟩ := q
  simp [evC, evE] at ev⟩
theorem ss_pass {pos : Pos} : PS X (.Pass pos) (tS X.K Gd g F fuel .pass) := by
  refine PS.imp ps_pass fun D σ H q => ?_
  obtain ⟨ι, S, env, r, R, en, ev, q⟩ := q
  simp only [evC] at ev
  cases ev
  exact q _ H ι R en Ext.refl
theorem ss_brk {pos : Pos} : PS X (.Break pos) (tS X.K Gd g F fuel .brk) := by
  refine PS.imp ps_break fun D σ H q => ?_
  obtain ⟨ι, S, env, r, R, en, ev, q⟩ := q
  simp only [evC] at ev
  cases ev
  exact q _ H ι R en Ext.refl
theorem ss_cnt {pos : Pos} : PS X (.Continue pos) (tS X.K Gd g F fuel .cnt) := by
  refine PS.imp ps_continue fun D σ H q => ?_
  obtain ⟨ι, S, env, r, R, en, ev, q⟩ := q
  simp only [evC] at ev
  cases ev
  exact q _ H ι R en Ext.refl
theorem ss_ife {c : Expr} {a b : List Stmt} {ic : E} {ia ib : List C} {pos : Pos} (hc : PT X c (tT X.K Gd g F ic)) (ha : PSs X a (tSs X.K Gd g F fuel ia)) (hb : PSs X b (tSs X.K Gd g F fuel ib)) :
    PS X (.If c a b pos) (tS X.K Gd g F fuel (.ife ic ia ib)) := by
  refine PS.imp (ps_if hc ha hb) fun D σ H q => ?_
  obtain ⟨ι, S, env, r, R, en, ev, q⟩ := q
  simp only [evC] at ev
  split at ev <;> try cases ev
  · rename_i S1 e1
    exact ⟨ι, S, env, true, S1, R, en, e1, fun H1 ι1 R1 x1 => iteT ⟨ι1, S1, env, r, R1, en.keep (x1.keeps R), ev, q.step x1⟩⟩
  · rename_i S1 e1
    exact ⟨ι, S, env, false, S1, R, en, e1, fun H1 ι1 R1 x1 => iteF ⟨ι1, S1, env, r, R1, en.keep (x1.keeps R), ev, q.step x1⟩⟩
theorem ss_nil : PSs X [] (tSs X.K Gd g F fuel []) := by
  refine PSs.imp pss_nil fun D σ H q => ?_
  obtain ⟨ι, S, env, r, R, en, ev, q⟩ := q
  simp only [evCs] at ev
  cases ev
  exact q _ H ι R en Ext.refl
theorem ss_cons {s : Stmt} {ss : List Stmt} {c : C} {cs : List C} (h1 : PS X s (tS X.K Gd g F fuel c)) (h2 : PSs X ss (tSs X.K Gd g F fuel cs)) : PSs X (s :: ss) (tSs X.K Gd g F fuel (c :: cs)) := by
  refine PSs.imp (pss_cons h1 h2) fun D σ H q => ?_
  obtain ⟨ι, S, env, r, R, en, ev, q⟩ := q
  simp only [evCs] at ev
  split at ev
  · rename_i env1 S1 e1
    exact ⟨ι, S, env, _, R, en, e1, fun σ' H' ι' R' en' x' => ⟨ι', S1, env1, r, R', en', ev, q.step x'⟩⟩
  · rename_i r0 hne
    refine ⟨ι, S, env, r, R, en, ev, ?_⟩
    · obtain ⟨f, env1, S1⟩ := r
      cases f with
      | nx => exact absurd ev (hne env1 S1)
      | bk => exact q
      | ct => exact q
      | rt d => exact q
theorem forLoop_ok {w : Wk} {body : Env → Sto → Option (Fl × Env × Sto)} {t : T} : ∀ {xs : List D} {env : Env} {S : Sto} {r : Fl × Env × Sto}, forLoop body t w xs env S = some r → w.ok S = true
  | [], _, S, r, h => by
    unfold forLoop at h
    split at h <;> first | assumption | cases h
  | x :: xs, _, S, r, h => by
    unfold forLoop at h
    split at h <;> first | assumption | cases h
theorem for_turns {w : Wk} {J : It} {H1 : Hp} {ι1 : Loc} {S1 : Sto} {env : Env} {σ : L2.St} {t : T} {ib : List C} {r : Fl × Env × Sto} {D : Ends} (R1 : Rel X.K Gd H1 ι1 S1) (en1 : REnv X.K Gd H1 ι1 σ env) (wk : WkOk X.K Gd H1 ι1 w J)
    (ev : forLoop (evCs g F fuel ib) t w w.items env S1 = some r) (q : CPost X.K Gd H1 ι1 r D) :
    ∃ W : Nat → Nat → L2.St → Hp → Prop, (∃ m, W 0 m σ H1) ∧ ∀ i m σ H, W i m σ H →
      (J.stop i H ∧ D.nx σ H) ∨ (J.go i H ∧ ∃ N : L2.St → Hp → Prop, (∀ σ' H', N σ' H' → ∃ m', m' < m ∧ W (i + 1) m' σ' H') ∧ ∀ x H', J.yld i H x H' → gT X.K Gd t x σ H' fun σ2 H2 => tSs X.K Gd g F fuel ib { D with nx := N, ct := N, bk := D.nx } σ2 H2) := by
  refine ⟨fun i m σi Hi => m = w.items.length - i ∧ i ≤ w.items.length ∧ ∃ ιi Si envi, Rel X.K Gd Hi ιi Si ∧ REnv X.K Gd Hi ιi σi envi ∧ Ext H1 ι1 Hi ιi ∧
    forLoop (evCs g F fuel ib) t w (w.items.drop i) envi Si = some r, ⟨w.items.length, by simp, Nat.zero_le _, ι1, S1, env, R1, en1, Ext.refl, by simpa using ev⟩, ?_⟩
  rintro i m σi Hi ⟨rfl, hil, ιi, Si, envi, Ri, eni, xi, el⟩
  have kpi : Kp X.K H1 ι1 Hi ιi := xi.keeps R1
  have wki := wk i Hi ιi Si Ri kpi xi.fz (forLoop_ok el)
  by_cases hlt : i < w.items.length
  · have hd : w.items.drop i = w.items[i] :: w.items.drop (i + 1) := List.drop_eq_getElem_cons hlt
    rw [hd] at el
    unfold forLoop at el
    rw [if_pos (by split at el <;> first | assumption | cases el)] at el
    obtain ⟨hgo, hy⟩ := wki.1 w.items[i] (by simp [hlt])
    refine .inr ⟨hgo, fun σ' H' => ∃ ι' S' env', Rel X.K Gd H' ι' S' ∧ REnv X.K Gd H' ι' σ' env' ∧ Ext H1 ι1 H' ι' ∧ forLoop (evCs g F fuel ib) t w (w.items.drop (i + 1)) env' S' = some r,
      fun σ' H' ⟨ι', S', env', h1, h2, h3, h4⟩ => ⟨w.items.length - (i + 1), by omega, rfl, hlt, ι', S', env', h1, h2, h3, h4⟩, fun v H' y => ?_⟩
    obtain ⟨Ry, xy, rv⟩ := hy v H' y
    have eni := eni.keep (xy.keeps Ri)
    have xi := xi.trans xy
    split at el <;> try cases el
    rename_i env2 ea
    refine ⟨ιi, Si, w.items[i], envi, env2, Ry, rv, eni, ea, fun σ2 en2 _ => ?_⟩
    split at el
    · rename_i env3 S3 eb
      exact ⟨ιi, Si, env2, _, Ry, en2, eb, fun σ' H' ι' R' en' x' => ⟨ι', S3, env3, R', en', xi.trans x', el⟩⟩
    · rename_i env3 S3 eb
      exact ⟨ιi, Si, env2, _, Ry, en2, eb, fun σ' H' ι' R' en' x' => ⟨ι', S3, env3, R', en', xi.trans x', el⟩⟩
    · rename_i env3 S3 eb
      cases el
      exact ⟨ιi, Si, env2, _, Ry, en2, eb, fun σ' H' ι' R' en' x' => q σ' H' ι' R' en' (xi.trans x')⟩
    · rename_i d env3 S3 eb
      cases el
      exact ⟨ιi, Si, env2, _, Ry, en2, eb, fun v' H' ι' R' r' x' => q v' H' ι' R' r' (xi.trans x')⟩
    · cases el
  · have e : i = w.items.length := by omega
    subst e
    simp only [List.drop_length] at el
    unfold forLoop at el
    split at el <;> cases el
    exact .inl ⟨wki.2 (Nat.le_refl _), q σi Hi ιi Ri eni xi⟩
theorem ss_for {tg it : Expr} {body : List Stmt} {t : T} {ie : E} {ib : List C} {pos : Pos} (O : Ok X tb N Gd g F k) (hp : PassesOwn (model X.prog X.w) X.A X.env X.xe) (hf : ∀ x, foldedSetIterable it X.env x = pure x)
    (hi : PI X tg it (tW X.K Gd g F ie)) (hg : PG X tg (gT X.K Gd t)) (hb : PSs X body (tSs X.K Gd g F fuel ib)) : PS X (.For tg it body [] pos) (tS X.K Gd g F fuel (.for_ t ie ib)) := by
  refine PS.imp (ps_for hp O.calm hi hg hb hf) fun D σ H q => ?_
  obtain ⟨ι, S, env, r, R, en, ev, q⟩ := q
  simp only [evC] at ev
  split at ev <;> try cases ev
  rename_i w S1 e1
  exact ⟨ι, S, env, w, S1, R, en, e1, fun J H1 ι1 R1 wk x1 => for_turns R1 (en.keep (x1.keeps R)) wk ev (q.step x1)⟩
theorem wk_items {K : PySem.W.Frag} {H : Hp} {ι : Loc} {kvs : List (Key × CV.D)} {vs : List (Key × V)} {d : Addr} {od : Obj} (h : H d = some (.frz od (.dK vs))) (r : RKv K Gd H ι kvs vs) : WkOk K Gd H ι (.fix (itemsD kvs)) (Iti d od vs) := by
  intro i H1 ι1 S1 R1 kp fz _
  have h1 := fz _ _ _ h
  have hlen := r.length
  refine ⟨fun x hx => ?_, fun hl => ⟨h1, ?_⟩⟩
  · have hx : (itemsD kvs)[i]? = some x := hx
    unfold itemsD at hx
    rw [List.getElem?_map] at hx
    cases e : kvs[i]? with
    | none => rw [e] at hx; cases hx
    | some kv =>
      rw [e] at hx
      cases hx
      have hi : i < vs.length := by rw [← hlen]; exact (List.getElem?_eq_some_iff.mp e).1
      refine ⟨⟨h1, hi⟩, fun v H2 ⟨q, k, u, e2, e3, e4, e5⟩ => ?_⟩
      subst e5
      have x2 : Ext H1 ι1 (upd H1 q (.tup [kV k, u])) ι1 := Ext.fresh e4
      have R2 : Rel K Gd (upd H1 q (.tup [kV k, u])) ι1 S1 := R1.fresh e4
      refine ⟨R2, x2, ?_⟩
      obtain ⟨d', e6, hg, rr⟩ := r.get e2
      rw [e] at e6
      cases e6
      subst e3
      exact .tup (.of upd_same) (.cons (key_rdD hg) (.cons ((rr.keep kp).keep (x2.keeps R1)) .nil))
  · have hl : (itemsD kvs).length ≤ i := hl
    simp [itemsD] at hl
    omega
theorem ss_forI {elts : List Expr} {kk : Nat} {tp apos cpos pos : Pos} {e : Expr} {body : List Stmt} {t : T} {ie : E} {ib : List C} (O : Ok X tb N Gd g F k) (hp : PassesOwn (model X.prog X.w) X.A X.env X.xe) (h0 : notCall0 e = true) (hl : (apos.endLine == cpos.line) = true)
    (he : PE X e (tE X.K Gd g F ie)) (hg : PG X (.Tuple elts kk tp) (gT X.K Gd t)) (hb : PSs X body (tSs X.K Gd g F fuel ib)) : PS X (.For (.Tuple elts kk tp) (.Call (.Attribute e "items" apos) [] [] cpos) body [] pos) (tS X.K Gd g F fuel (.forI t ie ib)) := by
  refine PS.imp (CVDi.ps_unl (ps_for hp O.calm (sk_items he h0 hl) hg hb (fun _ => rfl))) fun D σ H q => ?_
  obtain ⟨ι, S, env, r, R, en, ev, q⟩ := q
  simp only [evC] at ev
  split at ev <;> try cases ev
  rename_i n S1 e1
  split at ev <;> try cases ev
  rename_i kvs e2
  unfold unlF at ev
  split at ev <;> try cases ev
  rename_i f env2 S2 e3
  split at ev <;> cases ev
  rename_i S3 e4
  refine ⟨ι, S, env, n, kvs, S1, R, en, e1, e2, fun d od vs H2 ι2 R2 hl2 hd rk x2 hH => for_turns (w := .fix (itemsD kvs)) R2 (en.keep (x2.keeps R)) (wk_items hd rk) e3 ?_⟩
  have un : ∀ {Hi : Hp} {ιi : Loc}, Rel X.K Gd Hi ιi S2 → Ext H2 ι2 Hi ιi → ∃ H3, CVDi.Unl H Hi H3 ∧ Rel X.K Gd H3 ιi S3 ∧ Ext H ι H3 ιi ∧ Kp X.K Hi ιi H3 ιi := fun {Hi ιi} Ri xi => by
    have hli := (xi.keeps R2).loc _ _ hl2
    obtain ⟨ws, od', g1, g2, g3, g4⟩ := unl_ok Ri e4 hli (x2.trans xi) hH
    exact ⟨_, .step g1 hH .refl, g2, g3, g4⟩
  cases f with
  | nx =>
    intro σ' H' ι' R' en' x'
    obtain ⟨H3, u, R3, x3, k3⟩ := un R' x'
    exact ⟨H3, u, q σ' H3 ι' R3 (en'.keep k3) x3⟩
  | bk =>
    intro σ' H' ι' R' en' x'
    obtain ⟨H3, u, R3, x3, k3⟩ := un R' x'
    exact ⟨H3, u, q σ' H3 ι' R3 (en'.keep k3) x3⟩
  | ct =>
    intro σ' H' ι' R' en' x'
    obtain ⟨H3, u, R3, x3, k3⟩ := un R' x'
    exact ⟨H3, u, q σ' H3 ι' R3 (en'.keep k3) x3⟩
  | rt d =>
    intro v H' ι' R' r' x'
    obtain ⟨H3, u, R3, x3, k3⟩ := un R' x'
    exact ⟨H3, u, q v H3 ι' R3 (r'.keep k3) x3⟩
theorem ss_while {c : Expr} {body : List Stmt} {ic : E} {ib : List C} {pos : Pos} (hp : PassesOwn (model X.prog X.w) X.A X.env X.xe) (hc : PT X c (tT X.K Gd g F ic)) (hb : PSs X body (tSs X.K Gd g F fuel ib)) :
    PS X (.While c body [] pos) (tS X.K Gd g F fuel (.while_ ic ib)) := by
  refine PS.imp (ps_while hp hc hb) fun D σ H q => ?_
  obtain ⟨ι, S, env, r, R, en, ev, q⟩ := q
  simp only [evC] at ev
  refine ⟨fun m σi Hi => ∃ ιi Si envi, Rel X.K Gd Hi ιi Si ∧ REnv X.K Gd Hi ιi σi envi ∧ Ext H ι Hi ιi ∧ whileLoop (evT g F ic) (evCs g F fuel ib) m envi Si = some r, ⟨fuel, ι, S, env, R, en, Ext.refl, ev⟩, ?_⟩
  rintro m σi Hi ⟨ιi, Si, envi, Ri, eni, xi, el⟩
  cases m with
  | zero => simp [whileLoop] at el
  | succ m =>
    simp only [whileLoop] at el
    split at el
    · rename_i S1 e1
      refine ⟨ιi, Si, envi, true, S1, Ri, eni, e1, fun H1 ι1 R1 x1 => iteT ?_⟩
      have en1 := eni.keep (x1.keeps Ri)
      have xx := xi.trans x1
      refine ⟨fun σ' H' => ∃ ι' S' env', Rel X.K Gd H' ι' S' ∧ REnv X.K Gd H' ι' σ' env' ∧ Ext H ι H' ι' ∧ whileLoop (evT g F ic) (evCs g F fuel ib) m env' S' = some r,
        fun σ' H' ⟨ι', S', env', h1, h2, h3, h4⟩ => ⟨m, Nat.lt_succ_self m, ι', S', env', h1, h2, h3, h4⟩, ?_⟩
      split at el
      · rename_i env3 S3 eb
        exact ⟨ι1, S1, envi, _, R1, en1, eb, fun σ' H' ι' R' en' x' => ⟨ι', S3, env3, R', en', xx.trans x', el⟩⟩
      · rename_i env3 S3 eb
        exact ⟨ι1, S1, envi, _, R1, en1, eb, fun σ' H' ι' R' en' x' => ⟨ι', S3, env3, R', en', xx.trans x', el⟩⟩
      · rename_i env3 S3 eb
        cases el
        exact ⟨ι1, S1, envi, _, R1, en1, eb, fun σ' H' ι' R' en' x' => q σ' H' ι' R' en' (xx.trans x')⟩
      · rename_i d env3 S3 eb
        cases el
        exact ⟨ι1, S1, envi, _, R1, en1, eb, fun v' H' ι' R' r' x' => q v' H' ι' R' r' (xx.trans x')⟩
      · cases el
    · rename_i S1 e1
      cases el
      exact ⟨ιi, Si, envi, false, _, Ri, eni, e1, fun H1 ι1 R1 x1 => iteF (q σi H1 ι1 R1 (eni.keep (x1.keeps Ri)) (xi.trans x1))⟩
    · cases el

/-- name = [..]: the comprehension stores itself -/
theorem ss_setLc {y : Str} {py : Pos} {elt tg it : Expr} {ifs : List Expr} {scope : Scope} {pos spos : Pos} {i : Nat} {ie : E} {sc : Scope} {n : Nat} (O : Ok X tb N Gd g F k) (hs : X.env.scope = sc) (hy : sc.names.lookup y = some .local) (hl : (py.line == pos.line) = true)
    (ha : (scope.names.any fun y' => y'.1 == y && (y'.2 == .local || y'.2 == .cell)) = false) (hi : ixOf y N 0 = some i) (hk : X.env.scope.kind = .function) (h : cE tb N n sc (.ListComp elt [⟨tg, it, ifs, 0⟩] scope pos) = some ie) :
    PS X (.Assign [.Name y py] (.ListComp elt [⟨tg, it, ifs, 0⟩] scope pos) spos) (tS X.K Gd g F fuel (.asg (.nm i) ie)) := by
  cases n with
  | zero => simp [cE] at h
  | succ n =>
    unfold cE at h
    simp only at h
    split at h <;> try cases h
    rename_i hb
    split at h <;> try cases h
    rename_i x t ir js e1 e2 e3 e4
    split at h <;> cases h
    rename_i hc
    simp only [Bool.and_eq_true, decide_eq_true_eq, List.all_eq_true] at hc
    have hbk : BlkOk X.N X.env.scope scope (ownOf N scope.names) := by
      rw [O.names, hs]
      exact blkOk_by hb
    have hifs : ∃ tt : TT, (∀ (s : Shared) (H : Hp) (C : Addr) (cl : List (Str × Addr)) (fp : List Addr), PTs (X.blk s H scope (compEnvC scope cl C X.env) fp) ifs tt) ∧
        ∀ σ H Q, (∃ ι S env b S', Rel X.K Gd H ι S ∧ REnv X.K Gd H ι σ env ∧ evIfs g F js env S = some (b, S') ∧ ∀ H' ι', Rel X.K Gd H' ι' S' → Ext H ι H' ι' → Q b H') → tt σ H Q := by
      have hl := (allO_some e4).1
      match ifs, js, hl, e4, hc with
      | [], [], _, _, _ =>
        refine ⟨tYes, fun s H C cl fp => pts_nil, fun σ H Q ⟨ι, S, env, b, S', R, en, ev, q⟩ => ?_⟩
        simp only [evIfs, Option.some.injEq, Prod.mk.injEq] at ev
        obtain ⟨rfl, rfl⟩ := ev
        exact q H ι R Ext.refl
      | [c], [jc], _, e4, _ =>
        obtain ⟨z, zs, a1, a2, a3⟩ := allO_cons e4
        cases a3
        refine ⟨tT X.K Gd g F jc, fun s H C cl fp => pts_one (soundE n (X := X.blk s H scope (compEnvC scope cl C X.env) fp) O.blk (by show L2.relS scope X.env.scope = _; rw [hs]) a1).tst, fun σ H Q ⟨ι, S, env, b, S', R, en, ev, q⟩ => ?_⟩
        exact ⟨ι, S, env, b, S', R, en, by simpa [evIfs] using ev, q⟩
      | _ :: _ :: _, _ :: _ :: _, _, _, hc => simp at hc
    obtain ⟨tt, h1, h2⟩ := hifs
    have hw := lc_imp (X := X) (Gd := Gd) (g := g) (F := F) (elt := x) (it := ir) (fun i hi => hc.2 i hi) h2
    refine PS.imp (ps_setLc (i := i) (own := ownOf N scope.names) O.calm O.nd (by rw [O.names]; exact ixOf_at hi) (by rw [hs]; exact hy) (sw_true hk (by rw [hs]; exact hy) hl ha) ((soundE n O hs e3).wlk tg) hbk
      (fun s H C cl fp => show PG _ tg (gT X.K Gd t) from soundT n (X := X.blk s H scope (compEnvC scope cl C X.env) fp) O.blk tgt_blk e2) h1
      (fun s H C cl fp => show PE _ elt (tE X.K Gd g F x) from (soundE n (X := X.blk s H scope (compEnvC scope cl C X.env) fp) O.blk (by show L2.relS scope X.env.scope = _; rw [hs]) e1).val) (fold_ok e3)) fun D σ H q => ?_
    obtain ⟨ι, S, env, r, R, en, ev, q⟩ := q
    simp only [evC] at ev
    split at ev <;> try cases ev
    rename_i d S1 e5
    exact hw σ H _ ⟨ι, S, env, (d, S1), R, en, e5, fun v H1 ι1 R1 r1 x1 => q _ H1 ι1 R1 ((en.keep (x1.keeps R)).set r1) x1⟩

/-- name = [.. for .. for ..] -/
theorem ss_setLc2 {y : Str} {py : Pos} {elt tg it tg1 it1 : Expr} {scope : Scope} {pos spos : Pos} {i : Nat} {ie : E} {sc : Scope} {n : Nat} (O : Ok X tb N Gd g F k) (hs : X.env.scope = sc) (hy : sc.names.lookup y = some .local) (hl : (py.line == pos.line) = true)
    (ha : (scope.names.any fun y' => y'.1 == y && (y'.2 == .local || y'.2 == .cell)) = false) (hi : ixOf y N 0 = some i) (hk : X.env.scope.kind = .function) (h : cE tb N n sc (.ListComp elt [⟨tg, it, [], 0⟩, ⟨tg1, it1, [], 0⟩] scope pos) = some ie) :
    PS X (.Assign [.Name y py] (.ListComp elt [⟨tg, it, [], 0⟩, ⟨tg1, it1, [], 0⟩] scope pos) spos) (tS X.K Gd g F fuel (.asg (.nm i) ie)) := by
  cases n with
  | zero => simp [cE] at h
  | succ n =>
    unfold cE at h
    simp only at h
    split at h <;> try cases h
    rename_i hb
    split at h <;> try cases h
    rename_i x t ir t1 i1 e1 e2 e3 e4 e5
    split at h <;> cases h
    rename_i hc
    simp only [Bool.and_eq_true, decide_eq_true_eq, List.all_eq_true] at hc
    have hbk : BlkOk X.N X.env.scope scope (ownOf N scope.names) := by
      rw [O.names, hs]
      exact blkOk_by hb
    have hw := l2_imp (X := X) (Gd := Gd) (g := g) (F := F) (elt := x) (it := ir) (e1 := i1) (t1 := t1) (fun i hi => hc.1 i hi)
    refine PS.imp (CVDi.ps_unl (ps_setLc2 (i := i) (own := ownOf N scope.names) (vs1 := t1.slots) (wi1 := fun σ H R => tK X Gd g F i1 (fun d od vs H2 => R (Itk d od vs) H2) σ H) (g1 := gT X.K Gd t1) (tt1 := tYes) O.calm O.nd (by rw [O.names]; exact ixOf_at hi) (by rw [hs]; exact hy) (sw_true hk (by rw [hs]; exact hy) hl ha) ((soundE n O hs e3).wlk tg) hbk hc.2
      (fun s H C cl fp => show PG _ tg (gT X.K Gd t) from soundT n (X := X.blk s H scope (compEnvC scope cl C X.env) fp) O.blk tgt_blk e2) (fun s H C cl fp => pts_nil)
      (fun s H C cl fp => sk_keys (soundE n (X := X.blk s H scope (compEnvC scope cl C X.env) fp) O.blk (by show L2.relS scope X.env.scope = _; rw [hs]) e5).val)
      (fun s H C cl fp => show PG _ tg1 (gT X.K Gd t1) from soundT n (X := X.blk s H scope (compEnvC scope cl C X.env) fp) O.blk tgt_blk e4) (fun s H C cl fp => pts_nil)
      (fun s H C cl fp => show PE _ elt (tE X.K Gd g F x) from (soundE n (X := X.blk s H scope (compEnvC scope cl C X.env) fp) O.blk (by show L2.relS scope X.env.scope = _; rw [hs]) e1).val) (fold_ok e3) (fun env x => fold_ok e5 x))) fun D σ H q => ?_
    obtain ⟨ι, S, env, r, R, en, ev, q⟩ := q
    simp only [evC] at ev
    split at ev <;> try cases ev
    rename_i d S1 e5
    exact hw σ H _ ⟨ι, S, env, (d, S1), R, en, e5, fun v H1 ι1 R1 r1 x1 => q _ H1 ι1 R1 ((en.keep (x1.keeps R)).set r1) x1⟩
/-- name = {k: v for ..} -/
theorem ss_setDc {y : Str} {py : Pos} {kx vx tg it : Expr} {scope : Scope} {pos spos : Pos} {i : Nat} {ie : E} {sc : Scope} {n : Nat} (O : Ok X tb N Gd g F k) (hs : X.env.scope = sc) (hy : sc.names.lookup y = some .local) (hl : (py.line == pos.line) = true)
    (ha : (scope.names.any fun y' => y'.1 == y && (y'.2 == .local || y'.2 == .cell)) = false) (hi : ixOf y N 0 = some i) (hk : X.env.scope.kind = .function) (h : cE tb N n sc (.DictComp kx vx [⟨tg, it, [], 0⟩] scope pos) = some ie) :
    PS X (.Assign [.Name y py] (.DictComp kx vx [⟨tg, it, [], 0⟩] scope pos) spos) (tS X.K Gd g F fuel (.asg (.nm i) ie)) := by
  cases n with
  | zero => simp [cE] at h
  | succ n =>
    unfold cE at h
    simp only at h
    split at h <;> try cases h
    rename_i hb
    split at h <;> try cases h
    rename_i x yv t ir e1 e2 e3 e4
    split at h <;> cases h
    rename_i hc
    simp only [decide_eq_true_eq, List.all_eq_true] at hc
    have hbk : BlkOk X.N X.env.scope scope (ownOf N scope.names) := by
      rw [O.names, hs]
      exact blkOk_by hb
    have pg : ∀ (s : Shared) (H : Hp) (C : Addr) (cl : List (Str × Addr)) (fp : List Addr), PG (X.blk s H scope (compEnvC scope cl C X.env) fp) tg (gT X.K Gd t) := fun s H C cl fp => soundT n (X := X.blk s H scope (compEnvC scope cl C X.env) fp) O.blk tgt_blk e3
    have pk : ∀ (s : Shared) (H : Hp) (C : Addr) (cl : List (Str × Addr)) (fp : List Addr), PE (X.blk s H scope (compEnvC scope cl C X.env) fp) kx (tE X.K Gd g F x) := fun s H C cl fp => (soundE n (X := X.blk s H scope (compEnvC scope cl C X.env) fp) O.blk (by show L2.relS scope X.env.scope = _; rw [hs]) e1).val
    have pv : ∀ (s : Shared) (H : Hp) (C : Addr) (cl : List (Str × Addr)) (fp : List Addr), PE (X.blk s H scope (compEnvC scope cl C X.env) fp) vx (tE X.K Gd g F yv) := fun s H C cl fp => (soundE n (X := X.blk s H scope (compEnvC scope cl C X.env) fp) O.blk (by show L2.relS scope X.env.scope = _; rw [hs]) e2).val
    have hsw : swapsWith (.DictComp kx vx [⟨tg, it, [], 0⟩] scope pos) (some (.Name y py)) spos.line X.env = pure true := CVDs.sw_true hk (by rw [hs]; exact hy) hl ha
    have p1 := CVDs.ps_setDc (i := i) (own := ownOf N scope.names) (spos := spos) O.calm O.nd (by rw [O.names]; exact ixOf_at hi) (by rw [hs]; exact hy) hsw ((soundE n O hs e4).wlk tg) hbk pg (fun s H C cl fp => pts_nil) pk pv (fold_ok e4)
    have p2 := CVDi.ps_unl (CVDs.ps_setDc (i := i) (own := ownOf N scope.names) (spos := spos) O.calm O.nd (by rw [O.names]; exact ixOf_at hi) (by rw [hs]; exact hy) hsw (sk_keys (tg := tg) (soundE n O hs e4).val) hbk pg (fun s H C cl fp => pts_nil) pk pv (fold_ok e4))
    refine PS.imp (PS.or p1 p2) fun D σ H q => ?_
    obtain ⟨ι, S, env, r, R, en, ev, q⟩ := q
    simp only [evC] at ev
    split at ev <;> try cases ev
    rename_i d S1 e5
    exact dc_imp (fun i hi => hc i hi) σ H (fun v H1 => D.nx (σ.set i (some v)) H1) ⟨ι, S, env, (d, S1), R, en, e5, fun v H1 ι1 R1 r1 x1 => q _ H1 ι1 R1 ((en.keep (x1.keeps R)).set r1) x1⟩

/-! ### pairs stored from the right -/
theorem star_f {a : Expr} : notStar a = true → (match a with
    | .Starred .. => true
    | _ => false) = false := by
  intro h
  cases a <;> first | rfl | cases h
theorem sw_pair {x y : Str} {px py p p2 : Pos} {k k2 : Nat} {a b : Expr} (hk : X.env.scope.kind = .function) (hx : X.env.scope.names.lookup x = some .local) (hy : X.env.scope.names.lookup y = some .local) (hxy : (x == y) = false) (hl : (py.line == px.line) = true) (ha : notStar a = true) (hb : notStar b = true) :
    swappedStores [.Tuple [.Name x px, .Name y py] k p] (.Tuple [a, b] k2 p2) X.env = if [a, b].all (foldedForSure 8) then pure none else if [a, b].all (constantsAlone 8) then (do unsupported "assign.tuple-of-constant-expressions:order-of-the-stores"; pure (some [x, y])) else pure (some [x, y]) := by
  have kx : X.env.kindOf x = some .local := hx
  have ky : X.env.kindOf y = some .local := hy
  have hbk : X.env.blockKind = .function := by unfold Env.blockKind; rw [hk]; rfl
  have sa := star_f ha
  have sb := star_f hb
  have hyx : (y == x) = false := by rw [beq_eq_false_iff_ne] at hxy ⊢; exact fun e => hxy e.symm
  have hd : [x, y].eraseDups.length = 2 := by simp [List.eraseDups_cons, hyx]
  unfold swappedStores
  simp only [List.filterMap_cons, List.filterMap_nil, kx, ky, hbk, List.any_cons, List.any_nil, sa, sb, List.head?_cons, Option.map_some, Option.getD_some, Expr.pos, hl]
  simp [hd]
  rintro (h | h)
  · exact absurd h (by cases a <;> first | exact Bool.false_ne_true | cases ha)
  · exact absurd h (by cases b <;> first | exact Bool.false_ne_true | cases hb)
theorem ss_par {x y : Str} {px py p p2 pos : Pos} {k1 k2 i j : Nat} {a b : Expr} {ia ib : E} (O : Ok X tb N Gd g F k) (hk : X.env.scope.kind = .function) (hx : X.env.scope.names.lookup x = some .local) (hy : X.env.scope.names.lookup y = some .local) (hxy : (x == y) = false) (hl : (py.line == px.line) = true) (ha : notStar a = true) (hb : notStar b = true)
    (h1 : [a, b].all (foldedForSure 8) = false) (h2 : [a, b].all (constantsAlone 8) = false) (hi : ixOf x N 0 = some i) (hj : ixOf y N 0 = some j) (hp : PA X [a, b] (tA X.K Gd g F [ia, ib])) :
    PS X (.Assign [.Tuple [.Name x px, .Name y py] k1 p] (.Tuple [a, b] k2 p2) pos) (tS X.K Gd g F fuel (.par [i, j] [ia, ib])) := by
  have hij : i ≠ j := fun e => by
    subst e
    have e1 := ixOf_at hi
    rw [ixOf_at hj] at e1
    cases e1
    simp at hxy
  refine PS.imp (ps_par (i := i) (j := j) O.calm O.nd (by rw [O.names]; exact ixOf_at hi) (by rw [O.names]; exact ixOf_at hj) hij hx hy hp (by rw [sw_pair hk hx hy hxy hl ha hb, h1, h2]; rfl)) fun D σ H q => ?_
  obtain ⟨ι, S, env, r, R, en, ev, q⟩ := q
  simp only [evC] at ev
  split at ev <;> try cases ev
  rename_i ds S1 e1
  split at ev <;> cases ev
  rename_i env1 e2
  refine ⟨ι, S, env, ds, S1, R, en, e1, fun vs H1 ι1 R1 r1 x1 => ?_⟩
  match ds, e2, r1 with
  | [d1, d2], e2, .cons r1 (.cons r2 .nil) =>
    simp only [setAll, Option.some.injEq] at e2
    subst e2
    exact ⟨_, _, rfl, q _ H1 ι1 R1 (((en.keep (x1.keeps R)).set r1).set r2) x1⟩
  | [], e2, _ => simp [setAll] at e2
  | [_], e2, _ => simp [setAll] at e2
  | _ :: _ :: _ :: _, e2, _ => simp [setAll] at e2
theorem soundS : ∀ (n : Nat) {X : Cx} {sc : Scope} {st : Stmt} {c : C}, Ok X tb N Gd g F k → X.env.scope = sc → Tgt X sc → X.env.scope.kind = .function → PassesOwn (model X.prog X.w) X.A X.env X.xe → cS tb N n sc st = some c → PS X st (tS X.K Gd g F fuel c)
  | 0, _, _, _, _, _, _, _, _, _, h => by simp [cS] at h
  | n + 1, X, sc, st, c, O, hs, hT, hk, hp, h => by
    have ihs : ∀ (ss : List Stmt) (cs : List C), allO (ss.map (cS tb N n sc)) = some cs → PSs X ss (tSs X.K Gd g F fuel cs) := fun ss => by
      induction ss with
      | nil => intro cs h; have := allO_nil h; subst this; exact ss_nil
      | cons s ss ih =>
        intro cs h
        obtain ⟨z, zs, e1, e2, rfl⟩ := allO_cons h
        exact ss_cons (soundS n O hs hT hk hp e1) (ih zs e2)
    unfold cS at h
    split at h
    · -- an expression
      split at h <;> try cases h
      rename_i hn
      simp only [Option.map_eq_some_iff] at h
      obtain ⟨ie, e1, rfl⟩ := h
      exact ss_exp hn (soundE n O hs e1).val
    · -- a, b = x, y
      rename_i x px y py kk p a b k2 p2 pos
      split at h <;> try cases h
      rename_i hc
      simp only [Bool.and_eq_true, decide_eq_true_eq, Bool.not_eq_true'] at hc
      obtain ⟨⟨⟨⟨⟨hx, hy⟩, hxy⟩, hsa⟩, hsb⟩, hl⟩ := hc
      subst hs
      split at h
      · rename_i hf
        split at h <;> cases h
        rename_i i j e e1 e2 e3
        refine ss_asg rfl (by rw [sw_pair hk hx hy hxy hl hsa hsb, if_pos hf]) rfl (soundE n O rfl e3).val (gs_tup O (ts := [.nm i, .nm j]) rfl rfl (gs_cons rfl (gs_nm O hT (by unfold owned; rw [hx]) e1) (gs_cons rfl (gs_nm O hT (by unfold owned; rw [hy]) e2) gs_nil)))
      · rename_i hf
        split at h <;> try cases h
        rename_i hf2
        split at h <;> cases h
        rename_i i j e f e1 e2 e3 e4
        exact ss_par O hk hx hy hxy hl hsa hsb (by simpa using hf) (by simpa using hf2) e1 e2 (sa_cons hsa (soundE n O rfl e3).val (sa_cons hsb (soundE n O rfl e4).val sa_nil))
    · cases h
    · -- name = [..]
      rename_i x p elt tg it ifs scope pos spos
      split at h
      · rename_i hc
        simp only [Bool.and_eq_true, decide_eq_true_eq, Bool.not_eq_true'] at hc
        split at h <;> cases h
        rename_i i ie e1 e2
        exact ss_setLc O hs hc.1.1 hc.1.2 hc.2 e1 hk e2
      · split at h <;> try cases h
        rename_i hc2
        split at h <;> cases h
        rename_i i ie e1 e2
        exact ss_asgW (swL_cell (by rw [hs]; exact hc2)) rfl rfl (soundE n O hs e2).val (gs_nm O hT (by unfold owned; rw [hc2]) e1)
    · rename_i x p elt tg it tg1 it1 scope pos spos
      split at h
      · rename_i hc
        simp only [Bool.and_eq_true, decide_eq_true_eq, Bool.not_eq_true'] at hc
        split at h <;> cases h
        rename_i i ie e1 e2
        exact ss_setLc2 O hs hc.1.1 hc.1.2 hc.2 e1 hk e2
      · split at h <;> try cases h
        rename_i hc2
        split at h <;> cases h
        rename_i i ie e1 e2
        exact ss_asgW (swL_cell (by rw [hs]; exact hc2)) rfl rfl (soundE n O hs e2).val (gs_nm O hT (by unfold owned; rw [hc2]) e1)
    · rename_i x p kx vx tg it scope pos spos
      split at h
      · rename_i hc
        simp only [Bool.and_eq_true, decide_eq_true_eq, Bool.not_eq_true'] at hc
        split at h <;> cases h
        rename_i i ie e1 e2
        exact ss_setDc O hs hc.1.1 hc.1.2 hc.2 e1 hk e2
      · split at h <;> try cases h
        rename_i hc2
        split at h <;> cases h
        rename_i i ie e1 e2
        exact ss_asgW (swD_cell (by rw [hs]; exact hc2)) rfl rfl (soundE n O hs e2).val (gs_nm O hT (by unfold owned; rw [hc2]) e1)
    · -- name = e
      rename_i x p e pos hq1 hq2 hq3
      split at h <;> try cases h
      rename_i hn
      split at h <;> cases h
      rename_i e1 e2
      refine ss_asg hn ?_ rfl (soundE n O hs e2).val (soundT n O hT e1)
      cases e <;> rfl
    · -- a, b = e
      rename_i ts kk p e pos hne1 hne
      split at h <;> try cases h
      rename_i hn
      split at h <;> cases h
      rename_i e1 e2
      refine ss_asg hn ?_ rfl (soundE n O hs e2).val (soundT n O hT e1)
      cases e <;> first | rfl | exact absurd rfl (hne _ _ _)
    · split at h <;> try cases h
      rename_i hn
      simp only [Bool.and_eq_true] at hn
      split at h <;> cases h
      rename_i e1 e2 e3
      exact ss_sto O hn.1 hn.2 (soundE n O hs e1).val (soundE n O hs e2).val (soundE n O hs e3).val
    · simp only [Option.map_eq_some_iff] at h
      obtain ⟨ie, e1, rfl⟩ := h
      exact ss_ret (soundE n O hs e1).val
    · cases h
      exact ss_retN
    · split at h <;> cases h
      rename_i e1 e2 e3
      exact ss_ife (soundE n O hs e1).tst (ihs _ _ e2) (ihs _ _ e3)
    · -- for k, v in d.items()
      split at h <;> try cases h
      rename_i hc
      simp only [Bool.and_eq_true, decide_eq_true_eq] at hc
      obtain ⟨⟨hm, h0⟩, hl⟩ := hc
      subst hm
      split at h <;> cases h
      rename_i e1 e2 e3
      exact ss_forI O hp h0 hl (soundE n O hs e2).val (soundT n O hT e1) (ihs _ _ e3)
    · split at h <;> cases h
      rename_i e1 e2 e3
      exact ss_for O hp (fold_ok e2) ((soundE n O hs e2).wlk _) (soundT n O hT e1) (ihs _ _ e3)
    · split at h <;> cases h
      rename_i e1 e2
      exact ss_while hp (soundE n O hs e1).tst (ihs _ _ e2)
    · cases h; exact ss_pass
    · cases h; exact ss_dead
    · cases h; exact ss_brk
    · cases h; exact ss_cnt
    · cases h
end
end CV

set_option Elab.async false
set_option linter.all false
set_option maxRecDepth 100000
set_option maxHeartbeats 8000000
/-! CvL: defs, modules. -/
namespace CV
open PySem PySem.Spec PyProof.Rows L2

section
variable {K : PySem.W.Frag} {Gd : Str → Addr → Prop} {H : Hp} {ι : Loc}
theorem REnv.start {N : List Str} {ds : List D} {vs : List V} (r : RDs K Gd H ι ds vs) : REnv K Gd H ι (L2.start N vs) (ds.map some ++ List.replicate (N.length - ds.length) none) := by
  have hl := r.length
  refine ⟨by simp [L2.start, hl], fun i d h => ?_⟩
  by_cases c : i < ds.length
  · rw [List.getElem?_append_left (by simpa using c), List.getElem?_map] at h
    cases e : ds[i]? with
    | none => rw [e] at h; cases h
    | some d1 =>
      rw [e] at h
      cases h
      obtain ⟨v, hv, rv⟩ := r.get e
      refine ⟨v, ?_, rv⟩
      unfold L2.start
      rw [List.getElem?_append_left (by simp; omega), List.getElem?_map, hv]
      rfl
  · rw [List.getElem?_append_right (by simpa using Nat.le_of_not_lt c)] at h
    simp [List.getElem?_replicate] at h
end

/-- a def of the module, compiled -/
structure DefAt (K : PySem.W.Frag) (mg : Str → Option Value) (tb : Tb) (f : Fn) : Prop where
  ex : ∃ (st : Stmt) (fa : Addr) (fd : FuncData), FunD K f.nm f.nm (L2.defArgs st) (L2.defBody st) (L2.defScope st) [] [] fa fd ∧ mg f.nm = some (.ref fa) ∧ FnScope f.N f.ps (L2.defScope st) ∧ Binds K fd f.ps [] ∧ cF tb f.nm f.ps f.N st = some f
/-- the module -/
structure Mod (w : World) (K : PySem.W.Frag) (mg : Str → Option Value) (Gd : Str → Addr → Prop) (tb : Tb) (g : Cst) (fs : List Fn) : Prop where
  G : GdOk K w Gd g
  cst : ∀ x d, tb.cst.lookup x = some d → ∃ u v, mg x = some u ∧ RelV v u ∧ ∀ H ι, RD K Gd H ι d v
  gds : ∀ x ∈ tb.gds, ∃ a, mg x = some (.ref a) ∧ Gd x a
  blt : ∀ x ∈ bltNames, mg x = none
  dfs : ∀ f ∈ fs, DefAt K mg tb f
  fnd : ∀ f ∈ fs, fs.find? (fun h => decide (h.nm = f.nm)) = some f
  fns : ∀ x ∈ tb.fns, ∃ f ∈ fs, f.nm = x

theorem callN_len {g : Cst} {fs : List Fn} {fuel k : Nat} {x : Str} {f : Fn} {ds : List D} {S : Sto} {r : D × Sto} (hf : fs.find? (fun h => decide (h.nm = x)) = some f) (h : callN g fs fuel k x ds S = some r) : ds.length = f.ps.length := by
  cases k with
  | zero => simp [callN] at h
  | succ k =>
    unfold callN at h
    rw [hf] at h
    simp only [callFn] at h
    split at h
    · assumption
    · cases h

section
variable {P : Program} {w : World} {K : PySem.W.Frag} {mg : Str → Option Value} {base : Heap} {Gd : Str → Addr → Prop} {tb : Tb} {g : Cst} {fs : List Fn} {fuel : Nat}
theorem soundCs {X : Cx} {tb : Tb} {N : List Str} {F : FT} {k n : Nat} {sc : Scope} (O : Ok X tb N Gd g F k) (hs : X.env.scope = sc) (hT : Tgt X sc) (hk : X.env.scope.kind = .function) (hp : PassesOwn (model X.prog X.w) X.A X.env X.xe) :
    ∀ {ss : List Stmt} {cs : List C}, allO (ss.map (cS tb N n sc)) = some cs → PSs X ss (tSs X.K Gd g F fuel cs) := by
  intro ss
  induction ss with
  | nil => intro cs h; have := allO_nil h; subst this; exact ss_nil
  | cons s ss ih =>
    intro cs h
    obtain ⟨z, zs, e1, e2, rfl⟩ := allO_cons h
    exact ss_cons (soundS n O hs hT hk hp e1) (ih e2)

theorem fun_at {K : PySem.W.Frag} {x qual : Str} {params : Arguments} {body : List Stmt} {scope : Scope} {dvs : List V} {kws : List (Str × V)} {f : Addr} {fd : FuncData} (F : FunD K x qual params body scope dvs kws f fd) : ∃ oc od osl, K.lookup f = some ⟨oc, od, .func fd, osl⟩ := by
  obtain ⟨oc, od, dV, kV, doc, pm, an, cdv, ct, osl, rfl, lk, _⟩ := F.ex
  exact ⟨oc, od, osl, lk⟩
theorem Mod.ok (M : Mod w K mg Gd tb g fs) : ∀ (k : Nat) (f : Fn), f ∈ fs → ∃ (fa : Addr) (fd : FuncData), CVN.FnG P w K mg base CX0 k fa fd f.ps (spF K Gd (callN g fs fuel k) f.nm f.ps.length) ∧ mg f.nm = some (.ref fa) ∧ PySem.W.keepIn K (.ref fa) = true ∧ Binds K fd f.ps [] ∧ ∃ oc od osl, K.lookup fa = some ⟨oc, od, .func fd, osl⟩
  | 0, f, hf => by
    obtain ⟨st, fa, fd, hF, hm, hS, hB, hc⟩ := (M.dfs f hf).ex
    refine ⟨fa, fd, ⟨fun vs H Q E h => ?_, fun A _ outer s H args us vs Q E _ _ _ _ h => ?_⟩, hm, hF.kp, hB, fun_at hF⟩
    · obtain ⟨ι, S, ds, r, _, _, _, e, _⟩ := h
      simp [callN] at e
    · obtain ⟨ι, S, ds, r, _, _, _, e, _⟩ := h
      simp [callN] at e
  | k + 1, f, hf => by
    obtain ⟨st, fa, fd, hF, hm, hS, hB, hc⟩ := (M.dfs f hf).ex
    refine ⟨fa, fd, ?_, hm, hF.kp, hB, fun_at hF⟩
    refine CVN.fnG_of hF hS (fun vs H Q E h => ?_) (fun cdv A outer s H vs Q E hgu hr h => ?_)
    · obtain ⟨ι, S, ds, r, _, hr, hl, _, _⟩ := h
      rw [← hr.length, hl]
    · simp only [cF, Option.map_eq_some_iff] at hc
      obtain ⟨b, hb, eb⟩ := hc
      have eb' : f.body = b := by rw [← eb]
      subst eb'
      have O : Ok (cxOf CX0 P w K mg base f.N f.nm (L2.defScope st) fa cdv A outer s H E).nox tb f.N Gd g (callN g fs fuel k) k :=
        { names := rfl, nd := hS.nd, calm := rfl, room := hr, gu := CVN.guards_deeper hgu, G := M.G, cst := M.cst, gds := M.gds, blt := M.blt
          fns := fun x hx => by
            obtain ⟨f', hf', rfl⟩ := M.fns x hx
            obtain ⟨fa', fd', h1, h2, h3, h4, _⟩ := Mod.ok M k f' hf'
            exact ⟨fa', fd', f'.ps, h1, h2, h3, h4, fun ds S r e => callN_len (M.fnd f' hf') e⟩ }
      have hT : Tgt (cxOf CX0 P w K mg base f.N f.nm (L2.defScope st) fa cdv A outer s H E).nox (L2.defScope st) := fun x hx => by
        unfold owned at hx
        refine ⟨?_, .inl rfl⟩
        show (L2.defScope st).names.lookup x = some .local ∨ (L2.defScope st).names.lookup x = some .cell
        split at hx
        · exact .inl ‹_›
        · exact .inr ‹_›
        · cases hx
      refine ⟨_, PSs.nox (soundCs (fuel := fuel) O rfl hT hS.kind PassesOwn.never hb), ?_⟩
      obtain ⟨ι, S, ds, r, R, hr, hl, ev, hQ⟩ := h
      unfold callN at ev
      rw [M.fnd f hf] at ev
      simp only [callFn] at ev
      rw [if_pos hl] at ev
      split at ev <;> cases ev
      · rename_i d env S1 ev
        refine ⟨ι, S, _, _, R, REnv.start hr, ev, fun v H' ι' R' r' x' => ?_⟩
        exact (Post.gc (r := (d, S1)) R hQ) v H' ι' R' r' x'
      · rename_i env S1 ev
        refine ⟨ι, S, _, _, R, REnv.start hr, ev, fun σ' H' ι' R' en' x' => ?_⟩
        exact (Post.gc (r := (.non, S1)) R hQ) .non H' ι' R' .non x'
end
end CV

set_option Elab.async false
set_option linter.all false
set_option maxRecDepth 100000
set_option maxHeartbeats 8000000
/-! CvM: the module behind its top, the law's end. -/
namespace CV
open PySem PySem.Spec PyProof.Rows L2

/-! ### constants -/
def dvOf : D → He.Dv
  | .bl b => .bl b
  | .int i => .int i
  | .str s => .str s
  | _ => .non
def scOk : D → Bool
  | .non => true
  | .bl _ => true
  | .int _ => true
  | .str s => strGood s
  | _ => false
theorem rd_dv {K : PySem.W.Frag} {Gd : Str → Addr → Prop} {H : Hp} {ι : Loc} {d : D} (h : scOk d = true) : RD K Gd H ι d ((dvOf d).v K) := by
  cases d with
  | non => exact .non
  | bl b => exact .bl b
  | int i => exact .int i
  | str s => exact .str h
  | _ => cases h
theorem rds_dv {K : PySem.W.Frag} {Gd : Str → Addr → Prop} {H : Hp} {ι : Loc} : ∀ {ds : List D}, ds.all scOk = true → RDs K Gd H ι ds (ds.map fun d => (dvOf d).v K)
  | [], _ => .nil
  | d :: ds, h => by
    simp only [List.all_cons, Bool.and_eq_true] at h
    exact .cons (rd_dv h.1) (rds_dv h.2)
def cstB (K : PySem.W.Frag) (q : Str × D) : Bool := match q.2 with
  | .tup ds => ds.all scOk && (He.Fa.ok K (.glo q.1) && He.tupB K q.1 (ds.map dvOf))
  | d => scOk d && (match PySem.W.nsIn K mainGlobals q.1 with
    | some (some u) => He.relB ((dvOf d).v K) u
    | _ => false)
theorem cst_ok {K : PySem.W.Frag} {Gd : Str → Addr → Prop} {h : Heap} {mg : Str → Option Value} (X : K.In h) (G : h.Ns mainGlobals mg) {q : Str × D} (c : cstB K q = true) : ∃ u v, mg q.1 = some u ∧ RelV v u ∧ ∀ H ι, RD K Gd H ι q.2 v := by
  obtain ⟨x, d⟩ := q
  have sc : ∀ d : D, (scOk d && (match PySem.W.nsIn K mainGlobals x with
      | some (some u) => He.relB ((dvOf d).v K) u
      | _ => false)) = true → ∃ u v, mg x = some u ∧ RelV v u ∧ ∀ H ι, RD K Gd H ι d v := fun d c => by
    obtain ⟨c1, c2⟩ := He.ba c
    cases e : PySem.W.nsIn K mainGlobals x with
    | none => rw [e] at c2; cases c2
    | some r =>
      rw [e] at c2
      cases r with
      | none => cases c2
      | some u => exact ⟨u, _, PySem.W.mg_of X G e, He.relB_ok c2, fun H ι => rd_dv c1⟩
  cases d with
  | tup ds =>
    obtain ⟨c1, c2⟩ := He.ba (show (ds.all scOk && (He.Fa.ok K (.glo x) && He.tupB K x (ds.map dvOf))) = true from c)
    obtain ⟨c3, c4⟩ := He.ba c2
    refine ⟨_, .ref (He.ga K x), He.glo_ok X G c3, rfl, fun H ι => ?_⟩
    have h1 := He.tupB_ok c4 H
    rw [List.map_map] at h1
    exact .tup h1 (rds_dv c1)
  | non => exact sc _ c
  | bl b => exact sc _ c
  | int i => exact sc _ c
  | str s => exact sc _ c
  | loc k n => cases c
  | scr ns => cases c
  | gd y => cases c

/-! ### constant dicts -/
def GdD (K : PySem.W.Frag) (xs : List Str) (x : Str) (a : Addr) : Prop := x ∈ xs ∧ a = He.ga K x
def keyS (kvs : List (L2.Key × D)) : List Str := kvs.map fun kv => match kv.1 with
  | .inr z => z
  | .inl _ => Str.empty
def kvD (kvs : List (L2.Key × D)) : List (Str × He.Dv) := kvs.map fun kv => (match kv.1 with
  | .inr z => z
  | .inl _ => Str.empty, dvOf kv.2)
def gdB (K : PySem.W.Frag) (q : Str × List (L2.Key × D)) : Bool := He.Fa.ok K (.glo q.1) && ((q.2.all fun kv => scOk kv.2 && (match kv.1 with
  | .inr _ => true
  | .inl _ => false)) && He.valsB K (He.ga K q.1) (kvD q.2))
theorem find_none {P : Params} {z : Str} : ∀ {es : List DictEntry} {ks : List Str}, es.map He.keyOf = He.keysIn P ks → z ∉ ks → es.find? (·.key.isStr z) = none ∧ es.any (·.refKey) = false
  | [], _, _, _ => ⟨rfl, rfl⟩
  | e :: es, [], h, _ => by cases h
  | e :: es, k :: ks, h, hz => by
    have h1 : He.keyOf e :: es.map He.keyOf = some (k, PyData.keyHash P k) :: He.keysIn P ks := h
    injection h1 with h2 h3
    obtain ⟨i1, i2⟩ := find_none h3 (fun q => hz (List.mem_cons_of_mem _ q))
    unfold He.keyOf at h2
    split at h2
    · rename_i x t q
      have h4 := Option.some.inj h2
      obtain ⟨h5, h6⟩ := Prod.mk.inj h4
      have hx : x ≠ z := fun e => hz (by rw [← e, h5]; exact List.mem_cons_self)
      refine ⟨?_, ?_⟩
      · rw [List.find?_cons]
        have : e.key.isStr z = false := by
          rw [q]
          show (decide (x = z)) = false
          exact decide_eq_false hx
        rw [this]
        exact i1
      · rw [List.any_cons, i2]
        have : e.refKey = false := by
          unfold DictEntry.refKey
          rw [q]
        rw [this]
        rfl
    · cases h2
theorem dic_miss {K : PySem.W.Frag} {P : Params} {a : Addr} {ks : List Str} {z : Str} (h : He.dicW K a = some (He.keysIn P ks)) (hz : z ∉ ks) : PySem.W.nsIn K a z = some none := by
  unfold He.dicW at h
  cases q : K.lookup a with
  | none => rw [q] at h; cases h
  | some o =>
    obtain ⟨oc, od, dt, osl⟩ := o
    rw [q] at h
    cases oc with
    | type c =>
      cases od with
      | none =>
        cases dt with
        | dict es n =>
          have h1 : (match decide (c = "dict") && (osl.isEmpty && !(a == sysModules)) with
            | true => some (es.toList.map He.keyOf)
            | false => none) = some (He.keysIn P ks) := h
          cases z2 : decide (c = "dict") && (osl.isEmpty && !(a == sysModules)) with
          | false => rw [z2] at h1; cases h1
          | true =>
            rw [z2] at h1
            obtain ⟨f1, f2⟩ := find_none (Option.some.inj h1) hz
            unfold PySem.W.nsIn
            rw [q]
            simp only [f1, f2]
            rfl
        | _ => cases h
      | some b => cases dt <;> cases h
    | _ => cases od <;> cases dt <;> cases h
theorem valD_mem {kvs : List (L2.Key × D)} {k : L2.Key} {d : D} (h : valD kvs k = some d) : (k, d) ∈ kvs := by
  unfold valD at h
  obtain ⟨p, h1, h2⟩ := Option.map_eq_some_iff.mp h
  have h3 := List.find?_some h1
  have h4 := List.mem_of_find?_eq_some h1
  obtain ⟨l, e⟩ := p
  have : l = k := of_decide_eq_true h3
  subst this
  cases h2
  exact h4
theorem valD_none {kvs : List (L2.Key × D)} {z : Str} (h : valD kvs (.inr z) = none) (hk : ∀ kv ∈ kvs, ∃ y, kv.1 = .inr y) : z ∉ keyS kvs := by
  intro hz
  unfold keyS at hz
  obtain ⟨kv, h1, h2⟩ := List.mem_map.mp hz
  obtain ⟨y, hy⟩ := hk kv h1
  rw [hy] at h2
  have h2' : y = z := h2
  subst h2'
  unfold valD at h
  rw [Option.map_eq_none_iff, List.find?_eq_none] at h
  exact h kv h1 (decide_eq_true hy)
theorem gd_ok {K : PySem.W.Frag} {w : World} {fa : List He.Fa} {fn : List He.DefD} {g : Cst} {ts : List He.Tab} (c : He.SaysT fa fn ts w K) (hts : ts = g.gds.map fun q => ((fun K => He.ga K q.1), keyS q.2)) (hB : g.gds.all (gdB K) = true) (hN : (g.gds.map (·.1)).Nodup) :
    GdOk K w (GdD K (g.gds.map (·.1))) g := by
  refine ⟨fun x a ⟨hx, ha⟩ => ?_⟩
  subst ha
  obtain ⟨q, hq, rfl⟩ := List.mem_map.mp hx
  obtain ⟨i, hi, hiq⟩ := List.mem_iff_getElem.mp hq
  have ht : ts[i]? = some ((fun K => He.ga K q.1), keyS q.2) := by
    rw [hts, List.getElem?_map, List.getElem?_eq_getElem hi, hiq]
    rfl
  obtain ⟨es, n, hk⟩ := c.tab i ht
  have hd : He.dicW K (He.ga K q.1) = some (He.keysIn w.params (keyS q.2)) := by
    have e : ts.map (fun t => He.dicW K (t.1 K)) = ts.map fun t => some (He.keysIn w.params t.2) := congrArg (fun z : He.AlT => z.2) c
    have e2 : (ts.map fun t => He.dicW K (t.1 K))[i]? = (ts.map fun t => some (He.keysIn w.params t.2))[i]? := by rw [e]
    rw [List.getElem?_map, List.getElem?_map, ht] at e2
    exact Option.some.inj e2
  have hb := List.all_eq_true.mp hB q hq
  obtain ⟨b1, b2⟩ := He.ba hb
  obtain ⟨b3, b4⟩ := He.ba b2
  refine ⟨es, n, hk, fun kvs hl z => ?_⟩
  have hkv : kvs = q.2 := by
    have aux : ∀ {l : List (Str × List (L2.Key × D))}, (l.map (·.1)).Nodup → q ∈ l → l.lookup q.1 = some q.2 := fun {l} => by
      induction l with
      | nil => intro _ h; cases h
      | cons p l ih =>
        intro hn hm
        rw [List.map_cons, List.nodup_cons] at hn
        rcases List.mem_cons.mp hm with e | e
        · subst e
          simp [List.lookup]
        · have : ¬ q.1 = p.1 := fun z => hn.1 (by rw [← z]; exact List.mem_map.mpr ⟨q, e, rfl⟩)
          have h2 : (q.1 == p.1) = false := by simp [this]
          simp only [List.lookup, h2]
          exact ih hn.2 e
    have := aux hN hq
    rw [this] at hl
    exact (Option.some.inj hl).symm
  subst hkv
  have hks : ∀ kv ∈ q.2, scOk kv.2 = true ∧ ∃ y, kv.1 = .inr y := fun kv hm => by
    have := List.all_eq_true.mp b3 kv hm
    obtain ⟨a1, a2⟩ := He.ba this
    refine ⟨a1, ?_⟩
    cases e : kv.1 with
    | inl i => rw [e] at a2; cases a2
    | inr y => exact ⟨y, rfl⟩
  cases e : valD q.2 (.inr z) with
  | none => exact ⟨none, dic_miss hd (valD_none e fun kv hm => (hks kv hm).2), .inl ⟨rfl, rfl⟩⟩
  | some d =>
    have hm := valD_mem e
    have hm2 : (z, dvOf d) ∈ kvD q.2 := List.mem_map.mpr ⟨(.inr z, d), hm, rfl⟩
    obtain ⟨u, h1, h2⟩ := He.valsB_ok b4 hm2
    exact ⟨some u, h1, .inr ⟨d, _, u, rfl, rfl, h2, fun H ι => rd_dv (hks _ hm).1⟩⟩

/-! ### defs -/
def scopeB (N ps : List Str) (sc : Scope) : Bool :=
  decide (sc.kind = .function) && (!sc.isCoroutine && (!sc.isGenerator && (decide N.Nodup && (decide (N.take ps.length = ps) && ((ps.all fun x => decide (sc.names.lookup x = some .local) || decide (sc.names.lookup x = some .cell)) && sc.names.all fun y => !decide (y.2 = .free))))))
theorem scope_ok {N ps : List Str} {sc : Scope} (h : scopeB N ps sc = true) : FnScope N ps sc := by
  unfold scopeB at h
  simp only [Bool.and_eq_true, decide_eq_true_eq, Bool.not_eq_true', Bool.or_eq_true, List.all_eq_true, decide_eq_false_iff_not] at h
  obtain ⟨h1, h2, h3, h4, h5, h6, h7⟩ := h
  exact ⟨h1, h2, h3, h4, h5, h6, h7⟩
/-- a def as it stands in the text -/
structure Dd where
  st : Stmt
  f : Fn
def Dd.d (x : Dd) : He.DefD := ⟨(x.f.nm, none), x.f.nm, x.f.nm, L2.defArgs x.st, L2.defBody x.st, L2.defScope x.st, [], []⟩
def Dd.bnd (x : Dd) : Prop := ∀ (kV doc pm : Value) (an : Option Addr) (cdv ct : Value) (us : List Value), us.length = x.f.ps.length →
  bindArgs (PySem.W.fnOf x.f.nm x.f.nm (L2.defArgs x.st) (L2.defBody x.st) (L2.defScope x.st) .none kV doc pm an cdv ct) ⟨us, []⟩ = pure (x.f.ps.zip us)
structure Dd.Ok (tb : Tb) (x : Dd) : Prop where
  c : cF tb x.f.nm x.f.ps x.f.N x.st = some x.f
  sc : scopeB x.f.N x.f.ps (L2.defScope x.st) = true
  b : x.bnd
def fas (dds : List Dd) : List He.Fa := (dds.map fun d => He.Fa.glo d.f.nm) ++ bltNames.map He.Fa.free
def tabs (g : Cst) : List He.Tab := g.gds.map fun q => ((fun K => He.ga K q.1), keyS q.2)
def modB (tb : Tb) (g : Cst) (K : PySem.W.Frag) : Bool := tb.cst.all (cstB K) && g.gds.all (gdB K)
def staB (tb : Tb) (g : Cst) (fs : List Fn) : Bool := decide ((g.gds.map (·.1)).Nodup) && (decide (tb.gds = g.gds.map (·.1)) && ((fs.all fun f => match fs.find? (fun h => decide (h.nm = f.nm)) with
  | some f' => decide (f'.body.length = f.body.length) | none => false) && true))
theorem lookup_mem {x : Str} {d : D} : ∀ {l : List (Str × D)}, l.lookup x = some d → (x, d) ∈ l
  | [], h => by cases h
  | (y, e) :: r, h => by
    have h2 : (match x == y with | true => some e | false => r.lookup x) = some d := h
    cases q : (x == y) with
    | true =>
      rw [q] at h2
      have : x = y := beq_iff_eq.mp q
      subst this
      cases h2
      exact List.mem_cons_self
    | false =>
      rw [q] at h2
      exact List.mem_cons_of_mem _ (lookup_mem h2)
theorem find_self : ∀ {fs : List Fn}, (fs.map (·.nm)).Nodup → ∀ f ∈ fs, fs.find? (fun h => decide (h.nm = f.nm)) = some f
  | [], _, _, h => by cases h
  | f0 :: fs, hn, f, h => by
    rw [List.map_cons, List.nodup_cons] at hn
    rcases List.mem_cons.mp h with e | e
    · subst e
      rw [List.find?_cons]
      simp
    · have : ¬ f0.nm = f.nm := fun z => hn.1 (by rw [z]; exact List.mem_map.mpr ⟨f, e, rfl⟩)
      rw [List.find?_cons, decide_eq_false this]
      exact find_self hn.2 f e

section
variable {w : World} {K : PySem.W.Frag} {h : Heap} {mg : Str → Option Value} {tb : Tb} {g : Cst} {dds : List Dd}
theorem mod_of (X : K.In h) (G : h.Ns mainGlobals mg) {h' : Heap} (c : He.SaysX (fas dds) (dds.map Dd.d) (tabs g) [] (modB tb g) w h' K) (hd : ∀ x ∈ dds, x.Ok tb) (hn : ((dds.map (·.f)).map (·.nm)).Nodup) (hf : tb.fns = (dds.map (·.f)).map (·.nm))
    (hg : (g.gds.map (·.1)).Nodup) (hg2 : tb.gds = g.gds.map (·.1)) : Mod w K mg (GdD K (g.gds.map (·.1))) tb g (dds.map (·.f)) := by
  obtain ⟨m1, m2⟩ := He.ba (show (tb.cst.all (cstB K) && g.gds.all (gdB K)) = true from c.more)
  refine { G := gd_ok c.t rfl m2 hg, cst := fun x d e => ?_, gds := fun x hx => ?_, blt := fun x hx => ?_, dfs := fun f hf => ?_, fnd := find_self hn, fns := fun x hx => ?_ }
  · exact cst_ok X G (List.all_eq_true.mp m1 _ (lookup_mem e))
  · rw [hg2] at hx
    obtain ⟨q, hq, rfl⟩ := List.mem_map.mp hx
    obtain ⟨b1, _⟩ := He.ba (show gdB K q = true from List.all_eq_true.mp m2 q hq)
    exact ⟨_, He.glo_ok X G b1, List.mem_map.mpr ⟨q, hq, rfl⟩, rfl⟩
  · exact He.free_ok X G (c.t.d.facts (f := .free x) (List.mem_append_right _ (List.mem_map.mpr ⟨x, hx, rfl⟩)))
  · obtain ⟨dd, h1, rfl⟩ := List.mem_map.mp hf
    obtain ⟨fd, F⟩ := c.t.d.defs (d := dd.d) (List.mem_map.mpr ⟨dd, h1, rfl⟩)
    have F' : FunD K dd.f.nm dd.f.nm (L2.defArgs dd.st) (L2.defBody dd.st) (L2.defScope dd.st) [] [] (He.fAd K (dd.f.nm, none)) fd := F
    have gl := He.glo_ok X G (c.t.d.facts (f := .glo dd.f.nm) (List.mem_append_left _ (List.mem_map.mpr ⟨dd, h1, rfl⟩)))
    exact ⟨dd.st, _, fd, F', gl, scope_ok (hd dd h1).sc, F'.bindsN (hd dd h1).b, (hd dd h1).c⟩
  · rw [hf] at hx
    obtain ⟨f, h1, h2⟩ := List.mem_map.mp hx
    exact ⟨f, h1, h2⟩
end

theorem sqF_of {K : PySem.W.Frag} {H : Hp} {a : Addr} {vs : List V} (hO : Only H) (hS : SqL K H a vs) : SqF K H a vs := by
  rcases hS with h | h
  · left
    rcases h with h | ⟨o, h⟩
    · rcases hO a with q | ⟨o, xs, q⟩
      · rw [q] at h; cases h
      · rw [q] at h; cases h
    · exact ⟨o, h⟩
  · exact .inr h
/-- the law's end: what the evaluator tells of every script is told of the law -/
theorem law_of {l : PySem.W.OpenLaw} {q : Program} {loose : List Str} {XP : (Str → Option Value) → Heap → Prop} {d : DefRec} {tb : Tb} {g : Cst} {dds : List Dd} {dl : Dd} {k fuel n : Nat}
    (hn1 : l.most = some 63) (hr : Room n callerA) (hdf : d.params.defaults = []) (hname : d.name = dl.f.nm) (hps : dl.f.ps = [("script" : Str)]) (hmem : dl ∈ dds) (hd : ∀ x ∈ dds, x.Ok tb) (hn : ((dds.map (·.f)).map (·.nm)).Nodup) (hf : tb.fns = (dds.map (·.f)).map (·.nm))
    (hg : (g.gds.map (·.1)).Nodup) (hg2 : tb.gds = g.gds.map (·.1))
    (hlaw : ∀ ns : List Int, ns.length ≤ 63 → ∃ S, callN g (dds.map (·.f)) fuel n dl.f.nm [.scr ns] [] = some (.bl true, S)) :
    PySem.W.WalkO q loose XP (He.hookX k (fas dds) (dds.map Dd.d) (tabs g) [] (modB tb g)).says l.row.toRowW d [] (fun f vs => PySem.call f vs) := by
  refine CVN.walk_ofG (n := 63) (k := n) (x := "script") (CX := L2.CX0) hn1 (by decide) hdf hr ?_ (fun _ _ _ _ z => z)
  intro w mg fa h Y G hmg0
  obtain ⟨K, KX, c⟩ := Y
  have M := mod_of KX G c hd hn hf hg hg2
  have hmg : mg dl.f.nm = some (.ref fa) := by rw [← hname]; exact hmg0
  have hl : dl.f ∈ dds.map (·.f) := List.mem_map.mpr ⟨dl, hmem, rfl⟩
  obtain ⟨fd0, F0⟩ := c.t.d.defs (d := dl.d) (List.mem_map.mpr ⟨dl, hmem, rfl⟩)
  have F' : FunD K dl.f.nm dl.f.nm (L2.defArgs dl.st) (L2.defBody dl.st) (L2.defScope dl.st) [] [] (He.fAd K (dl.f.nm, none)) fd0 := F0
  have b := FunD.bindsA (ps := dl.f.ps) F' (hd dl hmem).b
  have gl := He.glo_ok KX G (c.t.d.facts (f := .glo dl.f.nm) (List.mem_append_left _ (List.mem_map.mpr ⟨dl, hmem, rfl⟩)))
  have ea : fa = He.fAd K (dl.f.nm, none) := by
    rw [hmg] at gl
    cases gl
    rfl
  have F0' : FunD K dl.f.nm dl.f.nm (L2.defArgs dl.st) (L2.defBody dl.st) (L2.defScope dl.st) [] [] fa fd0 := by rw [ea]; exact F0
  refine ⟨K, fd0, spF K (GdD K (g.gds.map (·.1))) (callN g (dds.map (·.f)) fuel n) dl.f.nm dl.f.ps.length, KX, ?_, ?_, ?_⟩
  · intro s u
    have := b s [u] (by rw [hps]; rfl)
    rw [hps] at this
    exact this
  · intro H a ns hlen hO hS
    obtain ⟨S, hev⟩ := hlaw ns hlen
    refine ⟨[], [], [.scr ns], (.bl true, S), ⟨rfl, List.nodup_nil, fun i o e => by simp at e⟩, .cons (.scr ?_) .nil, by rw [hps]; rfl, hev, fun v H' ι' R r x => ?_⟩
    · exact sqF_of hO hS
    · cases r
      rfl
  · intro base KB GB
    have M' := mod_of KB GB c hd hn hf hg hg2
    obtain ⟨fa2, fd2, hF2, hmg2, _, _, oc, od, osl, lk⟩ := Mod.ok (P := l.prog) (base := base) (fuel := fuel) M' n dl.f hl
    rw [hmg] at hmg2
    cases hmg2
    obtain ⟨oc0, od0, osl0, lk0⟩ := fun_at F0'
    rw [lk] at lk0
    cases lk0
    rw [hps] at hF2 ⊢
    exact hF2
end CV

set_option Elab.async false
set_option linter.all false
set_option maxRecDepth 100000
/-! CvSg: a run of the kernel's evaluator, piece by piece. -/
namespace CV
open PySem
section
variable {g : Cst} {F : FT} {fuel : Nat}
theorem sg_nx {c : C} {cs : List C} {env env1 : Env} {S S1 : Sto} {r : Option (Fl × Env × Sto)} (h : kC g F fuel c env S = some (.nx, env1, S1)) (q : evCs g F fuel cs env1 S1 = r) : evCs g F fuel (c :: cs) env S = r := by
  rw [kC_eq] at h
  simp only [evCs, h]
  exact q
theorem sg_end {cs : List C} {env : Env} {S : Sto} {r : Option (Fl × Env × Sto)} (h : kCs g F fuel cs env S = r) : evCs g F fuel cs env S = r := by
  rw [← kCs_eq]
  exact h
theorem sg_for {t : T} {it : E} {body cs : List C} {env : Env} {S S1 : Sto} {w : Wk} {env1 : Env} {S2 : Sto} {r : Option (Fl × Env × Sto)} (h : (kA g F it).2.2 env S = some (w, S1)) (q : forLoop (evCs g F fuel body) t w w.items env S1 = some (.nx, env1, S2)) (q2 : evCs g F fuel cs env1 S2 = r) : evCs g F fuel (.for_ t it body :: cs) env S = r := by
  have h : evW g F it env S = some (w, S1) := by rw [kA_eq] at h; exact h
  simp only [evCs, evC, h, q]
  exact q2
noncomputable def stepL (body : Env → Sto → Option (Fl × Env × Sto)) (t : T) (w : Wk) (x : D) (env : Env) (S : Sto) : Option (Env × Sto) := match w.ok S with
  | true => match asg t x env S with
    | some env1 => match body env1 S with
      | some (.nx, env2, S2) => some (env2, S2)
      | some (.ct, env2, S2) => some (env2, S2)
      | _ => none
    | none => none
  | false => none
theorem sg_step {body : List C} {t : T} {w : Wk} {x : D} {xs : List D} {env env1 : Env} {S S1 : Sto} {r : Option (Fl × Env × Sto)} (h : stepL (kCs g F fuel body) t w x env S = some (env1, S1)) (q : forLoop (evCs g F fuel body) t w xs env1 S1 = r) : forLoop (evCs g F fuel body) t w (x :: xs) env S = r := by
  unfold stepL at h
  rw [kCs_eq] at h
  unfold forLoop
  split at h <;> try cases h
  rename_i hok
  rw [if_pos hok]
  split at h <;> try cases h
  rename_i e1
  split at h <;> cases h
  · rename_i e2
    simp only [e1, e2]
    exact q
  · rename_i e2
    simp only [e1, e2]
    exact q
theorem sg_done {body : List C} {t : T} {w : Wk} {env : Env} {S : Sto} (h : w.ok S = true) : forLoop (evCs g F fuel body) t w [] env S = some (.nx, env, S) := by
  unfold forLoop
  rw [if_pos h]
theorem sg_call {fs : List Fn} {f : Fn} {n : Nat} {ds : List D} {S S1 : Sto} {env : Env} {d : D} (hf : findK f.nm.cps.toList fs = some f) (hl : ds.length = f.ps.length) (q : evCs g (callN g fs fuel n) fuel f.body (ds.map some ++ List.replicate (f.N.length - ds.length) none) S = some (.rt d, env, S1)) : callN g fs fuel (n + 1) f.nm ds S = some (gc S (d, S1)) := by
  unfold callN
  rw [← findK_eq, hf]
  simp only [callFn, if_pos hl, q]
end
end CV

set_option Elab.async false
set_option linter.all false
set_option maxRecDepth 100000
set_option maxHeartbeats 0
namespace CV.k44
open PySem CV
def top (i : Nat) : Stmt := PySem.Challenge.pw_cellvouch_k44_known_orders.main.body.getD i (.Pass ⟨0, 0, 0, 0⟩)
def tb : Tb := { fns := [Str.ofString "inner_of", Str.ofString "numbered", Str.ofString "called_by", Str.ofString "called_work", Str.ofString "inner_rows", Str.ofString "numbered_rows", Str.ofString "calls_of", Str.ofString "works_in", Str.ofString "chains_of", Str.ofString "chains_within", Str.ofString "without_rounds", Str.ofString "steps_of", Str.ofString "ring_from", Str.ofString "may_take", Str.ofString "order_or_ring", Str.ofString "_law_work", Str.ofString "_law_hold", Str.ofString "_law_rows", Str.ofString "_law_rings", Str.ofString "law"], cst := [], gds := [] }
def g : Cst := { gds := [] }
def f_inner_of : Fn := { nm := (sx [105,110,110,101,114,95,111,102]), ps := [Str.ofString "row"], N := [Str.ofString "row"], body := [(.ife (.cmp .eq (.ix (.var 0) (.cst (.int 0))) (.cst (.str (sx [104,111,108,100])))) [(.ret (.lst [(.ix (.var 0) (.cst (.int 2)))]))] []), (.ife (.cmp .eq (.ix (.var 0) (.cst (.int 0))) (.cst (.str (sx [105,102])))) [(.ret (.lst [(.ix (.var 0) (.cst (.int 4))), (.ix (.var 0) (.cst (.int 5)))]))] []), (.ret (.ife (.cmp .eq (.ix (.var 0) (.cst (.int 0))) (.cst (.str (sx [119,104,105,108,101])))) (.lst [(.ix (.var 0) (.cst (.int 6)))]) (.lst [])))] }
def f_numbered : Fn := { nm := (sx [110,117,109,98,101,114,101,100]), ps := [Str.ofString "rows", Str.ofString "first"], N := [Str.ofString "rows", Str.ofString "first", Str.ofString "found", Str.ofString "row", Str.ofString "inner"], body := [(.asg (.nm 2) (.lst [])), (.for_ (.nm 3) (.var 0) [(.exp (.meth .append (.var 2) [(.tup [(.bin .add (.var 1) (.bi .len [(.var 2)])), (.var 3)])])), (.for_ (.nm 4) (.call (sx [105,110,110,101,114,95,111,102]) [(.var 3)]) [(.exp (.meth .extend (.var 2) [(.call (sx [110,117,109,98,101,114,101,100]) [(.var 4), (.bin .add (.var 1) (.bi .len [(.var 2)]))])]))])]), (.ret (.var 2))] }
def f_called_by : Fn := { nm := (sx [99,97,108,108,101,100,95,98,121]), ps := [Str.ofString "deeds", Str.ofString "row"], N := [Str.ofString "deeds", Str.ofString "row", Str.ofString "deed"], body := [(.asg (.nm 2) (.meth .get (.var 0) [(.ix (.var 1) (.cst (.int 2))), (.cst .non)])), (.ife (.or_ (.is_ false (.var 2) (.cst .non)) (.or_ (.cmp .ne (.bi .len [(.ix (.var 2) (.cst (.int 1)))]) (.bi .len [(.ix (.var 1) (.cst (.int 3)))])) (.cmp .ne (.bi .len [(.ix (.var 2) (.cst (.int 2)))]) (.bi .len [(.ix (.var 1) (.cst (.int 1)))])))) [(.ret (.cst .non))] []), (.ret (.var 2))] }
def f_called_work : Fn := { nm := (sx [99,97,108,108,101,100,95,119,111,114,107]), ps := [Str.ofString "works", Str.ofString "name", Str.ofString "terms", Str.ofString "outs"], N := [Str.ofString "works", Str.ofString "name", Str.ofString "terms", Str.ofString "outs"], body := [(.ret (.call (sx [99,97,108,108,101,100,95,98,121]) [(.var 0), (.tup [(.cst (.str (sx [99,97,108,108]))), (.var 3), (.var 1), (.var 2)])]))] }
def f_inner_rows : Fn := { nm := (sx [105,110,110,101,114,95,114,111,119,115]), ps := [Str.ofString "row"], N := [Str.ofString "row"], body := [(.ret (.call (sx [105,110,110,101,114,95,111,102]) [(.var 0)]))] }
def f_numbered_rows : Fn := { nm := (sx [110,117,109,98,101,114,101,100,95,114,111,119,115]), ps := [Str.ofString "rows", Str.ofString "first"], N := [Str.ofString "rows", Str.ofString "first"], body := [(.ret (.call (sx [110,117,109,98,101,114,101,100]) [(.var 0), (.var 1)]))] }
def f_calls_of : Fn := { nm := (sx [99,97,108,108,115,95,111,102]), ps := [Str.ofString "row"], N := [Str.ofString "row"], body := [(.ife (.cmp .eq (.ix (.var 0) (.cst (.int 0))) (.cst (.str (sx [99,97,108,108])))) [(.ret (.lst [(.tup [(.ix (.var 0) (.cst (.int 1))), (.ix (.var 0) (.cst (.int 2))), (.ix (.var 0) (.cst (.int 3)))])]))] []), (.ret (.ife (.cmp .eq (.ix (.var 0) (.cst (.int 0))) (.cst (.str (sx [98,111,116,104])))) (.lst [(.tup [(.ix (.var 0) (.cst (.int 1))), (.ix (.var 0) (.cst (.int 2))), (.ix (.var 0) (.cst (.int 3)))]), (.tup [(.ix (.var 0) (.cst (.int 4))), (.ix (.var 0) (.cst (.int 5))), (.ix (.var 0) (.cst (.int 6)))])]) (.lst [])))] }
def f_works_in : Fn := { nm := (sx [119,111,114,107,115,95,105,110]), ps := [Str.ofString "works", Str.ofString "row"], N := [Str.ofString "works", Str.ofString "row", Str.ofString "found", Str.ofString "outs", Str.ofString "name", Str.ofString "terms", Str.ofString "work"], body := [(.asg (.nm 2) (.lc (.call (sx [99,97,108,108,101,100,95,119,111,114,107]) [(.var 0), (.var 4), (.var 5), (.var 3)]) (.tup [(.nm 3), (.nm 4), (.nm 5)]) (.call (sx [99,97,108,108,115,95,111,102]) [(.var 1)]) [] [3, 4, 5])), (.ret (.lc (.var 6) (.nm 6) (.var 2) [(.is_ true (.var 6) (.cst .non))] [6]))] }
def f_chains_of : Fn := { nm := (sx [99,104,97,105,110,115,95,111,102]), ps := [Str.ofString "works", Str.ofString "names"], N := [Str.ofString "works", Str.ofString "names", Str.ofString "found", Str.ofString "name", Str.ofString "work", Str.ofString "number", Str.ofString "row", Str.ofString "is_new", Str.ofString "other", Str.ofString "lock", Str.ofString "chain"], body := [(.asg (.nm 2) (.dcl (.var 3) (.dct [] []) (.nm 3) (.var 0) [3])), (.forI (.tup [(.nm 3), (.nm 4)]) (.var 0) [(.for_ (.tup [(.nm 5), (.nm 6)]) (.call (sx [110,117,109,98,101,114,101,100,95,114,111,119,115]) [(.ix (.var 4) (.cst (.int 5))), (.cst (.int 0))]) [(.ife (.and_ (.cmp .eq (.ix (.var 6) (.cst (.int 0))) (.cst (.str (sx [104,111,108,100])))) (.and_ (.cmp .in_ (.ix (.var 6) (.cst (.int 1))) (.var 1)) (.cmp .notIn (.ix (.var 6) (.cst (.int 1))) (.ix (.var 2) (.var 3))))) [(.sto (.ix (.var 2) (.var 3)) (.ix (.var 6) (.cst (.int 1))) (.tup [(.tup [(.var 3), (.var 5)])]))] [])])]), (.asg (.nm 7) (.cst (.bl true))), (.while_ (.var 7) [(.asg (.nm 7) (.cst (.bl false))), (.forI (.tup [(.nm 3), (.nm 4)]) (.var 0) [(.for_ (.tup [(.nm 5), (.nm 6)]) (.call (sx [110,117,109,98,101,114,101,100,95,114,111,119,115]) [(.ix (.var 4) (.cst (.int 5))), (.cst (.int 0))]) [(.for_ (.nm 8) (.call (sx [119,111,114,107,115,95,105,110]) [(.var 0), (.var 6)]) [(.for_ (.tup [(.nm 9), (.nm 10)]) (.bi .litems [(.ix (.var 2) (.ix (.var 8) (.cst (.int 0))))]) [(.ife (.cmp .notIn (.var 9) (.ix (.var 2) (.var 3))) [(.sto (.ix (.var 2) (.var 3)) (.var 9) (.bin .add (.tup [(.tup [(.var 3), (.var 5)])]) (.var 10))), (.asg (.nm 7) (.cst (.bl true)))] [])])])])])]), (.ret (.var 2))] }
def f_chains_within : Fn := { nm := (sx [99,104,97,105,110,115,95,119,105,116,104,105,110]), ps := [Str.ofString "works", Str.ofString "chains", Str.ofString "name", Str.ofString "number", Str.ofString "row", Str.ofString "names"], N := [Str.ofString "works", Str.ofString "chains", Str.ofString "name", Str.ofString "number", Str.ofString "row", Str.ofString "names", Str.ofString "found", Str.ofString "inner", Str.ofString "place", Str.ofString "one", Str.ofString "other", Str.ofString "lock", Str.ofString "chain"], body := [(.asg (.nm 6) (.dct [] [])), (.for_ (.nm 7) (.call (sx [105,110,110,101,114,95,114,111,119,115]) [(.var 4)]) [(.for_ (.tup [(.nm 8), (.nm 9)]) (.call (sx [110,117,109,98,101,114,101,100,95,114,111,119,115]) [(.var 7), (.bin .add (.var 3) (.cst (.int 1)))]) [(.ife (.and_ (.cmp .eq (.ix (.var 9) (.cst (.int 0))) (.cst (.str (sx [104,111,108,100])))) (.cmp .in_ (.ix (.var 9) (.cst (.int 1))) (.var 5))) [(.exp (.meth .setd (.var 6) [(.ix (.var 9) (.cst (.int 1))), (.tup [(.tup [(.var 2), (.var 3)]), (.tup [(.var 2), (.var 8)])])]))] []), (.for_ (.nm 10) (.call (sx [119,111,114,107,115,95,105,110]) [(.var 0), (.var 9)]) [(.forI (.tup [(.nm 11), (.nm 12)]) (.ix (.var 1) (.ix (.var 10) (.cst (.int 0)))) [(.exp (.meth .setd (.var 6) [(.var 11), (.bin .add (.tup [(.tup [(.var 2), (.var 3)]), (.tup [(.var 2), (.var 8)])]) (.var 12))]))])])])]), (.ret (.var 6))] }
def f_without_rounds : Fn := { nm := (sx [119,105,116,104,111,117,116,95,114,111,117,110,100,115]), ps := [Str.ofString "chain"], N := [Str.ofString "chain", Str.ofString "found", Str.ofString "place"], body := [(.asg (.nm 1) (.lst [(.ix (.var 0) (.cst (.int 0)))])), (.for_ (.nm 2) (.sl (.var 0) (some (.cst (.int 1))) none) [(.ife (.cmp .in_ (.var 2) (.sl (.var 1) (some (.cst (.int 1))) none)) [(.asg (.nm 1) (.sl (.var 1) none (some (.meth .index (.var 1) [(.var 2), (.cst (.int 1))]))))] []), (.exp (.meth .append (.var 1) [(.var 2)]))]), (.ret (.bi .tuple [(.var 1)]))] }
def f_steps_of : Fn := { nm := (sx [115,116,101,112,115,95,111,102]), ps := [Str.ofString "works", Str.ofString "names"], N := [Str.ofString "works", Str.ofString "names", Str.ofString "chains", Str.ofString "found", Str.ofString "name", Str.ofString "work", Str.ofString "number", Str.ofString "row", Str.ofString "lock", Str.ofString "chain"], body := [(.par [2, 3] [(.call (sx [99,104,97,105,110,115,95,111,102]) [(.var 0), (.var 1)]), (.dcl (.var 4) (.dct [] []) (.nm 4) (.var 1) [4])]), (.forI (.tup [(.nm 4), (.nm 5)]) (.var 0) [(.for_ (.tup [(.nm 6), (.nm 7)]) (.call (sx [110,117,109,98,101,114,101,100,95,114,111,119,115]) [(.ix (.var 5) (.cst (.int 5))), (.cst (.int 0))]) [(.ife (.and_ (.cmp .eq (.ix (.var 7) (.cst (.int 0))) (.cst (.str (sx [104,111,108,100])))) (.cmp .in_ (.ix (.var 7) (.cst (.int 1))) (.var 1))) [(.forI (.tup [(.nm 8), (.nm 9)]) (.call (sx [99,104,97,105,110,115,95,119,105,116,104,105,110]) [(.var 0), (.var 2), (.var 4), (.var 6), (.var 7), (.var 1)]) [(.exp (.meth .setd (.ix (.var 3) (.ix (.var 7) (.cst (.int 1)))) [(.var 8), (.call (sx [119,105,116,104,111,117,116,95,114,111,117,110,100,115]) [(.var 9)])]))])] [])])]), (.ret (.var 3))] }
def f_ring_from : Fn := { nm := (sx [114,105,110,103,95,102,114,111,109]), ps := [Str.ofString "steps", Str.ofString "first"], N := [Str.ofString "steps", Str.ofString "first", Str.ofString "found", Str.ofString "waiting", Str.ofString "one", Str.ofString "lock", Str.ofString "chain", Str.ofString "ring"], body := [(.par [2, 3] [(.dc1 (.var 1) (.tup [])), (.lst [(.var 1)])]), (.while_ (.cmp .ne (.var 3) (.lst [])) [(.asg (.nm 4) (.meth .popi (.var 3) [(.cst (.int 0))])), (.forI (.tup [(.nm 5), (.nm 6)]) (.ix (.var 0) (.var 4)) [(.asg (.nm 7) (.bin .add (.ix (.var 2) (.var 4)) (.tup [(.tup [(.var 4), (.var 6)])]))), (.ife (.cmp .eq (.var 5) (.var 1)) [(.ret (.var 7))] []), (.ife (.cmp .notIn (.var 5) (.var 2)) [(.sto (.var 2) (.var 5) (.var 7)), (.exp (.meth .append (.var 3) [(.var 5)]))] [])])]), (.ret (.cst .non))] }
def f_may_take : Fn := { nm := (sx [109,97,121,95,116,97,107,101]), ps := [Str.ofString "works", Str.ofString "locks"], N := [Str.ofString "works", Str.ofString "locks", Str.ofString "chains", Str.ofString "work", Str.ofString "name", Str.ofString "claim"], body := [(.asg (.nm 2) (.call (sx [99,104,97,105,110,115,95,111,102]) [(.dcl (.ix (.var 3) (.cst (.int 0))) (.var 3) (.nm 3) (.var 0) [3]), (.lc (.var 4) (.tup [(.nm 4), (.nm 5)]) (.var 1) [] [4, 5])])), (.ret (.dcl (.var 4) (.bi .tuple [(.bi .sorted [(.ix (.var 2) (.var 4))])]) (.nm 4) (.var 2) [4]))] }
def f_order_or_ring : Fn := { nm := (sx [111,114,100,101,114,95,111,114,95,114,105,110,103]), ps := [Str.ofString "works", Str.ofString "locks"], N := [Str.ofString "works", Str.ofString "locks", Str.ofString "names", Str.ofString "name", Str.ofString "claim", Str.ofString "steps", Str.ofString "work", Str.ofString "ring", Str.ofString "found", Str.ofString "left", Str.ofString "later", Str.ofString "lock"], body := [(.asg (.nm 2) (.lc (.var 3) (.tup [(.nm 3), (.nm 4)]) (.var 1) [] [3, 4])), (.asg (.nm 5) (.call (sx [115,116,101,112,115,95,111,102]) [(.dcl (.ix (.var 6) (.cst (.int 0))) (.var 6) (.nm 6) (.var 0) [6]), (.var 2)])), (.for_ (.nm 3) (.var 2) [(.asg (.nm 7) (.call (sx [114,105,110,103,95,102,114,111,109]) [(.var 5), (.var 3)])), (.ife (.is_ true (.var 7) (.cst .non)) [(.ret (.tup [(.cst (.str (sx [114,105,110,103]))), (.var 7)]))] [])]), (.asg (.nm 8) (.lst [])), (.while_ (.cmp .lt (.bi .len [(.var 8)]) (.bi .len [(.var 2)])) [(.asg (.nm 9) (.lc (.var 3) (.nm 3) (.var 2) [(.cmp .notIn (.var 3) (.var 8))] [3])), (.asg (.nm 10) (.lc2 (.var 11) (.nm 3) (.var 9) (.nm 11) (.ix (.var 5) (.var 3)) [3, 11])), (.exp (.meth .append (.var 8) [(.ix (.lc (.var 3) (.nm 3) (.var 9) [(.cmp .notIn (.var 3) (.var 10))] [3]) (.cst (.int 0)))]))]), (.ret (.tup [(.cst (.str (sx [111,114,100,101,114]))), (.bi .tuple [(.var 8)])]))] }
def f__law_work : Fn := { nm := (sx [95,108,97,119,95,119,111,114,107]), ps := [Str.ofString "name", Str.ofString "rows"], N := [Str.ofString "name", Str.ofString "rows"], body := [(.ret (.tup [(.var 0), (.tup []), (.tup []), (.tup [(.tup []), (.tup [])]), (.tup [(.tup []), (.tup [])]), (.var 1)]))] }
def f__law_hold : Fn := { nm := (sx [95,108,97,119,95,104,111,108,100]), ps := [Str.ofString "lock", Str.ofString "rows"], N := [Str.ofString "lock", Str.ofString "rows"], body := [(.ret (.tup [(.cst (.str (sx [104,111,108,100]))), (.var 0), (.var 1)]))] }
def f__law_rows : Fn := { nm := (sx [95,108,97,119,95,114,111,119,115]), ps := [], N := [Str.ofString "call", Str.ofString "both", Str.ofString "one", Str.ofString "two", Str.ofString "side", Str.ofString "rows", Str.ofString "some", Str.ofString "inner", Str.ofString "odd"], body := [(.asg (.tup [(.nm 0), (.nm 1)]) (.tup [(.tup [(.cst (.str (sx [99,97,108,108]))), (.tup []), (.cst (.str (sx [113]))), (.tup [])]), (.tup [(.cst (.str (sx [98,111,116,104]))), (.tup []), (.cst (.str (sx [113]))), (.tup []), (.tup []), (.cst (.str (sx [114]))), (.tup [])])])), (.par [2, 3] [(.call (sx [95,108,97,119,95,119,111,114,107]) [(.cst (.str (sx [113]))), (.tup [(.call (sx [95,108,97,119,95,104,111,108,100]) [(.cst (.str (sx [108]))), (.tup [])])])]), (.call (sx [95,108,97,119,95,119,111,114,107]) [(.cst (.str (sx [114]))), (.tup [(.call (sx [95,108,97,119,95,104,111,108,100]) [(.cst (.str (sx [109]))), (.tup [])])])])]), (.asg (.nm 4) (.call (sx [95,108,97,119,95,119,111,114,107]) [(.cst (.str (sx [112]))), (.tup [(.call (sx [95,108,97,119,95,104,111,108,100]) [(.cst (.str (sx [108]))), (.tup [])]), (.call (sx [95,108,97,119,95,104,111,108,100]) [(.cst (.str (sx [109]))), (.tup [])])])])), (.asg (.nm 5) (.lst [(.tup [(.lst []), (.lst []), (.lst [(.tup [])])]), (.tup [(.lst []), (.lst [(.cst (.str (sx [108])))]), (.lst [(.tup [(.cst (.str (sx [108])))])])]), (.tup [(.lst [(.var 4)]), (.lst [(.cst (.str (sx [108]))), (.cst (.str (sx [109])))]), (.lst [(.tup [(.cst (.str (sx [108]))), (.cst (.str (sx [109])))]), (.tup [(.cst (.str (sx [109]))), (.cst (.str (sx [108])))])])])])), (.exp (.meth .append (.var 5) [(.tup [(.lst [(.call (sx [95,108,97,119,95,119,111,114,107]) [(.cst (.str (sx [112]))), (.tup [(.call (sx [95,108,97,119,95,104,111,108,100]) [(.cst (.str (sx [109]))), (.tup [(.call (sx [95,108,97,119,95,104,111,108,100]) [(.cst (.str (sx [108]))), (.tup [])])])])])])]), (.lst [(.cst (.str (sx [108]))), (.cst (.str (sx [109])))]), (.lst [(.tup [(.cst (.str (sx [109]))), (.cst (.str (sx [108])))])])])])), (.exp (.meth .append (.var 5) [(.tup [(.lst [(.call (sx [95,108,97,119,95,119,111,114,107]) [(.cst (.str (sx [112]))), (.tup [(.call (sx [95,108,97,119,95,104,111,108,100]) [(.cst (.str (sx [109]))), (.tup [(.var 0)])])])]), (.var 2)]), (.lst [(.cst (.str (sx [108]))), (.cst (.str (sx [109])))]), (.lst [(.tup [(.cst (.str (sx [109]))), (.cst (.str (sx [108])))])])])])), (.exp (.meth .append (.var 5) [(.tup [(.lst [(.call (sx [95,108,97,119,95,119,111,114,107]) [(.cst (.str (sx [112]))), (.tup [(.call (sx [95,108,97,119,95,104,111,108,100]) [(.cst (.str (sx [109]))), (.tup [(.var 0)])])])])]), (.lst [(.cst (.str (sx [108]))), (.cst (.str (sx [109])))]), (.lst [(.tup [(.cst (.str (sx [108]))), (.cst (.str (sx [109])))]), (.tup [(.cst (.str (sx [109]))), (.cst (.str (sx [108])))])])])])), (.asg (.nm 6) (.lst [(.call (sx [95,108,97,119,95,119,111,114,107]) [(.cst (.str (sx [112]))), (.tup [(.call (sx [95,108,97,119,95,104,111,108,100]) [(.cst (.str (sx [107]))), (.tup [(.var 1)])])])]), (.var 2), (.var 3)])), (.exp (.meth .append (.var 5) [(.tup [(.var 6), (.lst [(.cst (.str (sx [108]))), (.cst (.str (sx [109]))), (.cst (.str (sx [107])))]), (.lst [(.tup [(.cst (.str (sx [107]))), (.cst (.str (sx [108]))), (.cst (.str (sx [109])))]), (.tup [(.cst (.str (sx [107]))), (.cst (.str (sx [109]))), (.cst (.str (sx [108])))])])])])), (.exp (.meth .append (.var 5) [(.tup [(.lst [(.call (sx [95,108,97,119,95,119,111,114,107]) [(.cst (.str (sx [112]))), (.tup [(.call (sx [95,108,97,119,95,104,111,108,100]) [(.cst (.str (sx [122]))), (.tup [(.call (sx [95,108,97,119,95,104,111,108,100]) [(.cst (.str (sx [108]))), (.tup [])])])])])])]), (.lst [(.cst (.str (sx [108])))]), (.lst [(.tup [(.cst (.str (sx [108])))])])])])), (.exp (.meth .append (.var 5) [(.tup [(.lst [(.call (sx [95,108,97,119,95,119,111,114,107]) [(.cst (.str (sx [112]))), (.tup [(.call (sx [95,108,97,119,95,104,111,108,100]) [(.cst (.str (sx [108]))), (.tup [(.call (sx [95,108,97,119,95,104,111,108,100]) [(.cst (.str (sx [122]))), (.tup [])])])])])])]), (.lst [(.cst (.str (sx [108])))]), (.lst [(.tup [(.cst (.str (sx [108])))])])])])), (.asg (.nm 6) (.lst [(.call (sx [95,108,97,119,95,119,111,114,107]) [(.cst (.str (sx [112]))), (.tup [(.tup [(.cst (.str (sx [105,102]))), (.cst (.int 1)), (.cst (.str (sx [105,115]))), (.cst (.int 2)), (.tup [(.call (sx [95,108,97,119,95,104,111,108,100]) [(.cst (.str (sx [109]))), (.tup [(.call (sx [95,108,97,119,95,104,111,108,100]) [(.cst (.str (sx [108]))), (.tup [])])])])]), (.tup [])])])])])), (.exp (.meth .append (.var 5) [(.tup [(.var 6), (.lst [(.cst (.str (sx [108]))), (.cst (.str (sx [109])))]), (.lst [(.tup [(.cst (.str (sx [109]))), (.cst (.str (sx [108])))])])])])), (.asg (.nm 7) (.tup [(.call (sx [95,108,97,119,95,104,111,108,100]) [(.cst (.str (sx [109]))), (.tup [(.call (sx [95,108,97,119,95,104,111,108,100]) [(.cst (.str (sx [108]))), (.tup [])])])])])), (.exp (.meth .append (.var 5) [(.tup [(.lst [(.call (sx [95,108,97,119,95,119,111,114,107]) [(.cst (.str (sx [112]))), (.tup [(.tup [(.cst (.str (sx [119,104,105,108,101]))), (.cst (.int 1)), (.cst (.str (sx [105,115]))), (.cst (.int 2)), (.tup [(.tup []), (.tup [])]), (.tup [(.tup []), (.tup [])]), (.var 7)])])])]), (.lst [(.cst (.str (sx [108]))), (.cst (.str (sx [109])))]), (.lst [(.tup [(.cst (.str (sx [109]))), (.cst (.str (sx [108])))])])])])), (.exp (.meth .append (.var 5) [(.tup [(.lst [(.call (sx [95,108,97,119,95,119,111,114,107]) [(.cst (.str (sx [112]))), (.tup [(.tup [(.cst (.str (sx [105,102]))), (.cst (.int 1)), (.cst (.str (sx [105,115]))), (.cst (.int 1)), (.tup []), (.var 7)])])])]), (.lst [(.cst (.str (sx [108]))), (.cst (.str (sx [109])))]), (.lst [(.tup [(.cst (.str (sx [109]))), (.cst (.str (sx [108])))])])])])), (.for_ (.nm 8) (.tup [(.tup [(.cst (.str (sx [99,97,108,108]))), (.tup []), (.cst (.str (sx [113]))), (.tup [(.cst (.int 1))])]), (.tup [(.cst (.str (sx [99,97,108,108]))), (.tup [(.cst (.str (sx [97])))]), (.cst (.str (sx [113]))), (.tup [])]), (.tup [(.cst (.str (sx [98,111,116,104]))), (.tup [(.cst (.str (sx [97])))]), (.cst (.str (sx [113]))), (.tup []), (.tup []), (.cst (.str (sx [113]))), (.tup [(.cst (.int 1))])])]) [(.exp (.meth .append (.var 5) [(.tup [(.lst [(.call (sx [95,108,97,119,95,119,111,114,107]) [(.cst (.str (sx [112]))), (.tup [(.call (sx [95,108,97,119,95,104,111,108,100]) [(.cst (.str (sx [109]))), (.tup [(.var 8)])])])]), (.var 2)]), (.lst [(.cst (.str (sx [108]))), (.cst (.str (sx [109])))]), (.lst [(.tup [(.cst (.str (sx [108]))), (.cst (.str (sx [109])))]), (.tup [(.cst (.str (sx [109]))), (.cst (.str (sx [108])))])])])]))]), (.asg (.nm 6) (.lst [(.call (sx [95,108,97,119,95,119,111,114,107]) [(.cst (.str (sx [112]))), (.tup [(.var 0)])]), (.call (sx [95,108,97,119,95,119,111,114,107]) [(.cst (.str (sx [113]))), (.tup [(.call (sx [95,108,97,119,95,104,111,108,100]) [(.cst (.str (sx [109]))), (.tup [(.tup [(.cst (.str (sx [99,97,108,108]))), (.tup []), (.cst (.str (sx [114]))), (.tup [])])])])])])])), (.exp (.meth .append (.var 5) [(.tup [(.bin .add (.var 6) (.lst [(.call (sx [95,108,97,119,95,119,111,114,107]) [(.cst (.str (sx [114]))), (.tup [(.call (sx [95,108,97,119,95,104,111,108,100]) [(.cst (.str (sx [108]))), (.tup [])])])])])), (.lst [(.cst (.str (sx [108]))), (.cst (.str (sx [109])))]), (.lst [(.tup [(.cst (.str (sx [109]))), (.cst (.str (sx [108])))])])])])), (.ret (.var 5))] }
def f__law_rings : Fn := { nm := (sx [95,108,97,119,95,114,105,110,103,115]), ps := [], N := [Str.ofString "call", Str.ofString "one", Str.ofString "rows", Str.ofString "both", Str.ofString "left", Str.ofString "right", Str.ofString "more", Str.ofString "name", Str.ofString "first", Str.ofString "second", Str.ofString "ring", Str.ofString "again"], body := [(.asg (.nm 0) (.tup [(.cst (.str (sx [99,97,108,108]))), (.tup []), (.cst (.str (sx [113]))), (.tup [])])), (.asg (.nm 1) (.call (sx [95,108,97,119,95,119,111,114,107]) [(.cst (.str (sx [113]))), (.tup [(.call (sx [95,108,97,119,95,104,111,108,100]) [(.cst (.str (sx [108]))), (.tup [])])])])), (.asg (.nm 2) (.lst [(.tup [(.lst [(.call (sx [95,108,97,119,95,119,111,114,107]) [(.cst (.str (sx [112]))), (.tup [(.call (sx [95,108,97,119,95,104,111,108,100]) [(.cst (.str (sx [108]))), (.tup [(.call (sx [95,108,97,119,95,104,111,108,100]) [(.cst (.str (sx [108]))), (.tup [])])])])])])]), (.lst [(.cst (.str (sx [108])))]), (.tup [(.tup [(.cst (.str (sx [108]))), (.tup [(.tup [(.cst (.str (sx [112]))), (.cst (.int 0))]), (.tup [(.cst (.str (sx [112]))), (.cst (.int 1))])])])])])])), (.exp (.meth .append (.var 2) [(.tup [(.lst [(.call (sx [95,108,97,119,95,119,111,114,107]) [(.cst (.str (sx [112]))), (.tup [(.call (sx [95,108,97,119,95,104,111,108,100]) [(.cst (.str (sx [108]))), (.tup [(.var 0)])])])]), (.var 1)]), (.lst [(.cst (.str (sx [108])))]), (.tup [(.tup [(.cst (.str (sx [108]))), (.tup [(.tup [(.cst (.str (sx [112]))), (.cst (.int 0))]), (.tup [(.cst (.str (sx [112]))), (.cst (.int 1))]), (.tup [(.cst (.str (sx [113]))), (.cst (.int 0))])])])])])])), (.asg (.nm 3) (.call (sx [95,108,97,119,95,119,111,114,107]) [(.cst (.str (sx [112]))), (.tup [(.call (sx [95,108,97,119,95,104,111,108,100]) [(.cst (.str (sx [108]))), (.tup [(.tup [(.cst (.str (sx [98,111,116,104]))), (.tup []), (.cst (.str (sx [122,122]))), (.tup []), (.tup []), (.cst (.str (sx [113]))), (.tup [])])])])])])), (.exp (.meth .append (.var 2) [(.tup [(.lst [(.var 3), (.var 1)]), (.lst [(.cst (.str (sx [108]))), (.cst (.str (sx [109])))]), (.tup [(.tup [(.cst (.str (sx [108]))), (.tup [(.tup [(.cst (.str (sx [112]))), (.cst (.int 0))]), (.tup [(.cst (.str (sx [112]))), (.cst (.int 1))]), (.tup [(.cst (.str (sx [113]))), (.cst (.int 0))])])])])])])), (.asg (.nm 4) (.call (sx [95,108,97,119,95,119,111,114,107]) [(.cst (.str (sx [112]))), (.tup [(.call (sx [95,108,97,119,95,104,111,108,100]) [(.cst (.str (sx [108]))), (.tup [(.call (sx [95,108,97,119,95,104,111,108,100]) [(.cst (.str (sx [109]))), (.tup [])])])])])])), (.asg (.nm 5) (.call (sx [95,108,97,119,95,119,111,114,107]) [(.cst (.str (sx [113]))), (.tup [(.call (sx [95,108,97,119,95,104,111,108,100]) [(.cst (.str (sx [109]))), (.tup [(.call (sx [95,108,97,119,95,104,111,108,100]) [(.cst (.str (sx [108]))), (.tup [])])])])])])), (.exp (.meth .append (.var 2) [(.tup [(.lst [(.var 4), (.var 5)]), (.lst [(.cst (.str (sx [109]))), (.cst (.str (sx [108])))]), (.tup [(.tup [(.cst (.str (sx [108]))), (.tup [(.tup [(.cst (.str (sx [112]))), (.cst (.int 0))]), (.tup [(.cst (.str (sx [112]))), (.cst (.int 1))])])]), (.tup [(.cst (.str (sx [109]))), (.tup [(.tup [(.cst (.str (sx [113]))), (.cst (.int 0))]), (.tup [(.cst (.str (sx [113]))), (.cst (.int 1))])])])])])])), (.asg (.nm 6) (.lst [])), (.for_ (.tup [(.nm 7), (.nm 8), (.nm 9)]) (.tup [(.cst (.str (sx [112,108,109]))), (.cst (.str (sx [113,109,107]))), (.cst (.str (sx [114,107,108])))]) [(.exp (.meth .append (.var 6) [(.call (sx [95,108,97,119,95,119,111,114,107]) [(.var 7), (.tup [(.call (sx [95,108,97,119,95,104,111,108,100]) [(.var 8), (.tup [(.call (sx [95,108,97,119,95,104,111,108,100]) [(.var 9), (.tup [])])])])])])]))]), (.asg (.nm 10) (.tup [(.tup [(.cst (.str (sx [108]))), (.tup [(.tup [(.cst (.str (sx [112]))), (.cst (.int 0))]), (.tup [(.cst (.str (sx [112]))), (.cst (.int 1))])])]), (.tup [(.cst (.str (sx [109]))), (.tup [(.tup [(.cst (.str (sx [113]))), (.cst (.int 0))]), (.tup [(.cst (.str (sx [113]))), (.cst (.int 1))])])]), (.tup [(.cst (.str (sx [107]))), (.tup [(.tup [(.cst (.str (sx [114]))), (.cst (.int 0))]), (.tup [(.cst (.str (sx [114]))), (.cst (.int 1))])])])])), (.exp (.meth .append (.var 2) [(.tup [(.var 6), (.lst [(.cst (.str (sx [108]))), (.cst (.str (sx [109]))), (.cst (.str (sx [107])))]), (.var 10)])])), (.asg (.nm 11) (.call (sx [95,108,97,119,95,119,111,114,107]) [(.cst (.str (sx [112]))), (.tup [(.call (sx [95,108,97,119,95,104,111,108,100]) [(.cst (.str (sx [108]))), (.tup [(.tup [(.cst (.str (sx [99,97,108,108]))), (.tup []), (.cst (.str (sx [112]))), (.tup [])])])])])])), (.exp (.meth .append (.var 2) [(.tup [(.lst [(.var 11)]), (.lst [(.cst (.str (sx [108])))]), (.tup [(.tup [(.cst (.str (sx [108]))), (.tup [(.tup [(.cst (.str (sx [112]))), (.cst (.int 0))]), (.tup [(.cst (.str (sx [112]))), (.cst (.int 1))]), (.tup [(.cst (.str (sx [112]))), (.cst (.int 0))])])])])])])), (.ret (.var 2))] }
def f_law : Fn := { nm := (sx [108,97,119]), ps := [Str.ofString "script"], N := [Str.ofString "script", Str.ofString "none", Str.ofString "works", Str.ofString "names", Str.ofString "due", Str.ofString "sequence", Str.ofString "word", Str.ofString "found", Str.ofString "name", Str.ofString "begun", Str.ofString "place", Str.ofString "locks"], body := [(.asg (.nm 1) (.tup [(.tup []), (.tup [])])), (.for_ (.tup [(.nm 2), (.nm 3), (.nm 4)]) (.call (sx [95,108,97,119,95,114,111,119,115]) []) [(.for_ (.nm 5) (.tup [(.var 3), (.rev (.var 3))]) [(.asg (.tup [(.nm 6), (.nm 7)]) (.call (sx [111,114,100,101,114,95,111,114,95,114,105,110,103]) [(.var 2), (.lc (.tup [(.var 8), (.var 1)]) (.nm 8) (.var 5) [] [8])])), (.ife (.or_ (.cmp .ne (.var 6) (.cst (.str (sx [111,114,100,101,114])))) (.cmp .notIn (.var 7) (.var 4))) [(.ret (.cst (.bl false)))] [])])]), (.for_ (.tup [(.nm 2), (.nm 3), (.nm 4)]) (.call (sx [95,108,97,119,95,114,105,110,103,115]) []) [(.for_ (.nm 5) (.tup [(.var 3), (.rev (.var 3))]) [(.asg (.tup [(.nm 6), (.nm 7)]) (.call (sx [111,114,100,101,114,95,111,114,95,114,105,110,103]) [(.rev (.var 2)), (.lc (.tup [(.var 8), (.var 1)]) (.nm 8) (.var 5) [] [8])])), (.asg (.nm 9) (.lc (.bin .add (.sl (.var 4) (some (.var 10)) none) (.sl (.var 4) none (some (.var 10)))) (.nm 10) (.rng [(.bi .len [(.var 4)])]) [] [10])), (.ife (.or_ (.cmp .ne (.var 6) (.cst (.str (sx [114,105,110,103])))) (.cmp .notIn (.var 7) (.var 9))) [(.ret (.cst (.bl false)))] [])])]), (.par [2, 11] [(.ix (.ix (.call (sx [95,108,97,119,95,114,105,110,103,115]) []) (.neg (.cst (.int 2)))) (.cst (.int 0))), (.lst [(.tup [(.cst (.str (sx [109]))), (.var 1)]), (.tup [(.cst (.str (sx [108]))), (.var 1)])])]), (.ife (.or_ (.cmp .ne (.call (sx [109,97,121,95,116,97,107,101]) [(.var 2), (.var 11)]) (.dct [(.inr (sx [112])), (.inr (sx [113])), (.inr (sx [114]))] [(.tup [(.cst (.str (sx [108]))), (.cst (.str (sx [109])))]), (.tup [(.cst (.str (sx [109])))]), (.tup [(.cst (.str (sx [108])))])])) (.cmp .ne (.call (sx [109,97,121,95,116,97,107,101]) [(.lst []), (.var 11)]) (.dct [] []))) [(.ret (.cst (.bl false)))] []), (.asg (.nm 2) (.ix (.ix (.call (sx [95,108,97,119,95,114,111,119,115]) []) (.cst (.int 6))) (.cst (.int 0)))), (.ife (.or_ (.cmp .ne (.ix (.call (sx [111,114,100,101,114,95,111,114,95,114,105,110,103]) [(.lst []), (.var 11)]) (.cst (.int 0))) (.cst (.str (sx [111,114,100,101,114])))) (.cmp .ne (.var 11) (.lst [(.tup [(.cst (.str (sx [109]))), (.var 1)]), (.tup [(.cst (.str (sx [108]))), (.var 1)])]))) [(.ret (.cst (.bl false)))] []), (.ret (.cmp .eq (.call (sx [109,97,121,95,116,97,107,101]) [(.var 2), (.var 11)]) (.dct [(.inr (sx [112])), (.inr (sx [113])), (.inr (sx [114]))] [(.tup [(.cst (.str (sx [108]))), (.cst (.str (sx [109])))]), (.tup [(.cst (.str (sx [108])))]), (.tup [(.cst (.str (sx [109])))])])))] }
def fs : List Fn := [f_inner_of, f_numbered, f_called_by, f_called_work, f_inner_rows, f_numbered_rows, f_calls_of, f_works_in, f_chains_of, f_chains_within, f_without_rounds, f_steps_of, f_ring_from, f_may_take, f_order_or_ring, f__law_work, f__law_hold, f__law_rows, f__law_rings, f_law]
theorem gc_bl (b : Bool) (S S1 : Sto) : (gc S (.bl b, S1)).1 = .bl b := by
  unfold gc gc0
  repeat (first | rfl | split)
noncomputable def FF : FT := kN g fs 100000 20
def body (i : Nat) : C := f_law.body.getD i .pass
def bodyOf : C → List C | .for_ _ _ b => b | _ => []
def itOf : C → E | .for_ _ e _ => e | _ => .rng []
def tgOf : C → T | .for_ t _ _ => t | _ => .tup []
def e0 (ns : List Int) : Env := [some (.scr ns), none, none, none, none, none, none, none, none, none, none, none]
def S0 : Sto := []
def e1 (ns : List Int) : Env := [some (.scr ns), some (.tup [(.tup []), (.tup [])]), none, none, none, none, none, none, none, none, none, none]
theorem q0 (ns : List Int) : kC g FF 100000 (body 0) (e0 ns) S0 = some (.nx, (e1 ns), S0) := by kernel_rfl
def S1 : Sto := [.lst [], .lst [], .lst [(.tup [])], .lst [], .lst [(.str (sx [108]))], .lst [(.tup [(.str (sx [108]))])], .lst [(.tup [(.str (sx [112])), (.tup []), (.tup []), (.tup [(.tup []), (.tup [])]), (.tup [(.tup []), (.tup [])]), (.tup [(.tup [(.str (sx [104,111,108,100])), (.str (sx [108])), (.tup [])]), (.tup [(.str (sx [104,111,108,100])), (.str (sx [109])), (.tup [])])])])], .lst [(.str (sx [108])), (.str (sx [109]))], .lst [(.tup [(.str (sx [108])), (.str (sx [109]))]), (.tup [(.str (sx [109])), (.str (sx [108]))])], .lst [(.tup [(.loc .lst 0), (.loc .lst 1), (.loc .lst 2)]), (.tup [(.loc .lst 3), (.loc .lst 4), (.loc .lst 5)]), (.tup [(.loc .lst 6), (.loc .lst 7), (.loc .lst 8)]), (.tup [(.loc .lst 10), (.loc .lst 11), (.loc .lst 12)]), (.tup [(.loc .lst 13), (.loc .lst 14), (.loc .lst 15)]), (.tup [(.loc .lst 16), (.loc .lst 17), (.loc .lst 18)]), (.tup [(.loc .lst 19), (.loc .lst 20), (.loc .lst 21)]), (.tup [(.loc .lst 22), (.loc .lst 23), (.loc .lst 24)]), (.tup [(.loc .lst 25), (.loc .lst 26), (.loc .lst 27)]), (.tup [(.loc .lst 28), (.loc .lst 29), (.loc .lst 30)]), (.tup [(.loc .lst 31), (.loc .lst 32), (.loc .lst 33)]), (.tup [(.loc .lst 34), (.loc .lst 35), (.loc .lst 36)]), (.tup [(.loc .lst 37), (.loc .lst 38), (.loc .lst 39)]), (.tup [(.loc .lst 40), (.loc .lst 41), (.loc .lst 42)]), (.tup [(.loc .lst 43), (.loc .lst 44), (.loc .lst 45)]), (.tup [(.loc .lst 47), (.loc .lst 48), (.loc .lst 49)])], .lst [(.tup [(.str (sx [112])), (.tup []), (.tup []), (.tup [(.tup []), (.tup [])]), (.tup [(.tup []), (.tup [])]), (.tup [(.tup [(.str (sx [104,111,108,100])), (.str (sx [109])), (.tup [(.tup [(.str (sx [104,111,108,100])), (.str (sx [108])), (.tup [])])])])])])], .lst [(.str (sx [108])), (.str (sx [109]))], .lst [(.tup [(.str (sx [109])), (.str (sx [108]))])], .lst [(.tup [(.str (sx [112])), (.tup []), (.tup []), (.tup [(.tup []), (.tup [])]), (.tup [(.tup []), (.tup [])]), (.tup [(.tup [(.str (sx [104,111,108,100])), (.str (sx [109])), (.tup [(.tup [(.str (sx [99,97,108,108])), (.tup []), (.str (sx [113])), (.tup [])])])])])]), (.tup [(.str (sx [113])), (.tup []), (.tup []), (.tup [(.tup []), (.tup [])]), (.tup [(.tup []), (.tup [])]), (.tup [(.tup [(.str (sx [104,111,108,100])), (.str (sx [108])), (.tup [])])])])], .lst [(.str (sx [108])), (.str (sx [109]))], .lst [(.tup [(.str (sx [109])), (.str (sx [108]))])], .lst [(.tup [(.str (sx [112])), (.tup []), (.tup []), (.tup [(.tup []), (.tup [])]), (.tup [(.tup []), (.tup [])]), (.tup [(.tup [(.str (sx [104,111,108,100])), (.str (sx [109])), (.tup [(.tup [(.str (sx [99,97,108,108])), (.tup []), (.str (sx [113])), (.tup [])])])])])])], .lst [(.str (sx [108])), (.str (sx [109]))], .lst [(.tup [(.str (sx [108])), (.str (sx [109]))]), (.tup [(.str (sx [109])), (.str (sx [108]))])], .lst [(.tup [(.str (sx [112])), (.tup []), (.tup []), (.tup [(.tup []), (.tup [])]), (.tup [(.tup []), (.tup [])]), (.tup [(.tup [(.str (sx [104,111,108,100])), (.str (sx [107])), (.tup [(.tup [(.str (sx [98,111,116,104])), (.tup []), (.str (sx [113])), (.tup []), (.tup []), (.str (sx [114])), (.tup [])])])])])]), (.tup [(.str (sx [113])), (.tup []), (.tup []), (.tup [(.tup []), (.tup [])]), (.tup [(.tup []), (.tup [])]), (.tup [(.tup [(.str (sx [104,111,108,100])), (.str (sx [108])), (.tup [])])])]), (.tup [(.str (sx [114])), (.tup []), (.tup []), (.tup [(.tup []), (.tup [])]), (.tup [(.tup []), (.tup [])]), (.tup [(.tup [(.str (sx [104,111,108,100])), (.str (sx [109])), (.tup [])])])])], .lst [(.str (sx [108])), (.str (sx [109])), (.str (sx [107]))], .lst [(.tup [(.str (sx [107])), (.str (sx [108])), (.str (sx [109]))]), (.tup [(.str (sx [107])), (.str (sx [109])), (.str (sx [108]))])], .lst [(.tup [(.str (sx [112])), (.tup []), (.tup []), (.tup [(.tup []), (.tup [])]), (.tup [(.tup []), (.tup [])]), (.tup [(.tup [(.str (sx [104,111,108,100])), (.str (sx [122])), (.tup [(.tup [(.str (sx [104,111,108,100])), (.str (sx [108])), (.tup [])])])])])])], .lst [(.str (sx [108]))], .lst [(.tup [(.str (sx [108]))])], .lst [(.tup [(.str (sx [112])), (.tup []), (.tup []), (.tup [(.tup []), (.tup [])]), (.tup [(.tup []), (.tup [])]), (.tup [(.tup [(.str (sx [104,111,108,100])), (.str (sx [108])), (.tup [(.tup [(.str (sx [104,111,108,100])), (.str (sx [122])), (.tup [])])])])])])], .lst [(.str (sx [108]))], .lst [(.tup [(.str (sx [108]))])], .lst [(.tup [(.str (sx [112])), (.tup []), (.tup []), (.tup [(.tup []), (.tup [])]), (.tup [(.tup []), (.tup [])]), (.tup [(.tup [(.str (sx [105,102])), (.int 1), (.str (sx [105,115])), (.int 2), (.tup [(.tup [(.str (sx [104,111,108,100])), (.str (sx [109])), (.tup [(.tup [(.str (sx [104,111,108,100])), (.str (sx [108])), (.tup [])])])])]), (.tup [])])])])], .lst [(.str (sx [108])), (.str (sx [109]))], .lst [(.tup [(.str (sx [109])), (.str (sx [108]))])], .lst [(.tup [(.str (sx [112])), (.tup []), (.tup []), (.tup [(.tup []), (.tup [])]), (.tup [(.tup []), (.tup [])]), (.tup [(.tup [(.str (sx [119,104,105,108,101])), (.int 1), (.str (sx [105,115])), (.int 2), (.tup [(.tup []), (.tup [])]), (.tup [(.tup []), (.tup [])]), (.tup [(.tup [(.str (sx [104,111,108,100])), (.str (sx [109])), (.tup [(.tup [(.str (sx [104,111,108,100])), (.str (sx [108])), (.tup [])])])])])])])])], .lst [(.str (sx [108])), (.str (sx [109]))], .lst [(.tup [(.str (sx [109])), (.str (sx [108]))])], .lst [(.tup [(.str (sx [112])), (.tup []), (.tup []), (.tup [(.tup []), (.tup [])]), (.tup [(.tup []), (.tup [])]), (.tup [(.tup [(.str (sx [105,102])), (.int 1), (.str (sx [105,115])), (.int 1), (.tup []), (.tup [(.tup [(.str (sx [104,111,108,100])), (.str (sx [109])), (.tup [(.tup [(.str (sx [104,111,108,100])), (.str (sx [108])), (.tup [])])])])])])])])], .lst [(.str (sx [108])), (.str (sx [109]))], .lst [(.tup [(.str (sx [109])), (.str (sx [108]))])], .lst [(.tup [(.str (sx [112])), (.tup []), (.tup []), (.tup [(.tup []), (.tup [])]), (.tup [(.tup []), (.tup [])]), (.tup [(.tup [(.str (sx [104,111,108,100])), (.str (sx [109])), (.tup [(.tup [(.str (sx [99,97,108,108])), (.tup []), (.str (sx [113])), (.tup [(.int 1)])])])])])]), (.tup [(.str (sx [113])), (.tup []), (.tup []), (.tup [(.tup []), (.tup [])]), (.tup [(.tup []), (.tup [])]), (.tup [(.tup [(.str (sx [104,111,108,100])), (.str (sx [108])), (.tup [])])])])], .lst [(.str (sx [108])), (.str (sx [109]))], .lst [(.tup [(.str (sx [108])), (.str (sx [109]))]), (.tup [(.str (sx [109])), (.str (sx [108]))])], .lst [(.tup [(.str (sx [112])), (.tup []), (.tup []), (.tup [(.tup []), (.tup [])]), (.tup [(.tup []), (.tup [])]), (.tup [(.tup [(.str (sx [104,111,108,100])), (.str (sx [109])), (.tup [(.tup [(.str (sx [99,97,108,108])), (.tup [(.str (sx [97]))]), (.str (sx [113])), (.tup [])])])])])]), (.tup [(.str (sx [113])), (.tup []), (.tup []), (.tup [(.tup []), (.tup [])]), (.tup [(.tup []), (.tup [])]), (.tup [(.tup [(.str (sx [104,111,108,100])), (.str (sx [108])), (.tup [])])])])], .lst [(.str (sx [108])), (.str (sx [109]))], .lst [(.tup [(.str (sx [108])), (.str (sx [109]))]), (.tup [(.str (sx [109])), (.str (sx [108]))])], .lst [(.tup [(.str (sx [112])), (.tup []), (.tup []), (.tup [(.tup []), (.tup [])]), (.tup [(.tup []), (.tup [])]), (.tup [(.tup [(.str (sx [104,111,108,100])), (.str (sx [109])), (.tup [(.tup [(.str (sx [98,111,116,104])), (.tup [(.str (sx [97]))]), (.str (sx [113])), (.tup []), (.tup []), (.str (sx [113])), (.tup [(.int 1)])])])])])]), (.tup [(.str (sx [113])), (.tup []), (.tup []), (.tup [(.tup []), (.tup [])]), (.tup [(.tup []), (.tup [])]), (.tup [(.tup [(.str (sx [104,111,108,100])), (.str (sx [108])), (.tup [])])])])], .lst [(.str (sx [108])), (.str (sx [109]))], .lst [(.tup [(.str (sx [108])), (.str (sx [109]))]), (.tup [(.str (sx [109])), (.str (sx [108]))])], .lst [(.tup [(.str (sx [112])), (.tup []), (.tup []), (.tup [(.tup []), (.tup [])]), (.tup [(.tup []), (.tup [])]), (.tup [(.tup [(.str (sx [99,97,108,108])), (.tup []), (.str (sx [113])), (.tup [])])])]), (.tup [(.str (sx [113])), (.tup []), (.tup []), (.tup [(.tup []), (.tup [])]), (.tup [(.tup []), (.tup [])]), (.tup [(.tup [(.str (sx [104,111,108,100])), (.str (sx [109])), (.tup [(.tup [(.str (sx [99,97,108,108])), (.tup []), (.str (sx [114])), (.tup [])])])])])])], .lst [(.tup [(.str (sx [112])), (.tup []), (.tup []), (.tup [(.tup []), (.tup [])]), (.tup [(.tup []), (.tup [])]), (.tup [(.tup [(.str (sx [99,97,108,108])), (.tup []), (.str (sx [113])), (.tup [])])])]), (.tup [(.str (sx [113])), (.tup []), (.tup []), (.tup [(.tup []), (.tup [])]), (.tup [(.tup []), (.tup [])]), (.tup [(.tup [(.str (sx [104,111,108,100])), (.str (sx [109])), (.tup [(.tup [(.str (sx [99,97,108,108])), (.tup []), (.str (sx [114])), (.tup [])])])])])]), (.tup [(.str (sx [114])), (.tup []), (.tup []), (.tup [(.tup []), (.tup [])]), (.tup [(.tup []), (.tup [])]), (.tup [(.tup [(.str (sx [104,111,108,100])), (.str (sx [108])), (.tup [])])])])], .lst [(.str (sx [108])), (.str (sx [109]))], .lst [(.tup [(.str (sx [109])), (.str (sx [108]))])]]
def w1 : Wk := (.lst 9 [(.tup [(.loc .lst 0), (.loc .lst 1), (.loc .lst 2)]), (.tup [(.loc .lst 3), (.loc .lst 4), (.loc .lst 5)]), (.tup [(.loc .lst 6), (.loc .lst 7), (.loc .lst 8)]), (.tup [(.loc .lst 10), (.loc .lst 11), (.loc .lst 12)]), (.tup [(.loc .lst 13), (.loc .lst 14), (.loc .lst 15)]), (.tup [(.loc .lst 16), (.loc .lst 17), (.loc .lst 18)]), (.tup [(.loc .lst 19), (.loc .lst 20), (.loc .lst 21)]), (.tup [(.loc .lst 22), (.loc .lst 23), (.loc .lst 24)]), (.tup [(.loc .lst 25), (.loc .lst 26), (.loc .lst 27)]), (.tup [(.loc .lst 28), (.loc .lst 29), (.loc .lst 30)]), (.tup [(.loc .lst 31), (.loc .lst 32), (.loc .lst 33)]), (.tup [(.loc .lst 34), (.loc .lst 35), (.loc .lst 36)]), (.tup [(.loc .lst 37), (.loc .lst 38), (.loc .lst 39)]), (.tup [(.loc .lst 40), (.loc .lst 41), (.loc .lst 42)]), (.tup [(.loc .lst 43), (.loc .lst 44), (.loc .lst 45)]), (.tup [(.loc .lst 47), (.loc .lst 48), (.loc .lst 49)])])
theorem q1 (ns : List Int) : (kA g FF (itOf (body 1))).2.2 (e1 ns) S0 = some (w1, S1) := by kernel_rfl
def e2 (ns : List Int) : Env := [some (.scr ns), some (.tup [(.tup []), (.tup [])]), some (.loc .lst 0), some (.loc .lst 1), some (.loc .lst 2), some (.loc .lst 50), some (.str (sx [111,114,100,101,114])), some (.tup []), none, none, none, none]
def S2 : Sto := [.lst [], .lst [], .lst [(.tup [])], .lst [], .lst [(.str (sx [108]))], .lst [(.tup [(.str (sx [108]))])], .lst [(.tup [(.str (sx [112])), (.tup []), (.tup []), (.tup [(.tup []), (.tup [])]), (.tup [(.tup []), (.tup [])]), (.tup [(.tup [(.str (sx [104,111,108,100])), (.str (sx [108])), (.tup [])]), (.tup [(.str (sx [104,111,108,100])), (.str (sx [109])), (.tup [])])])])], .lst [(.str (sx [108])), (.str (sx [109]))], .lst [(.tup [(.str (sx [108])), (.str (sx [109]))]), (.tup [(.str (sx [109])), (.str (sx [108]))])], .lst [(.tup [(.loc .lst 0), (.loc .lst 1), (.loc .lst 2)]), (.tup [(.loc .lst 3), (.loc .lst 4), (.loc .lst 5)]), (.tup [(.loc .lst 6), (.loc .lst 7), (.loc .lst 8)]), (.tup [(.loc .lst 10), (.loc .lst 11), (.loc .lst 12)]), (.tup [(.loc .lst 13), (.loc .lst 14), (.loc .lst 15)]), (.tup [(.loc .lst 16), (.loc .lst 17), (.loc .lst 18)]), (.tup [(.loc .lst 19), (.loc .lst 20), (.loc .lst 21)]), (.tup [(.loc .lst 22), (.loc .lst 23), (.loc .lst 24)]), (.tup [(.loc .lst 25), (.loc .lst 26), (.loc .lst 27)]), (.tup [(.loc .lst 28), (.loc .lst 29), (.loc .lst 30)]), (.tup [(.loc .lst 31), (.loc .lst 32), (.loc .lst 33)]), (.tup [(.loc .lst 34), (.loc .lst 35), (.loc .lst 36)]), (.tup [(.loc .lst 37), (.loc .lst 38), (.loc .lst 39)]), (.tup [(.loc .lst 40), (.loc .lst 41), (.loc .lst 42)]), (.tup [(.loc .lst 43), (.loc .lst 44), (.loc .lst 45)]), (.tup [(.loc .lst 47), (.loc .lst 48), (.loc .lst 49)])], .lst [(.tup [(.str (sx [112])), (.tup []), (.tup []), (.tup [(.tup []), (.tup [])]), (.tup [(.tup []), (.tup [])]), (.tup [(.tup [(.str (sx [104,111,108,100])), (.str (sx [109])), (.tup [(.tup [(.str (sx [104,111,108,100])), (.str (sx [108])), (.tup [])])])])])])], .lst [(.str (sx [108])), (.str (sx [109]))], .lst [(.tup [(.str (sx [109])), (.str (sx [108]))])], .lst [(.tup [(.str (sx [112])), (.tup []), (.tup []), (.tup [(.tup []), (.tup [])]), (.tup [(.tup []), (.tup [])]), (.tup [(.tup [(.str (sx [104,111,108,100])), (.str (sx [109])), (.tup [(.tup [(.str (sx [99,97,108,108])), (.tup []), (.str (sx [113])), (.tup [])])])])])]), (.tup [(.str (sx [113])), (.tup []), (.tup []), (.tup [(.tup []), (.tup [])]), (.tup [(.tup []), (.tup [])]), (.tup [(.tup [(.str (sx [104,111,108,100])), (.str (sx [108])), (.tup [])])])])], .lst [(.str (sx [108])), (.str (sx [109]))], .lst [(.tup [(.str (sx [109])), (.str (sx [108]))])], .lst [(.tup [(.str (sx [112])), (.tup []), (.tup []), (.tup [(.tup []), (.tup [])]), (.tup [(.tup []), (.tup [])]), (.tup [(.tup [(.str (sx [104,111,108,100])), (.str (sx [109])), (.tup [(.tup [(.str (sx [99,97,108,108])), (.tup []), (.str (sx [113])), (.tup [])])])])])])], .lst [(.str (sx [108])), (.str (sx [109]))], .lst [(.tup [(.str (sx [108])), (.str (sx [109]))]), (.tup [(.str (sx [109])), (.str (sx [108]))])], .lst [(.tup [(.str (sx [112])), (.tup []), (.tup []), (.tup [(.tup []), (.tup [])]), (.tup [(.tup []), (.tup [])]), (.tup [(.tup [(.str (sx [104,111,108,100])), (.str (sx [107])), (.tup [(.tup [(.str (sx [98,111,116,104])), (.tup []), (.str (sx [113])), (.tup []), (.tup []), (.str (sx [114])), (.tup [])])])])])]), (.tup [(.str (sx [113])), (.tup []), (.tup []), (.tup [(.tup []), (.tup [])]), (.tup [(.tup []), (.tup [])]), (.tup [(.tup [(.str (sx [104,111,108,100])), (.str (sx [108])), (.tup [])])])]), (.tup [(.str (sx [114])), (.tup []), (.tup []), (.tup [(.tup []), (.tup [])]), (.tup [(.tup []), (.tup [])]), (.tup [(.tup [(.str (sx [104,111,108,100])), (.str (sx [109])), (.tup [])])])])], .lst [(.str (sx [108])), (.str (sx [109])), (.str (sx [107]))], .lst [(.tup [(.str (sx [107])), (.str (sx [108])), (.str (sx [109]))]), (.tup [(.str (sx [107])), (.str (sx [109])), (.str (sx [108]))])], .lst [(.tup [(.str (sx [112])), (.tup []), (.tup []), (.tup [(.tup []), (.tup [])]), (.tup [(.tup []), (.tup [])]), (.tup [(.tup [(.str (sx [104,111,108,100])), (.str (sx [122])), (.tup [(.tup [(.str (sx [104,111,108,100])), (.str (sx [108])), (.tup [])])])])])])], .lst [(.str (sx [108]))], .lst [(.tup [(.str (sx [108]))])], .lst [(.tup [(.str (sx [112])), (.tup []), (.tup []), (.tup [(.tup []), (.tup [])]), (.tup [(.tup []), (.tup [])]), (.tup [(.tup [(.str (sx [104,111,108,100])), (.str (sx [108])), (.tup [(.tup [(.str (sx [104,111,108,100])), (.str (sx [122])), (.tup [])])])])])])], .lst [(.str (sx [108]))], .lst [(.tup [(.str (sx [108]))])], .lst [(.tup [(.str (sx [112])), (.tup []), (.tup []), (.tup [(.tup []), (.tup [])]), (.tup [(.tup []), (.tup [])]), (.tup [(.tup [(.str (sx [105,102])), (.int 1), (.str (sx [105,115])), (.int 2), (.tup [(.tup [(.str (sx [104,111,108,100])), (.str (sx [109])), (.tup [(.tup [(.str (sx [104,111,108,100])), (.str (sx [108])), (.tup [])])])])]), (.tup [])])])])], .lst [(.str (sx [108])), (.str (sx [109]))], .lst [(.tup [(.str (sx [109])), (.str (sx [108]))])], .lst [(.tup [(.str (sx [112])), (.tup []), (.tup []), (.tup [(.tup []), (.tup [])]), (.tup [(.tup []), (.tup [])]), (.tup [(.tup [(.str (sx [119,104,105,108,101])), (.int 1), (.str (sx [105,115])), (.int 2), (.tup [(.tup []), (.tup [])]), (.tup [(.tup []), (.tup [])]), (.tup [(.tup [(.str (sx [104,111,108,100])), (.str (sx [109])), (.tup [(.tup [(.str (sx [104,111,108,100])), (.str (sx [108])), (.tup [])])])])])])])])], .lst [(.str (sx [108])), (.str (sx [109]))], .lst [(.tup [(.str (sx [109])), (.str (sx [108]))])], .lst [(.tup [(.str (sx [112])), (.tup []), (.tup []), (.tup [(.tup []), (.tup [])]), (.tup [(.tup []), (.tup [])]), (.tup [(.tup [(.str (sx [105,102])), (.int 1), (.str (sx [105,115])), (.int 1), (.tup []), (.tup [(.tup [(.str (sx [104,111,108,100])), (.str (sx [109])), (.tup [(.tup [(.str (sx [104,111,108,100])), (.str (sx [108])), (.tup [])])])])])])])])], .lst [(.str (sx [108])), (.str (sx [109]))], .lst [(.tup [(.str (sx [109])), (.str (sx [108]))])], .lst [(.tup [(.str (sx [112])), (.tup []), (.tup []), (.tup [(.tup []), (.tup [])]), (.tup [(.tup []), (.tup [])]), (.tup [(.tup [(.str (sx [104,111,108,100])), (.str (sx [109])), (.tup [(.tup [(.str (sx [99,97,108,108])), (.tup []), (.str (sx [113])), (.tup [(.int 1)])])])])])]), (.tup [(.str (sx [113])), (.tup []), (.tup []), (.tup [(.tup []), (.tup [])]), (.tup [(.tup []), (.tup [])]), (.tup [(.tup [(.str (sx [104,111,108,100])), (.str (sx [108])), (.tup [])])])])], .lst [(.str (sx [108])), (.str (sx [109]))], .lst [(.tup [(.str (sx [108])), (.str (sx [109]))]), (.tup [(.str (sx [109])), (.str (sx [108]))])], .lst [(.tup [(.str (sx [112])), (.tup []), (.tup []), (.tup [(.tup []), (.tup [])]), (.tup [(.tup []), (.tup [])]), (.tup [(.tup [(.str (sx [104,111,108,100])), (.str (sx [109])), (.tup [(.tup [(.str (sx [99,97,108,108])), (.tup [(.str (sx [97]))]), (.str (sx [113])), (.tup [])])])])])]), (.tup [(.str (sx [113])), (.tup []), (.tup []), (.tup [(.tup []), (.tup [])]), (.tup [(.tup []), (.tup [])]), (.tup [(.tup [(.str (sx [104,111,108,100])), (.str (sx [108])), (.tup [])])])])], .lst [(.str (sx [108])), (.str (sx [109]))], .lst [(.tup [(.str (sx [108])), (.str (sx [109]))]), (.tup [(.str (sx [109])), (.str (sx [108]))])], .lst [(.tup [(.str (sx [112])), (.tup []), (.tup []), (.tup [(.tup []), (.tup [])]), (.tup [(.tup []), (.tup [])]), (.tup [(.tup [(.str (sx [104,111,108,100])), (.str (sx [109])), (.tup [(.tup [(.str (sx [98,111,116,104])), (.tup [(.str (sx [97]))]), (.str (sx [113])), (.tup []), (.tup []), (.str (sx [113])), (.tup [(.int 1)])])])])])]), (.tup [(.str (sx [113])), (.tup []), (.tup []), (.tup [(.tup []), (.tup [])]), (.tup [(.tup []), (.tup [])]), (.tup [(.tup [(.str (sx [104,111,108,100])), (.str (sx [108])), (.tup [])])])])], .lst [(.str (sx [108])), (.str (sx [109]))], .lst [(.tup [(.str (sx [108])), (.str (sx [109]))]), (.tup [(.str (sx [109])), (.str (sx [108]))])], .lst [(.tup [(.str (sx [112])), (.tup []), (.tup []), (.tup [(.tup []), (.tup [])]), (.tup [(.tup []), (.tup [])]), (.tup [(.tup [(.str (sx [99,97,108,108])), (.tup []), (.str (sx [113])), (.tup [])])])]), (.tup [(.str (sx [113])), (.tup []), (.tup []), (.tup [(.tup []), (.tup [])]), (.tup [(.tup []), (.tup [])]), (.tup [(.tup [(.str (sx [104,111,108,100])), (.str (sx [109])), (.tup [(.tup [(.str (sx [99,97,108,108])), (.tup []), (.str (sx [114])), (.tup [])])])])])])], .lst [(.tup [(.str (sx [112])), (.tup []), (.tup []), (.tup [(.tup []), (.tup [])]), (.tup [(.tup []), (.tup [])]), (.tup [(.tup [(.str (sx [99,97,108,108])), (.tup []), (.str (sx [113])), (.tup [])])])]), (.tup [(.str (sx [113])), (.tup []), (.tup []), (.tup [(.tup []), (.tup [])]), (.tup [(.tup []), (.tup [])]), (.tup [(.tup [(.str (sx [104,111,108,100])), (.str (sx [109])), (.tup [(.tup [(.str (sx [99,97,108,108])), (.tup []), (.str (sx [114])), (.tup [])])])])])]), (.tup [(.str (sx [114])), (.tup []), (.tup []), (.tup [(.tup []), (.tup [])]), (.tup [(.tup []), (.tup [])]), (.tup [(.tup [(.str (sx [104,111,108,100])), (.str (sx [108])), (.tup [])])])])], .lst [(.str (sx [108])), (.str (sx [109]))], .lst [(.tup [(.str (sx [109])), (.str (sx [108]))])], .lst []]
theorem q1_0 (ns : List Int) : stepL (kCs g FF 100000 (bodyOf (body 1))) (tgOf (body 1)) w1 (.tup [(.loc .lst 0), (.loc .lst 1), (.loc .lst 2)]) (e1 ns) S1 = some ((e2 ns), S2) := by kernel_rfl
def e3 (ns : List Int) : Env := [some (.scr ns), some (.tup [(.tup []), (.tup [])]), some (.loc .lst 3), some (.loc .lst 4), some (.loc .lst 5), some (.loc .lst 51), some (.str (sx [111,114,100,101,114])), some (.tup [(.str (sx [108]))]), none, none, none, none]
def S3 : Sto := [.lst [], .lst [], .lst [(.tup [])], .lst [], .lst [(.str (sx [108]))], .lst [(.tup [(.str (sx [108]))])], .lst [(.tup [(.str (sx [112])), (.tup []), (.tup []), (.tup [(.tup []), (.tup [])]), (.tup [(.tup []), (.tup [])]), (.tup [(.tup [(.str (sx [104,111,108,100])), (.str (sx [108])), (.tup [])]), (.tup [(.str (sx [104,111,108,100])), (.str (sx [109])), (.tup [])])])])], .lst [(.str (sx [108])), (.str (sx [109]))], .lst [(.tup [(.str (sx [108])), (.str (sx [109]))]), (.tup [(.str (sx [109])), (.str (sx [108]))])], .lst [(.tup [(.loc .lst 0), (.loc .lst 1), (.loc .lst 2)]), (.tup [(.loc .lst 3), (.loc .lst 4), (.loc .lst 5)]), (.tup [(.loc .lst 6), (.loc .lst 7), (.loc .lst 8)]), (.tup [(.loc .lst 10), (.loc .lst 11), (.loc .lst 12)]), (.tup [(.loc .lst 13), (.loc .lst 14), (.loc .lst 15)]), (.tup [(.loc .lst 16), (.loc .lst 17), (.loc .lst 18)]), (.tup [(.loc .lst 19), (.loc .lst 20), (.loc .lst 21)]), (.tup [(.loc .lst 22), (.loc .lst 23), (.loc .lst 24)]), (.tup [(.loc .lst 25), (.loc .lst 26), (.loc .lst 27)]), (.tup [(.loc .lst 28), (.loc .lst 29), (.loc .lst 30)]), (.tup [(.loc .lst 31), (.loc .lst 32), (.loc .lst 33)]), (.tup [(.loc .lst 34), (.loc .lst 35), (.loc .lst 36)]), (.tup [(.loc .lst 37), (.loc .lst 38), (.loc .lst 39)]), (.tup [(.loc .lst 40), (.loc .lst 41), (.loc .lst 42)]), (.tup [(.loc .lst 43), (.loc .lst 44), (.loc .lst 45)]), (.tup [(.loc .lst 47), (.loc .lst 48), (.loc .lst 49)])], .lst [(.tup [(.str (sx [112])), (.tup []), (.tup []), (.tup [(.tup []), (.tup [])]), (.tup [(.tup []), (.tup [])]), (.tup [(.tup [(.str (sx [104,111,108,100])), (.str (sx [109])), (.tup [(.tup [(.str (sx [104,111,108,100])), (.str (sx [108])), (.tup [])])])])])])], .lst [(.str (sx [108])), (.str (sx [109]))], .lst [(.tup [(.str (sx [109])), (.str (sx [108]))])], .lst [(.tup [(.str (sx [112])), (.tup []), (.tup []), (.tup [(.tup []), (.tup [])]), (.tup [(.tup []), (.tup [])]), (.tup [(.tup [(.str (sx [104,111,108,100])), (.str (sx [109])), (.tup [(.tup [(.str (sx [99,97,108,108])), (.tup []), (.str (sx [113])), (.tup [])])])])])]), (.tup [(.str (sx [113])), (.tup []), (.tup []), (.tup [(.tup []), (.tup [])]), (.tup [(.tup []), (.tup [])]), (.tup [(.tup [(.str (sx [104,111,108,100])), (.str (sx [108])), (.tup [])])])])], .lst [(.str (sx [108])), (.str (sx [109]))], .lst [(.tup [(.str (sx [109])), (.str (sx [108]))])], .lst [(.tup [(.str (sx [112])), (.tup []), (.tup []), (.tup [(.tup []), (.tup [])]), (.tup [(.tup []), (.tup [])]), (.tup [(.tup [(.str (sx [104,111,108,100])), (.str (sx [109])), (.tup [(.tup [(.str (sx [99,97,108,108])), (.tup []), (.str (sx [113])), (.tup [])])])])])])], .lst [(.str (sx [108])), (.str (sx [109]))], .lst [(.tup [(.str (sx [108])), (.str (sx [109]))]), (.tup [(.str (sx [109])), (.str (sx [108]))])], .lst [(.tup [(.str (sx [112])), (.tup []), (.tup []), (.tup [(.tup []), (.tup [])]), (.tup [(.tup []), (.tup [])]), (.tup [(.tup [(.str (sx [104,111,108,100])), (.str (sx [107])), (.tup [(.tup [(.str (sx [98,111,116,104])), (.tup []), (.str (sx [113])), (.tup []), (.tup []), (.str (sx [114])), (.tup [])])])])])]), (.tup [(.str (sx [113])), (.tup []), (.tup []), (.tup [(.tup []), (.tup [])]), (.tup [(.tup []), (.tup [])]), (.tup [(.tup [(.str (sx [104,111,108,100])), (.str (sx [108])), (.tup [])])])]), (.tup [(.str (sx [114])), (.tup []), (.tup []), (.tup [(.tup []), (.tup [])]), (.tup [(.tup []), (.tup [])]), (.tup [(.tup [(.str (sx [104,111,108,100])), (.str (sx [109])), (.tup [])])])])], .lst [(.str (sx [108])), (.str (sx [109])), (.str (sx [107]))], .lst [(.tup [(.str (sx [107])), (.str (sx [108])), (.str (sx [109]))]), (.tup [(.str (sx [107])), (.str (sx [109])), (.str (sx [108]))])], .lst [(.tup [(.str (sx [112])), (.tup []), (.tup []), (.tup [(.tup []), (.tup [])]), (.tup [(.tup []), (.tup [])]), (.tup [(.tup [(.str (sx [104,111,108,100])), (.str (sx [122])), (.tup [(.tup [(.str (sx [104,111,108,100])), (.str (sx [108])), (.tup [])])])])])])], .lst [(.str (sx [108]))], .lst [(.tup [(.str (sx [108]))])], .lst [(.tup [(.str (sx [112])), (.tup []), (.tup []), (.tup [(.tup []), (.tup [])]), (.tup [(.tup []), (.tup [])]), (.tup [(.tup [(.str (sx [104,111,108,100])), (.str (sx [108])), (.tup [(.tup [(.str (sx [104,111,108,100])), (.str (sx [122])), (.tup [])])])])])])], .lst [(.str (sx [108]))], .lst [(.tup [(.str (sx [108]))])], .lst [(.tup [(.str (sx [112])), (.tup []), (.tup []), (.tup [(.tup []), (.tup [])]), (.tup [(.tup []), (.tup [])]), (.tup [(.tup [(.str (sx [105,102])), (.int 1), (.str (sx [105,115])), (.int 2), (.tup [(.tup [(.str (sx [104,111,108,100])), (.str (sx [109])), (.tup [(.tup [(.str (sx [104,111,108,100])), (.str (sx [108])), (.tup [])])])])]), (.tup [])])])])], .lst [(.str (sx [108])), (.str (sx [109]))], .lst [(.tup [(.str (sx [109])), (.str (sx [108]))])], .lst [(.tup [(.str (sx [112])), (.tup []), (.tup []), (.tup [(.tup []), (.tup [])]), (.tup [(.tup []), (.tup [])]), (.tup [(.tup [(.str (sx [119,104,105,108,101])), (.int 1), (.str (sx [105,115])), (.int 2), (.tup [(.tup []), (.tup [])]), (.tup [(.tup []), (.tup [])]), (.tup [(.tup [(.str (sx [104,111,108,100])), (.str (sx [109])), (.tup [(.tup [(.str (sx [104,111,108,100])), (.str (sx [108])), (.tup [])])])])])])])])], .lst [(.str (sx [108])), (.str (sx [109]))], .lst [(.tup [(.str (sx [109])), (.str (sx [108]))])], .lst [(.tup [(.str (sx [112])), (.tup []), (.tup []), (.tup [(.tup []), (.tup [])]), (.tup [(.tup []), (.tup [])]), (.tup [(.tup [(.str (sx [105,102])), (.int 1), (.str (sx [105,115])), (.int 1), (.tup []), (.tup [(.tup [(.str (sx [104,111,108,100])), (.str (sx [109])), (.tup [(.tup [(.str (sx [104,111,108,100])), (.str (sx [108])), (.tup [])])])])])])])])], .lst [(.str (sx [108])), (.str (sx [109]))], .lst [(.tup [(.str (sx [109])), (.str (sx [108]))])], .lst [(.tup [(.str (sx [112])), (.tup []), (.tup []), (.tup [(.tup []), (.tup [])]), (.tup [(.tup []), (.tup [])]), (.tup [(.tup [(.str (sx [104,111,108,100])), (.str (sx [109])), (.tup [(.tup [(.str (sx [99,97,108,108])), (.tup []), (.str (sx [113])), (.tup [(.int 1)])])])])])]), (.tup [(.str (sx [113])), (.tup []), (.tup []), (.tup [(.tup []), (.tup [])]), (.tup [(.tup []), (.tup [])]), (.tup [(.tup [(.str (sx [104,111,108,100])), (.str (sx [108])), (.tup [])])])])], .lst [(.str (sx [108])), (.str (sx [109]))], .lst [(.tup [(.str (sx [108])), (.str (sx [109]))]), (.tup [(.str (sx [109])), (.str (sx [108]))])], .lst [(.tup [(.str (sx [112])), (.tup []), (.tup []), (.tup [(.tup []), (.tup [])]), (.tup [(.tup []), (.tup [])]), (.tup [(.tup [(.str (sx [104,111,108,100])), (.str (sx [109])), (.tup [(.tup [(.str (sx [99,97,108,108])), (.tup [(.str (sx [97]))]), (.str (sx [113])), (.tup [])])])])])]), (.tup [(.str (sx [113])), (.tup []), (.tup []), (.tup [(.tup []), (.tup [])]), (.tup [(.tup []), (.tup [])]), (.tup [(.tup [(.str (sx [104,111,108,100])), (.str (sx [108])), (.tup [])])])])], .lst [(.str (sx [108])), (.str (sx [109]))], .lst [(.tup [(.str (sx [108])), (.str (sx [109]))]), (.tup [(.str (sx [109])), (.str (sx [108]))])], .lst [(.tup [(.str (sx [112])), (.tup []), (.tup []), (.tup [(.tup []), (.tup [])]), (.tup [(.tup []), (.tup [])]), (.tup [(.tup [(.str (sx [104,111,108,100])), (.str (sx [109])), (.tup [(.tup [(.str (sx [98,111,116,104])), (.tup [(.str (sx [97]))]), (.str (sx [113])), (.tup []), (.tup []), (.str (sx [113])), (.tup [(.int 1)])])])])])]), (.tup [(.str (sx [113])), (.tup []), (.tup []), (.tup [(.tup []), (.tup [])]), (.tup [(.tup []), (.tup [])]), (.tup [(.tup [(.str (sx [104,111,108,100])), (.str (sx [108])), (.tup [])])])])], .lst [(.str (sx [108])), (.str (sx [109]))], .lst [(.tup [(.str (sx [108])), (.str (sx [109]))]), (.tup [(.str (sx [109])), (.str (sx [108]))])], .lst [(.tup [(.str (sx [112])), (.tup []), (.tup []), (.tup [(.tup []), (.tup [])]), (.tup [(.tup []), (.tup [])]), (.tup [(.tup [(.str (sx [99,97,108,108])), (.tup []), (.str (sx [113])), (.tup [])])])]), (.tup [(.str (sx [113])), (.tup []), (.tup []), (.tup [(.tup []), (.tup [])]), (.tup [(.tup []), (.tup [])]), (.tup [(.tup [(.str (sx [104,111,108,100])), (.str (sx [109])), (.tup [(.tup [(.str (sx [99,97,108,108])), (.tup []), (.str (sx [114])), (.tup [])])])])])])], .lst [(.tup [(.str (sx [112])), (.tup []), (.tup []), (.tup [(.tup []), (.tup [])]), (.tup [(.tup []), (.tup [])]), (.tup [(.tup [(.str (sx [99,97,108,108])), (.tup []), (.str (sx [113])), (.tup [])])])]), (.tup [(.str (sx [113])), (.tup []), (.tup []), (.tup [(.tup []), (.tup [])]), (.tup [(.tup []), (.tup [])]), (.tup [(.tup [(.str (sx [104,111,108,100])), (.str (sx [109])), (.tup [(.tup [(.str (sx [99,97,108,108])), (.tup []), (.str (sx [114])), (.tup [])])])])])]), (.tup [(.str (sx [114])), (.tup []), (.tup []), (.tup [(.tup []), (.tup [])]), (.tup [(.tup []), (.tup [])]), (.tup [(.tup [(.str (sx [104,111,108,100])), (.str (sx [108])), (.tup [])])])])], .lst [(.str (sx [108])), (.str (sx [109]))], .lst [(.tup [(.str (sx [109])), (.str (sx [108]))])], .lst [], .lst [(.str (sx [108]))]]
theorem q1_1 (ns : List Int) : stepL (kCs g FF 100000 (bodyOf (body 1))) (tgOf (body 1)) w1 (.tup [(.loc .lst 3), (.loc .lst 4), (.loc .lst 5)]) (e2 ns) S2 = some ((e3 ns), S3) := by kernel_rfl
def e4 (ns : List Int) : Env := [some (.scr ns), some (.tup [(.tup []), (.tup [])]), some (.loc .lst 6), some (.loc .lst 7), some (.loc .lst 8), some (.loc .lst 52), some (.str (sx [111,114,100,101,114])), some (.tup [(.str (sx [109])), (.str (sx [108]))]), none, none, none, none]
def S4 : Sto := [.lst [], .lst [], .lst [(.tup [])], .lst [], .lst [(.str (sx [108]))], .lst [(.tup [(.str (sx [108]))])], .lst [(.tup [(.str (sx [112])), (.tup []), (.tup []), (.tup [(.tup []), (.tup [])]), (.tup [(.tup []), (.tup [])]), (.tup [(.tup [(.str (sx [104,111,108,100])), (.str (sx [108])), (.tup [])]), (.tup [(.str (sx [104,111,108,100])), (.str (sx [109])), (.tup [])])])])], .lst [(.str (sx [108])), (.str (sx [109]))], .lst [(.tup [(.str (sx [108])), (.str (sx [109]))]), (.tup [(.str (sx [109])), (.str (sx [108]))])], .lst [(.tup [(.loc .lst 0), (.loc .lst 1), (.loc .lst 2)]), (.tup [(.loc .lst 3), (.loc .lst 4), (.loc .lst 5)]), (.tup [(.loc .lst 6), (.loc .lst 7), (.loc .lst 8)]), (.tup [(.loc .lst 10), (.loc .lst 11), (.loc .lst 12)]), (.tup [(.loc .lst 13), (.loc .lst 14), (.loc .lst 15)]), (.tup [(.loc .lst 16), (.loc .lst 17), (.loc .lst 18)]), (.tup [(.loc .lst 19), (.loc .lst 20), (.loc .lst 21)]), (.tup [(.loc .lst 22), (.loc .lst 23), (.loc .lst 24)]), (.tup [(.loc .lst 25), (.loc .lst 26), (.loc .lst 27)]), (.tup [(.loc .lst 28), (.loc .lst 29), (.loc .lst 30)]), (.tup [(.loc .lst 31), (.loc .lst 32), (.loc .lst 33)]), (.tup [(.loc .lst 34), (.loc .lst 35), (.loc .lst 36)]), (.tup [(.loc .lst 37), (.loc .lst 38), (.loc .lst 39)]), (.tup [(.loc .lst 40), (.loc .lst 41), (.loc .lst 42)]), (.tup [(.loc .lst 43), (.loc .lst 44), (.loc .lst 45)]), (.tup [(.loc .lst 47), (.loc .lst 48), (.loc .lst 49)])], .lst [(.tup [(.str (sx [112])), (.tup []), (.tup []), (.tup [(.tup []), (.tup [])]), (.tup [(.tup []), (.tup [])]), (.tup [(.tup [(.str (sx [104,111,108,100])), (.str (sx [109])), (.tup [(.tup [(.str (sx [104,111,108,100])), (.str (sx [108])), (.tup [])])])])])])], .lst [(.str (sx [108])), (.str (sx [109]))], .lst [(.tup [(.str (sx [109])), (.str (sx [108]))])], .lst [(.tup [(.str (sx [112])), (.tup []), (.tup []), (.tup [(.tup []), (.tup [])]), (.tup [(.tup []), (.tup [])]), (.tup [(.tup [(.str (sx [104,111,108,100])), (.str (sx [109])), (.tup [(.tup [(.str (sx [99,97,108,108])), (.tup []), (.str (sx [113])), (.tup [])])])])])]), (.tup [(.str (sx [113])), (.tup []), (.tup []), (.tup [(.tup []), (.tup [])]), (.tup [(.tup []), (.tup [])]), (.tup [(.tup [(.str (sx [104,111,108,100])), (.str (sx [108])), (.tup [])])])])], .lst [(.str (sx [108])), (.str (sx [109]))], .lst [(.tup [(.str (sx [109])), (.str (sx [108]))])], .lst [(.tup [(.str (sx [112])), (.tup []), (.tup []), (.tup [(.tup []), (.tup [])]), (.tup [(.tup []), (.tup [])]), (.tup [(.tup [(.str (sx [104,111,108,100])), (.str (sx [109])), (.tup [(.tup [(.str (sx [99,97,108,108])), (.tup []), (.str (sx [113])), (.tup [])])])])])])], .lst [(.str (sx [108])), (.str (sx [109]))], .lst [(.tup [(.str (sx [108])), (.str (sx [109]))]), (.tup [(.str (sx [109])), (.str (sx [108]))])], .lst [(.tup [(.str (sx [112])), (.tup []), (.tup []), (.tup [(.tup []), (.tup [])]), (.tup [(.tup []), (.tup [])]), (.tup [(.tup [(.str (sx [104,111,108,100])), (.str (sx [107])), (.tup [(.tup [(.str (sx [98,111,116,104])), (.tup []), (.str (sx [113])), (.tup []), (.tup []), (.str (sx [114])), (.tup [])])])])])]), (.tup [(.str (sx [113])), (.tup []), (.tup []), (.tup [(.tup []), (.tup [])]), (.tup [(.tup []), (.tup [])]), (.tup [(.tup [(.str (sx [104,111,108,100])), (.str (sx [108])), (.tup [])])])]), (.tup [(.str (sx [114])), (.tup []), (.tup []), (.tup [(.tup []), (.tup [])]), (.tup [(.tup []), (.tup [])]), (.tup [(.tup [(.str (sx [104,111,108,100])), (.str (sx [109])), (.tup [])])])])], .lst [(.str (sx [108])), (.str (sx [109])), (.str (sx [107]))], .lst [(.tup [(.str (sx [107])), (.str (sx [108])), (.str (sx [109]))]), (.tup [(.str (sx [107])), (.str (sx [109])), (.str (sx [108]))])], .lst [(.tup [(.str (sx [112])), (.tup []), (.tup []), (.tup [(.tup []), (.tup [])]), (.tup [(.tup []), (.tup [])]), (.tup [(.tup [(.str (sx [104,111,108,100])), (.str (sx [122])), (.tup [(.tup [(.str (sx [104,111,108,100])), (.str (sx [108])), (.tup [])])])])])])], .lst [(.str (sx [108]))], .lst [(.tup [(.str (sx [108]))])], .lst [(.tup [(.str (sx [112])), (.tup []), (.tup []), (.tup [(.tup []), (.tup [])]), (.tup [(.tup []), (.tup [])]), (.tup [(.tup [(.str (sx [104,111,108,100])), (.str (sx [108])), (.tup [(.tup [(.str (sx [104,111,108,100])), (.str (sx [122])), (.tup [])])])])])])], .lst [(.str (sx [108]))], .lst [(.tup [(.str (sx [108]))])], .lst [(.tup [(.str (sx [112])), (.tup []), (.tup []), (.tup [(.tup []), (.tup [])]), (.tup [(.tup []), (.tup [])]), (.tup [(.tup [(.str (sx [105,102])), (.int 1), (.str (sx [105,115])), (.int 2), (.tup [(.tup [(.str (sx [104,111,108,100])), (.str (sx [109])), (.tup [(.tup [(.str (sx [104,111,108,100])), (.str (sx [108])), (.tup [])])])])]), (.tup [])])])])], .lst [(.str (sx [108])), (.str (sx [109]))], .lst [(.tup [(.str (sx [109])), (.str (sx [108]))])], .lst [(.tup [(.str (sx [112])), (.tup []), (.tup []), (.tup [(.tup []), (.tup [])]), (.tup [(.tup []), (.tup [])]), (.tup [(.tup [(.str (sx [119,104,105,108,101])), (.int 1), (.str (sx [105,115])), (.int 2), (.tup [(.tup []), (.tup [])]), (.tup [(.tup []), (.tup [])]), (.tup [(.tup [(.str (sx [104,111,108,100])), (.str (sx [109])), (.tup [(.tup [(.str (sx [104,111,108,100])), (.str (sx [108])), (.tup [])])])])])])])])], .lst [(.str (sx [108])), (.str (sx [109]))], .lst [(.tup [(.str (sx [109])), (.str (sx [108]))])], .lst [(.tup [(.str (sx [112])), (.tup []), (.tup []), (.tup [(.tup []), (.tup [])]), (.tup [(.tup []), (.tup [])]), (.tup [(.tup [(.str (sx [105,102])), (.int 1), (.str (sx [105,115])), (.int 1), (.tup []), (.tup [(.tup [(.str (sx [104,111,108,100])), (.str (sx [109])), (.tup [(.tup [(.str (sx [104,111,108,100])), (.str (sx [108])), (.tup [])])])])])])])])], .lst [(.str (sx [108])), (.str (sx [109]))], .lst [(.tup [(.str (sx [109])), (.str (sx [108]))])], .lst [(.tup [(.str (sx [112])), (.tup []), (.tup []), (.tup [(.tup []), (.tup [])]), (.tup [(.tup []), (.tup [])]), (.tup [(.tup [(.str (sx [104,111,108,100])), (.str (sx [109])), (.tup [(.tup [(.str (sx [99,97,108,108])), (.tup []), (.str (sx [113])), (.tup [(.int 1)])])])])])]), (.tup [(.str (sx [113])), (.tup []), (.tup []), (.tup [(.tup []), (.tup [])]), (.tup [(.tup []), (.tup [])]), (.tup [(.tup [(.str (sx [104,111,108,100])), (.str (sx [108])), (.tup [])])])])], .lst [(.str (sx [108])), (.str (sx [109]))], .lst [(.tup [(.str (sx [108])), (.str (sx [109]))]), (.tup [(.str (sx [109])), (.str (sx [108]))])], .lst [(.tup [(.str (sx [112])), (.tup []), (.tup []), (.tup [(.tup []), (.tup [])]), (.tup [(.tup []), (.tup [])]), (.tup [(.tup [(.str (sx [104,111,108,100])), (.str (sx [109])), (.tup [(.tup [(.str (sx [99,97,108,108])), (.tup [(.str (sx [97]))]), (.str (sx [113])), (.tup [])])])])])]), (.tup [(.str (sx [113])), (.tup []), (.tup []), (.tup [(.tup []), (.tup [])]), (.tup [(.tup []), (.tup [])]), (.tup [(.tup [(.str (sx [104,111,108,100])), (.str (sx [108])), (.tup [])])])])], .lst [(.str (sx [108])), (.str (sx [109]))], .lst [(.tup [(.str (sx [108])), (.str (sx [109]))]), (.tup [(.str (sx [109])), (.str (sx [108]))])], .lst [(.tup [(.str (sx [112])), (.tup []), (.tup []), (.tup [(.tup []), (.tup [])]), (.tup [(.tup []), (.tup [])]), (.tup [(.tup [(.str (sx [104,111,108,100])), (.str (sx [109])), (.tup [(.tup [(.str (sx [98,111,116,104])), (.tup [(.str (sx [97]))]), (.str (sx [113])), (.tup []), (.tup []), (.str (sx [113])), (.tup [(.int 1)])])])])])]), (.tup [(.str (sx [113])), (.tup []), (.tup []), (.tup [(.tup []), (.tup [])]), (.tup [(.tup []), (.tup [])]), (.tup [(.tup [(.str (sx [104,111,108,100])), (.str (sx [108])), (.tup [])])])])], .lst [(.str (sx [108])), (.str (sx [109]))], .lst [(.tup [(.str (sx [108])), (.str (sx [109]))]), (.tup [(.str (sx [109])), (.str (sx [108]))])], .lst [(.tup [(.str (sx [112])), (.tup []), (.tup []), (.tup [(.tup []), (.tup [])]), (.tup [(.tup []), (.tup [])]), (.tup [(.tup [(.str (sx [99,97,108,108])), (.tup []), (.str (sx [113])), (.tup [])])])]), (.tup [(.str (sx [113])), (.tup []), (.tup []), (.tup [(.tup []), (.tup [])]), (.tup [(.tup []), (.tup [])]), (.tup [(.tup [(.str (sx [104,111,108,100])), (.str (sx [109])), (.tup [(.tup [(.str (sx [99,97,108,108])), (.tup []), (.str (sx [114])), (.tup [])])])])])])], .lst [(.tup [(.str (sx [112])), (.tup []), (.tup []), (.tup [(.tup []), (.tup [])]), (.tup [(.tup []), (.tup [])]), (.tup [(.tup [(.str (sx [99,97,108,108])), (.tup []), (.str (sx [113])), (.tup [])])])]), (.tup [(.str (sx [113])), (.tup []), (.tup []), (.tup [(.tup []), (.tup [])]), (.tup [(.tup []), (.tup [])]), (.tup [(.tup [(.str (sx [104,111,108,100])), (.str (sx [109])), (.tup [(.tup [(.str (sx [99,97,108,108])), (.tup []), (.str (sx [114])), (.tup [])])])])])]), (.tup [(.str (sx [114])), (.tup []), (.tup []), (.tup [(.tup []), (.tup [])]), (.tup [(.tup []), (.tup [])]), (.tup [(.tup [(.str (sx [104,111,108,100])), (.str (sx [108])), (.tup [])])])])], .lst [(.str (sx [108])), (.str (sx [109]))], .lst [(.tup [(.str (sx [109])), (.str (sx [108]))])], .lst [], .lst [(.str (sx [108]))], .lst [(.str (sx [109])), (.str (sx [108]))]]
theorem q1_2 (ns : List Int) : stepL (kCs g FF 100000 (bodyOf (body 1))) (tgOf (body 1)) w1 (.tup [(.loc .lst 6), (.loc .lst 7), (.loc .lst 8)]) (e3 ns) S3 = some ((e4 ns), S4) := by kernel_rfl
def e5 (ns : List Int) : Env := [some (.scr ns), some (.tup [(.tup []), (.tup [])]), some (.loc .lst 10), some (.loc .lst 11), some (.loc .lst 12), some (.loc .lst 53), some (.str (sx [111,114,100,101,114])), some (.tup [(.str (sx [109])), (.str (sx [108]))]), none, none, none, none]
def S5 : Sto := [.lst [], .lst [], .lst [(.tup [])], .lst [], .lst [(.str (sx [108]))], .lst [(.tup [(.str (sx [108]))])], .lst [(.tup [(.str (sx [112])), (.tup []), (.tup []), (.tup [(.tup []), (.tup [])]), (.tup [(.tup []), (.tup [])]), (.tup [(.tup [(.str (sx [104,111,108,100])), (.str (sx [108])), (.tup [])]), (.tup [(.str (sx [104,111,108,100])), (.str (sx [109])), (.tup [])])])])], .lst [(.str (sx [108])), (.str (sx [109]))], .lst [(.tup [(.str (sx [108])), (.str (sx [109]))]), (.tup [(.str (sx [109])), (.str (sx [108]))])], .lst [(.tup [(.loc .lst 0), (.loc .lst 1), (.loc .lst 2)]), (.tup [(.loc .lst 3), (.loc .lst 4), (.loc .lst 5)]), (.tup [(.loc .lst 6), (.loc .lst 7), (.loc .lst 8)]), (.tup [(.loc .lst 10), (.loc .lst 11), (.loc .lst 12)]), (.tup [(.loc .lst 13), (.loc .lst 14), (.loc .lst 15)]), (.tup [(.loc .lst 16), (.loc .lst 17), (.loc .lst 18)]), (.tup [(.loc .lst 19), (.loc .lst 20), (.loc .lst 21)]), (.tup [(.loc .lst 22), (.loc .lst 23), (.loc .lst 24)]), (.tup [(.loc .lst 25), (.loc .lst 26), (.loc .lst 27)]), (.tup [(.loc .lst 28), (.loc .lst 29), (.loc .lst 30)]), (.tup [(.loc .lst 31), (.loc .lst 32), (.loc .lst 33)]), (.tup [(.loc .lst 34), (.loc .lst 35), (.loc .lst 36)]), (.tup [(.loc .lst 37), (.loc .lst 38), (.loc .lst 39)]), (.tup [(.loc .lst 40), (.loc .lst 41), (.loc .lst 42)]), (.tup [(.loc .lst 43), (.loc .lst 44), (.loc .lst 45)]), (.tup [(.loc .lst 47), (.loc .lst 48), (.loc .lst 49)])], .lst [(.tup [(.str (sx [112])), (.tup []), (.tup []), (.tup [(.tup []), (.tup [])]), (.tup [(.tup []), (.tup [])]), (.tup [(.tup [(.str (sx [104,111,108,100])), (.str (sx [109])), (.tup [(.tup [(.str (sx [104,111,108,100])), (.str (sx [108])), (.tup [])])])])])])], .lst [(.str (sx [108])), (.str (sx [109]))], .lst [(.tup [(.str (sx [109])), (.str (sx [108]))])], .lst [(.tup [(.str (sx [112])), (.tup []), (.tup []), (.tup [(.tup []), (.tup [])]), (.tup [(.tup []), (.tup [])]), (.tup [(.tup [(.str (sx [104,111,108,100])), (.str (sx [109])), (.tup [(.tup [(.str (sx [99,97,108,108])), (.tup []), (.str (sx [113])), (.tup [])])])])])]), (.tup [(.str (sx [113])), (.tup []), (.tup []), (.tup [(.tup []), (.tup [])]), (.tup [(.tup []), (.tup [])]), (.tup [(.tup [(.str (sx [104,111,108,100])), (.str (sx [108])), (.tup [])])])])], .lst [(.str (sx [108])), (.str (sx [109]))], .lst [(.tup [(.str (sx [109])), (.str (sx [108]))])], .lst [(.tup [(.str (sx [112])), (.tup []), (.tup []), (.tup [(.tup []), (.tup [])]), (.tup [(.tup []), (.tup [])]), (.tup [(.tup [(.str (sx [104,111,108,100])), (.str (sx [109])), (.tup [(.tup [(.str (sx [99,97,108,108])), (.tup []), (.str (sx [113])), (.tup [])])])])])])], .lst [(.str (sx [108])), (.str (sx [109]))], .lst [(.tup [(.str (sx [108])), (.str (sx [109]))]), (.tup [(.str (sx [109])), (.str (sx [108]))])], .lst [(.tup [(.str (sx [112])), (.tup []), (.tup []), (.tup [(.tup []), (.tup [])]), (.tup [(.tup []), (.tup [])]), (.tup [(.tup [(.str (sx [104,111,108,100])), (.str (sx [107])), (.tup [(.tup [(.str (sx [98,111,116,104])), (.tup []), (.str (sx [113])), (.tup []), (.tup []), (.str (sx [114])), (.tup [])])])])])]), (.tup [(.str (sx [113])), (.tup []), (.tup []), (.tup [(.tup []), (.tup [])]), (.tup [(.tup []), (.tup [])]), (.tup [(.tup [(.str (sx [104,111,108,100])), (.str (sx [108])), (.tup [])])])]), (.tup [(.str (sx [114])), (.tup []), (.tup []), (.tup [(.tup []), (.tup [])]), (.tup [(.tup []), (.tup [])]), (.tup [(.tup [(.str (sx [104,111,108,100])), (.str (sx [109])), (.tup [])])])])], .lst [(.str (sx [108])), (.str (sx [109])), (.str (sx [107]))], .lst [(.tup [(.str (sx [107])), (.str (sx [108])), (.str (sx [109]))]), (.tup [(.str (sx [107])), (.str (sx [109])), (.str (sx [108]))])], .lst [(.tup [(.str (sx [112])), (.tup []), (.tup []), (.tup [(.tup []), (.tup [])]), (.tup [(.tup []), (.tup [])]), (.tup [(.tup [(.str (sx [104,111,108,100])), (.str (sx [122])), (.tup [(.tup [(.str (sx [104,111,108,100])), (.str (sx [108])), (.tup [])])])])])])], .lst [(.str (sx [108]))], .lst [(.tup [(.str (sx [108]))])], .lst [(.tup [(.str (sx [112])), (.tup []), (.tup []), (.tup [(.tup []), (.tup [])]), (.tup [(.tup []), (.tup [])]), (.tup [(.tup [(.str (sx [104,111,108,100])), (.str (sx [108])), (.tup [(.tup [(.str (sx [104,111,108,100])), (.str (sx [122])), (.tup [])])])])])])], .lst [(.str (sx [108]))], .lst [(.tup [(.str (sx [108]))])], .lst [(.tup [(.str (sx [112])), (.tup []), (.tup []), (.tup [(.tup []), (.tup [])]), (.tup [(.tup []), (.tup [])]), (.tup [(.tup [(.str (sx [105,102])), (.int 1), (.str (sx [105,115])), (.int 2), (.tup [(.tup [(.str (sx [104,111,108,100])), (.str (sx [109])), (.tup [(.tup [(.str (sx [104,111,108,100])), (.str (sx [108])), (.tup [])])])])]), (.tup [])])])])], .lst [(.str (sx [108])), (.str (sx [109]))], .lst [(.tup [(.str (sx [109])), (.str (sx [108]))])], .lst [(.tup [(.str (sx [112])), (.tup []), (.tup []), (.tup [(.tup []), (.tup [])]), (.tup [(.tup []), (.tup [])]), (.tup [(.tup [(.str (sx [119,104,105,108,101])), (.int 1), (.str (sx [105,115])), (.int 2), (.tup [(.tup []), (.tup [])]), (.tup [(.tup []), (.tup [])]), (.tup [(.tup [(.str (sx [104,111,108,100])), (.str (sx [109])), (.tup [(.tup [(.str (sx [104,111,108,100])), (.str (sx [108])), (.tup [])])])])])])])])], .lst [(.str (sx [108])), (.str (sx [109]))], .lst [(.tup [(.str (sx [109])), (.str (sx [108]))])], .lst [(.tup [(.str (sx [112])), (.tup []), (.tup []), (.tup [(.tup []), (.tup [])]), (.tup [(.tup []), (.tup [])]), (.tup [(.tup [(.str (sx [105,102])), (.int 1), (.str (sx [105,115])), (.int 1), (.tup []), (.tup [(.tup [(.str (sx [104,111,108,100])), (.str (sx [109])), (.tup [(.tup [(.str (sx [104,111,108,100])), (.str (sx [108])), (.tup [])])])])])])])])], .lst [(.str (sx [108])), (.str (sx [109]))], .lst [(.tup [(.str (sx [109])), (.str (sx [108]))])], .lst [(.tup [(.str (sx [112])), (.tup []), (.tup []), (.tup [(.tup []), (.tup [])]), (.tup [(.tup []), (.tup [])]), (.tup [(.tup [(.str (sx [104,111,108,100])), (.str (sx [109])), (.tup [(.tup [(.str (sx [99,97,108,108])), (.tup []), (.str (sx [113])), (.tup [(.int 1)])])])])])]), (.tup [(.str (sx [113])), (.tup []), (.tup []), (.tup [(.tup []), (.tup [])]), (.tup [(.tup []), (.tup [])]), (.tup [(.tup [(.str (sx [104,111,108,100])), (.str (sx [108])), (.tup [])])])])], .lst [(.str (sx [108])), (.str (sx [109]))], .lst [(.tup [(.str (sx [108])), (.str (sx [109]))]), (.tup [(.str (sx [109])), (.str (sx [108]))])], .lst [(.tup [(.str (sx [112])), (.tup []), (.tup []), (.tup [(.tup []), (.tup [])]), (.tup [(.tup []), (.tup [])]), (.tup [(.tup [(.str (sx [104,111,108,100])), (.str (sx [109])), (.tup [(.tup [(.str (sx [99,97,108,108])), (.tup [(.str (sx [97]))]), (.str (sx [113])), (.tup [])])])])])]), (.tup [(.str (sx [113])), (.tup []), (.tup []), (.tup [(.tup []), (.tup [])]), (.tup [(.tup []), (.tup [])]), (.tup [(.tup [(.str (sx [104,111,108,100])), (.str (sx [108])), (.tup [])])])])], .lst [(.str (sx [108])), (.str (sx [109]))], .lst [(.tup [(.str (sx [108])), (.str (sx [109]))]), (.tup [(.str (sx [109])), (.str (sx [108]))])], .lst [(.tup [(.str (sx [112])), (.tup []), (.tup []), (.tup [(.tup []), (.tup [])]), (.tup [(.tup []), (.tup [])]), (.tup [(.tup [(.str (sx [104,111,108,100])), (.str (sx [109])), (.tup [(.tup [(.str (sx [98,111,116,104])), (.tup [(.str (sx [97]))]), (.str (sx [113])), (.tup []), (.tup []), (.str (sx [113])), (.tup [(.int 1)])])])])])]), (.tup [(.str (sx [113])), (.tup []), (.tup []), (.tup [(.tup []), (.tup [])]), (.tup [(.tup []), (.tup [])]), (.tup [(.tup [(.str (sx [104,111,108,100])), (.str (sx [108])), (.tup [])])])])], .lst [(.str (sx [108])), (.str (sx [109]))], .lst [(.tup [(.str (sx [108])), (.str (sx [109]))]), (.tup [(.str (sx [109])), (.str (sx [108]))])], .lst [(.tup [(.str (sx [112])), (.tup []), (.tup []), (.tup [(.tup []), (.tup [])]), (.tup [(.tup []), (.tup [])]), (.tup [(.tup [(.str (sx [99,97,108,108])), (.tup []), (.str (sx [113])), (.tup [])])])]), (.tup [(.str (sx [113])), (.tup []), (.tup []), (.tup [(.tup []), (.tup [])]), (.tup [(.tup []), (.tup [])]), (.tup [(.tup [(.str (sx [104,111,108,100])), (.str (sx [109])), (.tup [(.tup [(.str (sx [99,97,108,108])), (.tup []), (.str (sx [114])), (.tup [])])])])])])], .lst [(.tup [(.str (sx [112])), (.tup []), (.tup []), (.tup [(.tup []), (.tup [])]), (.tup [(.tup []), (.tup [])]), (.tup [(.tup [(.str (sx [99,97,108,108])), (.tup []), (.str (sx [113])), (.tup [])])])]), (.tup [(.str (sx [113])), (.tup []), (.tup []), (.tup [(.tup []), (.tup [])]), (.tup [(.tup []), (.tup [])]), (.tup [(.tup [(.str (sx [104,111,108,100])), (.str (sx [109])), (.tup [(.tup [(.str (sx [99,97,108,108])), (.tup []), (.str (sx [114])), (.tup [])])])])])]), (.tup [(.str (sx [114])), (.tup []), (.tup []), (.tup [(.tup []), (.tup [])]), (.tup [(.tup []), (.tup [])]), (.tup [(.tup [(.str (sx [104,111,108,100])), (.str (sx [108])), (.tup [])])])])], .lst [(.str (sx [108])), (.str (sx [109]))], .lst [(.tup [(.str (sx [109])), (.str (sx [108]))])], .lst [], .lst [(.str (sx [108]))], .lst [(.str (sx [109])), (.str (sx [108]))], .lst [(.str (sx [109])), (.str (sx [108]))]]
theorem q1_3 (ns : List Int) : stepL (kCs g FF 100000 (bodyOf (body 1))) (tgOf (body 1)) w1 (.tup [(.loc .lst 10), (.loc .lst 11), (.loc .lst 12)]) (e4 ns) S4 = some ((e5 ns), S5) := by kernel_rfl
def e6 (ns : List Int) : Env := [some (.scr ns), some (.tup [(.tup []), (.tup [])]), some (.loc .lst 13), some (.loc .lst 14), some (.loc .lst 15), some (.loc .lst 54), some (.str (sx [111,114,100,101,114])), some (.tup [(.str (sx [109])), (.str (sx [108]))]), none, none, none, none]
def S6 : Sto := [.lst [], .lst [], .lst [(.tup [])], .lst [], .lst [(.str (sx [108]))], .lst [(.tup [(.str (sx [108]))])], .lst [(.tup [(.str (sx [112])), (.tup []), (.tup []), (.tup [(.tup []), (.tup [])]), (.tup [(.tup []), (.tup [])]), (.tup [(.tup [(.str (sx [104,111,108,100])), (.str (sx [108])), (.tup [])]), (.tup [(.str (sx [104,111,108,100])), (.str (sx [109])), (.tup [])])])])], .lst [(.str (sx [108])), (.str (sx [109]))], .lst [(.tup [(.str (sx [108])), (.str (sx [109]))]), (.tup [(.str (sx [109])), (.str (sx [108]))])], .lst [(.tup [(.loc .lst 0), (.loc .lst 1), (.loc .lst 2)]), (.tup [(.loc .lst 3), (.loc .lst 4), (.loc .lst 5)]), (.tup [(.loc .lst 6), (.loc .lst 7), (.loc .lst 8)]), (.tup [(.loc .lst 10), (.loc .lst 11), (.loc .lst 12)]), (.tup [(.loc .lst 13), (.loc .lst 14), (.loc .lst 15)]), (.tup [(.loc .lst 16), (.loc .lst 17), (.loc .lst 18)]), (.tup [(.loc .lst 19), (.loc .lst 20), (.loc .lst 21)]), (.tup [(.loc .lst 22), (.loc .lst 23), (.loc .lst 24)]), (.tup [(.loc .lst 25), (.loc .lst 26), (.loc .lst 27)]), (.tup [(.loc .lst 28), (.loc .lst 29), (.loc .lst 30)]), (.tup [(.loc .lst 31), (.loc .lst 32), (.loc .lst 33)]), (.tup [(.loc .lst 34), (.loc .lst 35), (.loc .lst 36)]), (.tup [(.loc .lst 37), (.loc .lst 38), (.loc .lst 39)]), (.tup [(.loc .lst 40), (.loc .lst 41), (.loc .lst 42)]), (.tup [(.loc .lst 43), (.loc .lst 44), (.loc .lst 45)]), (.tup [(.loc .lst 47), (.loc .lst 48), (.loc .lst 49)])], .lst [(.tup [(.str (sx [112])), (.tup []), (.tup []), (.tup [(.tup []), (.tup [])]), (.tup [(.tup []), (.tup [])]), (.tup [(.tup [(.str (sx [104,111,108,100])), (.str (sx [109])), (.tup [(.tup [(.str (sx [104,111,108,100])), (.str (sx [108])), (.tup [])])])])])])], .lst [(.str (sx [108])), (.str (sx [109]))], .lst [(.tup [(.str (sx [109])), (.str (sx [108]))])], .lst [(.tup [(.str (sx [112])), (.tup []), (.tup []), (.tup [(.tup []), (.tup [])]), (.tup [(.tup []), (.tup [])]), (.tup [(.tup [(.str (sx [104,111,108,100])), (.str (sx [109])), (.tup [(.tup [(.str (sx [99,97,108,108])), (.tup []), (.str (sx [113])), (.tup [])])])])])]), (.tup [(.str (sx [113])), (.tup []), (.tup []), (.tup [(.tup []), (.tup [])]), (.tup [(.tup []), (.tup [])]), (.tup [(.tup [(.str (sx [104,111,108,100])), (.str (sx [108])), (.tup [])])])])], .lst [(.str (sx [108])), (.str (sx [109]))], .lst [(.tup [(.str (sx [109])), (.str (sx [108]))])], .lst [(.tup [(.str (sx [112])), (.tup []), (.tup []), (.tup [(.tup []), (.tup [])]), (.tup [(.tup []), (.tup [])]), (.tup [(.tup [(.str (sx [104,111,108,100])), (.str (sx [109])), (.tup [(.tup [(.str (sx [99,97,108,108])), (.tup []), (.str (sx [113])), (.tup [])])])])])])], .lst [(.str (sx [108])), (.str (sx [109]))], .lst [(.tup [(.str (sx [108])), (.str (sx [109]))]), (.tup [(.str (sx [109])), (.str (sx [108]))])], .lst [(.tup [(.str (sx [112])), (.tup []), (.tup []), (.tup [(.tup []), (.tup [])]), (.tup [(.tup []), (.tup [])]), (.tup [(.tup [(.str (sx [104,111,108,100])), (.str (sx [107])), (.tup [(.tup [(.str (sx [98,111,116,104])), (.tup []), (.str (sx [113])), (.tup []), (.tup []), (.str (sx [114])), (.tup [])])])])])]), (.tup [(.str (sx [113])), (.tup []), (.tup []), (.tup [(.tup []), (.tup [])]), (.tup [(.tup []), (.tup [])]), (.tup [(.tup [(.str (sx [104,111,108,100])), (.str (sx [108])), (.tup [])])])]), (.tup [(.str (sx [114])), (.tup []), (.tup []), (.tup [(.tup []), (.tup [])]), (.tup [(.tup []), (.tup [])]), (.tup [(.tup [(.str (sx [104,111,108,100])), (.str (sx [109])), (.tup [])])])])], .lst [(.str (sx [108])), (.str (sx [109])), (.str (sx [107]))], .lst [(.tup [(.str (sx [107])), (.str (sx [108])), (.str (sx [109]))]), (.tup [(.str (sx [107])), (.str (sx [109])), (.str (sx [108]))])], .lst [(.tup [(.str (sx [112])), (.tup []), (.tup []), (.tup [(.tup []), (.tup [])]), (.tup [(.tup []), (.tup [])]), (.tup [(.tup [(.str (sx [104,111,108,100])), (.str (sx [122])), (.tup [(.tup [(.str (sx [104,111,108,100])), (.str (sx [108])), (.tup [])])])])])])], .lst [(.str (sx [108]))], .lst [(.tup [(.str (sx [108]))])], .lst [(.tup [(.str (sx [112])), (.tup []), (.tup []), (.tup [(.tup []), (.tup [])]), (.tup [(.tup []), (.tup [])]), (.tup [(.tup [(.str (sx [104,111,108,100])), (.str (sx [108])), (.tup [(.tup [(.str (sx [104,111,108,100])), (.str (sx [122])), (.tup [])])])])])])], .lst [(.str (sx [108]))], .lst [(.tup [(.str (sx [108]))])], .lst [(.tup [(.str (sx [112])), (.tup []), (.tup []), (.tup [(.tup []), (.tup [])]), (.tup [(.tup []), (.tup [])]), (.tup [(.tup [(.str (sx [105,102])), (.int 1), (.str (sx [105,115])), (.int 2), (.tup [(.tup [(.str (sx [104,111,108,100])), (.str (sx [109])), (.tup [(.tup [(.str (sx [104,111,108,100])), (.str (sx [108])), (.tup [])])])])]), (.tup [])])])])], .lst [(.str (sx [108])), (.str (sx [109]))], .lst [(.tup [(.str (sx [109])), (.str (sx [108]))])], .lst [(.tup [(.str (sx [112])), (.tup []), (.tup []), (.tup [(.tup []), (.tup [])]), (.tup [(.tup []), (.tup [])]), (.tup [(.tup [(.str (sx [119,104,105,108,101])), (.int 1), (.str (sx [105,115])), (.int 2), (.tup [(.tup []), (.tup [])]), (.tup [(.tup []), (.tup [])]), (.tup [(.tup [(.str (sx [104,111,108,100])), (.str (sx [109])), (.tup [(.tup [(.str (sx [104,111,108,100])), (.str (sx [108])), (.tup [])])])])])])])])], .lst [(.str (sx [108])), (.str (sx [109]))], .lst [(.tup [(.str (sx [109])), (.str (sx [108]))])], .lst [(.tup [(.str (sx [112])), (.tup []), (.tup []), (.tup [(.tup []), (.tup [])]), (.tup [(.tup []), (.tup [])]), (.tup [(.tup [(.str (sx [105,102])), (.int 1), (.str (sx [105,115])), (.int 1), (.tup []), (.tup [(.tup [(.str (sx [104,111,108,100])), (.str (sx [109])), (.tup [(.tup [(.str (sx [104,111,108,100])), (.str (sx [108])), (.tup [])])])])])])])])], .lst [(.str (sx [108])), (.str (sx [109]))], .lst [(.tup [(.str (sx [109])), (.str (sx [108]))])], .lst [(.tup [(.str (sx [112])), (.tup []), (.tup []), (.tup [(.tup []), (.tup [])]), (.tup [(.tup []), (.tup [])]), (.tup [(.tup [(.str (sx [104,111,108,100])), (.str (sx [109])), (.tup [(.tup [(.str (sx [99,97,108,108])), (.tup []), (.str (sx [113])), (.tup [(.int 1)])])])])])]), (.tup [(.str (sx [113])), (.tup []), (.tup []), (.tup [(.tup []), (.tup [])]), (.tup [(.tup []), (.tup [])]), (.tup [(.tup [(.str (sx [104,111,108,100])), (.str (sx [108])), (.tup [])])])])], .lst [(.str (sx [108])), (.str (sx [109]))], .lst [(.tup [(.str (sx [108])), (.str (sx [109]))]), (.tup [(.str (sx [109])), (.str (sx [108]))])], .lst [(.tup [(.str (sx [112])), (.tup []), (.tup []), (.tup [(.tup []), (.tup [])]), (.tup [(.tup []), (.tup [])]), (.tup [(.tup [(.str (sx [104,111,108,100])), (.str (sx [109])), (.tup [(.tup [(.str (sx [99,97,108,108])), (.tup [(.str (sx [97]))]), (.str (sx [113])), (.tup [])])])])])]), (.tup [(.str (sx [113])), (.tup []), (.tup []), (.tup [(.tup []), (.tup [])]), (.tup [(.tup []), (.tup [])]), (.tup [(.tup [(.str (sx [104,111,108,100])), (.str (sx [108])), (.tup [])])])])], .lst [(.str (sx [108])), (.str (sx [109]))], .lst [(.tup [(.str (sx [108])), (.str (sx [109]))]), (.tup [(.str (sx [109])), (.str (sx [108]))])], .lst [(.tup [(.str (sx [112])), (.tup []), (.tup []), (.tup [(.tup []), (.tup [])]), (.tup [(.tup []), (.tup [])]), (.tup [(.tup [(.str (sx [104,111,108,100])), (.str (sx [109])), (.tup [(.tup [(.str (sx [98,111,116,104])), (.tup [(.str (sx [97]))]), (.str (sx [113])), (.tup []), (.tup []), (.str (sx [113])), (.tup [(.int 1)])])])])])]), (.tup [(.str (sx [113])), (.tup []), (.tup []), (.tup [(.tup []), (.tup [])]), (.tup [(.tup []), (.tup [])]), (.tup [(.tup [(.str (sx [104,111,108,100])), (.str (sx [108])), (.tup [])])])])], .lst [(.str (sx [108])), (.str (sx [109]))], .lst [(.tup [(.str (sx [108])), (.str (sx [109]))]), (.tup [(.str (sx [109])), (.str (sx [108]))])], .lst [(.tup [(.str (sx [112])), (.tup []), (.tup []), (.tup [(.tup []), (.tup [])]), (.tup [(.tup []), (.tup [])]), (.tup [(.tup [(.str (sx [99,97,108,108])), (.tup []), (.str (sx [113])), (.tup [])])])]), (.tup [(.str (sx [113])), (.tup []), (.tup []), (.tup [(.tup []), (.tup [])]), (.tup [(.tup []), (.tup [])]), (.tup [(.tup [(.str (sx [104,111,108,100])), (.str (sx [109])), (.tup [(.tup [(.str (sx [99,97,108,108])), (.tup []), (.str (sx [114])), (.tup [])])])])])])], .lst [(.tup [(.str (sx [112])), (.tup []), (.tup []), (.tup [(.tup []), (.tup [])]), (.tup [(.tup []), (.tup [])]), (.tup [(.tup [(.str (sx [99,97,108,108])), (.tup []), (.str (sx [113])), (.tup [])])])]), (.tup [(.str (sx [113])), (.tup []), (.tup []), (.tup [(.tup []), (.tup [])]), (.tup [(.tup []), (.tup [])]), (.tup [(.tup [(.str (sx [104,111,108,100])), (.str (sx [109])), (.tup [(.tup [(.str (sx [99,97,108,108])), (.tup []), (.str (sx [114])), (.tup [])])])])])]), (.tup [(.str (sx [114])), (.tup []), (.tup []), (.tup [(.tup []), (.tup [])]), (.tup [(.tup []), (.tup [])]), (.tup [(.tup [(.str (sx [104,111,108,100])), (.str (sx [108])), (.tup [])])])])], .lst [(.str (sx [108])), (.str (sx [109]))], .lst [(.tup [(.str (sx [109])), (.str (sx [108]))])], .lst [], .lst [(.str (sx [108]))], .lst [(.str (sx [109])), (.str (sx [108]))], .lst [(.str (sx [109])), (.str (sx [108]))], .lst [(.str (sx [109])), (.str (sx [108]))]]
theorem q1_4 (ns : List Int) : stepL (kCs g FF 100000 (bodyOf (body 1))) (tgOf (body 1)) w1 (.tup [(.loc .lst 13), (.loc .lst 14), (.loc .lst 15)]) (e5 ns) S5 = some ((e6 ns), S6) := by kernel_rfl
def e7 (ns : List Int) : Env := [some (.scr ns), some (.tup [(.tup []), (.tup [])]), some (.loc .lst 16), some (.loc .lst 17), some (.loc .lst 18), some (.loc .lst 55), some (.str (sx [111,114,100,101,114])), some (.tup [(.str (sx [109])), (.str (sx [108]))]), none, none, none, none]
def S7 : Sto := [.lst [], .lst [], .lst [(.tup [])], .lst [], .lst [(.str (sx [108]))], .lst [(.tup [(.str (sx [108]))])], .lst [(.tup [(.str (sx [112])), (.tup []), (.tup []), (.tup [(.tup []), (.tup [])]), (.tup [(.tup []), (.tup [])]), (.tup [(.tup [(.str (sx [104,111,108,100])), (.str (sx [108])), (.tup [])]), (.tup [(.str (sx [104,111,108,100])), (.str (sx [109])), (.tup [])])])])], .lst [(.str (sx [108])), (.str (sx [109]))], .lst [(.tup [(.str (sx [108])), (.str (sx [109]))]), (.tup [(.str (sx [109])), (.str (sx [108]))])], .lst [(.tup [(.loc .lst 0), (.loc .lst 1), (.loc .lst 2)]), (.tup [(.loc .lst 3), (.loc .lst 4), (.loc .lst 5)]), (.tup [(.loc .lst 6), (.loc .lst 7), (.loc .lst 8)]), (.tup [(.loc .lst 10), (.loc .lst 11), (.loc .lst 12)]), (.tup [(.loc .lst 13), (.loc .lst 14), (.loc .lst 15)]), (.tup [(.loc .lst 16), (.loc .lst 17), (.loc .lst 18)]), (.tup [(.loc .lst 19), (.loc .lst 20), (.loc .lst 21)]), (.tup [(.loc .lst 22), (.loc .lst 23), (.loc .lst 24)]), (.tup [(.loc .lst 25), (.loc .lst 26), (.loc .lst 27)]), (.tup [(.loc .lst 28), (.loc .lst 29), (.loc .lst 30)]), (.tup [(.loc .lst 31), (.loc .lst 32), (.loc .lst 33)]), (.tup [(.loc .lst 34), (.loc .lst 35), (.loc .lst 36)]), (.tup [(.loc .lst 37), (.loc .lst 38), (.loc .lst 39)]), (.tup [(.loc .lst 40), (.loc .lst 41), (.loc .lst 42)]), (.tup [(.loc .lst 43), (.loc .lst 44), (.loc .lst 45)]), (.tup [(.loc .lst 47), (.loc .lst 48), (.loc .lst 49)])], .lst [(.tup [(.str (sx [112])), (.tup []), (.tup []), (.tup [(.tup []), (.tup [])]), (.tup [(.tup []), (.tup [])]), (.tup [(.tup [(.str (sx [104,111,108,100])), (.str (sx [109])), (.tup [(.tup [(.str (sx [104,111,108,100])), (.str (sx [108])), (.tup [])])])])])])], .lst [(.str (sx [108])), (.str (sx [109]))], .lst [(.tup [(.str (sx [109])), (.str (sx [108]))])], .lst [(.tup [(.str (sx [112])), (.tup []), (.tup []), (.tup [(.tup []), (.tup [])]), (.tup [(.tup []), (.tup [])]), (.tup [(.tup [(.str (sx [104,111,108,100])), (.str (sx [109])), (.tup [(.tup [(.str (sx [99,97,108,108])), (.tup []), (.str (sx [113])), (.tup [])])])])])]), (.tup [(.str (sx [113])), (.tup []), (.tup []), (.tup [(.tup []), (.tup [])]), (.tup [(.tup []), (.tup [])]), (.tup [(.tup [(.str (sx [104,111,108,100])), (.str (sx [108])), (.tup [])])])])], .lst [(.str (sx [108])), (.str (sx [109]))], .lst [(.tup [(.str (sx [109])), (.str (sx [108]))])], .lst [(.tup [(.str (sx [112])), (.tup []), (.tup []), (.tup [(.tup []), (.tup [])]), (.tup [(.tup []), (.tup [])]), (.tup [(.tup [(.str (sx [104,111,108,100])), (.str (sx [109])), (.tup [(.tup [(.str (sx [99,97,108,108])), (.tup []), (.str (sx [113])), (.tup [])])])])])])], .lst [(.str (sx [108])), (.str (sx [109]))], .lst [(.tup [(.str (sx [108])), (.str (sx [109]))]), (.tup [(.str (sx [109])), (.str (sx [108]))])], .lst [(.tup [(.str (sx [112])), (.tup []), (.tup []), (.tup [(.tup []), (.tup [])]), (.tup [(.tup []), (.tup [])]), (.tup [(.tup [(.str (sx [104,111,108,100])), (.str (sx [107])), (.tup [(.tup [(.str (sx [98,111,116,104])), (.tup []), (.str (sx [113])), (.tup []), (.tup []), (.str (sx [114])), (.tup [])])])])])]), (.tup [(.str (sx [113])), (.tup []), (.tup []), (.tup [(.tup []), (.tup [])]), (.tup [(.tup []), (.tup [])]), (.tup [(.tup [(.str (sx [104,111,108,100])), (.str (sx [108])), (.tup [])])])]), (.tup [(.str (sx [114])), (.tup []), (.tup []), (.tup [(.tup []), (.tup [])]), (.tup [(.tup []), (.tup [])]), (.tup [(.tup [(.str (sx [104,111,108,100])), (.str (sx [109])), (.tup [])])])])], .lst [(.str (sx [108])), (.str (sx [109])), (.str (sx [107]))], .lst [(.tup [(.str (sx [107])), (.str (sx [108])), (.str (sx [109]))]), (.tup [(.str (sx [107])), (.str (sx [109])), (.str (sx [108]))])], .lst [(.tup [(.str (sx [112])), (.tup []), (.tup []), (.tup [(.tup []), (.tup [])]), (.tup [(.tup []), (.tup [])]), (.tup [(.tup [(.str (sx [104,111,108,100])), (.str (sx [122])), (.tup [(.tup [(.str (sx [104,111,108,100])), (.str (sx [108])), (.tup [])])])])])])], .lst [(.str (sx [108]))], .lst [(.tup [(.str (sx [108]))])], .lst [(.tup [(.str (sx [112])), (.tup []), (.tup []), (.tup [(.tup []), (.tup [])]), (.tup [(.tup []), (.tup [])]), (.tup [(.tup [(.str (sx [104,111,108,100])), (.str (sx [108])), (.tup [(.tup [(.str (sx [104,111,108,100])), (.str (sx [122])), (.tup [])])])])])])], .lst [(.str (sx [108]))], .lst [(.tup [(.str (sx [108]))])], .lst [(.tup [(.str (sx [112])), (.tup []), (.tup []), (.tup [(.tup []), (.tup [])]), (.tup [(.tup []), (.tup [])]), (.tup [(.tup [(.str (sx [105,102])), (.int 1), (.str (sx [105,115])), (.int 2), (.tup [(.tup [(.str (sx [104,111,108,100])), (.str (sx [109])), (.tup [(.tup [(.str (sx [104,111,108,100])), (.str (sx [108])), (.tup [])])])])]), (.tup [])])])])], .lst [(.str (sx [108])), (.str (sx [109]))], .lst [(.tup [(.str (sx [109])), (.str (sx [108]))])], .lst [(.tup [(.str (sx [112])), (.tup []), (.tup []), (.tup [(.tup []), (.tup [])]), (.tup [(.tup []), (.tup [])]), (.tup [(.tup [(.str (sx [119,104,105,108,101])), (.int 1), (.str (sx [105,115])), (.int 2), (.tup [(.tup []), (.tup [])]), (.tup [(.tup []), (.tup [])]), (.tup [(.tup [(.str (sx [104,111,108,100])), (.str (sx [109])), (.tup [(.tup [(.str (sx [104,111,108,100])), (.str (sx [108])), (.tup [])])])])])])])])], .lst [(.str (sx [108])), (.str (sx [109]))], .lst [(.tup [(.str (sx [109])), (.str (sx [108]))])], .lst [(.tup [(.str (sx [112])), (.tup []), (.tup []), (.tup [(.tup []), (.tup [])]), (.tup [(.tup []), (.tup [])]), (.tup [(.tup [(.str (sx [105,102])), (.int 1), (.str (sx [105,115])), (.int 1), (.tup []), (.tup [(.tup [(.str (sx [104,111,108,100])), (.str (sx [109])), (.tup [(.tup [(.str (sx [104,111,108,100])), (.str (sx [108])), (.tup [])])])])])])])])], .lst [(.str (sx [108])), (.str (sx [109]))], .lst [(.tup [(.str (sx [109])), (.str (sx [108]))])], .lst [(.tup [(.str (sx [112])), (.tup []), (.tup []), (.tup [(.tup []), (.tup [])]), (.tup [(.tup []), (.tup [])]), (.tup [(.tup [(.str (sx [104,111,108,100])), (.str (sx [109])), (.tup [(.tup [(.str (sx [99,97,108,108])), (.tup []), (.str (sx [113])), (.tup [(.int 1)])])])])])]), (.tup [(.str (sx [113])), (.tup []), (.tup []), (.tup [(.tup []), (.tup [])]), (.tup [(.tup []), (.tup [])]), (.tup [(.tup [(.str (sx [104,111,108,100])), (.str (sx [108])), (.tup [])])])])], .lst [(.str (sx [108])), (.str (sx [109]))], .lst [(.tup [(.str (sx [108])), (.str (sx [109]))]), (.tup [(.str (sx [109])), (.str (sx [108]))])], .lst [(.tup [(.str (sx [112])), (.tup []), (.tup []), (.tup [(.tup []), (.tup [])]), (.tup [(.tup []), (.tup [])]), (.tup [(.tup [(.str (sx [104,111,108,100])), (.str (sx [109])), (.tup [(.tup [(.str (sx [99,97,108,108])), (.tup [(.str (sx [97]))]), (.str (sx [113])), (.tup [])])])])])]), (.tup [(.str (sx [113])), (.tup []), (.tup []), (.tup [(.tup []), (.tup [])]), (.tup [(.tup []), (.tup [])]), (.tup [(.tup [(.str (sx [104,111,108,100])), (.str (sx [108])), (.tup [])])])])], .lst [(.str (sx [108])), (.str (sx [109]))], .lst [(.tup [(.str (sx [108])), (.str (sx [109]))]), (.tup [(.str (sx [109])), (.str (sx [108]))])], .lst [(.tup [(.str (sx [112])), (.tup []), (.tup []), (.tup [(.tup []), (.tup [])]), (.tup [(.tup []), (.tup [])]), (.tup [(.tup [(.str (sx [104,111,108,100])), (.str (sx [109])), (.tup [(.tup [(.str (sx [98,111,116,104])), (.tup [(.str (sx [97]))]), (.str (sx [113])), (.tup []), (.tup []), (.str (sx [113])), (.tup [(.int 1)])])])])])]), (.tup [(.str (sx [113])), (.tup []), (.tup []), (.tup [(.tup []), (.tup [])]), (.tup [(.tup []), (.tup [])]), (.tup [(.tup [(.str (sx [104,111,108,100])), (.str (sx [108])), (.tup [])])])])], .lst [(.str (sx [108])), (.str (sx [109]))], .lst [(.tup [(.str (sx [108])), (.str (sx [109]))]), (.tup [(.str (sx [109])), (.str (sx [108]))])], .lst [(.tup [(.str (sx [112])), (.tup []), (.tup []), (.tup [(.tup []), (.tup [])]), (.tup [(.tup []), (.tup [])]), (.tup [(.tup [(.str (sx [99,97,108,108])), (.tup []), (.str (sx [113])), (.tup [])])])]), (.tup [(.str (sx [113])), (.tup []), (.tup []), (.tup [(.tup []), (.tup [])]), (.tup [(.tup []), (.tup [])]), (.tup [(.tup [(.str (sx [104,111,108,100])), (.str (sx [109])), (.tup [(.tup [(.str (sx [99,97,108,108])), (.tup []), (.str (sx [114])), (.tup [])])])])])])], .lst [(.tup [(.str (sx [112])), (.tup []), (.tup []), (.tup [(.tup []), (.tup [])]), (.tup [(.tup []), (.tup [])]), (.tup [(.tup [(.str (sx [99,97,108,108])), (.tup []), (.str (sx [113])), (.tup [])])])]), (.tup [(.str (sx [113])), (.tup []), (.tup []), (.tup [(.tup []), (.tup [])]), (.tup [(.tup []), (.tup [])]), (.tup [(.tup [(.str (sx [104,111,108,100])), (.str (sx [109])), (.tup [(.tup [(.str (sx [99,97,108,108])), (.tup []), (.str (sx [114])), (.tup [])])])])])]), (.tup [(.str (sx [114])), (.tup []), (.tup []), (.tup [(.tup []), (.tup [])]), (.tup [(.tup []), (.tup [])]), (.tup [(.tup [(.str (sx [104,111,108,100])), (.str (sx [108])), (.tup [])])])])], .lst [(.str (sx [108])), (.str (sx [109]))], .lst [(.tup [(.str (sx [109])), (.str (sx [108]))])], .lst [], .lst [(.str (sx [108]))], .lst [(.str (sx [109])), (.str (sx [108]))], .lst [(.str (sx [109])), (.str (sx [108]))], .lst [(.str (sx [109])), (.str (sx [108]))], .lst [(.str (sx [109])), (.str (sx [108]))]]
theorem q1_5 (ns : List Int) : stepL (kCs g FF 100000 (bodyOf (body 1))) (tgOf (body 1)) w1 (.tup [(.loc .lst 16), (.loc .lst 17), (.loc .lst 18)]) (e6 ns) S6 = some ((e7 ns), S7) := by kernel_rfl
def e8 (ns : List Int) : Env := [some (.scr ns), some (.tup [(.tup []), (.tup [])]), some (.loc .lst 19), some (.loc .lst 20), some (.loc .lst 21), some (.loc .lst 56), some (.str (sx [111,114,100,101,114])), some (.tup [(.str (sx [107])), (.str (sx [109])), (.str (sx [108]))]), none, none, none, none]
def S8 : Sto := [.lst [], .lst [], .lst [(.tup [])], .lst [], .lst [(.str (sx [108]))], .lst [(.tup [(.str (sx [108]))])], .lst [(.tup [(.str (sx [112])), (.tup []), (.tup []), (.tup [(.tup []), (.tup [])]), (.tup [(.tup []), (.tup [])]), (.tup [(.tup [(.str (sx [104,111,108,100])), (.str (sx [108])), (.tup [])]), (.tup [(.str (sx [104,111,108,100])), (.str (sx [109])), (.tup [])])])])], .lst [(.str (sx [108])), (.str (sx [109]))], .lst [(.tup [(.str (sx [108])), (.str (sx [109]))]), (.tup [(.str (sx [109])), (.str (sx [108]))])], .lst [(.tup [(.loc .lst 0), (.loc .lst 1), (.loc .lst 2)]), (.tup [(.loc .lst 3), (.loc .lst 4), (.loc .lst 5)]), (.tup [(.loc .lst 6), (.loc .lst 7), (.loc .lst 8)]), (.tup [(.loc .lst 10), (.loc .lst 11), (.loc .lst 12)]), (.tup [(.loc .lst 13), (.loc .lst 14), (.loc .lst 15)]), (.tup [(.loc .lst 16), (.loc .lst 17), (.loc .lst 18)]), (.tup [(.loc .lst 19), (.loc .lst 20), (.loc .lst 21)]), (.tup [(.loc .lst 22), (.loc .lst 23), (.loc .lst 24)]), (.tup [(.loc .lst 25), (.loc .lst 26), (.loc .lst 27)]), (.tup [(.loc .lst 28), (.loc .lst 29), (.loc .lst 30)]), (.tup [(.loc .lst 31), (.loc .lst 32), (.loc .lst 33)]), (.tup [(.loc .lst 34), (.loc .lst 35), (.loc .lst 36)]), (.tup [(.loc .lst 37), (.loc .lst 38), (.loc .lst 39)]), (.tup [(.loc .lst 40), (.loc .lst 41), (.loc .lst 42)]), (.tup [(.loc .lst 43), (.loc .lst 44), (.loc .lst 45)]), (.tup [(.loc .lst 47), (.loc .lst 48), (.loc .lst 49)])], .lst [(.tup [(.str (sx [112])), (.tup []), (.tup []), (.tup [(.tup []), (.tup [])]), (.tup [(.tup []), (.tup [])]), (.tup [(.tup [(.str (sx [104,111,108,100])), (.str (sx [109])), (.tup [(.tup [(.str (sx [104,111,108,100])), (.str (sx [108])), (.tup [])])])])])])], .lst [(.str (sx [108])), (.str (sx [109]))], .lst [(.tup [(.str (sx [109])), (.str (sx [108]))])], .lst [(.tup [(.str (sx [112])), (.tup []), (.tup []), (.tup [(.tup []), (.tup [])]), (.tup [(.tup []), (.tup [])]), (.tup [(.tup [(.str (sx [104,111,108,100])), (.str (sx [109])), (.tup [(.tup [(.str (sx [99,97,108,108])), (.tup []), (.str (sx [113])), (.tup [])])])])])]), (.tup [(.str (sx [113])), (.tup []), (.tup []), (.tup [(.tup []), (.tup [])]), (.tup [(.tup []), (.tup [])]), (.tup [(.tup [(.str (sx [104,111,108,100])), (.str (sx [108])), (.tup [])])])])], .lst [(.str (sx [108])), (.str (sx [109]))], .lst [(.tup [(.str (sx [109])), (.str (sx [108]))])], .lst [(.tup [(.str (sx [112])), (.tup []), (.tup []), (.tup [(.tup []), (.tup [])]), (.tup [(.tup []), (.tup [])]), (.tup [(.tup [(.str (sx [104,111,108,100])), (.str (sx [109])), (.tup [(.tup [(.str (sx [99,97,108,108])), (.tup []), (.str (sx [113])), (.tup [])])])])])])], .lst [(.str (sx [108])), (.str (sx [109]))], .lst [(.tup [(.str (sx [108])), (.str (sx [109]))]), (.tup [(.str (sx [109])), (.str (sx [108]))])], .lst [(.tup [(.str (sx [112])), (.tup []), (.tup []), (.tup [(.tup []), (.tup [])]), (.tup [(.tup []), (.tup [])]), (.tup [(.tup [(.str (sx [104,111,108,100])), (.str (sx [107])), (.tup [(.tup [(.str (sx [98,111,116,104])), (.tup []), (.str (sx [113])), (.tup []), (.tup []), (.str (sx [114])), (.tup [])])])])])]), (.tup [(.str (sx [113])), (.tup []), (.tup []), (.tup [(.tup []), (.tup [])]), (.tup [(.tup []), (.tup [])]), (.tup [(.tup [(.str (sx [104,111,108,100])), (.str (sx [108])), (.tup [])])])]), (.tup [(.str (sx [114])), (.tup []), (.tup []), (.tup [(.tup []), (.tup [])]), (.tup [(.tup []), (.tup [])]), (.tup [(.tup [(.str (sx [104,111,108,100])), (.str (sx [109])), (.tup [])])])])], .lst [(.str (sx [108])), (.str (sx [109])), (.str (sx [107]))], .lst [(.tup [(.str (sx [107])), (.str (sx [108])), (.str (sx [109]))]), (.tup [(.str (sx [107])), (.str (sx [109])), (.str (sx [108]))])], .lst [(.tup [(.str (sx [112])), (.tup []), (.tup []), (.tup [(.tup []), (.tup [])]), (.tup [(.tup []), (.tup [])]), (.tup [(.tup [(.str (sx [104,111,108,100])), (.str (sx [122])), (.tup [(.tup [(.str (sx [104,111,108,100])), (.str (sx [108])), (.tup [])])])])])])], .lst [(.str (sx [108]))], .lst [(.tup [(.str (sx [108]))])], .lst [(.tup [(.str (sx [112])), (.tup []), (.tup []), (.tup [(.tup []), (.tup [])]), (.tup [(.tup []), (.tup [])]), (.tup [(.tup [(.str (sx [104,111,108,100])), (.str (sx [108])), (.tup [(.tup [(.str (sx [104,111,108,100])), (.str (sx [122])), (.tup [])])])])])])], .lst [(.str (sx [108]))], .lst [(.tup [(.str (sx [108]))])], .lst [(.tup [(.str (sx [112])), (.tup []), (.tup []), (.tup [(.tup []), (.tup [])]), (.tup [(.tup []), (.tup [])]), (.tup [(.tup [(.str (sx [105,102])), (.int 1), (.str (sx [105,115])), (.int 2), (.tup [(.tup [(.str (sx [104,111,108,100])), (.str (sx [109])), (.tup [(.tup [(.str (sx [104,111,108,100])), (.str (sx [108])), (.tup [])])])])]), (.tup [])])])])], .lst [(.str (sx [108])), (.str (sx [109]))], .lst [(.tup [(.str (sx [109])), (.str (sx [108]))])], .lst [(.tup [(.str (sx [112])), (.tup []), (.tup []), (.tup [(.tup []), (.tup [])]), (.tup [(.tup []), (.tup [])]), (.tup [(.tup [(.str (sx [119,104,105,108,101])), (.int 1), (.str (sx [105,115])), (.int 2), (.tup [(.tup []), (.tup [])]), (.tup [(.tup []), (.tup [])]), (.tup [(.tup [(.str (sx [104,111,108,100])), (.str (sx [109])), (.tup [(.tup [(.str (sx [104,111,108,100])), (.str (sx [108])), (.tup [])])])])])])])])], .lst [(.str (sx [108])), (.str (sx [109]))], .lst [(.tup [(.str (sx [109])), (.str (sx [108]))])], .lst [(.tup [(.str (sx [112])), (.tup []), (.tup []), (.tup [(.tup []), (.tup [])]), (.tup [(.tup []), (.tup [])]), (.tup [(.tup [(.str (sx [105,102])), (.int 1), (.str (sx [105,115])), (.int 1), (.tup []), (.tup [(.tup [(.str (sx [104,111,108,100])), (.str (sx [109])), (.tup [(.tup [(.str (sx [104,111,108,100])), (.str (sx [108])), (.tup [])])])])])])])])], .lst [(.str (sx [108])), (.str (sx [109]))], .lst [(.tup [(.str (sx [109])), (.str (sx [108]))])], .lst [(.tup [(.str (sx [112])), (.tup []), (.tup []), (.tup [(.tup []), (.tup [])]), (.tup [(.tup []), (.tup [])]), (.tup [(.tup [(.str (sx [104,111,108,100])), (.str (sx [109])), (.tup [(.tup [(.str (sx [99,97,108,108])), (.tup []), (.str (sx [113])), (.tup [(.int 1)])])])])])]), (.tup [(.str (sx [113])), (.tup []), (.tup []), (.tup [(.tup []), (.tup [])]), (.tup [(.tup []), (.tup [])]), (.tup [(.tup [(.str (sx [104,111,108,100])), (.str (sx [108])), (.tup [])])])])], .lst [(.str (sx [108])), (.str (sx [109]))], .lst [(.tup [(.str (sx [108])), (.str (sx [109]))]), (.tup [(.str (sx [109])), (.str (sx [108]))])], .lst [(.tup [(.str (sx [112])), (.tup []), (.tup []), (.tup [(.tup []), (.tup [])]), (.tup [(.tup []), (.tup [])]), (.tup [(.tup [(.str (sx [104,111,108,100])), (.str (sx [109])), (.tup [(.tup [(.str (sx [99,97,108,108])), (.tup [(.str (sx [97]))]), (.str (sx [113])), (.tup [])])])])])]), (.tup [(.str (sx [113])), (.tup []), (.tup []), (.tup [(.tup []), (.tup [])]), (.tup [(.tup []), (.tup [])]), (.tup [(.tup [(.str (sx [104,111,108,100])), (.str (sx [108])), (.tup [])])])])], .lst [(.str (sx [108])), (.str (sx [109]))], .lst [(.tup [(.str (sx [108])), (.str (sx [109]))]), (.tup [(.str (sx [109])), (.str (sx [108]))])], .lst [(.tup [(.str (sx [112])), (.tup []), (.tup []), (.tup [(.tup []), (.tup [])]), (.tup [(.tup []), (.tup [])]), (.tup [(.tup [(.str (sx [104,111,108,100])), (.str (sx [109])), (.tup [(.tup [(.str (sx [98,111,116,104])), (.tup [(.str (sx [97]))]), (.str (sx [113])), (.tup []), (.tup []), (.str (sx [113])), (.tup [(.int 1)])])])])])]), (.tup [(.str (sx [113])), (.tup []), (.tup []), (.tup [(.tup []), (.tup [])]), (.tup [(.tup []), (.tup [])]), (.tup [(.tup [(.str (sx [104,111,108,100])), (.str (sx [108])), (.tup [])])])])], .lst [(.str (sx [108])), (.str (sx [109]))], .lst [(.tup [(.str (sx [108])), (.str (sx [109]))]), (.tup [(.str (sx [109])), (.str (sx [108]))])], .lst [(.tup [(.str (sx [112])), (.tup []), (.tup []), (.tup [(.tup []), (.tup [])]), (.tup [(.tup []), (.tup [])]), (.tup [(.tup [(.str (sx [99,97,108,108])), (.tup []), (.str (sx [113])), (.tup [])])])]), (.tup [(.str (sx [113])), (.tup []), (.tup []), (.tup [(.tup []), (.tup [])]), (.tup [(.tup []), (.tup [])]), (.tup [(.tup [(.str (sx [104,111,108,100])), (.str (sx [109])), (.tup [(.tup [(.str (sx [99,97,108,108])), (.tup []), (.str (sx [114])), (.tup [])])])])])])], .lst [(.tup [(.str (sx [112])), (.tup []), (.tup []), (.tup [(.tup []), (.tup [])]), (.tup [(.tup []), (.tup [])]), (.tup [(.tup [(.str (sx [99,97,108,108])), (.tup []), (.str (sx [113])), (.tup [])])])]), (.tup [(.str (sx [113])), (.tup []), (.tup []), (.tup [(.tup []), (.tup [])]), (.tup [(.tup []), (.tup [])]), (.tup [(.tup [(.str (sx [104,111,108,100])), (.str (sx [109])), (.tup [(.tup [(.str (sx [99,97,108,108])), (.tup []), (.str (sx [114])), (.tup [])])])])])]), (.tup [(.str (sx [114])), (.tup []), (.tup []), (.tup [(.tup []), (.tup [])]), (.tup [(.tup []), (.tup [])]), (.tup [(.tup [(.str (sx [104,111,108,100])), (.str (sx [108])), (.tup [])])])])], .lst [(.str (sx [108])), (.str (sx [109]))], .lst [(.tup [(.str (sx [109])), (.str (sx [108]))])], .lst [], .lst [(.str (sx [108]))], .lst [(.str (sx [109])), (.str (sx [108]))], .lst [(.str (sx [109])), (.str (sx [108]))], .lst [(.str (sx [109])), (.str (sx [108]))], .lst [(.str (sx [109])), (.str (sx [108]))], .lst [(.str (sx [107])), (.str (sx [109])), (.str (sx [108]))]]
theorem q1_6 (ns : List Int) : stepL (kCs g FF 100000 (bodyOf (body 1))) (tgOf (body 1)) w1 (.tup [(.loc .lst 19), (.loc .lst 20), (.loc .lst 21)]) (e7 ns) S7 = some ((e8 ns), S8) := by kernel_rfl
def e9 (ns : List Int) : Env := [some (.scr ns), some (.tup [(.tup []), (.tup [])]), some (.loc .lst 22), some (.loc .lst 23), some (.loc .lst 24), some (.loc .lst 57), some (.str (sx [111,114,100,101,114])), some (.tup [(.str (sx [108]))]), none, none, none, none]
def S9 : Sto := [.lst [], .lst [], .lst [(.tup [])], .lst [], .lst [(.str (sx [108]))], .lst [(.tup [(.str (sx [108]))])], .lst [(.tup [(.str (sx [112])), (.tup []), (.tup []), (.tup [(.tup []), (.tup [])]), (.tup [(.tup []), (.tup [])]), (.tup [(.tup [(.str (sx [104,111,108,100])), (.str (sx [108])), (.tup [])]), (.tup [(.str (sx [104,111,108,100])), (.str (sx [109])), (.tup [])])])])], .lst [(.str (sx [108])), (.str (sx [109]))], .lst [(.tup [(.str (sx [108])), (.str (sx [109]))]), (.tup [(.str (sx [109])), (.str (sx [108]))])], .lst [(.tup [(.loc .lst 0), (.loc .lst 1), (.loc .lst 2)]), (.tup [(.loc .lst 3), (.loc .lst 4), (.loc .lst 5)]), (.tup [(.loc .lst 6), (.loc .lst 7), (.loc .lst 8)]), (.tup [(.loc .lst 10), (.loc .lst 11), (.loc .lst 12)]), (.tup [(.loc .lst 13), (.loc .lst 14), (.loc .lst 15)]), (.tup [(.loc .lst 16), (.loc .lst 17), (.loc .lst 18)]), (.tup [(.loc .lst 19), (.loc .lst 20), (.loc .lst 21)]), (.tup [(.loc .lst 22), (.loc .lst 23), (.loc .lst 24)]), (.tup [(.loc .lst 25), (.loc .lst 26), (.loc .lst 27)]), (.tup [(.loc .lst 28), (.loc .lst 29), (.loc .lst 30)]), (.tup [(.loc .lst 31), (.loc .lst 32), (.loc .lst 33)]), (.tup [(.loc .lst 34), (.loc .lst 35), (.loc .lst 36)]), (.tup [(.loc .lst 37), (.loc .lst 38), (.loc .lst 39)]), (.tup [(.loc .lst 40), (.loc .lst 41), (.loc .lst 42)]), (.tup [(.loc .lst 43), (.loc .lst 44), (.loc .lst 45)]), (.tup [(.loc .lst 47), (.loc .lst 48), (.loc .lst 49)])], .lst [(.tup [(.str (sx [112])), (.tup []), (.tup []), (.tup [(.tup []), (.tup [])]), (.tup [(.tup []), (.tup [])]), (.tup [(.tup [(.str (sx [104,111,108,100])), (.str (sx [109])), (.tup [(.tup [(.str (sx [104,111,108,100])), (.str (sx [108])), (.tup [])])])])])])], .lst [(.str (sx [108])), (.str (sx [109]))], .lst [(.tup [(.str (sx [109])), (.str (sx [108]))])], .lst [(.tup [(.str (sx [112])), (.tup []), (.tup []), (.tup [(.tup []), (.tup [])]), (.tup [(.tup []), (.tup [])]), (.tup [(.tup [(.str (sx [104,111,108,100])), (.str (sx [109])), (.tup [(.tup [(.str (sx [99,97,108,108])), (.tup []), (.str (sx [113])), (.tup [])])])])])]), (.tup [(.str (sx [113])), (.tup []), (.tup []), (.tup [(.tup []), (.tup [])]), (.tup [(.tup []), (.tup [])]), (.tup [(.tup [(.str (sx [104,111,108,100])), (.str (sx [108])), (.tup [])])])])], .lst [(.str (sx [108])), (.str (sx [109]))], .lst [(.tup [(.str (sx [109])), (.str (sx [108]))])], .lst [(.tup [(.str (sx [112])), (.tup []), (.tup []), (.tup [(.tup []), (.tup [])]), (.tup [(.tup []), (.tup [])]), (.tup [(.tup [(.str (sx [104,111,108,100])), (.str (sx [109])), (.tup [(.tup [(.str (sx [99,97,108,108])), (.tup []), (.str (sx [113])), (.tup [])])])])])])], .lst [(.str (sx [108])), (.str (sx [109]))], .lst [(.tup [(.str (sx [108])), (.str (sx [109]))]), (.tup [(.str (sx [109])), (.str (sx [108]))])], .lst [(.tup [(.str (sx [112])), (.tup []), (.tup []), (.tup [(.tup []), (.tup [])]), (.tup [(.tup []), (.tup [])]), (.tup [(.tup [(.str (sx [104,111,108,100])), (.str (sx [107])), (.tup [(.tup [(.str (sx [98,111,116,104])), (.tup []), (.str (sx [113])), (.tup []), (.tup []), (.str (sx [114])), (.tup [])])])])])]), (.tup [(.str (sx [113])), (.tup []), (.tup []), (.tup [(.tup []), (.tup [])]), (.tup [(.tup []), (.tup [])]), (.tup [(.tup [(.str (sx [104,111,108,100])), (.str (sx [108])), (.tup [])])])]), (.tup [(.str (sx [114])), (.tup []), (.tup []), (.tup [(.tup []), (.tup [])]), (.tup [(.tup []), (.tup [])]), (.tup [(.tup [(.str (sx [104,111,108,100])), (.str (sx [109])), (.tup [])])])])], .lst [(.str (sx [108])), (.str (sx [109])), (.str (sx [107]))], .lst [(.tup [(.str (sx [107])), (.str (sx [108])), (.str (sx [109]))]), (.tup [(.str (sx [107])), (.str (sx [109])), (.str (sx [108]))])], .lst [(.tup [(.str (sx [112])), (.tup []), (.tup []), (.tup [(.tup []), (.tup [])]), (.tup [(.tup []), (.tup [])]), (.tup [(.tup [(.str (sx [104,111,108,100])), (.str (sx [122])), (.tup [(.tup [(.str (sx [104,111,108,100])), (.str (sx [108])), (.tup [])])])])])])], .lst [(.str (sx [108]))], .lst [(.tup [(.str (sx [108]))])], .lst [(.tup [(.str (sx [112])), (.tup []), (.tup []), (.tup [(.tup []), (.tup [])]), (.tup [(.tup []), (.tup [])]), (.tup [(.tup [(.str (sx [104,111,108,100])), (.str (sx [108])), (.tup [(.tup [(.str (sx [104,111,108,100])), (.str (sx [122])), (.tup [])])])])])])], .lst [(.str (sx [108]))], .lst [(.tup [(.str (sx [108]))])], .lst [(.tup [(.str (sx [112])), (.tup []), (.tup []), (.tup [(.tup []), (.tup [])]), (.tup [(.tup []), (.tup [])]), (.tup [(.tup [(.str (sx [105,102])), (.int 1), (.str (sx [105,115])), (.int 2), (.tup [(.tup [(.str (sx [104,111,108,100])), (.str (sx [109])), (.tup [(.tup [(.str (sx [104,111,108,100])), (.str (sx [108])), (.tup [])])])])]), (.tup [])])])])], .lst [(.str (sx [108])), (.str (sx [109]))], .lst [(.tup [(.str (sx [109])), (.str (sx [108]))])], .lst [(.tup [(.str (sx [112])), (.tup []), (.tup []), (.tup [(.tup []), (.tup [])]), (.tup [(.tup []), (.tup [])]), (.tup [(.tup [(.str (sx [119,104,105,108,101])), (.int 1), (.str (sx [105,115])), (.int 2), (.tup [(.tup []), (.tup [])]), (.tup [(.tup []), (.tup [])]), (.tup [(.tup [(.str (sx [104,111,108,100])), (.str (sx [109])), (.tup [(.tup [(.str (sx [104,111,108,100])), (.str (sx [108])), (.tup [])])])])])])])])], .lst [(.str (sx [108])), (.str (sx [109]))], .lst [(.tup [(.str (sx [109])), (.str (sx [108]))])], .lst [(.tup [(.str (sx [112])), (.tup []), (.tup []), (.tup [(.tup []), (.tup [])]), (.tup [(.tup []), (.tup [])]), (.tup [(.tup [(.str (sx [105,102])), (.int 1), (.str (sx [105,115])), (.int 1), (.tup []), (.tup [(.tup [(.str (sx [104,111,108,100])), (.str (sx [109])), (.tup [(.tup [(.str (sx [104,111,108,100])), (.str (sx [108])), (.tup [])])])])])])])])], .lst [(.str (sx [108])), (.str (sx [109]))], .lst [(.tup [(.str (sx [109])), (.str (sx [108]))])], .lst [(.tup [(.str (sx [112])), (.tup []), (.tup []), (.tup [(.tup []), (.tup [])]), (.tup [(.tup []), (.tup [])]), (.tup [(.tup [(.str (sx [104,111,108,100])), (.str (sx [109])), (.tup [(.tup [(.str (sx [99,97,108,108])), (.tup []), (.str (sx [113])), (.tup [(.int 1)])])])])])]), (.tup [(.str (sx [113])), (.tup []), (.tup []), (.tup [(.tup []), (.tup [])]), (.tup [(.tup []), (.tup [])]), (.tup [(.tup [(.str (sx [104,111,108,100])), (.str (sx [108])), (.tup [])])])])], .lst [(.str (sx [108])), (.str (sx [109]))], .lst [(.tup [(.str (sx [108])), (.str (sx [109]))]), (.tup [(.str (sx [109])), (.str (sx [108]))])], .lst [(.tup [(.str (sx [112])), (.tup []), (.tup []), (.tup [(.tup []), (.tup [])]), (.tup [(.tup []), (.tup [])]), (.tup [(.tup [(.str (sx [104,111,108,100])), (.str (sx [109])), (.tup [(.tup [(.str (sx [99,97,108,108])), (.tup [(.str (sx [97]))]), (.str (sx [113])), (.tup [])])])])])]), (.tup [(.str (sx [113])), (.tup []), (.tup []), (.tup [(.tup []), (.tup [])]), (.tup [(.tup []), (.tup [])]), (.tup [(.tup [(.str (sx [104,111,108,100])), (.str (sx [108])), (.tup [])])])])], .lst [(.str (sx [108])), (.str (sx [109]))], .lst [(.tup [(.str (sx [108])), (.str (sx [109]))]), (.tup [(.str (sx [109])), (.str (sx [108]))])], .lst [(.tup [(.str (sx [112])), (.tup []), (.tup []), (.tup [(.tup []), (.tup [])]), (.tup [(.tup []), (.tup [])]), (.tup [(.tup [(.str (sx [104,111,108,100])), (.str (sx [109])), (.tup [(.tup [(.str (sx [98,111,116,104])), (.tup [(.str (sx [97]))]), (.str (sx [113])), (.tup []), (.tup []), (.str (sx [113])), (.tup [(.int 1)])])])])])]), (.tup [(.str (sx [113])), (.tup []), (.tup []), (.tup [(.tup []), (.tup [])]), (.tup [(.tup []), (.tup [])]), (.tup [(.tup [(.str (sx [104,111,108,100])), (.str (sx [108])), (.tup [])])])])], .lst [(.str (sx [108])), (.str (sx [109]))], .lst [(.tup [(.str (sx [108])), (.str (sx [109]))]), (.tup [(.str (sx [109])), (.str (sx [108]))])], .lst [(.tup [(.str (sx [112])), (.tup []), (.tup []), (.tup [(.tup []), (.tup [])]), (.tup [(.tup []), (.tup [])]), (.tup [(.tup [(.str (sx [99,97,108,108])), (.tup []), (.str (sx [113])), (.tup [])])])]), (.tup [(.str (sx [113])), (.tup []), (.tup []), (.tup [(.tup []), (.tup [])]), (.tup [(.tup []), (.tup [])]), (.tup [(.tup [(.str (sx [104,111,108,100])), (.str (sx [109])), (.tup [(.tup [(.str (sx [99,97,108,108])), (.tup []), (.str (sx [114])), (.tup [])])])])])])], .lst [(.tup [(.str (sx [112])), (.tup []), (.tup []), (.tup [(.tup []), (.tup [])]), (.tup [(.tup []), (.tup [])]), (.tup [(.tup [(.str (sx [99,97,108,108])), (.tup []), (.str (sx [113])), (.tup [])])])]), (.tup [(.str (sx [113])), (.tup []), (.tup []), (.tup [(.tup []), (.tup [])]), (.tup [(.tup []), (.tup [])]), (.tup [(.tup [(.str (sx [104,111,108,100])), (.str (sx [109])), (.tup [(.tup [(.str (sx [99,97,108,108])), (.tup []), (.str (sx [114])), (.tup [])])])])])]), (.tup [(.str (sx [114])), (.tup []), (.tup []), (.tup [(.tup []), (.tup [])]), (.tup [(.tup []), (.tup [])]), (.tup [(.tup [(.str (sx [104,111,108,100])), (.str (sx [108])), (.tup [])])])])], .lst [(.str (sx [108])), (.str (sx [109]))], .lst [(.tup [(.str (sx [109])), (.str (sx [108]))])], .lst [], .lst [(.str (sx [108]))], .lst [(.str (sx [109])), (.str (sx [108]))], .lst [(.str (sx [109])), (.str (sx [108]))], .lst [(.str (sx [109])), (.str (sx [108]))], .lst [(.str (sx [109])), (.str (sx [108]))], .lst [(.str (sx [107])), (.str (sx [109])), (.str (sx [108]))], .lst [(.str (sx [108]))]]
theorem q1_7 (ns : List Int) : stepL (kCs g FF 100000 (bodyOf (body 1))) (tgOf (body 1)) w1 (.tup [(.loc .lst 22), (.loc .lst 23), (.loc .lst 24)]) (e8 ns) S8 = some ((e9 ns), S9) := by kernel_rfl
def e10 (ns : List Int) : Env := [some (.scr ns), some (.tup [(.tup []), (.tup [])]), some (.loc .lst 25), some (.loc .lst 26), some (.loc .lst 27), some (.loc .lst 58), some (.str (sx [111,114,100,101,114])), some (.tup [(.str (sx [108]))]), none, none, none, none]
def S10 : Sto := [.lst [], .lst [], .lst [(.tup [])], .lst [], .lst [(.str (sx [108]))], .lst [(.tup [(.str (sx [108]))])], .lst [(.tup [(.str (sx [112])), (.tup []), (.tup []), (.tup [(.tup []), (.tup [])]), (.tup [(.tup []), (.tup [])]), (.tup [(.tup [(.str (sx [104,111,108,100])), (.str (sx [108])), (.tup [])]), (.tup [(.str (sx [104,111,108,100])), (.str (sx [109])), (.tup [])])])])], .lst [(.str (sx [108])), (.str (sx [109]))], .lst [(.tup [(.str (sx [108])), (.str (sx [109]))]), (.tup [(.str (sx [109])), (.str (sx [108]))])], .lst [(.tup [(.loc .lst 0), (.loc .lst 1), (.loc .lst 2)]), (.tup [(.loc .lst 3), (.loc .lst 4), (.loc .lst 5)]), (.tup [(.loc .lst 6), (.loc .lst 7), (.loc .lst 8)]), (.tup [(.loc .lst 10), (.loc .lst 11), (.loc .lst 12)]), (.tup [(.loc .lst 13), (.loc .lst 14), (.loc .lst 15)]), (.tup [(.loc .lst 16), (.loc .lst 17), (.loc .lst 18)]), (.tup [(.loc .lst 19), (.loc .lst 20), (.loc .lst 21)]), (.tup [(.loc .lst 22), (.loc .lst 23), (.loc .lst 24)]), (.tup [(.loc .lst 25), (.loc .lst 26), (.loc .lst 27)]), (.tup [(.loc .lst 28), (.loc .lst 29), (.loc .lst 30)]), (.tup [(.loc .lst 31), (.loc .lst 32), (.loc .lst 33)]), (.tup [(.loc .lst 34), (.loc .lst 35), (.loc .lst 36)]), (.tup [(.loc .lst 37), (.loc .lst 38), (.loc .lst 39)]), (.tup [(.loc .lst 40), (.loc .lst 41), (.loc .lst 42)]), (.tup [(.loc .lst 43), (.loc .lst 44), (.loc .lst 45)]), (.tup [(.loc .lst 47), (.loc .lst 48), (.loc .lst 49)])], .lst [(.tup [(.str (sx [112])), (.tup []), (.tup []), (.tup [(.tup []), (.tup [])]), (.tup [(.tup []), (.tup [])]), (.tup [(.tup [(.str (sx [104,111,108,100])), (.str (sx [109])), (.tup [(.tup [(.str (sx [104,111,108,100])), (.str (sx [108])), (.tup [])])])])])])], .lst [(.str (sx [108])), (.str (sx [109]))], .lst [(.tup [(.str (sx [109])), (.str (sx [108]))])], .lst [(.tup [(.str (sx [112])), (.tup []), (.tup []), (.tup [(.tup []), (.tup [])]), (.tup [(.tup []), (.tup [])]), (.tup [(.tup [(.str (sx [104,111,108,100])), (.str (sx [109])), (.tup [(.tup [(.str (sx [99,97,108,108])), (.tup []), (.str (sx [113])), (.tup [])])])])])]), (.tup [(.str (sx [113])), (.tup []), (.tup []), (.tup [(.tup []), (.tup [])]), (.tup [(.tup []), (.tup [])]), (.tup [(.tup [(.str (sx [104,111,108,100])), (.str (sx [108])), (.tup [])])])])], .lst [(.str (sx [108])), (.str (sx [109]))], .lst [(.tup [(.str (sx [109])), (.str (sx [108]))])], .lst [(.tup [(.str (sx [112])), (.tup []), (.tup []), (.tup [(.tup []), (.tup [])]), (.tup [(.tup []), (.tup [])]), (.tup [(.tup [(.str (sx [104,111,108,100])), (.str (sx [109])), (.tup [(.tup [(.str (sx [99,97,108,108])), (.tup []), (.str (sx [113])), (.tup [])])])])])])], .lst [(.str (sx [108])), (.str (sx [109]))], .lst [(.tup [(.str (sx [108])), (.str (sx [109]))]), (.tup [(.str (sx [109])), (.str (sx [108]))])], .lst [(.tup [(.str (sx [112])), (.tup []), (.tup []), (.tup [(.tup []), (.tup [])]), (.tup [(.tup []), (.tup [])]), (.tup [(.tup [(.str (sx [104,111,108,100])), (.str (sx [107])), (.tup [(.tup [(.str (sx [98,111,116,104])), (.tup []), (.str (sx [113])), (.tup []), (.tup []), (.str (sx [114])), (.tup [])])])])])]), (.tup [(.str (sx [113])), (.tup []), (.tup []), (.tup [(.tup []), (.tup [])]), (.tup [(.tup []), (.tup [])]), (.tup [(.tup [(.str (sx [104,111,108,100])), (.str (sx [108])), (.tup [])])])]), (.tup [(.str (sx [114])), (.tup []), (.tup []), (.tup [(.tup []), (.tup [])]), (.tup [(.tup []), (.tup [])]), (.tup [(.tup [(.str (sx [104,111,108,100])), (.str (sx [109])), (.tup [])])])])], .lst [(.str (sx [108])), (.str (sx [109])), (.str (sx [107]))], .lst [(.tup [(.str (sx [107])), (.str (sx [108])), (.str (sx [109]))]), (.tup [(.str (sx [107])), (.str (sx [109])), (.str (sx [108]))])], .lst [(.tup [(.str (sx [112])), (.tup []), (.tup []), (.tup [(.tup []), (.tup [])]), (.tup [(.tup []), (.tup [])]), (.tup [(.tup [(.str (sx [104,111,108,100])), (.str (sx [122])), (.tup [(.tup [(.str (sx [104,111,108,100])), (.str (sx [108])), (.tup [])])])])])])], .lst [(.str (sx [108]))], .lst [(.tup [(.str (sx [108]))])], .lst [(.tup [(.str (sx [112])), (.tup []), (.tup []), (.tup [(.tup []), (.tup [])]), (.tup [(.tup []), (.tup [])]), (.tup [(.tup [(.str (sx [104,111,108,100])), (.str (sx [108])), (.tup [(.tup [(.str (sx [104,111,108,100])), (.str (sx [122])), (.tup [])])])])])])], .lst [(.str (sx [108]))], .lst [(.tup [(.str (sx [108]))])], .lst [(.tup [(.str (sx [112])), (.tup []), (.tup []), (.tup [(.tup []), (.tup [])]), (.tup [(.tup []), (.tup [])]), (.tup [(.tup [(.str (sx [105,102])), (.int 1), (.str (sx [105,115])), (.int 2), (.tup [(.tup [(.str (sx [104,111,108,100])), (.str (sx [109])), (.tup [(.tup [(.str (sx [104,111,108,100])), (.str (sx [108])), (.tup [])])])])]), (.tup [])])])])], .lst [(.str (sx [108])), (.str (sx [109]))], .lst [(.tup [(.str (sx [109])), (.str (sx [108]))])], .lst [(.tup [(.str (sx [112])), (.tup []), (.tup []), (.tup [(.tup []), (.tup [])]), (.tup [(.tup []), (.tup [])]), (.tup [(.tup [(.str (sx [119,104,105,108,101])), (.int 1), (.str (sx [105,115])), (.int 2), (.tup [(.tup []), (.tup [])]), (.tup [(.tup []), (.tup [])]), (.tup [(.tup [(.str (sx [104,111,108,100])), (.str (sx [109])), (.tup [(.tup [(.str (sx [104,111,108,100])), (.str (sx [108])), (.tup [])])])])])])])])], .lst [(.str (sx [108])), (.str (sx [109]))], .lst [(.tup [(.str (sx [109])), (.str (sx [108]))])], .lst [(.tup [(.str (sx [112])), (.tup []), (.tup []), (.tup [(.tup []), (.tup [])]), (.tup [(.tup []), (.tup [])]), (.tup [(.tup [(.str (sx [105,102])), (.int 1), (.str (sx [105,115])), (.int 1), (.tup []), (.tup [(.tup [(.str (sx [104,111,108,100])), (.str (sx [109])), (.tup [(.tup [(.str (sx [104,111,108,100])), (.str (sx [108])), (.tup [])])])])])])])])], .lst [(.str (sx [108])), (.str (sx [109]))], .lst [(.tup [(.str (sx [109])), (.str (sx [108]))])], .lst [(.tup [(.str (sx [112])), (.tup []), (.tup []), (.tup [(.tup []), (.tup [])]), (.tup [(.tup []), (.tup [])]), (.tup [(.tup [(.str (sx [104,111,108,100])), (.str (sx [109])), (.tup [(.tup [(.str (sx [99,97,108,108])), (.tup []), (.str (sx [113])), (.tup [(.int 1)])])])])])]), (.tup [(.str (sx [113])), (.tup []), (.tup []), (.tup [(.tup []), (.tup [])]), (.tup [(.tup []), (.tup [])]), (.tup [(.tup [(.str (sx [104,111,108,100])), (.str (sx [108])), (.tup [])])])])], .lst [(.str (sx [108])), (.str (sx [109]))], .lst [(.tup [(.str (sx [108])), (.str (sx [109]))]), (.tup [(.str (sx [109])), (.str (sx [108]))])], .lst [(.tup [(.str (sx [112])), (.tup []), (.tup []), (.tup [(.tup []), (.tup [])]), (.tup [(.tup []), (.tup [])]), (.tup [(.tup [(.str (sx [104,111,108,100])), (.str (sx [109])), (.tup [(.tup [(.str (sx [99,97,108,108])), (.tup [(.str (sx [97]))]), (.str (sx [113])), (.tup [])])])])])]), (.tup [(.str (sx [113])), (.tup []), (.tup []), (.tup [(.tup []), (.tup [])]), (.tup [(.tup []), (.tup [])]), (.tup [(.tup [(.str (sx [104,111,108,100])), (.str (sx [108])), (.tup [])])])])], .lst [(.str (sx [108])), (.str (sx [109]))], .lst [(.tup [(.str (sx [108])), (.str (sx [109]))]), (.tup [(.str (sx [109])), (.str (sx [108]))])], .lst [(.tup [(.str (sx [112])), (.tup []), (.tup []), (.tup [(.tup []), (.tup [])]), (.tup [(.tup []), (.tup [])]), (.tup [(.tup [(.str (sx [104,111,108,100])), (.str (sx [109])), (.tup [(.tup [(.str (sx [98,111,116,104])), (.tup [(.str (sx [97]))]), (.str (sx [113])), (.tup []), (.tup []), (.str (sx [113])), (.tup [(.int 1)])])])])])]), (.tup [(.str (sx [113])), (.tup []), (.tup []), (.tup [(.tup []), (.tup [])]), (.tup [(.tup []), (.tup [])]), (.tup [(.tup [(.str (sx [104,111,108,100])), (.str (sx [108])), (.tup [])])])])], .lst [(.str (sx [108])), (.str (sx [109]))], .lst [(.tup [(.str (sx [108])), (.str (sx [109]))]), (.tup [(.str (sx [109])), (.str (sx [108]))])], .lst [(.tup [(.str (sx [112])), (.tup []), (.tup []), (.tup [(.tup []), (.tup [])]), (.tup [(.tup []), (.tup [])]), (.tup [(.tup [(.str (sx [99,97,108,108])), (.tup []), (.str (sx [113])), (.tup [])])])]), (.tup [(.str (sx [113])), (.tup []), (.tup []), (.tup [(.tup []), (.tup [])]), (.tup [(.tup []), (.tup [])]), (.tup [(.tup [(.str (sx [104,111,108,100])), (.str (sx [109])), (.tup [(.tup [(.str (sx [99,97,108,108])), (.tup []), (.str (sx [114])), (.tup [])])])])])])], .lst [(.tup [(.str (sx [112])), (.tup []), (.tup []), (.tup [(.tup []), (.tup [])]), (.tup [(.tup []), (.tup [])]), (.tup [(.tup [(.str (sx [99,97,108,108])), (.tup []), (.str (sx [113])), (.tup [])])])]), (.tup [(.str (sx [113])), (.tup []), (.tup []), (.tup [(.tup []), (.tup [])]), (.tup [(.tup []), (.tup [])]), (.tup [(.tup [(.str (sx [104,111,108,100])), (.str (sx [109])), (.tup [(.tup [(.str (sx [99,97,108,108])), (.tup []), (.str (sx [114])), (.tup [])])])])])]), (.tup [(.str (sx [114])), (.tup []), (.tup []), (.tup [(.tup []), (.tup [])]), (.tup [(.tup []), (.tup [])]), (.tup [(.tup [(.str (sx [104,111,108,100])), (.str (sx [108])), (.tup [])])])])], .lst [(.str (sx [108])), (.str (sx [109]))], .lst [(.tup [(.str (sx [109])), (.str (sx [108]))])], .lst [], .lst [(.str (sx [108]))], .lst [(.str (sx [109])), (.str (sx [108]))], .lst [(.str (sx [109])), (.str (sx [108]))], .lst [(.str (sx [109])), (.str (sx [108]))], .lst [(.str (sx [109])), (.str (sx [108]))], .lst [(.str (sx [107])), (.str (sx [109])), (.str (sx [108]))], .lst [(.str (sx [108]))], .lst [(.str (sx [108]))]]
theorem q1_8 (ns : List Int) : stepL (kCs g FF 100000 (bodyOf (body 1))) (tgOf (body 1)) w1 (.tup [(.loc .lst 25), (.loc .lst 26), (.loc .lst 27)]) (e9 ns) S9 = some ((e10 ns), S10) := by kernel_rfl
def e11 (ns : List Int) : Env := [some (.scr ns), some (.tup [(.tup []), (.tup [])]), some (.loc .lst 28), some (.loc .lst 29), some (.loc .lst 30), some (.loc .lst 59), some (.str (sx [111,114,100,101,114])), some (.tup [(.str (sx [109])), (.str (sx [108]))]), none, none, none, none]
def S11 : Sto := [.lst [], .lst [], .lst [(.tup [])], .lst [], .lst [(.str (sx [108]))], .lst [(.tup [(.str (sx [108]))])], .lst [(.tup [(.str (sx [112])), (.tup []), (.tup []), (.tup [(.tup []), (.tup [])]), (.tup [(.tup []), (.tup [])]), (.tup [(.tup [(.str (sx [104,111,108,100])), (.str (sx [108])), (.tup [])]), (.tup [(.str (sx [104,111,108,100])), (.str (sx [109])), (.tup [])])])])], .lst [(.str (sx [108])), (.str (sx [109]))], .lst [(.tup [(.str (sx [108])), (.str (sx [109]))]), (.tup [(.str (sx [109])), (.str (sx [108]))])], .lst [(.tup [(.loc .lst 0), (.loc .lst 1), (.loc .lst 2)]), (.tup [(.loc .lst 3), (.loc .lst 4), (.loc .lst 5)]), (.tup [(.loc .lst 6), (.loc .lst 7), (.loc .lst 8)]), (.tup [(.loc .lst 10), (.loc .lst 11), (.loc .lst 12)]), (.tup [(.loc .lst 13), (.loc .lst 14), (.loc .lst 15)]), (.tup [(.loc .lst 16), (.loc .lst 17), (.loc .lst 18)]), (.tup [(.loc .lst 19), (.loc .lst 20), (.loc .lst 21)]), (.tup [(.loc .lst 22), (.loc .lst 23), (.loc .lst 24)]), (.tup [(.loc .lst 25), (.loc .lst 26), (.loc .lst 27)]), (.tup [(.loc .lst 28), (.loc .lst 29), (.loc .lst 30)]), (.tup [(.loc .lst 31), (.loc .lst 32), (.loc .lst 33)]), (.tup [(.loc .lst 34), (.loc .lst 35), (.loc .lst 36)]), (.tup [(.loc .lst 37), (.loc .lst 38), (.loc .lst 39)]), (.tup [(.loc .lst 40), (.loc .lst 41), (.loc .lst 42)]), (.tup [(.loc .lst 43), (.loc .lst 44), (.loc .lst 45)]), (.tup [(.loc .lst 47), (.loc .lst 48), (.loc .lst 49)])], .lst [(.tup [(.str (sx [112])), (.tup []), (.tup []), (.tup [(.tup []), (.tup [])]), (.tup [(.tup []), (.tup [])]), (.tup [(.tup [(.str (sx [104,111,108,100])), (.str (sx [109])), (.tup [(.tup [(.str (sx [104,111,108,100])), (.str (sx [108])), (.tup [])])])])])])], .lst [(.str (sx [108])), (.str (sx [109]))], .lst [(.tup [(.str (sx [109])), (.str (sx [108]))])], .lst [(.tup [(.str (sx [112])), (.tup []), (.tup []), (.tup [(.tup []), (.tup [])]), (.tup [(.tup []), (.tup [])]), (.tup [(.tup [(.str (sx [104,111,108,100])), (.str (sx [109])), (.tup [(.tup [(.str (sx [99,97,108,108])), (.tup []), (.str (sx [113])), (.tup [])])])])])]), (.tup [(.str (sx [113])), (.tup []), (.tup []), (.tup [(.tup []), (.tup [])]), (.tup [(.tup []), (.tup [])]), (.tup [(.tup [(.str (sx [104,111,108,100])), (.str (sx [108])), (.tup [])])])])], .lst [(.str (sx [108])), (.str (sx [109]))], .lst [(.tup [(.str (sx [109])), (.str (sx [108]))])], .lst [(.tup [(.str (sx [112])), (.tup []), (.tup []), (.tup [(.tup []), (.tup [])]), (.tup [(.tup []), (.tup [])]), (.tup [(.tup [(.str (sx [104,111,108,100])), (.str (sx [109])), (.tup [(.tup [(.str (sx [99,97,108,108])), (.tup []), (.str (sx [113])), (.tup [])])])])])])], .lst [(.str (sx [108])), (.str (sx [109]))], .lst [(.tup [(.str (sx [108])), (.str (sx [109]))]), (.tup [(.str (sx [109])), (.str (sx [108]))])], .lst [(.tup [(.str (sx [112])), (.tup []), (.tup []), (.tup [(.tup []), (.tup [])]), (.tup [(.tup []), (.tup [])]), (.tup [(.tup [(.str (sx [104,111,108,100])), (.str (sx [107])), (.tup [(.tup [(.str (sx [98,111,116,104])), (.tup []), (.str (sx [113])), (.tup []), (.tup []), (.str (sx [114])), (.tup [])])])])])]), (.tup [(.str (sx [113])), (.tup []), (.tup []), (.tup [(.tup []), (.tup [])]), (.tup [(.tup []), (.tup [])]), (.tup [(.tup [(.str (sx [104,111,108,100])), (.str (sx [108])), (.tup [])])])]), (.tup [(.str (sx [114])), (.tup []), (.tup []), (.tup [(.tup []), (.tup [])]), (.tup [(.tup []), (.tup [])]), (.tup [(.tup [(.str (sx [104,111,108,100])), (.str (sx [109])), (.tup [])])])])], .lst [(.str (sx [108])), (.str (sx [109])), (.str (sx [107]))], .lst [(.tup [(.str (sx [107])), (.str (sx [108])), (.str (sx [109]))]), (.tup [(.str (sx [107])), (.str (sx [109])), (.str (sx [108]))])], .lst [(.tup [(.str (sx [112])), (.tup []), (.tup []), (.tup [(.tup []), (.tup [])]), (.tup [(.tup []), (.tup [])]), (.tup [(.tup [(.str (sx [104,111,108,100])), (.str (sx [122])), (.tup [(.tup [(.str (sx [104,111,108,100])), (.str (sx [108])), (.tup [])])])])])])], .lst [(.str (sx [108]))], .lst [(.tup [(.str (sx [108]))])], .lst [(.tup [(.str (sx [112])), (.tup []), (.tup []), (.tup [(.tup []), (.tup [])]), (.tup [(.tup []), (.tup [])]), (.tup [(.tup [(.str (sx [104,111,108,100])), (.str (sx [108])), (.tup [(.tup [(.str (sx [104,111,108,100])), (.str (sx [122])), (.tup [])])])])])])], .lst [(.str (sx [108]))], .lst [(.tup [(.str (sx [108]))])], .lst [(.tup [(.str (sx [112])), (.tup []), (.tup []), (.tup [(.tup []), (.tup [])]), (.tup [(.tup []), (.tup [])]), (.tup [(.tup [(.str (sx [105,102])), (.int 1), (.str (sx [105,115])), (.int 2), (.tup [(.tup [(.str (sx [104,111,108,100])), (.str (sx [109])), (.tup [(.tup [(.str (sx [104,111,108,100])), (.str (sx [108])), (.tup [])])])])]), (.tup [])])])])], .lst [(.str (sx [108])), (.str (sx [109]))], .lst [(.tup [(.str (sx [109])), (.str (sx [108]))])], .lst [(.tup [(.str (sx [112])), (.tup []), (.tup []), (.tup [(.tup []), (.tup [])]), (.tup [(.tup []), (.tup [])]), (.tup [(.tup [(.str (sx [119,104,105,108,101])), (.int 1), (.str (sx [105,115])), (.int 2), (.tup [(.tup []), (.tup [])]), (.tup [(.tup []), (.tup [])]), (.tup [(.tup [(.str (sx [104,111,108,100])), (.str (sx [109])), (.tup [(.tup [(.str (sx [104,111,108,100])), (.str (sx [108])), (.tup [])])])])])])])])], .lst [(.str (sx [108])), (.str (sx [109]))], .lst [(.tup [(.str (sx [109])), (.str (sx [108]))])], .lst [(.tup [(.str (sx [112])), (.tup []), (.tup []), (.tup [(.tup []), (.tup [])]), (.tup [(.tup []), (.tup [])]), (.tup [(.tup [(.str (sx [105,102])), (.int 1), (.str (sx [105,115])), (.int 1), (.tup []), (.tup [(.tup [(.str (sx [104,111,108,100])), (.str (sx [109])), (.tup [(.tup [(.str (sx [104,111,108,100])), (.str (sx [108])), (.tup [])])])])])])])])], .lst [(.str (sx [108])), (.str (sx [109]))], .lst [(.tup [(.str (sx [109])), (.str (sx [108]))])], .lst [(.tup [(.str (sx [112])), (.tup []), (.tup []), (.tup [(.tup []), (.tup [])]), (.tup [(.tup []), (.tup [])]), (.tup [(.tup [(.str (sx [104,111,108,100])), (.str (sx [109])), (.tup [(.tup [(.str (sx [99,97,108,108])), (.tup []), (.str (sx [113])), (.tup [(.int 1)])])])])])]), (.tup [(.str (sx [113])), (.tup []), (.tup []), (.tup [(.tup []), (.tup [])]), (.tup [(.tup []), (.tup [])]), (.tup [(.tup [(.str (sx [104,111,108,100])), (.str (sx [108])), (.tup [])])])])], .lst [(.str (sx [108])), (.str (sx [109]))], .lst [(.tup [(.str (sx [108])), (.str (sx [109]))]), (.tup [(.str (sx [109])), (.str (sx [108]))])], .lst [(.tup [(.str (sx [112])), (.tup []), (.tup []), (.tup [(.tup []), (.tup [])]), (.tup [(.tup []), (.tup [])]), (.tup [(.tup [(.str (sx [104,111,108,100])), (.str (sx [109])), (.tup [(.tup [(.str (sx [99,97,108,108])), (.tup [(.str (sx [97]))]), (.str (sx [113])), (.tup [])])])])])]), (.tup [(.str (sx [113])), (.tup []), (.tup []), (.tup [(.tup []), (.tup [])]), (.tup [(.tup []), (.tup [])]), (.tup [(.tup [(.str (sx [104,111,108,100])), (.str (sx [108])), (.tup [])])])])], .lst [(.str (sx [108])), (.str (sx [109]))], .lst [(.tup [(.str (sx [108])), (.str (sx [109]))]), (.tup [(.str (sx [109])), (.str (sx [108]))])], .lst [(.tup [(.str (sx [112])), (.tup []), (.tup []), (.tup [(.tup []), (.tup [])]), (.tup [(.tup []), (.tup [])]), (.tup [(.tup [(.str (sx [104,111,108,100])), (.str (sx [109])), (.tup [(.tup [(.str (sx [98,111,116,104])), (.tup [(.str (sx [97]))]), (.str (sx [113])), (.tup []), (.tup []), (.str (sx [113])), (.tup [(.int 1)])])])])])]), (.tup [(.str (sx [113])), (.tup []), (.tup []), (.tup [(.tup []), (.tup [])]), (.tup [(.tup []), (.tup [])]), (.tup [(.tup [(.str (sx [104,111,108,100])), (.str (sx [108])), (.tup [])])])])], .lst [(.str (sx [108])), (.str (sx [109]))], .lst [(.tup [(.str (sx [108])), (.str (sx [109]))]), (.tup [(.str (sx [109])), (.str (sx [108]))])], .lst [(.tup [(.str (sx [112])), (.tup []), (.tup []), (.tup [(.tup []), (.tup [])]), (.tup [(.tup []), (.tup [])]), (.tup [(.tup [(.str (sx [99,97,108,108])), (.tup []), (.str (sx [113])), (.tup [])])])]), (.tup [(.str (sx [113])), (.tup []), (.tup []), (.tup [(.tup []), (.tup [])]), (.tup [(.tup []), (.tup [])]), (.tup [(.tup [(.str (sx [104,111,108,100])), (.str (sx [109])), (.tup [(.tup [(.str (sx [99,97,108,108])), (.tup []), (.str (sx [114])), (.tup [])])])])])])], .lst [(.tup [(.str (sx [112])), (.tup []), (.tup []), (.tup [(.tup []), (.tup [])]), (.tup [(.tup []), (.tup [])]), (.tup [(.tup [(.str (sx [99,97,108,108])), (.tup []), (.str (sx [113])), (.tup [])])])]), (.tup [(.str (sx [113])), (.tup []), (.tup []), (.tup [(.tup []), (.tup [])]), (.tup [(.tup []), (.tup [])]), (.tup [(.tup [(.str (sx [104,111,108,100])), (.str (sx [109])), (.tup [(.tup [(.str (sx [99,97,108,108])), (.tup []), (.str (sx [114])), (.tup [])])])])])]), (.tup [(.str (sx [114])), (.tup []), (.tup []), (.tup [(.tup []), (.tup [])]), (.tup [(.tup []), (.tup [])]), (.tup [(.tup [(.str (sx [104,111,108,100])), (.str (sx [108])), (.tup [])])])])], .lst [(.str (sx [108])), (.str (sx [109]))], .lst [(.tup [(.str (sx [109])), (.str (sx [108]))])], .lst [], .lst [(.str (sx [108]))], .lst [(.str (sx [109])), (.str (sx [108]))], .lst [(.str (sx [109])), (.str (sx [108]))], .lst [(.str (sx [109])), (.str (sx [108]))], .lst [(.str (sx [109])), (.str (sx [108]))], .lst [(.str (sx [107])), (.str (sx [109])), (.str (sx [108]))], .lst [(.str (sx [108]))], .lst [(.str (sx [108]))], .lst [(.str (sx [109])), (.str (sx [108]))]]
theorem q1_9 (ns : List Int) : stepL (kCs g FF 100000 (bodyOf (body 1))) (tgOf (body 1)) w1 (.tup [(.loc .lst 28), (.loc .lst 29), (.loc .lst 30)]) (e10 ns) S10 = some ((e11 ns), S11) := by kernel_rfl
def e12 (ns : List Int) : Env := [some (.scr ns), some (.tup [(.tup []), (.tup [])]), some (.loc .lst 31), some (.loc .lst 32), some (.loc .lst 33), some (.loc .lst 60), some (.str (sx [111,114,100,101,114])), some (.tup [(.str (sx [109])), (.str (sx [108]))]), none, none, none, none]
def S12 : Sto := [.lst [], .lst [], .lst [(.tup [])], .lst [], .lst [(.str (sx [108]))], .lst [(.tup [(.str (sx [108]))])], .lst [(.tup [(.str (sx [112])), (.tup []), (.tup []), (.tup [(.tup []), (.tup [])]), (.tup [(.tup []), (.tup [])]), (.tup [(.tup [(.str (sx [104,111,108,100])), (.str (sx [108])), (.tup [])]), (.tup [(.str (sx [104,111,108,100])), (.str (sx [109])), (.tup [])])])])], .lst [(.str (sx [108])), (.str (sx [109]))], .lst [(.tup [(.str (sx [108])), (.str (sx [109]))]), (.tup [(.str (sx [109])), (.str (sx [108]))])], .lst [(.tup [(.loc .lst 0), (.loc .lst 1), (.loc .lst 2)]), (.tup [(.loc .lst 3), (.loc .lst 4), (.loc .lst 5)]), (.tup [(.loc .lst 6), (.loc .lst 7), (.loc .lst 8)]), (.tup [(.loc .lst 10), (.loc .lst 11), (.loc .lst 12)]), (.tup [(.loc .lst 13), (.loc .lst 14), (.loc .lst 15)]), (.tup [(.loc .lst 16), (.loc .lst 17), (.loc .lst 18)]), (.tup [(.loc .lst 19), (.loc .lst 20), (.loc .lst 21)]), (.tup [(.loc .lst 22), (.loc .lst 23), (.loc .lst 24)]), (.tup [(.loc .lst 25), (.loc .lst 26), (.loc .lst 27)]), (.tup [(.loc .lst 28), (.loc .lst 29), (.loc .lst 30)]), (.tup [(.loc .lst 31), (.loc .lst 32), (.loc .lst 33)]), (.tup [(.loc .lst 34), (.loc .lst 35), (.loc .lst 36)]), (.tup [(.loc .lst 37), (.loc .lst 38), (.loc .lst 39)]), (.tup [(.loc .lst 40), (.loc .lst 41), (.loc .lst 42)]), (.tup [(.loc .lst 43), (.loc .lst 44), (.loc .lst 45)]), (.tup [(.loc .lst 47), (.loc .lst 48), (.loc .lst 49)])], .lst [(.tup [(.str (sx [112])), (.tup []), (.tup []), (.tup [(.tup []), (.tup [])]), (.tup [(.tup []), (.tup [])]), (.tup [(.tup [(.str (sx [104,111,108,100])), (.str (sx [109])), (.tup [(.tup [(.str (sx [104,111,108,100])), (.str (sx [108])), (.tup [])])])])])])], .lst [(.str (sx [108])), (.str (sx [109]))], .lst [(.tup [(.str (sx [109])), (.str (sx [108]))])], .lst [(.tup [(.str (sx [112])), (.tup []), (.tup []), (.tup [(.tup []), (.tup [])]), (.tup [(.tup []), (.tup [])]), (.tup [(.tup [(.str (sx [104,111,108,100])), (.str (sx [109])), (.tup [(.tup [(.str (sx [99,97,108,108])), (.tup []), (.str (sx [113])), (.tup [])])])])])]), (.tup [(.str (sx [113])), (.tup []), (.tup []), (.tup [(.tup []), (.tup [])]), (.tup [(.tup []), (.tup [])]), (.tup [(.tup [(.str (sx [104,111,108,100])), (.str (sx [108])), (.tup [])])])])], .lst [(.str (sx [108])), (.str (sx [109]))], .lst [(.tup [(.str (sx [109])), (.str (sx [108]))])], .lst [(.tup [(.str (sx [112])), (.tup []), (.tup []), (.tup [(.tup []), (.tup [])]), (.tup [(.tup []), (.tup [])]), (.tup [(.tup [(.str (sx [104,111,108,100])), (.str (sx [109])), (.tup [(.tup [(.str (sx [99,97,108,108])), (.tup []), (.str (sx [113])), (.tup [])])])])])])], .lst [(.str (sx [108])), (.str (sx [109]))], .lst [(.tup [(.str (sx [108])), (.str (sx [109]))]), (.tup [(.str (sx [109])), (.str (sx [108]))])], .lst [(.tup [(.str (sx [112])), (.tup []), (.tup []), (.tup [(.tup []), (.tup [])]), (.tup [(.tup []), (.tup [])]), (.tup [(.tup [(.str (sx [104,111,108,100])), (.str (sx [107])), (.tup [(.tup [(.str (sx [98,111,116,104])), (.tup []), (.str (sx [113])), (.tup []), (.tup []), (.str (sx [114])), (.tup [])])])])])]), (.tup [(.str (sx [113])), (.tup []), (.tup []), (.tup [(.tup []), (.tup [])]), (.tup [(.tup []), (.tup [])]), (.tup [(.tup [(.str (sx [104,111,108,100])), (.str (sx [108])), (.tup [])])])]), (.tup [(.str (sx [114])), (.tup []), (.tup []), (.tup [(.tup []), (.tup [])]), (.tup [(.tup []), (.tup [])]), (.tup [(.tup [(.str (sx [104,111,108,100])), (.str (sx [109])), (.tup [])])])])], .lst [(.str (sx [108])), (.str (sx [109])), (.str (sx [107]))], .lst [(.tup [(.str (sx [107])), (.str (sx [108])), (.str (sx [109]))]), (.tup [(.str (sx [107])), (.str (sx [109])), (.str (sx [108]))])], .lst [(.tup [(.str (sx [112])), (.tup []), (.tup []), (.tup [(.tup []), (.tup [])]), (.tup [(.tup []), (.tup [])]), (.tup [(.tup [(.str (sx [104,111,108,100])), (.str (sx [122])), (.tup [(.tup [(.str (sx [104,111,108,100])), (.str (sx [108])), (.tup [])])])])])])], .lst [(.str (sx [108]))], .lst [(.tup [(.str (sx [108]))])], .lst [(.tup [(.str (sx [112])), (.tup []), (.tup []), (.tup [(.tup []), (.tup [])]), (.tup [(.tup []), (.tup [])]), (.tup [(.tup [(.str (sx [104,111,108,100])), (.str (sx [108])), (.tup [(.tup [(.str (sx [104,111,108,100])), (.str (sx [122])), (.tup [])])])])])])], .lst [(.str (sx [108]))], .lst [(.tup [(.str (sx [108]))])], .lst [(.tup [(.str (sx [112])), (.tup []), (.tup []), (.tup [(.tup []), (.tup [])]), (.tup [(.tup []), (.tup [])]), (.tup [(.tup [(.str (sx [105,102])), (.int 1), (.str (sx [105,115])), (.int 2), (.tup [(.tup [(.str (sx [104,111,108,100])), (.str (sx [109])), (.tup [(.tup [(.str (sx [104,111,108,100])), (.str (sx [108])), (.tup [])])])])]), (.tup [])])])])], .lst [(.str (sx [108])), (.str (sx [109]))], .lst [(.tup [(.str (sx [109])), (.str (sx [108]))])], .lst [(.tup [(.str (sx [112])), (.tup []), (.tup []), (.tup [(.tup []), (.tup [])]), (.tup [(.tup []), (.tup [])]), (.tup [(.tup [(.str (sx [119,104,105,108,101])), (.int 1), (.str (sx [105,115])), (.int 2), (.tup [(.tup []), (.tup [])]), (.tup [(.tup []), (.tup [])]), (.tup [(.tup [(.str (sx [104,111,108,100])), (.str (sx [109])), (.tup [(.tup [(.str (sx [104,111,108,100])), (.str (sx [108])), (.tup [])])])])])])])])], .lst [(.str (sx [108])), (.str (sx [109]))], .lst [(.tup [(.str (sx [109])), (.str (sx [108]))])], .lst [(.tup [(.str (sx [112])), (.tup []), (.tup []), (.tup [(.tup []), (.tup [])]), (.tup [(.tup []), (.tup [])]), (.tup [(.tup [(.str (sx [105,102])), (.int 1), (.str (sx [105,115])), (.int 1), (.tup []), (.tup [(.tup [(.str (sx [104,111,108,100])), (.str (sx [109])), (.tup [(.tup [(.str (sx [104,111,108,100])), (.str (sx [108])), (.tup [])])])])])])])])], .lst [(.str (sx [108])), (.str (sx [109]))], .lst [(.tup [(.str (sx [109])), (.str (sx [108]))])], .lst [(.tup [(.str (sx [112])), (.tup []), (.tup []), (.tup [(.tup []), (.tup [])]), (.tup [(.tup []), (.tup [])]), (.tup [(.tup [(.str (sx [104,111,108,100])), (.str (sx [109])), (.tup [(.tup [(.str (sx [99,97,108,108])), (.tup []), (.str (sx [113])), (.tup [(.int 1)])])])])])]), (.tup [(.str (sx [113])), (.tup []), (.tup []), (.tup [(.tup []), (.tup [])]), (.tup [(.tup []), (.tup [])]), (.tup [(.tup [(.str (sx [104,111,108,100])), (.str (sx [108])), (.tup [])])])])], .lst [(.str (sx [108])), (.str (sx [109]))], .lst [(.tup [(.str (sx [108])), (.str (sx [109]))]), (.tup [(.str (sx [109])), (.str (sx [108]))])], .lst [(.tup [(.str (sx [112])), (.tup []), (.tup []), (.tup [(.tup []), (.tup [])]), (.tup [(.tup []), (.tup [])]), (.tup [(.tup [(.str (sx [104,111,108,100])), (.str (sx [109])), (.tup [(.tup [(.str (sx [99,97,108,108])), (.tup [(.str (sx [97]))]), (.str (sx [113])), (.tup [])])])])])]), (.tup [(.str (sx [113])), (.tup []), (.tup []), (.tup [(.tup []), (.tup [])]), (.tup [(.tup []), (.tup [])]), (.tup [(.tup [(.str (sx [104,111,108,100])), (.str (sx [108])), (.tup [])])])])], .lst [(.str (sx [108])), (.str (sx [109]))], .lst [(.tup [(.str (sx [108])), (.str (sx [109]))]), (.tup [(.str (sx [109])), (.str (sx [108]))])], .lst [(.tup [(.str (sx [112])), (.tup []), (.tup []), (.tup [(.tup []), (.tup [])]), (.tup [(.tup []), (.tup [])]), (.tup [(.tup [(.str (sx [104,111,108,100])), (.str (sx [109])), (.tup [(.tup [(.str (sx [98,111,116,104])), (.tup [(.str (sx [97]))]), (.str (sx [113])), (.tup []), (.tup []), (.str (sx [113])), (.tup [(.int 1)])])])])])]), (.tup [(.str (sx [113])), (.tup []), (.tup []), (.tup [(.tup []), (.tup [])]), (.tup [(.tup []), (.tup [])]), (.tup [(.tup [(.str (sx [104,111,108,100])), (.str (sx [108])), (.tup [])])])])], .lst [(.str (sx [108])), (.str (sx [109]))], .lst [(.tup [(.str (sx [108])), (.str (sx [109]))]), (.tup [(.str (sx [109])), (.str (sx [108]))])], .lst [(.tup [(.str (sx [112])), (.tup []), (.tup []), (.tup [(.tup []), (.tup [])]), (.tup [(.tup []), (.tup [])]), (.tup [(.tup [(.str (sx [99,97,108,108])), (.tup []), (.str (sx [113])), (.tup [])])])]), (.tup [(.str (sx [113])), (.tup []), (.tup []), (.tup [(.tup []), (.tup [])]), (.tup [(.tup []), (.tup [])]), (.tup [(.tup [(.str (sx [104,111,108,100])), (.str (sx [109])), (.tup [(.tup [(.str (sx [99,97,108,108])), (.tup []), (.str (sx [114])), (.tup [])])])])])])], .lst [(.tup [(.str (sx [112])), (.tup []), (.tup []), (.tup [(.tup []), (.tup [])]), (.tup [(.tup []), (.tup [])]), (.tup [(.tup [(.str (sx [99,97,108,108])), (.tup []), (.str (sx [113])), (.tup [])])])]), (.tup [(.str (sx [113])), (.tup []), (.tup []), (.tup [(.tup []), (.tup [])]), (.tup [(.tup []), (.tup [])]), (.tup [(.tup [(.str (sx [104,111,108,100])), (.str (sx [109])), (.tup [(.tup [(.str (sx [99,97,108,108])), (.tup []), (.str (sx [114])), (.tup [])])])])])]), (.tup [(.str (sx [114])), (.tup []), (.tup []), (.tup [(.tup []), (.tup [])]), (.tup [(.tup []), (.tup [])]), (.tup [(.tup [(.str (sx [104,111,108,100])), (.str (sx [108])), (.tup [])])])])], .lst [(.str (sx [108])), (.str (sx [109]))], .lst [(.tup [(.str (sx [109])), (.str (sx [108]))])], .lst [], .lst [(.str (sx [108]))], .lst [(.str (sx [109])), (.str (sx [108]))], .lst [(.str (sx [109])), (.str (sx [108]))], .lst [(.str (sx [109])), (.str (sx [108]))], .lst [(.str (sx [109])), (.str (sx [108]))], .lst [(.str (sx [107])), (.str (sx [109])), (.str (sx [108]))], .lst [(.str (sx [108]))], .lst [(.str (sx [108]))], .lst [(.str (sx [109])), (.str (sx [108]))], .lst [(.str (sx [109])), (.str (sx [108]))]]
theorem q1_10 (ns : List Int) : stepL (kCs g FF 100000 (bodyOf (body 1))) (tgOf (body 1)) w1 (.tup [(.loc .lst 31), (.loc .lst 32), (.loc .lst 33)]) (e11 ns) S11 = some ((e12 ns), S12) := by kernel_rfl
def e13 (ns : List Int) : Env := [some (.scr ns), some (.tup [(.tup []), (.tup [])]), some (.loc .lst 34), some (.loc .lst 35), some (.loc .lst 36), some (.loc .lst 61), some (.str (sx [111,114,100,101,114])), some (.tup [(.str (sx [109])), (.str (sx [108]))]), none, none, none, none]
def S13 : Sto := [.lst [], .lst [], .lst [(.tup [])], .lst [], .lst [(.str (sx [108]))], .lst [(.tup [(.str (sx [108]))])], .lst [(.tup [(.str (sx [112])), (.tup []), (.tup []), (.tup [(.tup []), (.tup [])]), (.tup [(.tup []), (.tup [])]), (.tup [(.tup [(.str (sx [104,111,108,100])), (.str (sx [108])), (.tup [])]), (.tup [(.str (sx [104,111,108,100])), (.str (sx [109])), (.tup [])])])])], .lst [(.str (sx [108])), (.str (sx [109]))], .lst [(.tup [(.str (sx [108])), (.str (sx [109]))]), (.tup [(.str (sx [109])), (.str (sx [108]))])], .lst [(.tup [(.loc .lst 0), (.loc .lst 1), (.loc .lst 2)]), (.tup [(.loc .lst 3), (.loc .lst 4), (.loc .lst 5)]), (.tup [(.loc .lst 6), (.loc .lst 7), (.loc .lst 8)]), (.tup [(.loc .lst 10), (.loc .lst 11), (.loc .lst 12)]), (.tup [(.loc .lst 13), (.loc .lst 14), (.loc .lst 15)]), (.tup [(.loc .lst 16), (.loc .lst 17), (.loc .lst 18)]), (.tup [(.loc .lst 19), (.loc .lst 20), (.loc .lst 21)]), (.tup [(.loc .lst 22), (.loc .lst 23), (.loc .lst 24)]), (.tup [(.loc .lst 25), (.loc .lst 26), (.loc .lst 27)]), (.tup [(.loc .lst 28), (.loc .lst 29), (.loc .lst 30)]), (.tup [(.loc .lst 31), (.loc .lst 32), (.loc .lst 33)]), (.tup [(.loc .lst 34), (.loc .lst 35), (.loc .lst 36)]), (.tup [(.loc .lst 37), (.loc .lst 38), (.loc .lst 39)]), (.tup [(.loc .lst 40), (.loc .lst 41), (.loc .lst 42)]), (.tup [(.loc .lst 43), (.loc .lst 44), (.loc .lst 45)]), (.tup [(.loc .lst 47), (.loc .lst 48), (.loc .lst 49)])], .lst [(.tup [(.str (sx [112])), (.tup []), (.tup []), (.tup [(.tup []), (.tup [])]), (.tup [(.tup []), (.tup [])]), (.tup [(.tup [(.str (sx [104,111,108,100])), (.str (sx [109])), (.tup [(.tup [(.str (sx [104,111,108,100])), (.str (sx [108])), (.tup [])])])])])])], .lst [(.str (sx [108])), (.str (sx [109]))], .lst [(.tup [(.str (sx [109])), (.str (sx [108]))])], .lst [(.tup [(.str (sx [112])), (.tup []), (.tup []), (.tup [(.tup []), (.tup [])]), (.tup [(.tup []), (.tup [])]), (.tup [(.tup [(.str (sx [104,111,108,100])), (.str (sx [109])), (.tup [(.tup [(.str (sx [99,97,108,108])), (.tup []), (.str (sx [113])), (.tup [])])])])])]), (.tup [(.str (sx [113])), (.tup []), (.tup []), (.tup [(.tup []), (.tup [])]), (.tup [(.tup []), (.tup [])]), (.tup [(.tup [(.str (sx [104,111,108,100])), (.str (sx [108])), (.tup [])])])])], .lst [(.str (sx [108])), (.str (sx [109]))], .lst [(.tup [(.str (sx [109])), (.str (sx [108]))])], .lst [(.tup [(.str (sx [112])), (.tup []), (.tup []), (.tup [(.tup []), (.tup [])]), (.tup [(.tup []), (.tup [])]), (.tup [(.tup [(.str (sx [104,111,108,100])), (.str (sx [109])), (.tup [(.tup [(.str (sx [99,97,108,108])), (.tup []), (.str (sx [113])), (.tup [])])])])])])], .lst [(.str (sx [108])), (.str (sx [109]))], .lst [(.tup [(.str (sx [108])), (.str (sx [109]))]), (.tup [(.str (sx [109])), (.str (sx [108]))])], .lst [(.tup [(.str (sx [112])), (.tup []), (.tup []), (.tup [(.tup []), (.tup [])]), (.tup [(.tup []), (.tup [])]), (.tup [(.tup [(.str (sx [104,111,108,100])), (.str (sx [107])), (.tup [(.tup [(.str (sx [98,111,116,104])), (.tup []), (.str (sx [113])), (.tup []), (.tup []), (.str (sx [114])), (.tup [])])])])])]), (.tup [(.str (sx [113])), (.tup []), (.tup []), (.tup [(.tup []), (.tup [])]), (.tup [(.tup []), (.tup [])]), (.tup [(.tup [(.str (sx [104,111,108,100])), (.str (sx [108])), (.tup [])])])]), (.tup [(.str (sx [114])), (.tup []), (.tup []), (.tup [(.tup []), (.tup [])]), (.tup [(.tup []), (.tup [])]), (.tup [(.tup [(.str (sx [104,111,108,100])), (.str (sx [109])), (.tup [])])])])], .lst [(.str (sx [108])), (.str (sx [109])), (.str (sx [107]))], .lst [(.tup [(.str (sx [107])), (.str (sx [108])), (.str (sx [109]))]), (.tup [(.str (sx [107])), (.str (sx [109])), (.str (sx [108]))])], .lst [(.tup [(.str (sx [112])), (.tup []), (.tup []), (.tup [(.tup []), (.tup [])]), (.tup [(.tup []), (.tup [])]), (.tup [(.tup [(.str (sx [104,111,108,100])), (.str (sx [122])), (.tup [(.tup [(.str (sx [104,111,108,100])), (.str (sx [108])), (.tup [])])])])])])], .lst [(.str (sx [108]))], .lst [(.tup [(.str (sx [108]))])], .lst [(.tup [(.str (sx [112])), (.tup []), (.tup []), (.tup [(.tup []), (.tup [])]), (.tup [(.tup []), (.tup [])]), (.tup [(.tup [(.str (sx [104,111,108,100])), (.str (sx [108])), (.tup [(.tup [(.str (sx [104,111,108,100])), (.str (sx [122])), (.tup [])])])])])])], .lst [(.str (sx [108]))], .lst [(.tup [(.str (sx [108]))])], .lst [(.tup [(.str (sx [112])), (.tup []), (.tup []), (.tup [(.tup []), (.tup [])]), (.tup [(.tup []), (.tup [])]), (.tup [(.tup [(.str (sx [105,102])), (.int 1), (.str (sx [105,115])), (.int 2), (.tup [(.tup [(.str (sx [104,111,108,100])), (.str (sx [109])), (.tup [(.tup [(.str (sx [104,111,108,100])), (.str (sx [108])), (.tup [])])])])]), (.tup [])])])])], .lst [(.str (sx [108])), (.str (sx [109]))], .lst [(.tup [(.str (sx [109])), (.str (sx [108]))])], .lst [(.tup [(.str (sx [112])), (.tup []), (.tup []), (.tup [(.tup []), (.tup [])]), (.tup [(.tup []), (.tup [])]), (.tup [(.tup [(.str (sx [119,104,105,108,101])), (.int 1), (.str (sx [105,115])), (.int 2), (.tup [(.tup []), (.tup [])]), (.tup [(.tup []), (.tup [])]), (.tup [(.tup [(.str (sx [104,111,108,100])), (.str (sx [109])), (.tup [(.tup [(.str (sx [104,111,108,100])), (.str (sx [108])), (.tup [])])])])])])])])], .lst [(.str (sx [108])), (.str (sx [109]))], .lst [(.tup [(.str (sx [109])), (.str (sx [108]))])], .lst [(.tup [(.str (sx [112])), (.tup []), (.tup []), (.tup [(.tup []), (.tup [])]), (.tup [(.tup []), (.tup [])]), (.tup [(.tup [(.str (sx [105,102])), (.int 1), (.str (sx [105,115])), (.int 1), (.tup []), (.tup [(.tup [(.str (sx [104,111,108,100])), (.str (sx [109])), (.tup [(.tup [(.str (sx [104,111,108,100])), (.str (sx [108])), (.tup [])])])])])])])])], .lst [(.str (sx [108])), (.str (sx [109]))], .lst [(.tup [(.str (sx [109])), (.str (sx [108]))])], .lst [(.tup [(.str (sx [112])), (.tup []), (.tup []), (.tup [(.tup []), (.tup [])]), (.tup [(.tup []), (.tup [])]), (.tup [(.tup [(.str (sx [104,111,108,100])), (.str (sx [109])), (.tup [(.tup [(.str (sx [99,97,108,108])), (.tup []), (.str (sx [113])), (.tup [(.int 1)])])])])])]), (.tup [(.str (sx [113])), (.tup []), (.tup []), (.tup [(.tup []), (.tup [])]), (.tup [(.tup []), (.tup [])]), (.tup [(.tup [(.str (sx [104,111,108,100])), (.str (sx [108])), (.tup [])])])])], .lst [(.str (sx [108])), (.str (sx [109]))], .lst [(.tup [(.str (sx [108])), (.str (sx [109]))]), (.tup [(.str (sx [109])), (.str (sx [108]))])], .lst [(.tup [(.str (sx [112])), (.tup []), (.tup []), (.tup [(.tup []), (.tup [])]), (.tup [(.tup []), (.tup [])]), (.tup [(.tup [(.str (sx [104,111,108,100])), (.str (sx [109])), (.tup [(.tup [(.str (sx [99,97,108,108])), (.tup [(.str (sx [97]))]), (.str (sx [113])), (.tup [])])])])])]), (.tup [(.str (sx [113])), (.tup []), (.tup []), (.tup [(.tup []), (.tup [])]), (.tup [(.tup []), (.tup [])]), (.tup [(.tup [(.str (sx [104,111,108,100])), (.str (sx [108])), (.tup [])])])])], .lst [(.str (sx [108])), (.str (sx [109]))], .lst [(.tup [(.str (sx [108])), (.str (sx [109]))]), (.tup [(.str (sx [109])), (.str (sx [108]))])], .lst [(.tup [(.str (sx [112])), (.tup []), (.tup []), (.tup [(.tup []), (.tup [])]), (.tup [(.tup []), (.tup [])]), (.tup [(.tup [(.str (sx [104,111,108,100])), (.str (sx [109])), (.tup [(.tup [(.str (sx [98,111,116,104])), (.tup [(.str (sx [97]))]), (.str (sx [113])), (.tup []), (.tup []), (.str (sx [113])), (.tup [(.int 1)])])])])])]), (.tup [(.str (sx [113])), (.tup []), (.tup []), (.tup [(.tup []), (.tup [])]), (.tup [(.tup []), (.tup [])]), (.tup [(.tup [(.str (sx [104,111,108,100])), (.str (sx [108])), (.tup [])])])])], .lst [(.str (sx [108])), (.str (sx [109]))], .lst [(.tup [(.str (sx [108])), (.str (sx [109]))]), (.tup [(.str (sx [109])), (.str (sx [108]))])], .lst [(.tup [(.str (sx [112])), (.tup []), (.tup []), (.tup [(.tup []), (.tup [])]), (.tup [(.tup []), (.tup [])]), (.tup [(.tup [(.str (sx [99,97,108,108])), (.tup []), (.str (sx [113])), (.tup [])])])]), (.tup [(.str (sx [113])), (.tup []), (.tup []), (.tup [(.tup []), (.tup [])]), (.tup [(.tup []), (.tup [])]), (.tup [(.tup [(.str (sx [104,111,108,100])), (.str (sx [109])), (.tup [(.tup [(.str (sx [99,97,108,108])), (.tup []), (.str (sx [114])), (.tup [])])])])])])], .lst [(.tup [(.str (sx [112])), (.tup []), (.tup []), (.tup [(.tup []), (.tup [])]), (.tup [(.tup []), (.tup [])]), (.tup [(.tup [(.str (sx [99,97,108,108])), (.tup []), (.str (sx [113])), (.tup [])])])]), (.tup [(.str (sx [113])), (.tup []), (.tup []), (.tup [(.tup []), (.tup [])]), (.tup [(.tup []), (.tup [])]), (.tup [(.tup [(.str (sx [104,111,108,100])), (.str (sx [109])), (.tup [(.tup [(.str (sx [99,97,108,108])), (.tup []), (.str (sx [114])), (.tup [])])])])])]), (.tup [(.str (sx [114])), (.tup []), (.tup []), (.tup [(.tup []), (.tup [])]), (.tup [(.tup []), (.tup [])]), (.tup [(.tup [(.str (sx [104,111,108,100])), (.str (sx [108])), (.tup [])])])])], .lst [(.str (sx [108])), (.str (sx [109]))], .lst [(.tup [(.str (sx [109])), (.str (sx [108]))])], .lst [], .lst [(.str (sx [108]))], .lst [(.str (sx [109])), (.str (sx [108]))], .lst [(.str (sx [109])), (.str (sx [108]))], .lst [(.str (sx [109])), (.str (sx [108]))], .lst [(.str (sx [109])), (.str (sx [108]))], .lst [(.str (sx [107])), (.str (sx [109])), (.str (sx [108]))], .lst [(.str (sx [108]))], .lst [(.str (sx [108]))], .lst [(.str (sx [109])), (.str (sx [108]))], .lst [(.str (sx [109])), (.str (sx [108]))], .lst [(.str (sx [109])), (.str (sx [108]))]]
theorem q1_11 (ns : List Int) : stepL (kCs g FF 100000 (bodyOf (body 1))) (tgOf (body 1)) w1 (.tup [(.loc .lst 34), (.loc .lst 35), (.loc .lst 36)]) (e12 ns) S12 = some ((e13 ns), S13) := by kernel_rfl
def e14 (ns : List Int) : Env := [some (.scr ns), some (.tup [(.tup []), (.tup [])]), some (.loc .lst 37), some (.loc .lst 38), some (.loc .lst 39), some (.loc .lst 62), some (.str (sx [111,114,100,101,114])), some (.tup [(.str (sx [109])), (.str (sx [108]))]), none, none, none, none]
def S14 : Sto := [.lst [], .lst [], .lst [(.tup [])], .lst [], .lst [(.str (sx [108]))], .lst [(.tup [(.str (sx [108]))])], .lst [(.tup [(.str (sx [112])), (.tup []), (.tup []), (.tup [(.tup []), (.tup [])]), (.tup [(.tup []), (.tup [])]), (.tup [(.tup [(.str (sx [104,111,108,100])), (.str (sx [108])), (.tup [])]), (.tup [(.str (sx [104,111,108,100])), (.str (sx [109])), (.tup [])])])])], .lst [(.str (sx [108])), (.str (sx [109]))], .lst [(.tup [(.str (sx [108])), (.str (sx [109]))]), (.tup [(.str (sx [109])), (.str (sx [108]))])], .lst [(.tup [(.loc .lst 0), (.loc .lst 1), (.loc .lst 2)]), (.tup [(.loc .lst 3), (.loc .lst 4), (.loc .lst 5)]), (.tup [(.loc .lst 6), (.loc .lst 7), (.loc .lst 8)]), (.tup [(.loc .lst 10), (.loc .lst 11), (.loc .lst 12)]), (.tup [(.loc .lst 13), (.loc .lst 14), (.loc .lst 15)]), (.tup [(.loc .lst 16), (.loc .lst 17), (.loc .lst 18)]), (.tup [(.loc .lst 19), (.loc .lst 20), (.loc .lst 21)]), (.tup [(.loc .lst 22), (.loc .lst 23), (.loc .lst 24)]), (.tup [(.loc .lst 25), (.loc .lst 26), (.loc .lst 27)]), (.tup [(.loc .lst 28), (.loc .lst 29), (.loc .lst 30)]), (.tup [(.loc .lst 31), (.loc .lst 32), (.loc .lst 33)]), (.tup [(.loc .lst 34), (.loc .lst 35), (.loc .lst 36)]), (.tup [(.loc .lst 37), (.loc .lst 38), (.loc .lst 39)]), (.tup [(.loc .lst 40), (.loc .lst 41), (.loc .lst 42)]), (.tup [(.loc .lst 43), (.loc .lst 44), (.loc .lst 45)]), (.tup [(.loc .lst 47), (.loc .lst 48), (.loc .lst 49)])], .lst [(.tup [(.str (sx [112])), (.tup []), (.tup []), (.tup [(.tup []), (.tup [])]), (.tup [(.tup []), (.tup [])]), (.tup [(.tup [(.str (sx [104,111,108,100])), (.str (sx [109])), (.tup [(.tup [(.str (sx [104,111,108,100])), (.str (sx [108])), (.tup [])])])])])])], .lst [(.str (sx [108])), (.str (sx [109]))], .lst [(.tup [(.str (sx [109])), (.str (sx [108]))])], .lst [(.tup [(.str (sx [112])), (.tup []), (.tup []), (.tup [(.tup []), (.tup [])]), (.tup [(.tup []), (.tup [])]), (.tup [(.tup [(.str (sx [104,111,108,100])), (.str (sx [109])), (.tup [(.tup [(.str (sx [99,97,108,108])), (.tup []), (.str (sx [113])), (.tup [])])])])])]), (.tup [(.str (sx [113])), (.tup []), (.tup []), (.tup [(.tup []), (.tup [])]), (.tup [(.tup []), (.tup [])]), (.tup [(.tup [(.str (sx [104,111,108,100])), (.str (sx [108])), (.tup [])])])])], .lst [(.str (sx [108])), (.str (sx [109]))], .lst [(.tup [(.str (sx [109])), (.str (sx [108]))])], .lst [(.tup [(.str (sx [112])), (.tup []), (.tup []), (.tup [(.tup []), (.tup [])]), (.tup [(.tup []), (.tup [])]), (.tup [(.tup [(.str (sx [104,111,108,100])), (.str (sx [109])), (.tup [(.tup [(.str (sx [99,97,108,108])), (.tup []), (.str (sx [113])), (.tup [])])])])])])], .lst [(.str (sx [108])), (.str (sx [109]))], .lst [(.tup [(.str (sx [108])), (.str (sx [109]))]), (.tup [(.str (sx [109])), (.str (sx [108]))])], .lst [(.tup [(.str (sx [112])), (.tup []), (.tup []), (.tup [(.tup []), (.tup [])]), (.tup [(.tup []), (.tup [])]), (.tup [(.tup [(.str (sx [104,111,108,100])), (.str (sx [107])), (.tup [(.tup [(.str (sx [98,111,116,104])), (.tup []), (.str (sx [113])), (.tup []), (.tup []), (.str (sx [114])), (.tup [])])])])])]), (.tup [(.str (sx [113])), (.tup []), (.tup []), (.tup [(.tup []), (.tup [])]), (.tup [(.tup []), (.tup [])]), (.tup [(.tup [(.str (sx [104,111,108,100])), (.str (sx [108])), (.tup [])])])]), (.tup [(.str (sx [114])), (.tup []), (.tup []), (.tup [(.tup []), (.tup [])]), (.tup [(.tup []), (.tup [])]), (.tup [(.tup [(.str (sx [104,111,108,100])), (.str (sx [109])), (.tup [])])])])], .lst [(.str (sx [108])), (.str (sx [109])), (.str (sx [107]))], .lst [(.tup [(.str (sx [107])), (.str (sx [108])), (.str (sx [109]))]), (.tup [(.str (sx [107])), (.str (sx [109])), (.str (sx [108]))])], .lst [(.tup [(.str (sx [112])), (.tup []), (.tup []), (.tup [(.tup []), (.tup [])]), (.tup [(.tup []), (.tup [])]), (.tup [(.tup [(.str (sx [104,111,108,100])), (.str (sx [122])), (.tup [(.tup [(.str (sx [104,111,108,100])), (.str (sx [108])), (.tup [])])])])])])], .lst [(.str (sx [108]))], .lst [(.tup [(.str (sx [108]))])], .lst [(.tup [(.str (sx [112])), (.tup []), (.tup []), (.tup [(.tup []), (.tup [])]), (.tup [(.tup []), (.tup [])]), (.tup [(.tup [(.str (sx [104,111,108,100])), (.str (sx [108])), (.tup [(.tup [(.str (sx [104,111,108,100])), (.str (sx [122])), (.tup [])])])])])])], .lst [(.str (sx [108]))], .lst [(.tup [(.str (sx [108]))])], .lst [(.tup [(.str (sx [112])), (.tup []), (.tup []), (.tup [(.tup []), (.tup [])]), (.tup [(.tup []), (.tup [])]), (.tup [(.tup [(.str (sx [105,102])), (.int 1), (.str (sx [105,115])), (.int 2), (.tup [(.tup [(.str (sx [104,111,108,100])), (.str (sx [109])), (.tup [(.tup [(.str (sx [104,111,108,100])), (.str (sx [108])), (.tup [])])])])]), (.tup [])])])])], .lst [(.str (sx [108])), (.str (sx [109]))], .lst [(.tup [(.str (sx [109])), (.str (sx [108]))])], .lst [(.tup [(.str (sx [112])), (.tup []), (.tup []), (.tup [(.tup []), (.tup [])]), (.tup [(.tup []), (.tup [])]), (.tup [(.tup [(.str (sx [119,104,105,108,101])), (.int 1), (.str (sx [105,115])), (.int 2), (.tup [(.tup []), (.tup [])]), (.tup [(.tup []), (.tup [])]), (.tup [(.tup [(.str (sx [104,111,108,100])), (.str (sx [109])), (.tup [(.tup [(.str (sx [104,111,108,100])), (.str (sx [108])), (.tup [])])])])])])])])], .lst [(.str (sx [108])), (.str (sx [109]))], .lst [(.tup [(.str (sx [109])), (.str (sx [108]))])], .lst [(.tup [(.str (sx [112])), (.tup []), (.tup []), (.tup [(.tup []), (.tup [])]), (.tup [(.tup []), (.tup [])]), (.tup [(.tup [(.str (sx [105,102])), (.int 1), (.str (sx [105,115])), (.int 1), (.tup []), (.tup [(.tup [(.str (sx [104,111,108,100])), (.str (sx [109])), (.tup [(.tup [(.str (sx [104,111,108,100])), (.str (sx [108])), (.tup [])])])])])])])])], .lst [(.str (sx [108])), (.str (sx [109]))], .lst [(.tup [(.str (sx [109])), (.str (sx [108]))])], .lst [(.tup [(.str (sx [112])), (.tup []), (.tup []), (.tup [(.tup []), (.tup [])]), (.tup [(.tup []), (.tup [])]), (.tup [(.tup [(.str (sx [104,111,108,100])), (.str (sx [109])), (.tup [(.tup [(.str (sx [99,97,108,108])), (.tup []), (.str (sx [113])), (.tup [(.int 1)])])])])])]), (.tup [(.str (sx [113])), (.tup []), (.tup []), (.tup [(.tup []), (.tup [])]), (.tup [(.tup []), (.tup [])]), (.tup [(.tup [(.str (sx [104,111,108,100])), (.str (sx [108])), (.tup [])])])])], .lst [(.str (sx [108])), (.str (sx [109]))], .lst [(.tup [(.str (sx [108])), (.str (sx [109]))]), (.tup [(.str (sx [109])), (.str (sx [108]))])], .lst [(.tup [(.str (sx [112])), (.tup []), (.tup []), (.tup [(.tup []), (.tup [])]), (.tup [(.tup []), (.tup [])]), (.tup [(.tup [(.str (sx [104,111,108,100])), (.str (sx [109])), (.tup [(.tup [(.str (sx [99,97,108,108])), (.tup [(.str (sx [97]))]), (.str (sx [113])), (.tup [])])])])])]), (.tup [(.str (sx [113])), (.tup []), (.tup []), (.tup [(.tup []), (.tup [])]), (.tup [(.tup []), (.tup [])]), (.tup [(.tup [(.str (sx [104,111,108,100])), (.str (sx [108])), (.tup [])])])])], .lst [(.str (sx [108])), (.str (sx [109]))], .lst [(.tup [(.str (sx [108])), (.str (sx [109]))]), (.tup [(.str (sx [109])), (.str (sx [108]))])], .lst [(.tup [(.str (sx [112])), (.tup []), (.tup []), (.tup [(.tup []), (.tup [])]), (.tup [(.tup []), (.tup [])]), (.tup [(.tup [(.str (sx [104,111,108,100])), (.str (sx [109])), (.tup [(.tup [(.str (sx [98,111,116,104])), (.tup [(.str (sx [97]))]), (.str (sx [113])), (.tup []), (.tup []), (.str (sx [113])), (.tup [(.int 1)])])])])])]), (.tup [(.str (sx [113])), (.tup []), (.tup []), (.tup [(.tup []), (.tup [])]), (.tup [(.tup []), (.tup [])]), (.tup [(.tup [(.str (sx [104,111,108,100])), (.str (sx [108])), (.tup [])])])])], .lst [(.str (sx [108])), (.str (sx [109]))], .lst [(.tup [(.str (sx [108])), (.str (sx [109]))]), (.tup [(.str (sx [109])), (.str (sx [108]))])], .lst [(.tup [(.str (sx [112])), (.tup []), (.tup []), (.tup [(.tup []), (.tup [])]), (.tup [(.tup []), (.tup [])]), (.tup [(.tup [(.str (sx [99,97,108,108])), (.tup []), (.str (sx [113])), (.tup [])])])]), (.tup [(.str (sx [113])), (.tup []), (.tup []), (.tup [(.tup []), (.tup [])]), (.tup [(.tup []), (.tup [])]), (.tup [(.tup [(.str (sx [104,111,108,100])), (.str (sx [109])), (.tup [(.tup [(.str (sx [99,97,108,108])), (.tup []), (.str (sx [114])), (.tup [])])])])])])], .lst [(.tup [(.str (sx [112])), (.tup []), (.tup []), (.tup [(.tup []), (.tup [])]), (.tup [(.tup []), (.tup [])]), (.tup [(.tup [(.str (sx [99,97,108,108])), (.tup []), (.str (sx [113])), (.tup [])])])]), (.tup [(.str (sx [113])), (.tup []), (.tup []), (.tup [(.tup []), (.tup [])]), (.tup [(.tup []), (.tup [])]), (.tup [(.tup [(.str (sx [104,111,108,100])), (.str (sx [109])), (.tup [(.tup [(.str (sx [99,97,108,108])), (.tup []), (.str (sx [114])), (.tup [])])])])])]), (.tup [(.str (sx [114])), (.tup []), (.tup []), (.tup [(.tup []), (.tup [])]), (.tup [(.tup []), (.tup [])]), (.tup [(.tup [(.str (sx [104,111,108,100])), (.str (sx [108])), (.tup [])])])])], .lst [(.str (sx [108])), (.str (sx [109]))], .lst [(.tup [(.str (sx [109])), (.str (sx [108]))])], .lst [], .lst [(.str (sx [108]))], .lst [(.str (sx [109])), (.str (sx [108]))], .lst [(.str (sx [109])), (.str (sx [108]))], .lst [(.str (sx [109])), (.str (sx [108]))], .lst [(.str (sx [109])), (.str (sx [108]))], .lst [(.str (sx [107])), (.str (sx [109])), (.str (sx [108]))], .lst [(.str (sx [108]))], .lst [(.str (sx [108]))], .lst [(.str (sx [109])), (.str (sx [108]))], .lst [(.str (sx [109])), (.str (sx [108]))], .lst [(.str (sx [109])), (.str (sx [108]))], .lst [(.str (sx [109])), (.str (sx [108]))]]
theorem q1_12 (ns : List Int) : stepL (kCs g FF 100000 (bodyOf (body 1))) (tgOf (body 1)) w1 (.tup [(.loc .lst 37), (.loc .lst 38), (.loc .lst 39)]) (e13 ns) S13 = some ((e14 ns), S14) := by kernel_rfl
def e15 (ns : List Int) : Env := [some (.scr ns), some (.tup [(.tup []), (.tup [])]), some (.loc .lst 40), some (.loc .lst 41), some (.loc .lst 42), some (.loc .lst 63), some (.str (sx [111,114,100,101,114])), some (.tup [(.str (sx [109])), (.str (sx [108]))]), none, none, none, none]
def S15 : Sto := [.lst [], .lst [], .lst [(.tup [])], .lst [], .lst [(.str (sx [108]))], .lst [(.tup [(.str (sx [108]))])], .lst [(.tup [(.str (sx [112])), (.tup []), (.tup []), (.tup [(.tup []), (.tup [])]), (.tup [(.tup []), (.tup [])]), (.tup [(.tup [(.str (sx [104,111,108,100])), (.str (sx [108])), (.tup [])]), (.tup [(.str (sx [104,111,108,100])), (.str (sx [109])), (.tup [])])])])], .lst [(.str (sx [108])), (.str (sx [109]))], .lst [(.tup [(.str (sx [108])), (.str (sx [109]))]), (.tup [(.str (sx [109])), (.str (sx [108]))])], .lst [(.tup [(.loc .lst 0), (.loc .lst 1), (.loc .lst 2)]), (.tup [(.loc .lst 3), (.loc .lst 4), (.loc .lst 5)]), (.tup [(.loc .lst 6), (.loc .lst 7), (.loc .lst 8)]), (.tup [(.loc .lst 10), (.loc .lst 11), (.loc .lst 12)]), (.tup [(.loc .lst 13), (.loc .lst 14), (.loc .lst 15)]), (.tup [(.loc .lst 16), (.loc .lst 17), (.loc .lst 18)]), (.tup [(.loc .lst 19), (.loc .lst 20), (.loc .lst 21)]), (.tup [(.loc .lst 22), (.loc .lst 23), (.loc .lst 24)]), (.tup [(.loc .lst 25), (.loc .lst 26), (.loc .lst 27)]), (.tup [(.loc .lst 28), (.loc .lst 29), (.loc .lst 30)]), (.tup [(.loc .lst 31), (.loc .lst 32), (.loc .lst 33)]), (.tup [(.loc .lst 34), (.loc .lst 35), (.loc .lst 36)]), (.tup [(.loc .lst 37), (.loc .lst 38), (.loc .lst 39)]), (.tup [(.loc .lst 40), (.loc .lst 41), (.loc .lst 42)]), (.tup [(.loc .lst 43), (.loc .lst 44), (.loc .lst 45)]), (.tup [(.loc .lst 47), (.loc .lst 48), (.loc .lst 49)])], .lst [(.tup [(.str (sx [112])), (.tup []), (.tup []), (.tup [(.tup []), (.tup [])]), (.tup [(.tup []), (.tup [])]), (.tup [(.tup [(.str (sx [104,111,108,100])), (.str (sx [109])), (.tup [(.tup [(.str (sx [104,111,108,100])), (.str (sx [108])), (.tup [])])])])])])], .lst [(.str (sx [108])), (.str (sx [109]))], .lst [(.tup [(.str (sx [109])), (.str (sx [108]))])], .lst [(.tup [(.str (sx [112])), (.tup []), (.tup []), (.tup [(.tup []), (.tup [])]), (.tup [(.tup []), (.tup [])]), (.tup [(.tup [(.str (sx [104,111,108,100])), (.str (sx [109])), (.tup [(.tup [(.str (sx [99,97,108,108])), (.tup []), (.str (sx [113])), (.tup [])])])])])]), (.tup [(.str (sx [113])), (.tup []), (.tup []), (.tup [(.tup []), (.tup [])]), (.tup [(.tup []), (.tup [])]), (.tup [(.tup [(.str (sx [104,111,108,100])), (.str (sx [108])), (.tup [])])])])], .lst [(.str (sx [108])), (.str (sx [109]))], .lst [(.tup [(.str (sx [109])), (.str (sx [108]))])], .lst [(.tup [(.str (sx [112])), (.tup []), (.tup []), (.tup [(.tup []), (.tup [])]), (.tup [(.tup []), (.tup [])]), (.tup [(.tup [(.str (sx [104,111,108,100])), (.str (sx [109])), (.tup [(.tup [(.str (sx [99,97,108,108])), (.tup []), (.str (sx [113])), (.tup [])])])])])])], .lst [(.str (sx [108])), (.str (sx [109]))], .lst [(.tup [(.str (sx [108])), (.str (sx [109]))]), (.tup [(.str (sx [109])), (.str (sx [108]))])], .lst [(.tup [(.str (sx [112])), (.tup []), (.tup []), (.tup [(.tup []), (.tup [])]), (.tup [(.tup []), (.tup [])]), (.tup [(.tup [(.str (sx [104,111,108,100])), (.str (sx [107])), (.tup [(.tup [(.str (sx [98,111,116,104])), (.tup []), (.str (sx [113])), (.tup []), (.tup []), (.str (sx [114])), (.tup [])])])])])]), (.tup [(.str (sx [113])), (.tup []), (.tup []), (.tup [(.tup []), (.tup [])]), (.tup [(.tup []), (.tup [])]), (.tup [(.tup [(.str (sx [104,111,108,100])), (.str (sx [108])), (.tup [])])])]), (.tup [(.str (sx [114])), (.tup []), (.tup []), (.tup [(.tup []), (.tup [])]), (.tup [(.tup []), (.tup [])]), (.tup [(.tup [(.str (sx [104,111,108,100])), (.str (sx [109])), (.tup [])])])])], .lst [(.str (sx [108])), (.str (sx [109])), (.str (sx [107]))], .lst [(.tup [(.str (sx [107])), (.str (sx [108])), (.str (sx [109]))]), (.tup [(.str (sx [107])), (.str (sx [109])), (.str (sx [108]))])], .lst [(.tup [(.str (sx [112])), (.tup []), (.tup []), (.tup [(.tup []), (.tup [])]), (.tup [(.tup []), (.tup [])]), (.tup [(.tup [(.str (sx [104,111,108,100])), (.str (sx [122])), (.tup [(.tup [(.str (sx [104,111,108,100])), (.str (sx [108])), (.tup [])])])])])])], .lst [(.str (sx [108]))], .lst [(.tup [(.str (sx [108]))])], .lst [(.tup [(.str (sx [112])), (.tup []), (.tup []), (.tup [(.tup []), (.tup [])]), (.tup [(.tup []), (.tup [])]), (.tup [(.tup [(.str (sx [104,111,108,100])), (.str (sx [108])), (.tup [(.tup [(.str (sx [104,111,108,100])), (.str (sx [122])), (.tup [])])])])])])], .lst [(.str (sx [108]))], .lst [(.tup [(.str (sx [108]))])], .lst [(.tup [(.str (sx [112])), (.tup []), (.tup []), (.tup [(.tup []), (.tup [])]), (.tup [(.tup []), (.tup [])]), (.tup [(.tup [(.str (sx [105,102])), (.int 1), (.str (sx [105,115])), (.int 2), (.tup [(.tup [(.str (sx [104,111,108,100])), (.str (sx [109])), (.tup [(.tup [(.str (sx [104,111,108,100])), (.str (sx [108])), (.tup [])])])])]), (.tup [])])])])], .lst [(.str (sx [108])), (.str (sx [109]))], .lst [(.tup [(.str (sx [109])), (.str (sx [108]))])], .lst [(.tup [(.str (sx [112])), (.tup []), (.tup []), (.tup [(.tup []), (.tup [])]), (.tup [(.tup []), (.tup [])]), (.tup [(.tup [(.str (sx [119,104,105,108,101])), (.int 1), (.str (sx [105,115])), (.int 2), (.tup [(.tup []), (.tup [])]), (.tup [(.tup []), (.tup [])]), (.tup [(.tup [(.str (sx [104,111,108,100])), (.str (sx [109])), (.tup [(.tup [(.str (sx [104,111,108,100])), (.str (sx [108])), (.tup [])])])])])])])])], .lst [(.str (sx [108])), (.str (sx [109]))], .lst [(.tup [(.str (sx [109])), (.str (sx [108]))])], .lst [(.tup [(.str (sx [112])), (.tup []), (.tup []), (.tup [(.tup []), (.tup [])]), (.tup [(.tup []), (.tup [])]), (.tup [(.tup [(.str (sx [105,102])), (.int 1), (.str (sx [105,115])), (.int 1), (.tup []), (.tup [(.tup [(.str (sx [104,111,108,100])), (.str (sx [109])), (.tup [(.tup [(.str (sx [104,111,108,100])), (.str (sx [108])), (.tup [])])])])])])])])], .lst [(.str (sx [108])), (.str (sx [109]))], .lst [(.tup [(.str (sx [109])), (.str (sx [108]))])], .lst [(.tup [(.str (sx [112])), (.tup []), (.tup []), (.tup [(.tup []), (.tup [])]), (.tup [(.tup []), (.tup [])]), (.tup [(.tup [(.str (sx [104,111,108,100])), (.str (sx [109])), (.tup [(.tup [(.str (sx [99,97,108,108])), (.tup []), (.str (sx [113])), (.tup [(.int 1)])])])])])]), (.tup [(.str (sx [113])), (.tup []), (.tup []), (.tup [(.tup []), (.tup [])]), (.tup [(.tup []), (.tup [])]), (.tup [(.tup [(.str (sx [104,111,108,100])), (.str (sx [108])), (.tup [])])])])], .lst [(.str (sx [108])), (.str (sx [109]))], .lst [(.tup [(.str (sx [108])), (.str (sx [109]))]), (.tup [(.str (sx [109])), (.str (sx [108]))])], .lst [(.tup [(.str (sx [112])), (.tup []), (.tup []), (.tup [(.tup []), (.tup [])]), (.tup [(.tup []), (.tup [])]), (.tup [(.tup [(.str (sx [104,111,108,100])), (.str (sx [109])), (.tup [(.tup [(.str (sx [99,97,108,108])), (.tup [(.str (sx [97]))]), (.str (sx [113])), (.tup [])])])])])]), (.tup [(.str (sx [113])), (.tup []), (.tup []), (.tup [(.tup []), (.tup [])]), (.tup [(.tup []), (.tup [])]), (.tup [(.tup [(.str (sx [104,111,108,100])), (.str (sx [108])), (.tup [])])])])], .lst [(.str (sx [108])), (.str (sx [109]))], .lst [(.tup [(.str (sx [108])), (.str (sx [109]))]), (.tup [(.str (sx [109])), (.str (sx [108]))])], .lst [(.tup [(.str (sx [112])), (.tup []), (.tup []), (.tup [(.tup []), (.tup [])]), (.tup [(.tup []), (.tup [])]), (.tup [(.tup [(.str (sx [104,111,108,100])), (.str (sx [109])), (.tup [(.tup [(.str (sx [98,111,116,104])), (.tup [(.str (sx [97]))]), (.str (sx [113])), (.tup []), (.tup []), (.str (sx [113])), (.tup [(.int 1)])])])])])]), (.tup [(.str (sx [113])), (.tup []), (.tup []), (.tup [(.tup []), (.tup [])]), (.tup [(.tup []), (.tup [])]), (.tup [(.tup [(.str (sx [104,111,108,100])), (.str (sx [108])), (.tup [])])])])], .lst [(.str (sx [108])), (.str (sx [109]))], .lst [(.tup [(.str (sx [108])), (.str (sx [109]))]), (.tup [(.str (sx [109])), (.str (sx [108]))])], .lst [(.tup [(.str (sx [112])), (.tup []), (.tup []), (.tup [(.tup []), (.tup [])]), (.tup [(.tup []), (.tup [])]), (.tup [(.tup [(.str (sx [99,97,108,108])), (.tup []), (.str (sx [113])), (.tup [])])])]), (.tup [(.str (sx [113])), (.tup []), (.tup []), (.tup [(.tup []), (.tup [])]), (.tup [(.tup []), (.tup [])]), (.tup [(.tup [(.str (sx [104,111,108,100])), (.str (sx [109])), (.tup [(.tup [(.str (sx [99,97,108,108])), (.tup []), (.str (sx [114])), (.tup [])])])])])])], .lst [(.tup [(.str (sx [112])), (.tup []), (.tup []), (.tup [(.tup []), (.tup [])]), (.tup [(.tup []), (.tup [])]), (.tup [(.tup [(.str (sx [99,97,108,108])), (.tup []), (.str (sx [113])), (.tup [])])])]), (.tup [(.str (sx [113])), (.tup []), (.tup []), (.tup [(.tup []), (.tup [])]), (.tup [(.tup []), (.tup [])]), (.tup [(.tup [(.str (sx [104,111,108,100])), (.str (sx [109])), (.tup [(.tup [(.str (sx [99,97,108,108])), (.tup []), (.str (sx [114])), (.tup [])])])])])]), (.tup [(.str (sx [114])), (.tup []), (.tup []), (.tup [(.tup []), (.tup [])]), (.tup [(.tup []), (.tup [])]), (.tup [(.tup [(.str (sx [104,111,108,100])), (.str (sx [108])), (.tup [])])])])], .lst [(.str (sx [108])), (.str (sx [109]))], .lst [(.tup [(.str (sx [109])), (.str (sx [108]))])], .lst [], .lst [(.str (sx [108]))], .lst [(.str (sx [109])), (.str (sx [108]))], .lst [(.str (sx [109])), (.str (sx [108]))], .lst [(.str (sx [109])), (.str (sx [108]))], .lst [(.str (sx [109])), (.str (sx [108]))], .lst [(.str (sx [107])), (.str (sx [109])), (.str (sx [108]))], .lst [(.str (sx [108]))], .lst [(.str (sx [108]))], .lst [(.str (sx [109])), (.str (sx [108]))], .lst [(.str (sx [109])), (.str (sx [108]))], .lst [(.str (sx [109])), (.str (sx [108]))], .lst [(.str (sx [109])), (.str (sx [108]))], .lst [(.str (sx [109])), (.str (sx [108]))]]
theorem q1_13 (ns : List Int) : stepL (kCs g FF 100000 (bodyOf (body 1))) (tgOf (body 1)) w1 (.tup [(.loc .lst 40), (.loc .lst 41), (.loc .lst 42)]) (e14 ns) S14 = some ((e15 ns), S15) := by kernel_rfl
def e16 (ns : List Int) : Env := [some (.scr ns), some (.tup [(.tup []), (.tup [])]), some (.loc .lst 43), some (.loc .lst 44), some (.loc .lst 45), some (.loc .lst 64), some (.str (sx [111,114,100,101,114])), some (.tup [(.str (sx [109])), (.str (sx [108]))]), none, none, none, none]
def S16 : Sto := [.lst [], .lst [], .lst [(.tup [])], .lst [], .lst [(.str (sx [108]))], .lst [(.tup [(.str (sx [108]))])], .lst [(.tup [(.str (sx [112])), (.tup []), (.tup []), (.tup [(.tup []), (.tup [])]), (.tup [(.tup []), (.tup [])]), (.tup [(.tup [(.str (sx [104,111,108,100])), (.str (sx [108])), (.tup [])]), (.tup [(.str (sx [104,111,108,100])), (.str (sx [109])), (.tup [])])])])], .lst [(.str (sx [108])), (.str (sx [109]))], .lst [(.tup [(.str (sx [108])), (.str (sx [109]))]), (.tup [(.str (sx [109])), (.str (sx [108]))])], .lst [(.tup [(.loc .lst 0), (.loc .lst 1), (.loc .lst 2)]), (.tup [(.loc .lst 3), (.loc .lst 4), (.loc .lst 5)]), (.tup [(.loc .lst 6), (.loc .lst 7), (.loc .lst 8)]), (.tup [(.loc .lst 10), (.loc .lst 11), (.loc .lst 12)]), (.tup [(.loc .lst 13), (.loc .lst 14), (.loc .lst 15)]), (.tup [(.loc .lst 16), (.loc .lst 17), (.loc .lst 18)]), (.tup [(.loc .lst 19), (.loc .lst 20), (.loc .lst 21)]), (.tup [(.loc .lst 22), (.loc .lst 23), (.loc .lst 24)]), (.tup [(.loc .lst 25), (.loc .lst 26), (.loc .lst 27)]), (.tup [(.loc .lst 28), (.loc .lst 29), (.loc .lst 30)]), (.tup [(.loc .lst 31), (.loc .lst 32), (.loc .lst 33)]), (.tup [(.loc .lst 34), (.loc .lst 35), (.loc .lst 36)]), (.tup [(.loc .lst 37), (.loc .lst 38), (.loc .lst 39)]), (.tup [(.loc .lst 40), (.loc .lst 41), (.loc .lst 42)]), (.tup [(.loc .lst 43), (.loc .lst 44), (.loc .lst 45)]), (.tup [(.loc .lst 47), (.loc .lst 48), (.loc .lst 49)])], .lst [(.tup [(.str (sx [112])), (.tup []), (.tup []), (.tup [(.tup []), (.tup [])]), (.tup [(.tup []), (.tup [])]), (.tup [(.tup [(.str (sx [104,111,108,100])), (.str (sx [109])), (.tup [(.tup [(.str (sx [104,111,108,100])), (.str (sx [108])), (.tup [])])])])])])], .lst [(.str (sx [108])), (.str (sx [109]))], .lst [(.tup [(.str (sx [109])), (.str (sx [108]))])], .lst [(.tup [(.str (sx [112])), (.tup []), (.tup []), (.tup [(.tup []), (.tup [])]), (.tup [(.tup []), (.tup [])]), (.tup [(.tup [(.str (sx [104,111,108,100])), (.str (sx [109])), (.tup [(.tup [(.str (sx [99,97,108,108])), (.tup []), (.str (sx [113])), (.tup [])])])])])]), (.tup [(.str (sx [113])), (.tup []), (.tup []), (.tup [(.tup []), (.tup [])]), (.tup [(.tup []), (.tup [])]), (.tup [(.tup [(.str (sx [104,111,108,100])), (.str (sx [108])), (.tup [])])])])], .lst [(.str (sx [108])), (.str (sx [109]))], .lst [(.tup [(.str (sx [109])), (.str (sx [108]))])], .lst [(.tup [(.str (sx [112])), (.tup []), (.tup []), (.tup [(.tup []), (.tup [])]), (.tup [(.tup []), (.tup [])]), (.tup [(.tup [(.str (sx [104,111,108,100])), (.str (sx [109])), (.tup [(.tup [(.str (sx [99,97,108,108])), (.tup []), (.str (sx [113])), (.tup [])])])])])])], .lst [(.str (sx [108])), (.str (sx [109]))], .lst [(.tup [(.str (sx [108])), (.str (sx [109]))]), (.tup [(.str (sx [109])), (.str (sx [108]))])], .lst [(.tup [(.str (sx [112])), (.tup []), (.tup []), (.tup [(.tup []), (.tup [])]), (.tup [(.tup []), (.tup [])]), (.tup [(.tup [(.str (sx [104,111,108,100])), (.str (sx [107])), (.tup [(.tup [(.str (sx [98,111,116,104])), (.tup []), (.str (sx [113])), (.tup []), (.tup []), (.str (sx [114])), (.tup [])])])])])]), (.tup [(.str (sx [113])), (.tup []), (.tup []), (.tup [(.tup []), (.tup [])]), (.tup [(.tup []), (.tup [])]), (.tup [(.tup [(.str (sx [104,111,108,100])), (.str (sx [108])), (.tup [])])])]), (.tup [(.str (sx [114])), (.tup []), (.tup []), (.tup [(.tup []), (.tup [])]), (.tup [(.tup []), (.tup [])]), (.tup [(.tup [(.str (sx [104,111,108,100])), (.str (sx [109])), (.tup [])])])])], .lst [(.str (sx [108])), (.str (sx [109])), (.str (sx [107]))], .lst [(.tup [(.str (sx [107])), (.str (sx [108])), (.str (sx [109]))]), (.tup [(.str (sx [107])), (.str (sx [109])), (.str (sx [108]))])], .lst [(.tup [(.str (sx [112])), (.tup []), (.tup []), (.tup [(.tup []), (.tup [])]), (.tup [(.tup []), (.tup [])]), (.tup [(.tup [(.str (sx [104,111,108,100])), (.str (sx [122])), (.tup [(.tup [(.str (sx [104,111,108,100])), (.str (sx [108])), (.tup [])])])])])])], .lst [(.str (sx [108]))], .lst [(.tup [(.str (sx [108]))])], .lst [(.tup [(.str (sx [112])), (.tup []), (.tup []), (.tup [(.tup []), (.tup [])]), (.tup [(.tup []), (.tup [])]), (.tup [(.tup [(.str (sx [104,111,108,100])), (.str (sx [108])), (.tup [(.tup [(.str (sx [104,111,108,100])), (.str (sx [122])), (.tup [])])])])])])], .lst [(.str (sx [108]))], .lst [(.tup [(.str (sx [108]))])], .lst [(.tup [(.str (sx [112])), (.tup []), (.tup []), (.tup [(.tup []), (.tup [])]), (.tup [(.tup []), (.tup [])]), (.tup [(.tup [(.str (sx [105,102])), (.int 1), (.str (sx [105,115])), (.int 2), (.tup [(.tup [(.str (sx [104,111,108,100])), (.str (sx [109])), (.tup [(.tup [(.str (sx [104,111,108,100])), (.str (sx [108])), (.tup [])])])])]), (.tup [])])])])], .lst [(.str (sx [108])), (.str (sx [109]))], .lst [(.tup [(.str (sx [109])), (.str (sx [108]))])], .lst [(.tup [(.str (sx [112])), (.tup []), (.tup []), (.tup [(.tup []), (.tup [])]), (.tup [(.tup []), (.tup [])]), (.tup [(.tup [(.str (sx [119,104,105,108,101])), (.int 1), (.str (sx [105,115])), (.int 2), (.tup [(.tup []), (.tup [])]), (.tup [(.tup []), (.tup [])]), (.tup [(.tup [(.str (sx [104,111,108,100])), (.str (sx [109])), (.tup [(.tup [(.str (sx [104,111,108,100])), (.str (sx [108])), (.tup [])])])])])])])])], .lst [(.str (sx [108])), (.str (sx [109]))], .lst [(.tup [(.str (sx [109])), (.str (sx [108]))])], .lst [(.tup [(.str (sx [112])), (.tup []), (.tup []), (.tup [(.tup []), (.tup [])]), (.tup [(.tup []), (.tup [])]), (.tup [(.tup [(.str (sx [105,102])), (.int 1), (.str (sx [105,115])), (.int 1), (.tup []), (.tup [(.tup [(.str (sx [104,111,108,100])), (.str (sx [109])), (.tup [(.tup [(.str (sx [104,111,108,100])), (.str (sx [108])), (.tup [])])])])])])])])], .lst [(.str (sx [108])), (.str (sx [109]))], .lst [(.tup [(.str (sx [109])), (.str (sx [108]))])], .lst [(.tup [(.str (sx [112])), (.tup []), (.tup []), (.tup [(.tup []), (.tup [])]), (.tup [(.tup []), (.tup [])]), (.tup [(.tup [(.str (sx [104,111,108,100])), (.str (sx [109])), (.tup [(.tup [(.str (sx [99,97,108,108])), (.tup []), (.str (sx [113])), (.tup [(.int 1)])])])])])]), (.tup [(.str (sx [113])), (.tup []), (.tup []), (.tup [(.tup []), (.tup [])]), (.tup [(.tup []), (.tup [])]), (.tup [(.tup [(.str (sx [104,111,108,100])), (.str (sx [108])), (.tup [])])])])], .lst [(.str (sx [108])), (.str (sx [109]))], .lst [(.tup [(.str (sx [108])), (.str (sx [109]))]), (.tup [(.str (sx [109])), (.str (sx [108]))])], .lst [(.tup [(.str (sx [112])), (.tup []), (.tup []), (.tup [(.tup []), (.tup [])]), (.tup [(.tup []), (.tup [])]), (.tup [(.tup [(.str (sx [104,111,108,100])), (.str (sx [109])), (.tup [(.tup [(.str (sx [99,97,108,108])), (.tup [(.str (sx [97]))]), (.str (sx [113])), (.tup [])])])])])]), (.tup [(.str (sx [113])), (.tup []), (.tup []), (.tup [(.tup []), (.tup [])]), (.tup [(.tup []), (.tup [])]), (.tup [(.tup [(.str (sx [104,111,108,100])), (.str (sx [108])), (.tup [])])])])], .lst [(.str (sx [108])), (.str (sx [109]))], .lst [(.tup [(.str (sx [108])), (.str (sx [109]))]), (.tup [(.str (sx [109])), (.str (sx [108]))])], .lst [(.tup [(.str (sx [112])), (.tup []), (.tup []), (.tup [(.tup []), (.tup [])]), (.tup [(.tup []), (.tup [])]), (.tup [(.tup [(.str (sx [104,111,108,100])), (.str (sx [109])), (.tup [(.tup [(.str (sx [98,111,116,104])), (.tup [(.str (sx [97]))]), (.str (sx [113])), (.tup []), (.tup []), (.str (sx [113])), (.tup [(.int 1)])])])])])]), (.tup [(.str (sx [113])), (.tup []), (.tup []), (.tup [(.tup []), (.tup [])]), (.tup [(.tup []), (.tup [])]), (.tup [(.tup [(.str (sx [104,111,108,100])), (.str (sx [108])), (.tup [])])])])], .lst [(.str (sx [108])), (.str (sx [109]))], .lst [(.tup [(.str (sx [108])), (.str (sx [109]))]), (.tup [(.str (sx [109])), (.str (sx [108]))])], .lst [(.tup [(.str (sx [112])), (.tup []), (.tup []), (.tup [(.tup []), (.tup [])]), (.tup [(.tup []), (.tup [])]), (.tup [(.tup [(.str (sx [99,97,108,108])), (.tup []), (.str (sx [113])), (.tup [])])])]), (.tup [(.str (sx [113])), (.tup []), (.tup []), (.tup [(.tup []), (.tup [])]), (.tup [(.tup []), (.tup [])]), (.tup [(.tup [(.str (sx [104,111,108,100])), (.str (sx [109])), (.tup [(.tup [(.str (sx [99,97,108,108])), (.tup []), (.str (sx [114])), (.tup [])])])])])])], .lst [(.tup [(.str (sx [112])), (.tup []), (.tup []), (.tup [(.tup []), (.tup [])]), (.tup [(.tup []), (.tup [])]), (.tup [(.tup [(.str (sx [99,97,108,108])), (.tup []), (.str (sx [113])), (.tup [])])])]), (.tup [(.str (sx [113])), (.tup []), (.tup []), (.tup [(.tup []), (.tup [])]), (.tup [(.tup []), (.tup [])]), (.tup [(.tup [(.str (sx [104,111,108,100])), (.str (sx [109])), (.tup [(.tup [(.str (sx [99,97,108,108])), (.tup []), (.str (sx [114])), (.tup [])])])])])]), (.tup [(.str (sx [114])), (.tup []), (.tup []), (.tup [(.tup []), (.tup [])]), (.tup [(.tup []), (.tup [])]), (.tup [(.tup [(.str (sx [104,111,108,100])), (.str (sx [108])), (.tup [])])])])], .lst [(.str (sx [108])), (.str (sx [109]))], .lst [(.tup [(.str (sx [109])), (.str (sx [108]))])], .lst [], .lst [(.str (sx [108]))], .lst [(.str (sx [109])), (.str (sx [108]))], .lst [(.str (sx [109])), (.str (sx [108]))], .lst [(.str (sx [109])), (.str (sx [108]))], .lst [(.str (sx [109])), (.str (sx [108]))], .lst [(.str (sx [107])), (.str (sx [109])), (.str (sx [108]))], .lst [(.str (sx [108]))], .lst [(.str (sx [108]))], .lst [(.str (sx [109])), (.str (sx [108]))], .lst [(.str (sx [109])), (.str (sx [108]))], .lst [(.str (sx [109])), (.str (sx [108]))], .lst [(.str (sx [109])), (.str (sx [108]))], .lst [(.str (sx [109])), (.str (sx [108]))], .lst [(.str (sx [109])), (.str (sx [108]))]]
theorem q1_14 (ns : List Int) : stepL (kCs g FF 100000 (bodyOf (body 1))) (tgOf (body 1)) w1 (.tup [(.loc .lst 43), (.loc .lst 44), (.loc .lst 45)]) (e15 ns) S15 = some ((e16 ns), S16) := by kernel_rfl
def e17 (ns : List Int) : Env := [some (.scr ns), some (.tup [(.tup []), (.tup [])]), some (.loc .lst 47), some (.loc .lst 48), some (.loc .lst 49), some (.loc .lst 65), some (.str (sx [111,114,100,101,114])), some (.tup [(.str (sx [109])), (.str (sx [108]))]), none, none, none, none]
def S17 : Sto := [.lst [], .lst [], .lst [(.tup [])], .lst [], .lst [(.str (sx [108]))], .lst [(.tup [(.str (sx [108]))])], .lst [(.tup [(.str (sx [112])), (.tup []), (.tup []), (.tup [(.tup []), (.tup [])]), (.tup [(.tup []), (.tup [])]), (.tup [(.tup [(.str (sx [104,111,108,100])), (.str (sx [108])), (.tup [])]), (.tup [(.str (sx [104,111,108,100])), (.str (sx [109])), (.tup [])])])])], .lst [(.str (sx [108])), (.str (sx [109]))], .lst [(.tup [(.str (sx [108])), (.str (sx [109]))]), (.tup [(.str (sx [109])), (.str (sx [108]))])], .lst [(.tup [(.loc .lst 0), (.loc .lst 1), (.loc .lst 2)]), (.tup [(.loc .lst 3), (.loc .lst 4), (.loc .lst 5)]), (.tup [(.loc .lst 6), (.loc .lst 7), (.loc .lst 8)]), (.tup [(.loc .lst 10), (.loc .lst 11), (.loc .lst 12)]), (.tup [(.loc .lst 13), (.loc .lst 14), (.loc .lst 15)]), (.tup [(.loc .lst 16), (.loc .lst 17), (.loc .lst 18)]), (.tup [(.loc .lst 19), (.loc .lst 20), (.loc .lst 21)]), (.tup [(.loc .lst 22), (.loc .lst 23), (.loc .lst 24)]), (.tup [(.loc .lst 25), (.loc .lst 26), (.loc .lst 27)]), (.tup [(.loc .lst 28), (.loc .lst 29), (.loc .lst 30)]), (.tup [(.loc .lst 31), (.loc .lst 32), (.loc .lst 33)]), (.tup [(.loc .lst 34), (.loc .lst 35), (.loc .lst 36)]), (.tup [(.loc .lst 37), (.loc .lst 38), (.loc .lst 39)]), (.tup [(.loc .lst 40), (.loc .lst 41), (.loc .lst 42)]), (.tup [(.loc .lst 43), (.loc .lst 44), (.loc .lst 45)]), (.tup [(.loc .lst 47), (.loc .lst 48), (.loc .lst 49)])], .lst [(.tup [(.str (sx [112])), (.tup []), (.tup []), (.tup [(.tup []), (.tup [])]), (.tup [(.tup []), (.tup [])]), (.tup [(.tup [(.str (sx [104,111,108,100])), (.str (sx [109])), (.tup [(.tup [(.str (sx [104,111,108,100])), (.str (sx [108])), (.tup [])])])])])])], .lst [(.str (sx [108])), (.str (sx [109]))], .lst [(.tup [(.str (sx [109])), (.str (sx [108]))])], .lst [(.tup [(.str (sx [112])), (.tup []), (.tup []), (.tup [(.tup []), (.tup [])]), (.tup [(.tup []), (.tup [])]), (.tup [(.tup [(.str (sx [104,111,108,100])), (.str (sx [109])), (.tup [(.tup [(.str (sx [99,97,108,108])), (.tup []), (.str (sx [113])), (.tup [])])])])])]), (.tup [(.str (sx [113])), (.tup []), (.tup []), (.tup [(.tup []), (.tup [])]), (.tup [(.tup []), (.tup [])]), (.tup [(.tup [(.str (sx [104,111,108,100])), (.str (sx [108])), (.tup [])])])])], .lst [(.str (sx [108])), (.str (sx [109]))], .lst [(.tup [(.str (sx [109])), (.str (sx [108]))])], .lst [(.tup [(.str (sx [112])), (.tup []), (.tup []), (.tup [(.tup []), (.tup [])]), (.tup [(.tup []), (.tup [])]), (.tup [(.tup [(.str (sx [104,111,108,100])), (.str (sx [109])), (.tup [(.tup [(.str (sx [99,97,108,108])), (.tup []), (.str (sx [113])), (.tup [])])])])])])], .lst [(.str (sx [108])), (.str (sx [109]))], .lst [(.tup [(.str (sx [108])), (.str (sx [109]))]), (.tup [(.str (sx [109])), (.str (sx [108]))])], .lst [(.tup [(.str (sx [112])), (.tup []), (.tup []), (.tup [(.tup []), (.tup [])]), (.tup [(.tup []), (.tup [])]), (.tup [(.tup [(.str (sx [104,111,108,100])), (.str (sx [107])), (.tup [(.tup [(.str (sx [98,111,116,104])), (.tup []), (.str (sx [113])), (.tup []), (.tup []), (.str (sx [114])), (.tup [])])])])])]), (.tup [(.str (sx [113])), (.tup []), (.tup []), (.tup [(.tup []), (.tup [])]), (.tup [(.tup []), (.tup [])]), (.tup [(.tup [(.str (sx [104,111,108,100])), (.str (sx [108])), (.tup [])])])]), (.tup [(.str (sx [114])), (.tup []), (.tup []), (.tup [(.tup []), (.tup [])]), (.tup [(.tup []), (.tup [])]), (.tup [(.tup [(.str (sx [104,111,108,100])), (.str (sx [109])), (.tup [])])])])], .lst [(.str (sx [108])), (.str (sx [109])), (.str (sx [107]))], .lst [(.tup [(.str (sx [107])), (.str (sx [108])), (.str (sx [109]))]), (.tup [(.str (sx [107])), (.str (sx [109])), (.str (sx [108]))])], .lst [(.tup [(.str (sx [112])), (.tup []), (.tup []), (.tup [(.tup []), (.tup [])]), (.tup [(.tup []), (.tup [])]), (.tup [(.tup [(.str (sx [104,111,108,100])), (.str (sx [122])), (.tup [(.tup [(.str (sx [104,111,108,100])), (.str (sx [108])), (.tup [])])])])])])], .lst [(.str (sx [108]))], .lst [(.tup [(.str (sx [108]))])], .lst [(.tup [(.str (sx [112])), (.tup []), (.tup []), (.tup [(.tup []), (.tup [])]), (.tup [(.tup []), (.tup [])]), (.tup [(.tup [(.str (sx [104,111,108,100])), (.str (sx [108])), (.tup [(.tup [(.str (sx [104,111,108,100])), (.str (sx [122])), (.tup [])])])])])])], .lst [(.str (sx [108]))], .lst [(.tup [(.str (sx [108]))])], .lst [(.tup [(.str (sx [112])), (.tup []), (.tup []), (.tup [(.tup []), (.tup [])]), (.tup [(.tup []), (.tup [])]), (.tup [(.tup [(.str (sx [105,102])), (.int 1), (.str (sx [105,115])), (.int 2), (.tup [(.tup [(.str (sx [104,111,108,100])), (.str (sx [109])), (.tup [(.tup [(.str (sx [104,111,108,100])), (.str (sx [108])), (.tup [])])])])]), (.tup [])])])])], .lst [(.str (sx [108])), (.str (sx [109]))], .lst [(.tup [(.str (sx [109])), (.str (sx [108]))])], .lst [(.tup [(.str (sx [112])), (.tup []), (.tup []), (.tup [(.tup []), (.tup [])]), (.tup [(.tup []), (.tup [])]), (.tup [(.tup [(.str (sx [119,104,105,108,101])), (.int 1), (.str (sx [105,115])), (.int 2), (.tup [(.tup []), (.tup [])]), (.tup [(.tup []), (.tup [])]), (.tup [(.tup [(.str (sx [104,111,108,100])), (.str (sx [109])), (.tup [(.tup [(.str (sx [104,111,108,100])), (.str (sx [108])), (.tup [])])])])])])])])], .lst [(.str (sx [108])), (.str (sx [109]))], .lst [(.tup [(.str (sx [109])), (.str (sx [108]))])], .lst [(.tup [(.str (sx [112])), (.tup []), (.tup []), (.tup [(.tup []), (.tup [])]), (.tup [(.tup []), (.tup [])]), (.tup [(.tup [(.str (sx [105,102])), (.int 1), (.str (sx [105,115])), (.int 1), (.tup []), (.tup [(.tup [(.str (sx [104,111,108,100])), (.str (sx [109])), (.tup [(.tup [(.str (sx [104,111,108,100])), (.str (sx [108])), (.tup [])])])])])])])])], .lst [(.str (sx [108])), (.str (sx [109]))], .lst [(.tup [(.str (sx [109])), (.str (sx [108]))])], .lst [(.tup [(.str (sx [112])), (.tup []), (.tup []), (.tup [(.tup []), (.tup [])]), (.tup [(.tup []), (.tup [])]), (.tup [(.tup [(.str (sx [104,111,108,100])), (.str (sx [109])), (.tup [(.tup [(.str (sx [99,97,108,108])), (.tup []), (.str (sx [113])), (.tup [(.int 1)])])])])])]), (.tup [(.str (sx [113])), (.tup []), (.tup []), (.tup [(.tup []), (.tup [])]), (.tup [(.tup []), (.tup [])]), (.tup [(.tup [(.str (sx [104,111,108,100])), (.str (sx [108])), (.tup [])])])])], .lst [(.str (sx [108])), (.str (sx [109]))], .lst [(.tup [(.str (sx [108])), (.str (sx [109]))]), (.tup [(.str (sx [109])), (.str (sx [108]))])], .lst [(.tup [(.str (sx [112])), (.tup []), (.tup []), (.tup [(.tup []), (.tup [])]), (.tup [(.tup []), (.tup [])]), (.tup [(.tup [(.str (sx [104,111,108,100])), (.str (sx [109])), (.tup [(.tup [(.str (sx [99,97,108,108])), (.tup [(.str (sx [97]))]), (.str (sx [113])), (.tup [])])])])])]), (.tup [(.str (sx [113])), (.tup []), (.tup []), (.tup [(.tup []), (.tup [])]), (.tup [(.tup []), (.tup [])]), (.tup [(.tup [(.str (sx [104,111,108,100])), (.str (sx [108])), (.tup [])])])])], .lst [(.str (sx [108])), (.str (sx [109]))], .lst [(.tup [(.str (sx [108])), (.str (sx [109]))]), (.tup [(.str (sx [109])), (.str (sx [108]))])], .lst [(.tup [(.str (sx [112])), (.tup []), (.tup []), (.tup [(.tup []), (.tup [])]), (.tup [(.tup []), (.tup [])]), (.tup [(.tup [(.str (sx [104,111,108,100])), (.str (sx [109])), (.tup [(.tup [(.str (sx [98,111,116,104])), (.tup [(.str (sx [97]))]), (.str (sx [113])), (.tup []), (.tup []), (.str (sx [113])), (.tup [(.int 1)])])])])])]), (.tup [(.str (sx [113])), (.tup []), (.tup []), (.tup [(.tup []), (.tup [])]), (.tup [(.tup []), (.tup [])]), (.tup [(.tup [(.str (sx [104,111,108,100])), (.str (sx [108])), (.tup [])])])])], .lst [(.str (sx [108])), (.str (sx [109]))], .lst [(.tup [(.str (sx [108])), (.str (sx [109]))]), (.tup [(.str (sx [109])), (.str (sx [108]))])], .lst [(.tup [(.str (sx [112])), (.tup []), (.tup []), (.tup [(.tup []), (.tup [])]), (.tup [(.tup []), (.tup [])]), (.tup [(.tup [(.str (sx [99,97,108,108])), (.tup []), (.str (sx [113])), (.tup [])])])]), (.tup [(.str (sx [113])), (.tup []), (.tup []), (.tup [(.tup []), (.tup [])]), (.tup [(.tup []), (.tup [])]), (.tup [(.tup [(.str (sx [104,111,108,100])), (.str (sx [109])), (.tup [(.tup [(.str (sx [99,97,108,108])), (.tup []), (.str (sx [114])), (.tup [])])])])])])], .lst [(.tup [(.str (sx [112])), (.tup []), (.tup []), (.tup [(.tup []), (.tup [])]), (.tup [(.tup []), (.tup [])]), (.tup [(.tup [(.str (sx [99,97,108,108])), (.tup []), (.str (sx [113])), (.tup [])])])]), (.tup [(.str (sx [113])), (.tup []), (.tup []), (.tup [(.tup []), (.tup [])]), (.tup [(.tup []), (.tup [])]), (.tup [(.tup [(.str (sx [104,111,108,100])), (.str (sx [109])), (.tup [(.tup [(.str (sx [99,97,108,108])), (.tup []), (.str (sx [114])), (.tup [])])])])])]), (.tup [(.str (sx [114])), (.tup []), (.tup []), (.tup [(.tup []), (.tup [])]), (.tup [(.tup []), (.tup [])]), (.tup [(.tup [(.str (sx [104,111,108,100])), (.str (sx [108])), (.tup [])])])])], .lst [(.str (sx [108])), (.str (sx [109]))], .lst [(.tup [(.str (sx [109])), (.str (sx [108]))])], .lst [], .lst [(.str (sx [108]))], .lst [(.str (sx [109])), (.str (sx [108]))], .lst [(.str (sx [109])), (.str (sx [108]))], .lst [(.str (sx [109])), (.str (sx [108]))], .lst [(.str (sx [109])), (.str (sx [108]))], .lst [(.str (sx [107])), (.str (sx [109])), (.str (sx [108]))], .lst [(.str (sx [108]))], .lst [(.str (sx [108]))], .lst [(.str (sx [109])), (.str (sx [108]))], .lst [(.str (sx [109])), (.str (sx [108]))], .lst [(.str (sx [109])), (.str (sx [108]))], .lst [(.str (sx [109])), (.str (sx [108]))], .lst [(.str (sx [109])), (.str (sx [108]))], .lst [(.str (sx [109])), (.str (sx [108]))], .lst [(.str (sx [109])), (.str (sx [108]))]]
theorem q1_15 (ns : List Int) : stepL (kCs g FF 100000 (bodyOf (body 1))) (tgOf (body 1)) w1 (.tup [(.loc .lst 47), (.loc .lst 48), (.loc .lst 49)]) (e16 ns) S16 = some ((e17 ns), S17) := by kernel_rfl
def S18 : Sto := [.lst [], .lst [], .lst [(.tup [])], .lst [], .lst [(.str (sx [108]))], .lst [(.tup [(.str (sx [108]))])], .lst [(.tup [(.str (sx [112])), (.tup []), (.tup []), (.tup [(.tup []), (.tup [])]), (.tup [(.tup []), (.tup [])]), (.tup [(.tup [(.str (sx [104,111,108,100])), (.str (sx [108])), (.tup [])]), (.tup [(.str (sx [104,111,108,100])), (.str (sx [109])), (.tup [])])])])], .lst [(.str (sx [108])), (.str (sx [109]))], .lst [(.tup [(.str (sx [108])), (.str (sx [109]))]), (.tup [(.str (sx [109])), (.str (sx [108]))])], .lst [(.tup [(.loc .lst 0), (.loc .lst 1), (.loc .lst 2)]), (.tup [(.loc .lst 3), (.loc .lst 4), (.loc .lst 5)]), (.tup [(.loc .lst 6), (.loc .lst 7), (.loc .lst 8)]), (.tup [(.loc .lst 10), (.loc .lst 11), (.loc .lst 12)]), (.tup [(.loc .lst 13), (.loc .lst 14), (.loc .lst 15)]), (.tup [(.loc .lst 16), (.loc .lst 17), (.loc .lst 18)]), (.tup [(.loc .lst 19), (.loc .lst 20), (.loc .lst 21)]), (.tup [(.loc .lst 22), (.loc .lst 23), (.loc .lst 24)]), (.tup [(.loc .lst 25), (.loc .lst 26), (.loc .lst 27)]), (.tup [(.loc .lst 28), (.loc .lst 29), (.loc .lst 30)]), (.tup [(.loc .lst 31), (.loc .lst 32), (.loc .lst 33)]), (.tup [(.loc .lst 34), (.loc .lst 35), (.loc .lst 36)]), (.tup [(.loc .lst 37), (.loc .lst 38), (.loc .lst 39)]), (.tup [(.loc .lst 40), (.loc .lst 41), (.loc .lst 42)]), (.tup [(.loc .lst 43), (.loc .lst 44), (.loc .lst 45)]), (.tup [(.loc .lst 47), (.loc .lst 48), (.loc .lst 49)])], .lst [(.tup [(.str (sx [112])), (.tup []), (.tup []), (.tup [(.tup []), (.tup [])]), (.tup [(.tup []), (.tup [])]), (.tup [(.tup [(.str (sx [104,111,108,100])), (.str (sx [109])), (.tup [(.tup [(.str (sx [104,111,108,100])), (.str (sx [108])), (.tup [])])])])])])], .lst [(.str (sx [108])), (.str (sx [109]))], .lst [(.tup [(.str (sx [109])), (.str (sx [108]))])], .lst [(.tup [(.str (sx [112])), (.tup []), (.tup []), (.tup [(.tup []), (.tup [])]), (.tup [(.tup []), (.tup [])]), (.tup [(.tup [(.str (sx [104,111,108,100])), (.str (sx [109])), (.tup [(.tup [(.str (sx [99,97,108,108])), (.tup []), (.str (sx [113])), (.tup [])])])])])]), (.tup [(.str (sx [113])), (.tup []), (.tup []), (.tup [(.tup []), (.tup [])]), (.tup [(.tup []), (.tup [])]), (.tup [(.tup [(.str (sx [104,111,108,100])), (.str (sx [108])), (.tup [])])])])], .lst [(.str (sx [108])), (.str (sx [109]))], .lst [(.tup [(.str (sx [109])), (.str (sx [108]))])], .lst [(.tup [(.str (sx [112])), (.tup []), (.tup []), (.tup [(.tup []), (.tup [])]), (.tup [(.tup []), (.tup [])]), (.tup [(.tup [(.str (sx [104,111,108,100])), (.str (sx [109])), (.tup [(.tup [(.str (sx [99,97,108,108])), (.tup []), (.str (sx [113])), (.tup [])])])])])])], .lst [(.str (sx [108])), (.str (sx [109]))], .lst [(.tup [(.str (sx [108])), (.str (sx [109]))]), (.tup [(.str (sx [109])), (.str (sx [108]))])], .lst [(.tup [(.str (sx [112])), (.tup []), (.tup []), (.tup [(.tup []), (.tup [])]), (.tup [(.tup []), (.tup [])]), (.tup [(.tup [(.str (sx [104,111,108,100])), (.str (sx [107])), (.tup [(.tup [(.str (sx [98,111,116,104])), (.tup []), (.str (sx [113])), (.tup []), (.tup []), (.str (sx [114])), (.tup [])])])])])]), (.tup [(.str (sx [113])), (.tup []), (.tup []), (.tup [(.tup []), (.tup [])]), (.tup [(.tup []), (.tup [])]), (.tup [(.tup [(.str (sx [104,111,108,100])), (.str (sx [108])), (.tup [])])])]), (.tup [(.str (sx [114])), (.tup []), (.tup []), (.tup [(.tup []), (.tup [])]), (.tup [(.tup []), (.tup [])]), (.tup [(.tup [(.str (sx [104,111,108,100])), (.str (sx [109])), (.tup [])])])])], .lst [(.str (sx [108])), (.str (sx [109])), (.str (sx [107]))], .lst [(.tup [(.str (sx [107])), (.str (sx [108])), (.str (sx [109]))]), (.tup [(.str (sx [107])), (.str (sx [109])), (.str (sx [108]))])], .lst [(.tup [(.str (sx [112])), (.tup []), (.tup []), (.tup [(.tup []), (.tup [])]), (.tup [(.tup []), (.tup [])]), (.tup [(.tup [(.str (sx [104,111,108,100])), (.str (sx [122])), (.tup [(.tup [(.str (sx [104,111,108,100])), (.str (sx [108])), (.tup [])])])])])])], .lst [(.str (sx [108]))], .lst [(.tup [(.str (sx [108]))])], .lst [(.tup [(.str (sx [112])), (.tup []), (.tup []), (.tup [(.tup []), (.tup [])]), (.tup [(.tup []), (.tup [])]), (.tup [(.tup [(.str (sx [104,111,108,100])), (.str (sx [108])), (.tup [(.tup [(.str (sx [104,111,108,100])), (.str (sx [122])), (.tup [])])])])])])], .lst [(.str (sx [108]))], .lst [(.tup [(.str (sx [108]))])], .lst [(.tup [(.str (sx [112])), (.tup []), (.tup []), (.tup [(.tup []), (.tup [])]), (.tup [(.tup []), (.tup [])]), (.tup [(.tup [(.str (sx [105,102])), (.int 1), (.str (sx [105,115])), (.int 2), (.tup [(.tup [(.str (sx [104,111,108,100])), (.str (sx [109])), (.tup [(.tup [(.str (sx [104,111,108,100])), (.str (sx [108])), (.tup [])])])])]), (.tup [])])])])], .lst [(.str (sx [108])), (.str (sx [109]))], .lst [(.tup [(.str (sx [109])), (.str (sx [108]))])], .lst [(.tup [(.str (sx [112])), (.tup []), (.tup []), (.tup [(.tup []), (.tup [])]), (.tup [(.tup []), (.tup [])]), (.tup [(.tup [(.str (sx [119,104,105,108,101])), (.int 1), (.str (sx [105,115])), (.int 2), (.tup [(.tup []), (.tup [])]), (.tup [(.tup []), (.tup [])]), (.tup [(.tup [(.str (sx [104,111,108,100])), (.str (sx [109])), (.tup [(.tup [(.str (sx [104,111,108,100])), (.str (sx [108])), (.tup [])])])])])])])])], .lst [(.str (sx [108])), (.str (sx [109]))], .lst [(.tup [(.str (sx [109])), (.str (sx [108]))])], .lst [(.tup [(.str (sx [112])), (.tup []), (.tup []), (.tup [(.tup []), (.tup [])]), (.tup [(.tup []), (.tup [])]), (.tup [(.tup [(.str (sx [105,102])), (.int 1), (.str (sx [105,115])), (.int 1), (.tup []), (.tup [(.tup [(.str (sx [104,111,108,100])), (.str (sx [109])), (.tup [(.tup [(.str (sx [104,111,108,100])), (.str (sx [108])), (.tup [])])])])])])])])], .lst [(.str (sx [108])), (.str (sx [109]))], .lst [(.tup [(.str (sx [109])), (.str (sx [108]))])], .lst [(.tup [(.str (sx [112])), (.tup []), (.tup []), (.tup [(.tup []), (.tup [])]), (.tup [(.tup []), (.tup [])]), (.tup [(.tup [(.str (sx [104,111,108,100])), (.str (sx [109])), (.tup [(.tup [(.str (sx [99,97,108,108])), (.tup []), (.str (sx [113])), (.tup [(.int 1)])])])])])]), (.tup [(.str (sx [113])), (.tup []), (.tup []), (.tup [(.tup []), (.tup [])]), (.tup [(.tup []), (.tup [])]), (.tup [(.tup [(.str (sx [104,111,108,100])), (.str (sx [108])), (.tup [])])])])], .lst [(.str (sx [108])), (.str (sx [109]))], .lst [(.tup [(.str (sx [108])), (.str (sx [109]))]), (.tup [(.str (sx [109])), (.str (sx [108]))])], .lst [(.tup [(.str (sx [112])), (.tup []), (.tup []), (.tup [(.tup []), (.tup [])]), (.tup [(.tup []), (.tup [])]), (.tup [(.tup [(.str (sx [104,111,108,100])), (.str (sx [109])), (.tup [(.tup [(.str (sx [99,97,108,108])), (.tup [(.str (sx [97]))]), (.str (sx [113])), (.tup [])])])])])]), (.tup [(.str (sx [113])), (.tup []), (.tup []), (.tup [(.tup []), (.tup [])]), (.tup [(.tup []), (.tup [])]), (.tup [(.tup [(.str (sx [104,111,108,100])), (.str (sx [108])), (.tup [])])])])], .lst [(.str (sx [108])), (.str (sx [109]))], .lst [(.tup [(.str (sx [108])), (.str (sx [109]))]), (.tup [(.str (sx [109])), (.str (sx [108]))])], .lst [(.tup [(.str (sx [112])), (.tup []), (.tup []), (.tup [(.tup []), (.tup [])]), (.tup [(.tup []), (.tup [])]), (.tup [(.tup [(.str (sx [104,111,108,100])), (.str (sx [109])), (.tup [(.tup [(.str (sx [98,111,116,104])), (.tup [(.str (sx [97]))]), (.str (sx [113])), (.tup []), (.tup []), (.str (sx [113])), (.tup [(.int 1)])])])])])]), (.tup [(.str (sx [113])), (.tup []), (.tup []), (.tup [(.tup []), (.tup [])]), (.tup [(.tup []), (.tup [])]), (.tup [(.tup [(.str (sx [104,111,108,100])), (.str (sx [108])), (.tup [])])])])], .lst [(.str (sx [108])), (.str (sx [109]))], .lst [(.tup [(.str (sx [108])), (.str (sx [109]))]), (.tup [(.str (sx [109])), (.str (sx [108]))])], .lst [(.tup [(.str (sx [112])), (.tup []), (.tup []), (.tup [(.tup []), (.tup [])]), (.tup [(.tup []), (.tup [])]), (.tup [(.tup [(.str (sx [99,97,108,108])), (.tup []), (.str (sx [113])), (.tup [])])])]), (.tup [(.str (sx [113])), (.tup []), (.tup []), (.tup [(.tup []), (.tup [])]), (.tup [(.tup []), (.tup [])]), (.tup [(.tup [(.str (sx [104,111,108,100])), (.str (sx [109])), (.tup [(.tup [(.str (sx [99,97,108,108])), (.tup []), (.str (sx [114])), (.tup [])])])])])])], .lst [(.tup [(.str (sx [112])), (.tup []), (.tup []), (.tup [(.tup []), (.tup [])]), (.tup [(.tup []), (.tup [])]), (.tup [(.tup [(.str (sx [99,97,108,108])), (.tup []), (.str (sx [113])), (.tup [])])])]), (.tup [(.str (sx [113])), (.tup []), (.tup []), (.tup [(.tup []), (.tup [])]), (.tup [(.tup []), (.tup [])]), (.tup [(.tup [(.str (sx [104,111,108,100])), (.str (sx [109])), (.tup [(.tup [(.str (sx [99,97,108,108])), (.tup []), (.str (sx [114])), (.tup [])])])])])]), (.tup [(.str (sx [114])), (.tup []), (.tup []), (.tup [(.tup []), (.tup [])]), (.tup [(.tup []), (.tup [])]), (.tup [(.tup [(.str (sx [104,111,108,100])), (.str (sx [108])), (.tup [])])])])], .lst [(.str (sx [108])), (.str (sx [109]))], .lst [(.tup [(.str (sx [109])), (.str (sx [108]))])], .lst [], .lst [(.str (sx [108]))], .lst [(.str (sx [109])), (.str (sx [108]))], .lst [(.str (sx [109])), (.str (sx [108]))], .lst [(.str (sx [109])), (.str (sx [108]))], .lst [(.str (sx [109])), (.str (sx [108]))], .lst [(.str (sx [107])), (.str (sx [109])), (.str (sx [108]))], .lst [(.str (sx [108]))], .lst [(.str (sx [108]))], .lst [(.str (sx [109])), (.str (sx [108]))], .lst [(.str (sx [109])), (.str (sx [108]))], .lst [(.str (sx [109])), (.str (sx [108]))], .lst [(.str (sx [109])), (.str (sx [108]))], .lst [(.str (sx [109])), (.str (sx [108]))], .lst [(.str (sx [109])), (.str (sx [108]))], .lst [(.str (sx [109])), (.str (sx [108]))], .lst [(.tup [(.str (sx [112])), (.tup []), (.tup []), (.tup [(.tup []), (.tup [])]), (.tup [(.tup []), (.tup [])]), (.tup [(.tup [(.str (sx [104,111,108,100])), (.str (sx [108])), (.tup [(.tup [(.str (sx [104,111,108,100])), (.str (sx [108])), (.tup [])])])])])])], .lst [(.str (sx [108]))], .lst [(.tup [(.loc .lst 66), (.loc .lst 67), (.tup [(.tup [(.str (sx [108])), (.tup [(.tup [(.str (sx [112])), (.int 0)]), (.tup [(.str (sx [112])), (.int 1)])])])])]), (.tup [(.loc .lst 69), (.loc .lst 70), (.tup [(.tup [(.str (sx [108])), (.tup [(.tup [(.str (sx [112])), (.int 0)]), (.tup [(.str (sx [112])), (.int 1)]), (.tup [(.str (sx [113])), (.int 0)])])])])]), (.tup [(.loc .lst 71), (.loc .lst 72), (.tup [(.tup [(.str (sx [108])), (.tup [(.tup [(.str (sx [112])), (.int 0)]), (.tup [(.str (sx [112])), (.int 1)]), (.tup [(.str (sx [113])), (.int 0)])])])])]), (.tup [(.loc .lst 73), (.loc .lst 74), (.tup [(.tup [(.str (sx [108])), (.tup [(.tup [(.str (sx [112])), (.int 0)]), (.tup [(.str (sx [112])), (.int 1)])])]), (.tup [(.str (sx [109])), (.tup [(.tup [(.str (sx [113])), (.int 0)]), (.tup [(.str (sx [113])), (.int 1)])])])])]), (.tup [(.loc .lst 75), (.loc .lst 76), (.tup [(.tup [(.str (sx [108])), (.tup [(.tup [(.str (sx [112])), (.int 0)]), (.tup [(.str (sx [112])), (.int 1)])])]), (.tup [(.str (sx [109])), (.tup [(.tup [(.str (sx [113])), (.int 0)]), (.tup [(.str (sx [113])), (.int 1)])])]), (.tup [(.str (sx [107])), (.tup [(.tup [(.str (sx [114])), (.int 0)]), (.tup [(.str (sx [114])), (.int 1)])])])])]), (.tup [(.loc .lst 77), (.loc .lst 78), (.tup [(.tup [(.str (sx [108])), (.tup [(.tup [(.str (sx [112])), (.int 0)]), (.tup [(.str (sx [112])), (.int 1)]), (.tup [(.str (sx [112])), (.int 0)])])])])])], .lst [(.tup [(.str (sx [112])), (.tup []), (.tup []), (.tup [(.tup []), (.tup [])]), (.tup [(.tup []), (.tup [])]), (.tup [(.tup [(.str (sx [104,111,108,100])), (.str (sx [108])), (.tup [(.tup [(.str (sx [99,97,108,108])), (.tup []), (.str (sx [113])), (.tup [])])])])])]), (.tup [(.str (sx [113])), (.tup []), (.tup []), (.tup [(.tup []), (.tup [])]), (.tup [(.tup []), (.tup [])]), (.tup [(.tup [(.str (sx [104,111,108,100])), (.str (sx [108])), (.tup [])])])])], .lst [(.str (sx [108]))], .lst [(.tup [(.str (sx [112])), (.tup []), (.tup []), (.tup [(.tup []), (.tup [])]), (.tup [(.tup []), (.tup [])]), (.tup [(.tup [(.str (sx [104,111,108,100])), (.str (sx [108])), (.tup [(.tup [(.str (sx [98,111,116,104])), (.tup []), (.str (sx [122,122])), (.tup []), (.tup []), (.str (sx [113])), (.tup [])])])])])]), (.tup [(.str (sx [113])), (.tup []), (.tup []), (.tup [(.tup []), (.tup [])]), (.tup [(.tup []), (.tup [])]), (.tup [(.tup [(.str (sx [104,111,108,100])), (.str (sx [108])), (.tup [])])])])], .lst [(.str (sx [108])), (.str (sx [109]))], .lst [(.tup [(.str (sx [112])), (.tup []), (.tup []), (.tup [(.tup []), (.tup [])]), (.tup [(.tup []), (.tup [])]), (.tup [(.tup [(.str (sx [104,111,108,100])), (.str (sx [108])), (.tup [(.tup [(.str (sx [104,111,108,100])), (.str (sx [109])), (.tup [])])])])])]), (.tup [(.str (sx [113])), (.tup []), (.tup []), (.tup [(.tup []), (.tup [])]), (.tup [(.tup []), (.tup [])]), (.tup [(.tup [(.str (sx [104,111,108,100])), (.str (sx [109])), (.tup [(.tup [(.str (sx [104,111,108,100])), (.str (sx [108])), (.tup [])])])])])])], .lst [(.str (sx [109])), (.str (sx [108]))], .lst [(.tup [(.str (sx [112])), (.tup []), (.tup []), (.tup [(.tup []), (.tup [])]), (.tup [(.tup []), (.tup [])]), (.tup [(.tup [(.str (sx [104,111,108,100])), (.str (sx [108])), (.tup [(.tup [(.str (sx [104,111,108,100])), (.str (sx [109])), (.tup [])])])])])]), (.tup [(.str (sx [113])), (.tup []), (.tup []), (.tup [(.tup []), (.tup [])]), (.tup [(.tup []), (.tup [])]), (.tup [(.tup [(.str (sx [104,111,108,100])), (.str (sx [109])), (.tup [(.tup [(.str (sx [104,111,108,100])), (.str (sx [107])), (.tup [])])])])])]), (.tup [(.str (sx [114])), (.tup []), (.tup []), (.tup [(.tup []), (.tup [])]), (.tup [(.tup []), (.tup [])]), (.tup [(.tup [(.str (sx [104,111,108,100])), (.str (sx [107])), (.tup [(.tup [(.str (sx [104,111,108,100])), (.str (sx [108])), (.tup [])])])])])])], .lst [(.str (sx [108])), (.str (sx [109])), (.str (sx [107]))], .lst [(.tup [(.str (sx [112])), (.tup []), (.tup []), (.tup [(.tup []), (.tup [])]), (.tup [(.tup []), (.tup [])]), (.tup [(.tup [(.str (sx [104,111,108,100])), (.str (sx [108])), (.tup [(.tup [(.str (sx [99,97,108,108])), (.tup []), (.str (sx [112])), (.tup [])])])])])])], .lst [(.str (sx [108]))]]
def w2 : Wk := (.lst 68 [(.tup [(.loc .lst 66), (.loc .lst 67), (.tup [(.tup [(.str (sx [108])), (.tup [(.tup [(.str (sx [112])), (.int 0)]), (.tup [(.str (sx [112])), (.int 1)])])])])]), (.tup [(.loc .lst 69), (.loc .lst 70), (.tup [(.tup [(.str (sx [108])), (.tup [(.tup [(.str (sx [112])), (.int 0)]), (.tup [(.str (sx [112])), (.int 1)]), (.tup [(.str (sx [113])), (.int 0)])])])])]), (.tup [(.loc .lst 71), (.loc .lst 72), (.tup [(.tup [(.str (sx [108])), (.tup [(.tup [(.str (sx [112])), (.int 0)]), (.tup [(.str (sx [112])), (.int 1)]), (.tup [(.str (sx [113])), (.int 0)])])])])]), (.tup [(.loc .lst 73), (.loc .lst 74), (.tup [(.tup [(.str (sx [108])), (.tup [(.tup [(.str (sx [112])), (.int 0)]), (.tup [(.str (sx [112])), (.int 1)])])]), (.tup [(.str (sx [109])), (.tup [(.tup [(.str (sx [113])), (.int 0)]), (.tup [(.str (sx [113])), (.int 1)])])])])]), (.tup [(.loc .lst 75), (.loc .lst 76), (.tup [(.tup [(.str (sx [108])), (.tup [(.tup [(.str (sx [112])), (.int 0)]), (.tup [(.str (sx [112])), (.int 1)])])]), (.tup [(.str (sx [109])), (.tup [(.tup [(.str (sx [113])), (.int 0)]), (.tup [(.str (sx [113])), (.int 1)])])]), (.tup [(.str (sx [107])), (.tup [(.tup [(.str (sx [114])), (.int 0)]), (.tup [(.str (sx [114])), (.int 1)])])])])]), (.tup [(.loc .lst 77), (.loc .lst 78), (.tup [(.tup [(.str (sx [108])), (.tup [(.tup [(.str (sx [112])), (.int 0)]), (.tup [(.str (sx [112])), (.int 1)]), (.tup [(.str (sx [112])), (.int 0)])])])])])])
theorem q2 (ns : List Int) : (kA g FF (itOf (body 2))).2.2 (e17 ns) S17 = some (w2, S18) := by kernel_rfl
def e18 (ns : List Int) : Env := [some (.scr ns), some (.tup [(.tup []), (.tup [])]), some (.loc .lst 66), some (.loc .lst 67), some (.tup [(.tup [(.str (sx [108])), (.tup [(.tup [(.str (sx [112])), (.int 0)]), (.tup [(.str (sx [112])), (.int 1)])])])]), some (.loc .lst 79), some (.str (sx [114,105,110,103])), some (.tup [(.tup [(.str (sx [108])), (.tup [(.tup [(.str (sx [112])), (.int 0)]), (.tup [(.str (sx [112])), (.int 1)])])])]), none, some (.loc .lst 81), none, none]
def S19 : Sto := [.lst [], .lst [], .lst [(.tup [])], .lst [], .lst [(.str (sx [108]))], .lst [(.tup [(.str (sx [108]))])], .lst [(.tup [(.str (sx [112])), (.tup []), (.tup []), (.tup [(.tup []), (.tup [])]), (.tup [(.tup []), (.tup [])]), (.tup [(.tup [(.str (sx [104,111,108,100])), (.str (sx [108])), (.tup [])]), (.tup [(.str (sx [104,111,108,100])), (.str (sx [109])), (.tup [])])])])], .lst [(.str (sx [108])), (.str (sx [109]))], .lst [(.tup [(.str (sx [108])), (.str (sx [109]))]), (.tup [(.str (sx [109])), (.str (sx [108]))])], .lst [(.tup [(.loc .lst 0), (.loc .lst 1), (.loc .lst 2)]), (.tup [(.loc .lst 3), (.loc .lst 4), (.loc .lst 5)]), (.tup [(.loc .lst 6), (.loc .lst 7), (.loc .lst 8)]), (.tup [(.loc .lst 10), (.loc .lst 11), (.loc .lst 12)]), (.tup [(.loc .lst 13), (.loc .lst 14), (.loc .lst 15)]), (.tup [(.loc .lst 16), (.loc .lst 17), (.loc .lst 18)]), (.tup [(.loc .lst 19), (.loc .lst 20), (.loc .lst 21)]), (.tup [(.loc .lst 22), (.loc .lst 23), (.loc .lst 24)]), (.tup [(.loc .lst 25), (.loc .lst 26), (.loc .lst 27)]), (.tup [(.loc .lst 28), (.loc .lst 29), (.loc .lst 30)]), (.tup [(.loc .lst 31), (.loc .lst 32), (.loc .lst 33)]), (.tup [(.loc .lst 34), (.loc .lst 35), (.loc .lst 36)]), (.tup [(.loc .lst 37), (.loc .lst 38), (.loc .lst 39)]), (.tup [(.loc .lst 40), (.loc .lst 41), (.loc .lst 42)]), (.tup [(.loc .lst 43), (.loc .lst 44), (.loc .lst 45)]), (.tup [(.loc .lst 47), (.loc .lst 48), (.loc .lst 49)])], .lst [(.tup [(.str (sx [112])), (.tup []), (.tup []), (.tup [(.tup []), (.tup [])]), (.tup [(.tup []), (.tup [])]), (.tup [(.tup [(.str (sx [104,111,108,100])), (.str (sx [109])), (.tup [(.tup [(.str (sx [104,111,108,100])), (.str (sx [108])), (.tup [])])])])])])], .lst [(.str (sx [108])), (.str (sx [109]))], .lst [(.tup [(.str (sx [109])), (.str (sx [108]))])], .lst [(.tup [(.str (sx [112])), (.tup []), (.tup []), (.tup [(.tup []), (.tup [])]), (.tup [(.tup []), (.tup [])]), (.tup [(.tup [(.str (sx [104,111,108,100])), (.str (sx [109])), (.tup [(.tup [(.str (sx [99,97,108,108])), (.tup []), (.str (sx [113])), (.tup [])])])])])]), (.tup [(.str (sx [113])), (.tup []), (.tup []), (.tup [(.tup []), (.tup [])]), (.tup [(.tup []), (.tup [])]), (.tup [(.tup [(.str (sx [104,111,108,100])), (.str (sx [108])), (.tup [])])])])], .lst [(.str (sx [108])), (.str (sx [109]))], .lst [(.tup [(.str (sx [109])), (.str (sx [108]))])], .lst [(.tup [(.str (sx [112])), (.tup []), (.tup []), (.tup [(.tup []), (.tup [])]), (.tup [(.tup []), (.tup [])]), (.tup [(.tup [(.str (sx [104,111,108,100])), (.str (sx [109])), (.tup [(.tup [(.str (sx [99,97,108,108])), (.tup []), (.str (sx [113])), (.tup [])])])])])])], .lst [(.str (sx [108])), (.str (sx [109]))], .lst [(.tup [(.str (sx [108])), (.str (sx [109]))]), (.tup [(.str (sx [109])), (.str (sx [108]))])], .lst [(.tup [(.str (sx [112])), (.tup []), (.tup []), (.tup [(.tup []), (.tup [])]), (.tup [(.tup []), (.tup [])]), (.tup [(.tup [(.str (sx [104,111,108,100])), (.str (sx [107])), (.tup [(.tup [(.str (sx [98,111,116,104])), (.tup []), (.str (sx [113])), (.tup []), (.tup []), (.str (sx [114])), (.tup [])])])])])]), (.tup [(.str (sx [113])), (.tup []), (.tup []), (.tup [(.tup []), (.tup [])]), (.tup [(.tup []), (.tup [])]), (.tup [(.tup [(.str (sx [104,111,108,100])), (.str (sx [108])), (.tup [])])])]), (.tup [(.str (sx [114])), (.tup []), (.tup []), (.tup [(.tup []), (.tup [])]), (.tup [(.tup []), (.tup [])]), (.tup [(.tup [(.str (sx [104,111,108,100])), (.str (sx [109])), (.tup [])])])])], .lst [(.str (sx [108])), (.str (sx [109])), (.str (sx [107]))], .lst [(.tup [(.str (sx [107])), (.str (sx [108])), (.str (sx [109]))]), (.tup [(.str (sx [107])), (.str (sx [109])), (.str (sx [108]))])], .lst [(.tup [(.str (sx [112])), (.tup []), (.tup []), (.tup [(.tup []), (.tup [])]), (.tup [(.tup []), (.tup [])]), (.tup [(.tup [(.str (sx [104,111,108,100])), (.str (sx [122])), (.tup [(.tup [(.str (sx [104,111,108,100])), (.str (sx [108])), (.tup [])])])])])])], .lst [(.str (sx [108]))], .lst [(.tup [(.str (sx [108]))])], .lst [(.tup [(.str (sx [112])), (.tup []), (.tup []), (.tup [(.tup []), (.tup [])]), (.tup [(.tup []), (.tup [])]), (.tup [(.tup [(.str (sx [104,111,108,100])), (.str (sx [108])), (.tup [(.tup [(.str (sx [104,111,108,100])), (.str (sx [122])), (.tup [])])])])])])], .lst [(.str (sx [108]))], .lst [(.tup [(.str (sx [108]))])], .lst [(.tup [(.str (sx [112])), (.tup []), (.tup []), (.tup [(.tup []), (.tup [])]), (.tup [(.tup []), (.tup [])]), (.tup [(.tup [(.str (sx [105,102])), (.int 1), (.str (sx [105,115])), (.int 2), (.tup [(.tup [(.str (sx [104,111,108,100])), (.str (sx [109])), (.tup [(.tup [(.str (sx [104,111,108,100])), (.str (sx [108])), (.tup [])])])])]), (.tup [])])])])], .lst [(.str (sx [108])), (.str (sx [109]))], .lst [(.tup [(.str (sx [109])), (.str (sx [108]))])], .lst [(.tup [(.str (sx [112])), (.tup []), (.tup []), (.tup [(.tup []), (.tup [])]), (.tup [(.tup []), (.tup [])]), (.tup [(.tup [(.str (sx [119,104,105,108,101])), (.int 1), (.str (sx [105,115])), (.int 2), (.tup [(.tup []), (.tup [])]), (.tup [(.tup []), (.tup [])]), (.tup [(.tup [(.str (sx [104,111,108,100])), (.str (sx [109])), (.tup [(.tup [(.str (sx [104,111,108,100])), (.str (sx [108])), (.tup [])])])])])])])])], .lst [(.str (sx [108])), (.str (sx [109]))], .lst [(.tup [(.str (sx [109])), (.str (sx [108]))])], .lst [(.tup [(.str (sx [112])), (.tup []), (.tup []), (.tup [(.tup []), (.tup [])]), (.tup [(.tup []), (.tup [])]), (.tup [(.tup [(.str (sx [105,102])), (.int 1), (.str (sx [105,115])), (.int 1), (.tup []), (.tup [(.tup [(.str (sx [104,111,108,100])), (.str (sx [109])), (.tup [(.tup [(.str (sx [104,111,108,100])), (.str (sx [108])), (.tup [])])])])])])])])], .lst [(.str (sx [108])), (.str (sx [109]))], .lst [(.tup [(.str (sx [109])), (.str (sx [108]))])], .lst [(.tup [(.str (sx [112])), (.tup []), (.tup []), (.tup [(.tup []), (.tup [])]), (.tup [(.tup []), (.tup [])]), (.tup [(.tup [(.str (sx [104,111,108,100])), (.str (sx [109])), (.tup [(.tup [(.str (sx [99,97,108,108])), (.tup []), (.str (sx [113])), (.tup [(.int 1)])])])])])]), (.tup [(.str (sx [113])), (.tup []), (.tup []), (.tup [(.tup []), (.tup [])]), (.tup [(.tup []), (.tup [])]), (.tup [(.tup [(.str (sx [104,111,108,100])), (.str (sx [108])), (.tup [])])])])], .lst [(.str (sx [108])), (.str (sx [109]))], .lst [(.tup [(.str (sx [108])), (.str (sx [109]))]), (.tup [(.str (sx [109])), (.str (sx [108]))])], .lst [(.tup [(.str (sx [112])), (.tup []), (.tup []), (.tup [(.tup []), (.tup [])]), (.tup [(.tup []), (.tup [])]), (.tup [(.tup [(.str (sx [104,111,108,100])), (.str (sx [109])), (.tup [(.tup [(.str (sx [99,97,108,108])), (.tup [(.str (sx [97]))]), (.str (sx [113])), (.tup [])])])])])]), (.tup [(.str (sx [113])), (.tup []), (.tup []), (.tup [(.tup []), (.tup [])]), (.tup [(.tup []), (.tup [])]), (.tup [(.tup [(.str (sx [104,111,108,100])), (.str (sx [108])), (.tup [])])])])], .lst [(.str (sx [108])), (.str (sx [109]))], .lst [(.tup [(.str (sx [108])), (.str (sx [109]))]), (.tup [(.str (sx [109])), (.str (sx [108]))])], .lst [(.tup [(.str (sx [112])), (.tup []), (.tup []), (.tup [(.tup []), (.tup [])]), (.tup [(.tup []), (.tup [])]), (.tup [(.tup [(.str (sx [104,111,108,100])), (.str (sx [109])), (.tup [(.tup [(.str (sx [98,111,116,104])), (.tup [(.str (sx [97]))]), (.str (sx [113])), (.tup []), (.tup []), (.str (sx [113])), (.tup [(.int 1)])])])])])]), (.tup [(.str (sx [113])), (.tup []), (.tup []), (.tup [(.tup []), (.tup [])]), (.tup [(.tup []), (.tup [])]), (.tup [(.tup [(.str (sx [104,111,108,100])), (.str (sx [108])), (.tup [])])])])], .lst [(.str (sx [108])), (.str (sx [109]))], .lst [(.tup [(.str (sx [108])), (.str (sx [109]))]), (.tup [(.str (sx [109])), (.str (sx [108]))])], .lst [(.tup [(.str (sx [112])), (.tup []), (.tup []), (.tup [(.tup []), (.tup [])]), (.tup [(.tup []), (.tup [])]), (.tup [(.tup [(.str (sx [99,97,108,108])), (.tup []), (.str (sx [113])), (.tup [])])])]), (.tup [(.str (sx [113])), (.tup []), (.tup []), (.tup [(.tup []), (.tup [])]), (.tup [(.tup []), (.tup [])]), (.tup [(.tup [(.str (sx [104,111,108,100])), (.str (sx [109])), (.tup [(.tup [(.str (sx [99,97,108,108])), (.tup []), (.str (sx [114])), (.tup [])])])])])])], .lst [(.tup [(.str (sx [112])), (.tup []), (.tup []), (.tup [(.tup []), (.tup [])]), (.tup [(.tup []), (.tup [])]), (.tup [(.tup [(.str (sx [99,97,108,108])), (.tup []), (.str (sx [113])), (.tup [])])])]), (.tup [(.str (sx [113])), (.tup []), (.tup []), (.tup [(.tup []), (.tup [])]), (.tup [(.tup []), (.tup [])]), (.tup [(.tup [(.str (sx [104,111,108,100])), (.str (sx [109])), (.tup [(.tup [(.str (sx [99,97,108,108])), (.tup []), (.str (sx [114])), (.tup [])])])])])]), (.tup [(.str (sx [114])), (.tup []), (.tup []), (.tup [(.tup []), (.tup [])]), (.tup [(.tup []), (.tup [])]), (.tup [(.tup [(.str (sx [104,111,108,100])), (.str (sx [108])), (.tup [])])])])], .lst [(.str (sx [108])), (.str (sx [109]))], .lst [(.tup [(.str (sx [109])), (.str (sx [108]))])], .lst [], .lst [(.str (sx [108]))], .lst [(.str (sx [109])), (.str (sx [108]))], .lst [(.str (sx [109])), (.str (sx [108]))], .lst [(.str (sx [109])), (.str (sx [108]))], .lst [(.str (sx [109])), (.str (sx [108]))], .lst [(.str (sx [107])), (.str (sx [109])), (.str (sx [108]))], .lst [(.str (sx [108]))], .lst [(.str (sx [108]))], .lst [(.str (sx [109])), (.str (sx [108]))], .lst [(.str (sx [109])), (.str (sx [108]))], .lst [(.str (sx [109])), (.str (sx [108]))], .lst [(.str (sx [109])), (.str (sx [108]))], .lst [(.str (sx [109])), (.str (sx [108]))], .lst [(.str (sx [109])), (.str (sx [108]))], .lst [(.str (sx [109])), (.str (sx [108]))], .lst [(.tup [(.str (sx [112])), (.tup []), (.tup []), (.tup [(.tup []), (.tup [])]), (.tup [(.tup []), (.tup [])]), (.tup [(.tup [(.str (sx [104,111,108,100])), (.str (sx [108])), (.tup [(.tup [(.str (sx [104,111,108,100])), (.str (sx [108])), (.tup [])])])])])])], .lst [(.str (sx [108]))], .lst [(.tup [(.loc .lst 66), (.loc .lst 67), (.tup [(.tup [(.str (sx [108])), (.tup [(.tup [(.str (sx [112])), (.int 0)]), (.tup [(.str (sx [112])), (.int 1)])])])])]), (.tup [(.loc .lst 69), (.loc .lst 70), (.tup [(.tup [(.str (sx [108])), (.tup [(.tup [(.str (sx [112])), (.int 0)]), (.tup [(.str (sx [112])), (.int 1)]), (.tup [(.str (sx [113])), (.int 0)])])])])]), (.tup [(.loc .lst 71), (.loc .lst 72), (.tup [(.tup [(.str (sx [108])), (.tup [(.tup [(.str (sx [112])), (.int 0)]), (.tup [(.str (sx [112])), (.int 1)]), (.tup [(.str (sx [113])), (.int 0)])])])])]), (.tup [(.loc .lst 73), (.loc .lst 74), (.tup [(.tup [(.str (sx [108])), (.tup [(.tup [(.str (sx [112])), (.int 0)]), (.tup [(.str (sx [112])), (.int 1)])])]), (.tup [(.str (sx [109])), (.tup [(.tup [(.str (sx [113])), (.int 0)]), (.tup [(.str (sx [113])), (.int 1)])])])])]), (.tup [(.loc .lst 75), (.loc .lst 76), (.tup [(.tup [(.str (sx [108])), (.tup [(.tup [(.str (sx [112])), (.int 0)]), (.tup [(.str (sx [112])), (.int 1)])])]), (.tup [(.str (sx [109])), (.tup [(.tup [(.str (sx [113])), (.int 0)]), (.tup [(.str (sx [113])), (.int 1)])])]), (.tup [(.str (sx [107])), (.tup [(.tup [(.str (sx [114])), (.int 0)]), (.tup [(.str (sx [114])), (.int 1)])])])])]), (.tup [(.loc .lst 77), (.loc .lst 78), (.tup [(.tup [(.str (sx [108])), (.tup [(.tup [(.str (sx [112])), (.int 0)]), (.tup [(.str (sx [112])), (.int 1)]), (.tup [(.str (sx [112])), (.int 0)])])])])])], .lst [(.tup [(.str (sx [112])), (.tup []), (.tup []), (.tup [(.tup []), (.tup [])]), (.tup [(.tup []), (.tup [])]), (.tup [(.tup [(.str (sx [104,111,108,100])), (.str (sx [108])), (.tup [(.tup [(.str (sx [99,97,108,108])), (.tup []), (.str (sx [113])), (.tup [])])])])])]), (.tup [(.str (sx [113])), (.tup []), (.tup []), (.tup [(.tup []), (.tup [])]), (.tup [(.tup []), (.tup [])]), (.tup [(.tup [(.str (sx [104,111,108,100])), (.str (sx [108])), (.tup [])])])])], .lst [(.str (sx [108]))], .lst [(.tup [(.str (sx [112])), (.tup []), (.tup []), (.tup [(.tup []), (.tup [])]), (.tup [(.tup []), (.tup [])]), (.tup [(.tup [(.str (sx [104,111,108,100])), (.str (sx [108])), (.tup [(.tup [(.str (sx [98,111,116,104])), (.tup []), (.str (sx [122,122])), (.tup []), (.tup []), (.str (sx [113])), (.tup [])])])])])]), (.tup [(.str (sx [113])), (.tup []), (.tup []), (.tup [(.tup []), (.tup [])]), (.tup [(.tup []), (.tup [])]), (.tup [(.tup [(.str (sx [104,111,108,100])), (.str (sx [108])), (.tup [])])])])], .lst [(.str (sx [108])), (.str (sx [109]))], .lst [(.tup [(.str (sx [112])), (.tup []), (.tup []), (.tup [(.tup []), (.tup [])]), (.tup [(.tup []), (.tup [])]), (.tup [(.tup [(.str (sx [104,111,108,100])), (.str (sx [108])), (.tup [(.tup [(.str (sx [104,111,108,100])), (.str (sx [109])), (.tup [])])])])])]), (.tup [(.str (sx [113])), (.tup []), (.tup []), (.tup [(.tup []), (.tup [])]), (.tup [(.tup []), (.tup [])]), (.tup [(.tup [(.str (sx [104,111,108,100])), (.str (sx [109])), (.tup [(.tup [(.str (sx [104,111,108,100])), (.str (sx [108])), (.tup [])])])])])])], .lst [(.str (sx [109])), (.str (sx [108]))], .lst [(.tup [(.str (sx [112])), (.tup []), (.tup []), (.tup [(.tup []), (.tup [])]), (.tup [(.tup []), (.tup [])]), (.tup [(.tup [(.str (sx [104,111,108,100])), (.str (sx [108])), (.tup [(.tup [(.str (sx [104,111,108,100])), (.str (sx [109])), (.tup [])])])])])]), (.tup [(.str (sx [113])), (.tup []), (.tup []), (.tup [(.tup []), (.tup [])]), (.tup [(.tup []), (.tup [])]), (.tup [(.tup [(.str (sx [104,111,108,100])), (.str (sx [109])), (.tup [(.tup [(.str (sx [104,111,108,100])), (.str (sx [107])), (.tup [])])])])])]), (.tup [(.str (sx [114])), (.tup []), (.tup []), (.tup [(.tup []), (.tup [])]), (.tup [(.tup []), (.tup [])]), (.tup [(.tup [(.str (sx [104,111,108,100])), (.str (sx [107])), (.tup [(.tup [(.str (sx [104,111,108,100])), (.str (sx [108])), (.tup [])])])])])])], .lst [(.str (sx [108])), (.str (sx [109])), (.str (sx [107]))], .lst [(.tup [(.str (sx [112])), (.tup []), (.tup []), (.tup [(.tup []), (.tup [])]), (.tup [(.tup []), (.tup [])]), (.tup [(.tup [(.str (sx [104,111,108,100])), (.str (sx [108])), (.tup [(.tup [(.str (sx [99,97,108,108])), (.tup []), (.str (sx [112])), (.tup [])])])])])])], .lst [(.str (sx [108]))], .lst [(.str (sx [108]))], .lst [(.tup [(.tup [(.str (sx [108])), (.tup [(.tup [(.str (sx [112])), (.int 0)]), (.tup [(.str (sx [112])), (.int 1)])])])])], .lst [(.tup [(.tup [(.str (sx [108])), (.tup [(.tup [(.str (sx [112])), (.int 0)]), (.tup [(.str (sx [112])), (.int 1)])])])])]]
theorem q2_0 (ns : List Int) : stepL (kCs g FF 100000 (bodyOf (body 2))) (tgOf (body 2)) w2 (.tup [(.loc .lst 66), (.loc .lst 67), (.tup [(.tup [(.str (sx [108])), (.tup [(.tup [(.str (sx [112])), (.int 0)]), (.tup [(.str (sx [112])), (.int 1)])])])])]) (e17 ns) S18 = some ((e18 ns), S19) := by kernel_rfl
def e19 (ns : List Int) : Env := [some (.scr ns), some (.tup [(.tup []), (.tup [])]), some (.loc .lst 69), some (.loc .lst 70), some (.tup [(.tup [(.str (sx [108])), (.tup [(.tup [(.str (sx [112])), (.int 0)]), (.tup [(.str (sx [112])), (.int 1)]), (.tup [(.str (sx [113])), (.int 0)])])])]), some (.loc .lst 82), some (.str (sx [114,105,110,103])), some (.tup [(.tup [(.str (sx [108])), (.tup [(.tup [(.str (sx [112])), (.int 0)]), (.tup [(.str (sx [112])), (.int 1)]), (.tup [(.str (sx [113])), (.int 0)])])])]), none, some (.loc .lst 84), none, none]
def S20 : Sto := [.lst [], .lst [], .lst [(.tup [])], .lst [], .lst [(.str (sx [108]))], .lst [(.tup [(.str (sx [108]))])], .lst [(.tup [(.str (sx [112])), (.tup []), (.tup []), (.tup [(.tup []), (.tup [])]), (.tup [(.tup []), (.tup [])]), (.tup [(.tup [(.str (sx [104,111,108,100])), (.str (sx [108])), (.tup [])]), (.tup [(.str (sx [104,111,108,100])), (.str (sx [109])), (.tup [])])])])], .lst [(.str (sx [108])), (.str (sx [109]))], .lst [(.tup [(.str (sx [108])), (.str (sx [109]))]), (.tup [(.str (sx [109])), (.str (sx [108]))])], .lst [(.tup [(.loc .lst 0), (.loc .lst 1), (.loc .lst 2)]), (.tup [(.loc .lst 3), (.loc .lst 4), (.loc .lst 5)]), (.tup [(.loc .lst 6), (.loc .lst 7), (.loc .lst 8)]), (.tup [(.loc .lst 10), (.loc .lst 11), (.loc .lst 12)]), (.tup [(.loc .lst 13), (.loc .lst 14), (.loc .lst 15)]), (.tup [(.loc .lst 16), (.loc .lst 17), (.loc .lst 18)]), (.tup [(.loc .lst 19), (.loc .lst 20), (.loc .lst 21)]), (.tup [(.loc .lst 22), (.loc .lst 23), (.loc .lst 24)]), (.tup [(.loc .lst 25), (.loc .lst 26), (.loc .lst 27)]), (.tup [(.loc .lst 28), (.loc .lst 29), (.loc .lst 30)]), (.tup [(.loc .lst 31), (.loc .lst 32), (.loc .lst 33)]), (.tup [(.loc .lst 34), (.loc .lst 35), (.loc .lst 36)]), (.tup [(.loc .lst 37), (.loc .lst 38), (.loc .lst 39)]), (.tup [(.loc .lst 40), (.loc .lst 41), (.loc .lst 42)]), (.tup [(.loc .lst 43), (.loc .lst 44), (.loc .lst 45)]), (.tup [(.loc .lst 47), (.loc .lst 48), (.loc .lst 49)])], .lst [(.tup [(.str (sx [112])), (.tup []), (.tup []), (.tup [(.tup []), (.tup [])]), (.tup [(.tup []), (.tup [])]), (.tup [(.tup [(.str (sx [104,111,108,100])), (.str (sx [109])), (.tup [(.tup [(.str (sx [104,111,108,100])), (.str (sx [108])), (.tup [])])])])])])], .lst [(.str (sx [108])), (.str (sx [109]))], .lst [(.tup [(.str (sx [109])), (.str (sx [108]))])], .lst [(.tup [(.str (sx [112])), (.tup []), (.tup []), (.tup [(.tup []), (.tup [])]), (.tup [(.tup []), (.tup [])]), (.tup [(.tup [(.str (sx [104,111,108,100])), (.str (sx [109])), (.tup [(.tup [(.str (sx [99,97,108,108])), (.tup []), (.str (sx [113])), (.tup [])])])])])]), (.tup [(.str (sx [113])), (.tup []), (.tup []), (.tup [(.tup []), (.tup [])]), (.tup [(.tup []), (.tup [])]), (.tup [(.tup [(.str (sx [104,111,108,100])), (.str (sx [108])), (.tup [])])])])], .lst [(.str (sx [108])), (.str (sx [109]))], .lst [(.tup [(.str (sx [109])), (.str (sx [108]))])], .lst [(.tup [(.str (sx [112])), (.tup []), (.tup []), (.tup [(.tup []), (.tup [])]), (.tup [(.tup []), (.tup [])]), (.tup [(.tup [(.str (sx [104,111,108,100])), (.str (sx [109])), (.tup [(.tup [(.str (sx [99,97,108,108])), (.tup []), (.str (sx [113])), (.tup [])])])])])])], .lst [(.str (sx [108])), (.str (sx [109]))], .lst [(.tup [(.str (sx [108])), (.str (sx [109]))]), (.tup [(.str (sx [109])), (.str (sx [108]))])], .lst [(.tup [(.str (sx [112])), (.tup []), (.tup []), (.tup [(.tup []), (.tup [])]), (.tup [(.tup []), (.tup [])]), (.tup [(.tup [(.str (sx [104,111,108,100])), (.str (sx [107])), (.tup [(.tup [(.str (sx [98,111,116,104])), (.tup []), (.str (sx [113])), (.tup []), (.tup []), (.str (sx [114])), (.tup [])])])])])]), (.tup [(.str (sx [113])), (.tup []), (.tup []), (.tup [(.tup []), (.tup [])]), (.tup [(.tup []), (.tup [])]), (.tup [(.tup [(.str (sx [104,111,108,100])), (.str (sx [108])), (.tup [])])])]), (.tup [(.str (sx [114])), (.tup []), (.tup []), (.tup [(.tup []), (.tup [])]), (.tup [(.tup []), (.tup [])]), (.tup [(.tup [(.str (sx [104,111,108,100])), (.str (sx [109])), (.tup [])])])])], .lst [(.str (sx [108])), (.str (sx [109])), (.str (sx [107]))], .lst [(.tup [(.str (sx [107])), (.str (sx [108])), (.str (sx [109]))]), (.tup [(.str (sx [107])), (.str (sx [109])), (.str (sx [108]))])], .lst [(.tup [(.str (sx [112])), (.tup []), (.tup []), (.tup [(.tup []), (.tup [])]), (.tup [(.tup []), (.tup [])]), (.tup [(.tup [(.str (sx [104,111,108,100])), (.str (sx [122])), (.tup [(.tup [(.str (sx [104,111,108,100])), (.str (sx [108])), (.tup [])])])])])])], .lst [(.str (sx [108]))], .lst [(.tup [(.str (sx [108]))])], .lst [(.tup [(.str (sx [112])), (.tup []), (.tup []), (.tup [(.tup []), (.tup [])]), (.tup [(.tup []), (.tup [])]), (.tup [(.tup [(.str (sx [104,111,108,100])), (.str (sx [108])), (.tup [(.tup [(.str (sx [104,111,108,100])), (.str (sx [122])), (.tup [])])])])])])], .lst [(.str (sx [108]))], .lst [(.tup [(.str (sx [108]))])], .lst [(.tup [(.str (sx [112])), (.tup []), (.tup []), (.tup [(.tup []), (.tup [])]), (.tup [(.tup []), (.tup [])]), (.tup [(.tup [(.str (sx [105,102])), (.int 1), (.str (sx [105,115])), (.int 2), (.tup [(.tup [(.str (sx [104,111,108,100])), (.str (sx [109])), (.tup [(.tup [(.str (sx [104,111,108,100])), (.str (sx [108])), (.tup [])])])])]), (.tup [])])])])], .lst [(.str (sx [108])), (.str (sx [109]))], .lst [(.tup [(.str (sx [109])), (.str (sx [108]))])], .lst [(.tup [(.str (sx [112])), (.tup []), (.tup []), (.tup [(.tup []), (.tup [])]), (.tup [(.tup []), (.tup [])]), (.tup [(.tup [(.str (sx [119,104,105,108,101])), (.int 1), (.str (sx [105,115])), (.int 2), (.tup [(.tup []), (.tup [])]), (.tup [(.tup []), (.tup [])]), (.tup [(.tup [(.str (sx [104,111,108,100])), (.str (sx [109])), (.tup [(.tup [(.str (sx [104,111,108,100])), (.str (sx [108])), (.tup [])])])])])])])])], .lst [(.str (sx [108])), (.str (sx [109]))], .lst [(.tup [(.str (sx [109])), (.str (sx [108]))])], .lst [(.tup [(.str (sx [112])), (.tup []), (.tup []), (.tup [(.tup []), (.tup [])]), (.tup [(.tup []), (.tup [])]), (.tup [(.tup [(.str (sx [105,102])), (.int 1), (.str (sx [105,115])), (.int 1), (.tup []), (.tup [(.tup [(.str (sx [104,111,108,100])), (.str (sx [109])), (.tup [(.tup [(.str (sx [104,111,108,100])), (.str (sx [108])), (.tup [])])])])])])])])], .lst [(.str (sx [108])), (.str (sx [109]))], .lst [(.tup [(.str (sx [109])), (.str (sx [108]))])], .lst [(.tup [(.str (sx [112])), (.tup []), (.tup []), (.tup [(.tup []), (.tup [])]), (.tup [(.tup []), (.tup [])]), (.tup [(.tup [(.str (sx [104,111,108,100])), (.str (sx [109])), (.tup [(.tup [(.str (sx [99,97,108,108])), (.tup []), (.str (sx [113])), (.tup [(.int 1)])])])])])]), (.tup [(.str (sx [113])), (.tup []), (.tup []), (.tup [(.tup []), (.tup [])]), (.tup [(.tup []), (.tup [])]), (.tup [(.tup [(.str (sx [104,111,108,100])), (.str (sx [108])), (.tup [])])])])], .lst [(.str (sx [108])), (.str (sx [109]))], .lst [(.tup [(.str (sx [108])), (.str (sx [109]))]), (.tup [(.str (sx [109])), (.str (sx [108]))])], .lst [(.tup [(.str (sx [112])), (.tup []), (.tup []), (.tup [(.tup []), (.tup [])]), (.tup [(.tup []), (.tup [])]), (.tup [(.tup [(.str (sx [104,111,108,100])), (.str (sx [109])), (.tup [(.tup [(.str (sx [99,97,108,108])), (.tup [(.str (sx [97]))]), (.str (sx [113])), (.tup [])])])])])]), (.tup [(.str (sx [113])), (.tup []), (.tup []), (.tup [(.tup []), (.tup [])]), (.tup [(.tup []), (.tup [])]), (.tup [(.tup [(.str (sx [104,111,108,100])), (.str (sx [108])), (.tup [])])])])], .lst [(.str (sx [108])), (.str (sx [109]))], .lst [(.tup [(.str (sx [108])), (.str (sx [109]))]), (.tup [(.str (sx [109])), (.str (sx [108]))])], .lst [(.tup [(.str (sx [112])), (.tup []), (.tup []), (.tup [(.tup []), (.tup [])]), (.tup [(.tup []), (.tup [])]), (.tup [(.tup [(.str (sx [104,111,108,100])), (.str (sx [109])), (.tup [(.tup [(.str (sx [98,111,116,104])), (.tup [(.str (sx [97]))]), (.str (sx [113])), (.tup []), (.tup []), (.str (sx [113])), (.tup [(.int 1)])])])])])]), (.tup [(.str (sx [113])), (.tup []), (.tup []), (.tup [(.tup []), (.tup [])]), (.tup [(.tup []), (.tup [])]), (.tup [(.tup [(.str (sx [104,111,108,100])), (.str (sx [108])), (.tup [])])])])], .lst [(.str (sx [108])), (.str (sx [109]))], .lst [(.tup [(.str (sx [108])), (.str (sx [109]))]), (.tup [(.str (sx [109])), (.str (sx [108]))])], .lst [(.tup [(.str (sx [112])), (.tup []), (.tup []), (.tup [(.tup []), (.tup [])]), (.tup [(.tup []), (.tup [])]), (.tup [(.tup [(.str (sx [99,97,108,108])), (.tup []), (.str (sx [113])), (.tup [])])])]), (.tup [(.str (sx [113])), (.tup []), (.tup []), (.tup [(.tup []), (.tup [])]), (.tup [(.tup []), (.tup [])]), (.tup [(.tup [(.str (sx [104,111,108,100])), (.str (sx [109])), (.tup [(.tup [(.str (sx [99,97,108,108])), (.tup []), (.str (sx [114])), (.tup [])])])])])])], .lst [(.tup [(.str (sx [112])), (.tup []), (.tup []), (.tup [(.tup []), (.tup [])]), (.tup [(.tup []), (.tup [])]), (.tup [(.tup [(.str (sx [99,97,108,108])), (.tup []), (.str (sx [113])), (.tup [])])])]), (.tup [(.str (sx [113])), (.tup []), (.tup []), (.tup [(.tup []), (.tup [])]), (.tup [(.tup []), (.tup [])]), (.tup [(.tup [(.str (sx [104,111,108,100])), (.str (sx [109])), (.tup [(.tup [(.str (sx [99,97,108,108])), (.tup []), (.str (sx [114])), (.tup [])])])])])]), (.tup [(.str (sx [114])), (.tup []), (.tup []), (.tup [(.tup []), (.tup [])]), (.tup [(.tup []), (.tup [])]), (.tup [(.tup [(.str (sx [104,111,108,100])), (.str (sx [108])), (.tup [])])])])], .lst [(.str (sx [108])), (.str (sx [109]))], .lst [(.tup [(.str (sx [109])), (.str (sx [108]))])], .lst [], .lst [(.str (sx [108]))], .lst [(.str (sx [109])), (.str (sx [108]))], .lst [(.str (sx [109])), (.str (sx [108]))], .lst [(.str (sx [109])), (.str (sx [108]))], .lst [(.str (sx [109])), (.str (sx [108]))], .lst [(.str (sx [107])), (.str (sx [109])), (.str (sx [108]))], .lst [(.str (sx [108]))], .lst [(.str (sx [108]))], .lst [(.str (sx [109])), (.str (sx [108]))], .lst [(.str (sx [109])), (.str (sx [108]))], .lst [(.str (sx [109])), (.str (sx [108]))], .lst [(.str (sx [109])), (.str (sx [108]))], .lst [(.str (sx [109])), (.str (sx [108]))], .lst [(.str (sx [109])), (.str (sx [108]))], .lst [(.str (sx [109])), (.str (sx [108]))], .lst [(.tup [(.str (sx [112])), (.tup []), (.tup []), (.tup [(.tup []), (.tup [])]), (.tup [(.tup []), (.tup [])]), (.tup [(.tup [(.str (sx [104,111,108,100])), (.str (sx [108])), (.tup [(.tup [(.str (sx [104,111,108,100])), (.str (sx [108])), (.tup [])])])])])])], .lst [(.str (sx [108]))], .lst [(.tup [(.loc .lst 66), (.loc .lst 67), (.tup [(.tup [(.str (sx [108])), (.tup [(.tup [(.str (sx [112])), (.int 0)]), (.tup [(.str (sx [112])), (.int 1)])])])])]), (.tup [(.loc .lst 69), (.loc .lst 70), (.tup [(.tup [(.str (sx [108])), (.tup [(.tup [(.str (sx [112])), (.int 0)]), (.tup [(.str (sx [112])), (.int 1)]), (.tup [(.str (sx [113])), (.int 0)])])])])]), (.tup [(.loc .lst 71), (.loc .lst 72), (.tup [(.tup [(.str (sx [108])), (.tup [(.tup [(.str (sx [112])), (.int 0)]), (.tup [(.str (sx [112])), (.int 1)]), (.tup [(.str (sx [113])), (.int 0)])])])])]), (.tup [(.loc .lst 73), (.loc .lst 74), (.tup [(.tup [(.str (sx [108])), (.tup [(.tup [(.str (sx [112])), (.int 0)]), (.tup [(.str (sx [112])), (.int 1)])])]), (.tup [(.str (sx [109])), (.tup [(.tup [(.str (sx [113])), (.int 0)]), (.tup [(.str (sx [113])), (.int 1)])])])])]), (.tup [(.loc .lst 75), (.loc .lst 76), (.tup [(.tup [(.str (sx [108])), (.tup [(.tup [(.str (sx [112])), (.int 0)]), (.tup [(.str (sx [112])), (.int 1)])])]), (.tup [(.str (sx [109])), (.tup [(.tup [(.str (sx [113])), (.int 0)]), (.tup [(.str (sx [113])), (.int 1)])])]), (.tup [(.str (sx [107])), (.tup [(.tup [(.str (sx [114])), (.int 0)]), (.tup [(.str (sx [114])), (.int 1)])])])])]), (.tup [(.loc .lst 77), (.loc .lst 78), (.tup [(.tup [(.str (sx [108])), (.tup [(.tup [(.str (sx [112])), (.int 0)]), (.tup [(.str (sx [112])), (.int 1)]), (.tup [(.str (sx [112])), (.int 0)])])])])])], .lst [(.tup [(.str (sx [112])), (.tup []), (.tup []), (.tup [(.tup []), (.tup [])]), (.tup [(.tup []), (.tup [])]), (.tup [(.tup [(.str (sx [104,111,108,100])), (.str (sx [108])), (.tup [(.tup [(.str (sx [99,97,108,108])), (.tup []), (.str (sx [113])), (.tup [])])])])])]), (.tup [(.str (sx [113])), (.tup []), (.tup []), (.tup [(.tup []), (.tup [])]), (.tup [(.tup []), (.tup [])]), (.tup [(.tup [(.str (sx [104,111,108,100])), (.str (sx [108])), (.tup [])])])])], .lst [(.str (sx [108]))], .lst [(.tup [(.str (sx [112])), (.tup []), (.tup []), (.tup [(.tup []), (.tup [])]), (.tup [(.tup []), (.tup [])]), (.tup [(.tup [(.str (sx [104,111,108,100])), (.str (sx [108])), (.tup [(.tup [(.str (sx [98,111,116,104])), (.tup []), (.str (sx [122,122])), (.tup []), (.tup []), (.str (sx [113])), (.tup [])])])])])]), (.tup [(.str (sx [113])), (.tup []), (.tup []), (.tup [(.tup []), (.tup [])]), (.tup [(.tup []), (.tup [])]), (.tup [(.tup [(.str (sx [104,111,108,100])), (.str (sx [108])), (.tup [])])])])], .lst [(.str (sx [108])), (.str (sx [109]))], .lst [(.tup [(.str (sx [112])), (.tup []), (.tup []), (.tup [(.tup []), (.tup [])]), (.tup [(.tup []), (.tup [])]), (.tup [(.tup [(.str (sx [104,111,108,100])), (.str (sx [108])), (.tup [(.tup [(.str (sx [104,111,108,100])), (.str (sx [109])), (.tup [])])])])])]), (.tup [(.str (sx [113])), (.tup []), (.tup []), (.tup [(.tup []), (.tup [])]), (.tup [(.tup []), (.tup [])]), (.tup [(.tup [(.str (sx [104,111,108,100])), (.str (sx [109])), (.tup [(.tup [(.str (sx [104,111,108,100])), (.str (sx [108])), (.tup [])])])])])])], .lst [(.str (sx [109])), (.str (sx [108]))], .lst [(.tup [(.str (sx [112])), (.tup []), (.tup []), (.tup [(.tup []), (.tup [])]), (.tup [(.tup []), (.tup [])]), (.tup [(.tup [(.str (sx [104,111,108,100])), (.str (sx [108])), (.tup [(.tup [(.str (sx [104,111,108,100])), (.str (sx [109])), (.tup [])])])])])]), (.tup [(.str (sx [113])), (.tup []), (.tup []), (.tup [(.tup []), (.tup [])]), (.tup [(.tup []), (.tup [])]), (.tup [(.tup [(.str (sx [104,111,108,100])), (.str (sx [109])), (.tup [(.tup [(.str (sx [104,111,108,100])), (.str (sx [107])), (.tup [])])])])])]), (.tup [(.str (sx [114])), (.tup []), (.tup []), (.tup [(.tup []), (.tup [])]), (.tup [(.tup []), (.tup [])]), (.tup [(.tup [(.str (sx [104,111,108,100])), (.str (sx [107])), (.tup [(.tup [(.str (sx [104,111,108,100])), (.str (sx [108])), (.tup [])])])])])])], .lst [(.str (sx [108])), (.str (sx [109])), (.str (sx [107]))], .lst [(.tup [(.str (sx [112])), (.tup []), (.tup []), (.tup [(.tup []), (.tup [])]), (.tup [(.tup []), (.tup [])]), (.tup [(.tup [(.str (sx [104,111,108,100])), (.str (sx [108])), (.tup [(.tup [(.str (sx [99,97,108,108])), (.tup []), (.str (sx [112])), (.tup [])])])])])])], .lst [(.str (sx [108]))], .lst [(.str (sx [108]))], .lst [(.tup [(.tup [(.str (sx [108])), (.tup [(.tup [(.str (sx [112])), (.int 0)]), (.tup [(.str (sx [112])), (.int 1)])])])])], .lst [(.tup [(.tup [(.str (sx [108])), (.tup [(.tup [(.str (sx [112])), (.int 0)]), (.tup [(.str (sx [112])), (.int 1)])])])])], .lst [(.str (sx [108]))], .lst [(.tup [(.tup [(.str (sx [108])), (.tup [(.tup [(.str (sx [112])), (.int 0)]), (.tup [(.str (sx [112])), (.int 1)]), (.tup [(.str (sx [113])), (.int 0)])])])])], .lst [(.tup [(.tup [(.str (sx [108])), (.tup [(.tup [(.str (sx [112])), (.int 0)]), (.tup [(.str (sx [112])), (.int 1)]), (.tup [(.str (sx [113])), (.int 0)])])])])]]
theorem q2_1 (ns : List Int) : stepL (kCs g FF 100000 (bodyOf (body 2))) (tgOf (body 2)) w2 (.tup [(.loc .lst 69), (.loc .lst 70), (.tup [(.tup [(.str (sx [108])), (.tup [(.tup [(.str (sx [112])), (.int 0)]), (.tup [(.str (sx [112])), (.int 1)]), (.tup [(.str (sx [113])), (.int 0)])])])])]) (e18 ns) S19 = some ((e19 ns), S20) := by kernel_rfl
def e20 (ns : List Int) : Env := [some (.scr ns), some (.tup [(.tup []), (.tup [])]), some (.loc .lst 71), some (.loc .lst 72), some (.tup [(.tup [(.str (sx [108])), (.tup [(.tup [(.str (sx [112])), (.int 0)]), (.tup [(.str (sx [112])), (.int 1)]), (.tup [(.str (sx [113])), (.int 0)])])])]), some (.loc .lst 85), some (.str (sx [114,105,110,103])), some (.tup [(.tup [(.str (sx [108])), (.tup [(.tup [(.str (sx [112])), (.int 0)]), (.tup [(.str (sx [112])), (.int 1)]), (.tup [(.str (sx [113])), (.int 0)])])])]), none, some (.loc .lst 87), none, none]
def S21 : Sto := [.lst [], .lst [], .lst [(.tup [])], .lst [], .lst [(.str (sx [108]))], .lst [(.tup [(.str (sx [108]))])], .lst [(.tup [(.str (sx [112])), (.tup []), (.tup []), (.tup [(.tup []), (.tup [])]), (.tup [(.tup []), (.tup [])]), (.tup [(.tup [(.str (sx [104,111,108,100])), (.str (sx [108])), (.tup [])]), (.tup [(.str (sx [104,111,108,100])), (.str (sx [109])), (.tup [])])])])], .lst [(.str (sx [108])), (.str (sx [109]))], .lst [(.tup [(.str (sx [108])), (.str (sx [109]))]), (.tup [(.str (sx [109])), (.str (sx [108]))])], .lst [(.tup [(.loc .lst 0), (.loc .lst 1), (.loc .lst 2)]), (.tup [(.loc .lst 3), (.loc .lst 4), (.loc .lst 5)]), (.tup [(.loc .lst 6), (.loc .lst 7), (.loc .lst 8)]), (.tup [(.loc .lst 10), (.loc .lst 11), (.loc .lst 12)]), (.tup [(.loc .lst 13), (.loc .lst 14), (.loc .lst 15)]), (.tup [(.loc .lst 16), (.loc .lst 17), (.loc .lst 18)]), (.tup [(.loc .lst 19), (.loc .lst 20), (.loc .lst 21)]), (.tup [(.loc .lst 22), (.loc .lst 23), (.loc .lst 24)]), (.tup [(.loc .lst 25), (.loc .lst 26), (.loc .lst 27)]), (.tup [(.loc .lst 28), (.loc .lst 29), (.loc .lst 30)]), (.tup [(.loc .lst 31), (.loc .lst 32), (.loc .lst 33)]), (.tup [(.loc .lst 34), (.loc .lst 35), (.loc .lst 36)]), (.tup [(.loc .lst 37), (.loc .lst 38), (.loc .lst 39)]), (.tup [(.loc .lst 40), (.loc .lst 41), (.loc .lst 42)]), (.tup [(.loc .lst 43), (.loc .lst 44), (.loc .lst 45)]), (.tup [(.loc .lst 47), (.loc .lst 48), (.loc .lst 49)])], .lst [(.tup [(.str (sx [112])), (.tup []), (.tup []), (.tup [(.tup []), (.tup [])]), (.tup [(.tup []), (.tup [])]), (.tup [(.tup [(.str (sx [104,111,108,100])), (.str (sx [109])), (.tup [(.tup [(.str (sx [104,111,108,100])), (.str (sx [108])), (.tup [])])])])])])], .lst [(.str (sx [108])), (.str (sx [109]))], .lst [(.tup [(.str (sx [109])), (.str (sx [108]))])], .lst [(.tup [(.str (sx [112])), (.tup []), (.tup []), (.tup [(.tup []), (.tup [])]), (.tup [(.tup []), (.tup [])]), (.tup [(.tup [(.str (sx [104,111,108,100])), (.str (sx [109])), (.tup [(.tup [(.str (sx [99,97,108,108])), (.tup []), (.str (sx [113])), (.tup [])])])])])]), (.tup [(.str (sx [113])), (.tup []), (.tup []), (.tup [(.tup []), (.tup [])]), (.tup [(.tup []), (.tup [])]), (.tup [(.tup [(.str (sx [104,111,108,100])), (.str (sx [108])), (.tup [])])])])], .lst [(.str (sx [108])), (.str (sx [109]))], .lst [(.tup [(.str (sx [109])), (.str (sx [108]))])], .lst [(.tup [(.str (sx [112])), (.tup []), (.tup []), (.tup [(.tup []), (.tup [])]), (.tup [(.tup []), (.tup [])]), (.tup [(.tup [(.str (sx [104,111,108,100])), (.str (sx [109])), (.tup [(.tup [(.str (sx [99,97,108,108])), (.tup []), (.str (sx [113])), (.tup [])])])])])])], .lst [(.str (sx [108])), (.str (sx [109]))], .lst [(.tup [(.str (sx [108])), (.str (sx [109]))]), (.tup [(.str (sx [109])), (.str (sx [108]))])], .lst [(.tup [(.str (sx [112])), (.tup []), (.tup []), (.tup [(.tup []), (.tup [])]), (.tup [(.tup []), (.tup [])]), (.tup [(.tup [(.str (sx [104,111,108,100])), (.str (sx [107])), (.tup [(.tup [(.str (sx [98,111,116,104])), (.tup []), (.str (sx [113])), (.tup []), (.tup []), (.str (sx [114])), (.tup [])])])])])]), (.tup [(.str (sx [113])), (.tup []), (.tup []), (.tup [(.tup []), (.tup [])]), (.tup [(.tup []), (.tup [])]), (.tup [(.tup [(.str (sx [104,111,108,100])), (.str (sx [108])), (.tup [])])])]), (.tup [(.str (sx [114])), (.tup []), (.tup []), (.tup [(.tup []), (.tup [])]), (.tup [(.tup []), (.tup [])]), (.tup [(.tup [(.str (sx [104,111,108,100])), (.str (sx [109])), (.tup [])])])])], .lst [(.str (sx [108])), (.str (sx [109])), (.str (sx [107]))], .lst [(.tup [(.str (sx [107])), (.str (sx [108])), (.str (sx [109]))]), (.tup [(.str (sx [107])), (.str (sx [109])), (.str (sx [108]))])], .lst [(.tup [(.str (sx [112])), (.tup []), (.tup []), (.tup [(.tup []), (.tup [])]), (.tup [(.tup []), (.tup [])]), (.tup [(.tup [(.str (sx [104,111,108,100])), (.str (sx [122])), (.tup [(.tup [(.str (sx [104,111,108,100])), (.str (sx [108])), (.tup [])])])])])])], .lst [(.str (sx [108]))], .lst [(.tup [(.str (sx [108]))])], .lst [(.tup [(.str (sx [112])), (.tup []), (.tup []), (.tup [(.tup []), (.tup [])]), (.tup [(.tup []), (.tup [])]), (.tup [(.tup [(.str (sx [104,111,108,100])), (.str (sx [108])), (.tup [(.tup [(.str (sx [104,111,108,100])), (.str (sx [122])), (.tup [])])])])])])], .lst [(.str (sx [108]))], .lst [(.tup [(.str (sx [108]))])], .lst [(.tup [(.str (sx [112])), (.tup []), (.tup []), (.tup [(.tup []), (.tup [])]), (.tup [(.tup []), (.tup [])]), (.tup [(.tup [(.str (sx [105,102])), (.int 1), (.str (sx [105,115])), (.int 2), (.tup [(.tup [(.str (sx [104,111,108,100])), (.str (sx [109])), (.tup [(.tup [(.str (sx [104,111,108,100])), (.str (sx [108])), (.tup [])])])])]), (.tup [])])])])], .lst [(.str (sx [108])), (.str (sx [109]))], .lst [(.tup [(.str (sx [109])), (.str (sx [108]))])], .lst [(.tup [(.str (sx [112])), (.tup []), (.tup []), (.tup [(.tup []), (.tup [])]), (.tup [(.tup []), (.tup [])]), (.tup [(.tup [(.str (sx [119,104,105,108,101])), (.int 1), (.str (sx [105,115])), (.int 2), (.tup [(.tup []), (.tup [])]), (.tup [(.tup []), (.tup [])]), (.tup [(.tup [(.str (sx [104,111,108,100])), (.str (sx [109])), (.tup [(.tup [(.str (sx [104,111,108,100])), (.str (sx [108])), (.tup [])])])])])])])])], .lst [(.str (sx [108])), (.str (sx [109]))], .lst [(.tup [(.str (sx [109])), (.str (sx [108]))])], .lst [(.tup [(.str (sx [112])), (.tup []), (.tup []), (.tup [(.tup []), (.tup [])]), (.tup [(.tup []), (.tup [])]), (.tup [(.tup [(.str (sx [105,102])), (.int 1), (.str (sx [105,115])), (.int 1), (.tup []), (.tup [(.tup [(.str (sx [104,111,108,100])), (.str (sx [109])), (.tup [(.tup [(.str (sx [104,111,108,100])), (.str (sx [108])), (.tup [])])])])])])])])], .lst [(.str (sx [108])), (.str (sx [109]))], .lst [(.tup [(.str (sx [109])), (.str (sx [108]))])], .lst [(.tup [(.str (sx [112])), (.tup []), (.tup []), (.tup [(.tup []), (.tup [])]), (.tup [(.tup []), (.tup [])]), (.tup [(.tup [(.str (sx [104,111,108,100])), (.str (sx [109])), (.tup [(.tup [(.str (sx [99,97,108,108])), (.tup []), (.str (sx [113])), (.tup [(.int 1)])])])])])]), (.tup [(.str (sx [113])), (.tup []), (.tup []), (.tup [(.tup []), (.tup [])]), (.tup [(.tup []), (.tup [])]), (.tup [(.tup [(.str (sx [104,111,108,100])), (.str (sx [108])), (.tup [])])])])], .lst [(.str (sx [108])), (.str (sx [109]))], .lst [(.tup [(.str (sx [108])), (.str (sx [109]))]), (.tup [(.str (sx [109])), (.str (sx [108]))])], .lst [(.tup [(.str (sx [112])), (.tup []), (.tup []), (.tup [(.tup []), (.tup [])]), (.tup [(.tup []), (.tup [])]), (.tup [(.tup [(.str (sx [104,111,108,100])), (.str (sx [109])), (.tup [(.tup [(.str (sx [99,97,108,108])), (.tup [(.str (sx [97]))]), (.str (sx [113])), (.tup [])])])])])]), (.tup [(.str (sx [113])), (.tup []), (.tup []), (.tup [(.tup []), (.tup [])]), (.tup [(.tup []), (.tup [])]), (.tup [(.tup [(.str (sx [104,111,108,100])), (.str (sx [108])), (.tup [])])])])], .lst [(.str (sx [108])), (.str (sx [109]))], .lst [(.tup [(.str (sx [108])), (.str (sx [109]))]), (.tup [(.str (sx [109])), (.str (sx [108]))])], .lst [(.tup [(.str (sx [112])), (.tup []), (.tup []), (.tup [(.tup []), (.tup [])]), (.tup [(.tup []), (.tup [])]), (.tup [(.tup [(.str (sx [104,111,108,100])), (.str (sx [109])), (.tup [(.tup [(.str (sx [98,111,116,104])), (.tup [(.str (sx [97]))]), (.str (sx [113])), (.tup []), (.tup []), (.str (sx [113])), (.tup [(.int 1)])])])])])]), (.tup [(.str (sx [113])), (.tup []), (.tup []), (.tup [(.tup []), (.tup [])]), (.tup [(.tup []), (.tup [])]), (.tup [(.tup [(.str (sx [104,111,108,100])), (.str (sx [108])), (.tup [])])])])], .lst [(.str (sx [108])), (.str (sx [109]))], .lst [(.tup [(.str (sx [108])), (.str (sx [109]))]), (.tup [(.str (sx [109])), (.str (sx [108]))])], .lst [(.tup [(.str (sx [112])), (.tup []), (.tup []), (.tup [(.tup []), (.tup [])]), (.tup [(.tup []), (.tup [])]), (.tup [(.tup [(.str (sx [99,97,108,108])), (.tup []), (.str (sx [113])), (.tup [])])])]), (.tup [(.str (sx [113])), (.tup []), (.tup []), (.tup [(.tup []), (.tup [])]), (.tup [(.tup []), (.tup [])]), (.tup [(.tup [(.str (sx [104,111,108,100])), (.str (sx [109])), (.tup [(.tup [(.str (sx [99,97,108,108])), (.tup []), (.str (sx [114])), (.tup [])])])])])])], .lst [(.tup [(.str (sx [112])), (.tup []), (.tup []), (.tup [(.tup []), (.tup [])]), (.tup [(.tup []), (.tup [])]), (.tup [(.tup [(.str (sx [99,97,108,108])), (.tup []), (.str (sx [113])), (.tup [])])])]), (.tup [(.str (sx [113])), (.tup []), (.tup []), (.tup [(.tup []), (.tup [])]), (.tup [(.tup []), (.tup [])]), (.tup [(.tup [(.str (sx [104,111,108,100])), (.str (sx [109])), (.tup [(.tup [(.str (sx [99,97,108,108])), (.tup []), (.str (sx [114])), (.tup [])])])])])]), (.tup [(.str (sx [114])), (.tup []), (.tup []), (.tup [(.tup []), (.tup [])]), (.tup [(.tup []), (.tup [])]), (.tup [(.tup [(.str (sx [104,111,108,100])), (.str (sx [108])), (.tup [])])])])], .lst [(.str (sx [108])), (.str (sx [109]))], .lst [(.tup [(.str (sx [109])), (.str (sx [108]))])], .lst [], .lst [(.str (sx [108]))], .lst [(.str (sx [109])), (.str (sx [108]))], .lst [(.str (sx [109])), (.str (sx [108]))], .lst [(.str (sx [109])), (.str (sx [108]))], .lst [(.str (sx [109])), (.str (sx [108]))], .lst [(.str (sx [107])), (.str (sx [109])), (.str (sx [108]))], .lst [(.str (sx [108]))], .lst [(.str (sx [108]))], .lst [(.str (sx [109])), (.str (sx [108]))], .lst [(.str (sx [109])), (.str (sx [108]))], .lst [(.str (sx [109])), (.str (sx [108]))], .lst [(.str (sx [109])), (.str (sx [108]))], .lst [(.str (sx [109])), (.str (sx [108]))], .lst [(.str (sx [109])), (.str (sx [108]))], .lst [(.str (sx [109])), (.str (sx [108]))], .lst [(.tup [(.str (sx [112])), (.tup []), (.tup []), (.tup [(.tup []), (.tup [])]), (.tup [(.tup []), (.tup [])]), (.tup [(.tup [(.str (sx [104,111,108,100])), (.str (sx [108])), (.tup [(.tup [(.str (sx [104,111,108,100])), (.str (sx [108])), (.tup [])])])])])])], .lst [(.str (sx [108]))], .lst [(.tup [(.loc .lst 66), (.loc .lst 67), (.tup [(.tup [(.str (sx [108])), (.tup [(.tup [(.str (sx [112])), (.int 0)]), (.tup [(.str (sx [112])), (.int 1)])])])])]), (.tup [(.loc .lst 69), (.loc .lst 70), (.tup [(.tup [(.str (sx [108])), (.tup [(.tup [(.str (sx [112])), (.int 0)]), (.tup [(.str (sx [112])), (.int 1)]), (.tup [(.str (sx [113])), (.int 0)])])])])]), (.tup [(.loc .lst 71), (.loc .lst 72), (.tup [(.tup [(.str (sx [108])), (.tup [(.tup [(.str (sx [112])), (.int 0)]), (.tup [(.str (sx [112])), (.int 1)]), (.tup [(.str (sx [113])), (.int 0)])])])])]), (.tup [(.loc .lst 73), (.loc .lst 74), (.tup [(.tup [(.str (sx [108])), (.tup [(.tup [(.str (sx [112])), (.int 0)]), (.tup [(.str (sx [112])), (.int 1)])])]), (.tup [(.str (sx [109])), (.tup [(.tup [(.str (sx [113])), (.int 0)]), (.tup [(.str (sx [113])), (.int 1)])])])])]), (.tup [(.loc .lst 75), (.loc .lst 76), (.tup [(.tup [(.str (sx [108])), (.tup [(.tup [(.str (sx [112])), (.int 0)]), (.tup [(.str (sx [112])), (.int 1)])])]), (.tup [(.str (sx [109])), (.tup [(.tup [(.str (sx [113])), (.int 0)]), (.tup [(.str (sx [113])), (.int 1)])])]), (.tup [(.str (sx [107])), (.tup [(.tup [(.str (sx [114])), (.int 0)]), (.tup [(.str (sx [114])), (.int 1)])])])])]), (.tup [(.loc .lst 77), (.loc .lst 78), (.tup [(.tup [(.str (sx [108])), (.tup [(.tup [(.str (sx [112])), (.int 0)]), (.tup [(.str (sx [112])), (.int 1)]), (.tup [(.str (sx [112])), (.int 0)])])])])])], .lst [(.tup [(.str (sx [112])), (.tup []), (.tup []), (.tup [(.tup []), (.tup [])]), (.tup [(.tup []), (.tup [])]), (.tup [(.tup [(.str (sx [104,111,108,100])), (.str (sx [108])), (.tup [(.tup [(.str (sx [99,97,108,108])), (.tup []), (.str (sx [113])), (.tup [])])])])])]), (.tup [(.str (sx [113])), (.tup []), (.tup []), (.tup [(.tup []), (.tup [])]), (.tup [(.tup []), (.tup [])]), (.tup [(.tup [(.str (sx [104,111,108,100])), (.str (sx [108])), (.tup [])])])])], .lst [(.str (sx [108]))], .lst [(.tup [(.str (sx [112])), (.tup []), (.tup []), (.tup [(.tup []), (.tup [])]), (.tup [(.tup []), (.tup [])]), (.tup [(.tup [(.str (sx [104,111,108,100])), (.str (sx [108])), (.tup [(.tup [(.str (sx [98,111,116,104])), (.tup []), (.str (sx [122,122])), (.tup []), (.tup []), (.str (sx [113])), (.tup [])])])])])]), (.tup [(.str (sx [113])), (.tup []), (.tup []), (.tup [(.tup []), (.tup [])]), (.tup [(.tup []), (.tup [])]), (.tup [(.tup [(.str (sx [104,111,108,100])), (.str (sx [108])), (.tup [])])])])], .lst [(.str (sx [108])), (.str (sx [109]))], .lst [(.tup [(.str (sx [112])), (.tup []), (.tup []), (.tup [(.tup []), (.tup [])]), (.tup [(.tup []), (.tup [])]), (.tup [(.tup [(.str (sx [104,111,108,100])), (.str (sx [108])), (.tup [(.tup [(.str (sx [104,111,108,100])), (.str (sx [109])), (.tup [])])])])])]), (.tup [(.str (sx [113])), (.tup []), (.tup []), (.tup [(.tup []), (.tup [])]), (.tup [(.tup []), (.tup [])]), (.tup [(.tup [(.str (sx [104,111,108,100])), (.str (sx [109])), (.tup [(.tup [(.str (sx [104,111,108,100])), (.str (sx [108])), (.tup [])])])])])])], .lst [(.str (sx [109])), (.str (sx [108]))], .lst [(.tup [(.str (sx [112])), (.tup []), (.tup []), (.tup [(.tup []), (.tup [])]), (.tup [(.tup []), (.tup [])]), (.tup [(.tup [(.str (sx [104,111,108,100])), (.str (sx [108])), (.tup [(.tup [(.str (sx [104,111,108,100])), (.str (sx [109])), (.tup [])])])])])]), (.tup [(.str (sx [113])), (.tup []), (.tup []), (.tup [(.tup []), (.tup [])]), (.tup [(.tup []), (.tup [])]), (.tup [(.tup [(.str (sx [104,111,108,100])), (.str (sx [109])), (.tup [(.tup [(.str (sx [104,111,108,100])), (.str (sx [107])), (.tup [])])])])])]), (.tup [(.str (sx [114])), (.tup []), (.tup []), (.tup [(.tup []), (.tup [])]), (.tup [(.tup []), (.tup [])]), (.tup [(.tup [(.str (sx [104,111,108,100])), (.str (sx [107])), (.tup [(.tup [(.str (sx [104,111,108,100])), (.str (sx [108])), (.tup [])])])])])])], .lst [(.str (sx [108])), (.str (sx [109])), (.str (sx [107]))], .lst [(.tup [(.str (sx [112])), (.tup []), (.tup []), (.tup [(.tup []), (.tup [])]), (.tup [(.tup []), (.tup [])]), (.tup [(.tup [(.str (sx [104,111,108,100])), (.str (sx [108])), (.tup [(.tup [(.str (sx [99,97,108,108])), (.tup []), (.str (sx [112])), (.tup [])])])])])])], .lst [(.str (sx [108]))], .lst [(.str (sx [108]))], .lst [(.tup [(.tup [(.str (sx [108])), (.tup [(.tup [(.str (sx [112])), (.int 0)]), (.tup [(.str (sx [112])), (.int 1)])])])])], .lst [(.tup [(.tup [(.str (sx [108])), (.tup [(.tup [(.str (sx [112])), (.int 0)]), (.tup [(.str (sx [112])), (.int 1)])])])])], .lst [(.str (sx [108]))], .lst [(.tup [(.tup [(.str (sx [108])), (.tup [(.tup [(.str (sx [112])), (.int 0)]), (.tup [(.str (sx [112])), (.int 1)]), (.tup [(.str (sx [113])), (.int 0)])])])])], .lst [(.tup [(.tup [(.str (sx [108])), (.tup [(.tup [(.str (sx [112])), (.int 0)]), (.tup [(.str (sx [112])), (.int 1)]), (.tup [(.str (sx [113])), (.int 0)])])])])], .lst [(.str (sx [109])), (.str (sx [108]))], .lst [(.tup [(.tup [(.str (sx [108])), (.tup [(.tup [(.str (sx [112])), (.int 0)]), (.tup [(.str (sx [112])), (.int 1)]), (.tup [(.str (sx [113])), (.int 0)])])])])], .lst [(.tup [(.tup [(.str (sx [108])), (.tup [(.tup [(.str (sx [112])), (.int 0)]), (.tup [(.str (sx [112])), (.int 1)]), (.tup [(.str (sx [113])), (.int 0)])])])])]]
theorem q2_2 (ns : List Int) : stepL (kCs g FF 100000 (bodyOf (body 2))) (tgOf (body 2)) w2 (.tup [(.loc .lst 71), (.loc .lst 72), (.tup [(.tup [(.str (sx [108])), (.tup [(.tup [(.str (sx [112])), (.int 0)]), (.tup [(.str (sx [112])), (.int 1)]), (.tup [(.str (sx [113])), (.int 0)])])])])]) (e19 ns) S20 = some ((e20 ns), S21) := by kernel_rfl
def e21 (ns : List Int) : Env := [some (.scr ns), some (.tup [(.tup []), (.tup [])]), some (.loc .lst 73), some (.loc .lst 74), some (.tup [(.tup [(.str (sx [108])), (.tup [(.tup [(.str (sx [112])), (.int 0)]), (.tup [(.str (sx [112])), (.int 1)])])]), (.tup [(.str (sx [109])), (.tup [(.tup [(.str (sx [113])), (.int 0)]), (.tup [(.str (sx [113])), (.int 1)])])])]), some (.loc .lst 88), some (.str (sx [114,105,110,103])), some (.tup [(.tup [(.str (sx [108])), (.tup [(.tup [(.str (sx [112])), (.int 0)]), (.tup [(.str (sx [112])), (.int 1)])])]), (.tup [(.str (sx [109])), (.tup [(.tup [(.str (sx [113])), (.int 0)]), (.tup [(.str (sx [113])), (.int 1)])])])]), none, some (.loc .lst 90), none, none]
def S22 : Sto := [.lst [], .lst [], .lst [(.tup [])], .lst [], .lst [(.str (sx [108]))], .lst [(.tup [(.str (sx [108]))])], .lst [(.tup [(.str (sx [112])), (.tup []), (.tup []), (.tup [(.tup []), (.tup [])]), (.tup [(.tup []), (.tup [])]), (.tup [(.tup [(.str (sx [104,111,108,100])), (.str (sx [108])), (.tup [])]), (.tup [(.str (sx [104,111,108,100])), (.str (sx [109])), (.tup [])])])])], .lst [(.str (sx [108])), (.str (sx [109]))], .lst [(.tup [(.str (sx [108])), (.str (sx [109]))]), (.tup [(.str (sx [109])), (.str (sx [108]))])], .lst [(.tup [(.loc .lst 0), (.loc .lst 1), (.loc .lst 2)]), (.tup [(.loc .lst 3), (.loc .lst 4), (.loc .lst 5)]), (.tup [(.loc .lst 6), (.loc .lst 7), (.loc .lst 8)]), (.tup [(.loc .lst 10), (.loc .lst 11), (.loc .lst 12)]), (.tup [(.loc .lst 13), (.loc .lst 14), (.loc .lst 15)]), (.tup [(.loc .lst 16), (.loc .lst 17), (.loc .lst 18)]), (.tup [(.loc .lst 19), (.loc .lst 20), (.loc .lst 21)]), (.tup [(.loc .lst 22), (.loc .lst 23), (.loc .lst 24)]), (.tup [(.loc .lst 25), (.loc .lst 26), (.loc .lst 27)]), (.tup [(.loc .lst 28), (.loc .lst 29), (.loc .lst 30)]), (.tup [(.loc .lst 31), (.loc .lst 32), (.loc .lst 33)]), (.tup [(.loc .lst 34), (.loc .lst 35), (.loc .lst 36)]), (.tup [(.loc .lst 37), (.loc .lst 38), (.loc .lst 39)]), (.tup [(.loc .lst 40), (.loc .lst 41), (.loc .lst 42)]), (.tup [(.loc .lst 43), (.loc .lst 44), (.loc .lst 45)]), (.tup [(.loc .lst 47), (.loc .lst 48), (.loc .lst 49)])], .lst [(.tup [(.str (sx [112])), (.tup []), (.tup []), (.tup [(.tup []), (.tup [])]), (.tup [(.tup []), (.tup [])]), (.tup [(.tup [(.str (sx [104,111,108,100])), (.str (sx [109])), (.tup [(.tup [(.str (sx [104,111,108,100])), (.str (sx [108])), (.tup [])])])])])])], .lst [(.str (sx [108])), (.str (sx [109]))], .lst [(.tup [(.str (sx [109])), (.str (sx [108]))])], .lst [(.tup [(.str (sx [112])), (.tup []), (.tup []), (.tup [(.tup []), (.tup [])]), (.tup [(.tup []), (.tup [])]), (.tup [(.tup [(.str (sx [104,111,108,100])), (.str (sx [109])), (.tup [(.tup [(.str (sx [99,97,108,108])), (.tup []), (.str (sx [113])), (.tup [])])])])])]), (.tup [(.str (sx [113])), (.tup []), (.tup []), (.tup [(.tup []), (.tup [])]), (.tup [(.tup []), (.tup [])]), (.tup [(.tup [(.str (sx [104,111,108,100])), (.str (sx [108])), (.tup [])])])])], .lst [(.str (sx [108])), (.str (sx [109]))], .lst [(.tup [(.str (sx [109])), (.str (sx [108]))])], .lst [(.tup [(.str (sx [112])), (.tup []), (.tup []), (.tup [(.tup []), (.tup [])]), (.tup [(.tup []), (.tup [])]), (.tup [(.tup [(.str (sx [104,111,108,100])), (.str (sx [109])), (.tup [(.tup [(.str (sx [99,97,108,108])), (.tup []), (.str (sx [113])), (.tup [])])])])])])], .lst [(.str (sx [108])), (.str (sx [109]))], .lst [(.tup [(.str (sx [108])), (.str (sx [109]))]), (.tup [(.str (sx [109])), (.str (sx [108]))])], .lst [(.tup [(.str (sx [112])), (.tup []), (.tup []), (.tup [(.tup []), (.tup [])]), (.tup [(.tup []), (.tup [])]), (.tup [(.tup [(.str (sx [104,111,108,100])), (.str (sx [107])), (.tup [(.tup [(.str (sx [98,111,116,104])), (.tup []), (.str (sx [113])), (.tup []), (.tup []), (.str (sx [114])), (.tup [])])])])])]), (.tup [(.str (sx [113])), (.tup []), (.tup []), (.tup [(.tup []), (.tup [])]), (.tup [(.tup []), (.tup [])]), (.tup [(.tup [(.str (sx [104,111,108,100])), (.str (sx [108])), (.tup [])])])]), (.tup [(.str (sx [114])), (.tup []), (.tup []), (.tup [(.tup []), (.tup [])]), (.tup [(.tup []), (.tup [])]), (.tup [(.tup [(.str (sx [104,111,108,100])), (.str (sx [109])), (.tup [])])])])], .lst [(.str (sx [108])), (.str (sx [109])), (.str (sx [107]))], .lst [(.tup [(.str (sx [107])), (.str (sx [108])), (.str (sx [109]))]), (.tup [(.str (sx [107])), (.str (sx [109])), (.str (sx [108]))])], .lst [(.tup [(.str (sx [112])), (.tup []), (.tup []), (.tup [(.tup []), (.tup [])]), (.tup [(.tup []), (.tup [])]), (.tup [(.tup [(.str (sx [104,111,108,100])), (.str (sx [122])), (.tup [(.tup [(.str (sx [104,111,108,100])), (.str (sx [108])), (.tup [])])])])])])], .lst [(.str (sx [108]))], .lst [(.tup [(.str (sx [108]))])], .lst [(.tup [(.str (sx [112])), (.tup []), (.tup []), (.tup [(.tup []), (.tup [])]), (.tup [(.tup []), (.tup [])]), (.tup [(.tup [(.str (sx [104,111,108,100])), (.str (sx [108])), (.tup [(.tup [(.str (sx [104,111,108,100])), (.str (sx [122])), (.tup [])])])])])])], .lst [(.str (sx [108]))], .lst [(.tup [(.str (sx [108]))])], .lst [(.tup [(.str (sx [112])), (.tup []), (.tup []), (.tup [(.tup []), (.tup [])]), (.tup [(.tup []), (.tup [])]), (.tup [(.tup [(.str (sx [105,102])), (.int 1), (.str (sx [105,115])), (.int 2), (.tup [(.tup [(.str (sx [104,111,108,100])), (.str (sx [109])), (.tup [(.tup [(.str (sx [104,111,108,100])), (.str (sx [108])), (.tup [])])])])]), (.tup [])])])])], .lst [(.str (sx [108])), (.str (sx [109]))], .lst [(.tup [(.str (sx [109])), (.str (sx [108]))])], .lst [(.tup [(.str (sx [112])), (.tup []), (.tup []), (.tup [(.tup []), (.tup [])]), (.tup [(.tup []), (.tup [])]), (.tup [(.tup [(.str (sx [119,104,105,108,101])), (.int 1), (.str (sx [105,115])), (.int 2), (.tup [(.tup []), (.tup [])]), (.tup [(.tup []), (.tup [])]), (.tup [(.tup [(.str (sx [104,111,108,100])), (.str (sx [109])), (.tup [(.tup [(.str (sx [104,111,108,100])), (.str (sx [108])), (.tup [])])])])])])])])], .lst [(.str (sx [108])), (.str (sx [109]))], .lst [(.tup [(.str (sx [109])), (.str (sx [108]))])], .lst [(.tup [(.str (sx [112])), (.tup []), (.tup []), (.tup [(.tup []), (.tup [])]), (.tup [(.tup []), (.tup [])]), (.tup [(.tup [(.str (sx [105,102])), (.int 1), (.str (sx [105,115])), (.int 1), (.tup []), (.tup [(.tup [(.str (sx [104,111,108,100])), (.str (sx [109])), (.tup [(.tup [(.str (sx [104,111,108,100])), (.str (sx [108])), (.tup [])])])])])])])])], .lst [(.str (sx [108])), (.str (sx [109]))], .lst [(.tup [(.str (sx [109])), (.str (sx [108]))])], .lst [(.tup [(.str (sx [112])), (.tup []), (.tup []), (.tup [(.tup []), (.tup [])]), (.tup [(.tup []), (.tup [])]), (.tup [(.tup [(.str (sx [104,111,108,100])), (.str (sx [109])), (.tup [(.tup [(.str (sx [99,97,108,108])), (.tup []), (.str (sx [113])), (.tup [(.int 1)])])])])])]), (.tup [(.str (sx [113])), (.tup []), (.tup []), (.tup [(.tup []), (.tup [])]), (.tup [(.tup []), (.tup [])]), (.tup [(.tup [(.str (sx [104,111,108,100])), (.str (sx [108])), (.tup [])])])])], .lst [(.str (sx [108])), (.str (sx [109]))], .lst [(.tup [(.str (sx [108])), (.str (sx [109]))]), (.tup [(.str (sx [109])), (.str (sx [108]))])], .lst [(.tup [(.str (sx [112])), (.tup []), (.tup []), (.tup [(.tup []), (.tup [])]), (.tup [(.tup []), (.tup [])]), (.tup [(.tup [(.str (sx [104,111,108,100])), (.str (sx [109])), (.tup [(.tup [(.str (sx [99,97,108,108])), (.tup [(.str (sx [97]))]), (.str (sx [113])), (.tup [])])])])])]), (.tup [(.str (sx [113])), (.tup []), (.tup []), (.tup [(.tup []), (.tup [])]), (.tup [(.tup []), (.tup [])]), (.tup [(.tup [(.str (sx [104,111,108,100])), (.str (sx [108])), (.tup [])])])])], .lst [(.str (sx [108])), (.str (sx [109]))], .lst [(.tup [(.str (sx [108])), (.str (sx [109]))]), (.tup [(.str (sx [109])), (.str (sx [108]))])], .lst [(.tup [(.str (sx [112])), (.tup []), (.tup []), (.tup [(.tup []), (.tup [])]), (.tup [(.tup []), (.tup [])]), (.tup [(.tup [(.str (sx [104,111,108,100])), (.str (sx [109])), (.tup [(.tup [(.str (sx [98,111,116,104])), (.tup [(.str (sx [97]))]), (.str (sx [113])), (.tup []), (.tup []), (.str (sx [113])), (.tup [(.int 1)])])])])])]), (.tup [(.str (sx [113])), (.tup []), (.tup []), (.tup [(.tup []), (.tup [])]), (.tup [(.tup []), (.tup [])]), (.tup [(.tup [(.str (sx [104,111,108,100])), (.str (sx [108])), (.tup [])])])])], .lst [(.str (sx [108])), (.str (sx [109]))], .lst [(.tup [(.str (sx [108])), (.str (sx [109]))]), (.tup [(.str (sx [109])), (.str (sx [108]))])], .lst [(.tup [(.str (sx [112])), (.tup []), (.tup []), (.tup [(.tup []), (.tup [])]), (.tup [(.tup []), (.tup [])]), (.tup [(.tup [(.str (sx [99,97,108,108])), (.tup []), (.str (sx [113])), (.tup [])])])]), (.tup [(.str (sx [113])), (.tup []), (.tup []), (.tup [(.tup []), (.tup [])]), (.tup [(.tup []), (.tup [])]), (.tup [(.tup [(.str (sx [104,111,108,100])), (.str (sx [109])), (.tup [(.tup [(.str (sx [99,97,108,108])), (.tup []), (.str (sx [114])), (.tup [])])])])])])], .lst [(.tup [(.str (sx [112])), (.tup []), (.tup []), (.tup [(.tup []), (.tup [])]), (.tup [(.tup []), (.tup [])]), (.tup [(.tup [(.str (sx [99,97,108,108])), (.tup []), (.str (sx [113])), (.tup [])])])]), (.tup [(.str (sx [113])), (.tup []), (.tup []), (.tup [(.tup []), (.tup [])]), (.tup [(.tup []), (.tup [])]), (.tup [(.tup [(.str (sx [104,111,108,100])), (.str (sx [109])), (.tup [(.tup [(.str (sx [99,97,108,108])), (.tup []), (.str (sx [114])), (.tup [])])])])])]), (.tup [(.str (sx [114])), (.tup []), (.tup []), (.tup [(.tup []), (.tup [])]), (.tup [(.tup []), (.tup [])]), (.tup [(.tup [(.str (sx [104,111,108,100])), (.str (sx [108])), (.tup [])])])])], .lst [(.str (sx [108])), (.str (sx [109]))], .lst [(.tup [(.str (sx [109])), (.str (sx [108]))])], .lst [], .lst [(.str (sx [108]))], .lst [(.str (sx [109])), (.str (sx [108]))], .lst [(.str (sx [109])), (.str (sx [108]))], .lst [(.str (sx [109])), (.str (sx [108]))], .lst [(.str (sx [109])), (.str (sx [108]))], .lst [(.str (sx [107])), (.str (sx [109])), (.str (sx [108]))], .lst [(.str (sx [108]))], .lst [(.str (sx [108]))], .lst [(.str (sx [109])), (.str (sx [108]))], .lst [(.str (sx [109])), (.str (sx [108]))], .lst [(.str (sx [109])), (.str (sx [108]))], .lst [(.str (sx [109])), (.str (sx [108]))], .lst [(.str (sx [109])), (.str (sx [108]))], .lst [(.str (sx [109])), (.str (sx [108]))], .lst [(.str (sx [109])), (.str (sx [108]))], .lst [(.tup [(.str (sx [112])), (.tup []), (.tup []), (.tup [(.tup []), (.tup [])]), (.tup [(.tup []), (.tup [])]), (.tup [(.tup [(.str (sx [104,111,108,100])), (.str (sx [108])), (.tup [(.tup [(.str (sx [104,111,108,100])), (.str (sx [108])), (.tup [])])])])])])], .lst [(.str (sx [108]))], .lst [(.tup [(.loc .lst 66), (.loc .lst 67), (.tup [(.tup [(.str (sx [108])), (.tup [(.tup [(.str (sx [112])), (.int 0)]), (.tup [(.str (sx [112])), (.int 1)])])])])]), (.tup [(.loc .lst 69), (.loc .lst 70), (.tup [(.tup [(.str (sx [108])), (.tup [(.tup [(.str (sx [112])), (.int 0)]), (.tup [(.str (sx [112])), (.int 1)]), (.tup [(.str (sx [113])), (.int 0)])])])])]), (.tup [(.loc .lst 71), (.loc .lst 72), (.tup [(.tup [(.str (sx [108])), (.tup [(.tup [(.str (sx [112])), (.int 0)]), (.tup [(.str (sx [112])), (.int 1)]), (.tup [(.str (sx [113])), (.int 0)])])])])]), (.tup [(.loc .lst 73), (.loc .lst 74), (.tup [(.tup [(.str (sx [108])), (.tup [(.tup [(.str (sx [112])), (.int 0)]), (.tup [(.str (sx [112])), (.int 1)])])]), (.tup [(.str (sx [109])), (.tup [(.tup [(.str (sx [113])), (.int 0)]), (.tup [(.str (sx [113])), (.int 1)])])])])]), (.tup [(.loc .lst 75), (.loc .lst 76), (.tup [(.tup [(.str (sx [108])), (.tup [(.tup [(.str (sx [112])), (.int 0)]), (.tup [(.str (sx [112])), (.int 1)])])]), (.tup [(.str (sx [109])), (.tup [(.tup [(.str (sx [113])), (.int 0)]), (.tup [(.str (sx [113])), (.int 1)])])]), (.tup [(.str (sx [107])), (.tup [(.tup [(.str (sx [114])), (.int 0)]), (.tup [(.str (sx [114])), (.int 1)])])])])]), (.tup [(.loc .lst 77), (.loc .lst 78), (.tup [(.tup [(.str (sx [108])), (.tup [(.tup [(.str (sx [112])), (.int 0)]), (.tup [(.str (sx [112])), (.int 1)]), (.tup [(.str (sx [112])), (.int 0)])])])])])], .lst [(.tup [(.str (sx [112])), (.tup []), (.tup []), (.tup [(.tup []), (.tup [])]), (.tup [(.tup []), (.tup [])]), (.tup [(.tup [(.str (sx [104,111,108,100])), (.str (sx [108])), (.tup [(.tup [(.str (sx [99,97,108,108])), (.tup []), (.str (sx [113])), (.tup [])])])])])]), (.tup [(.str (sx [113])), (.tup []), (.tup []), (.tup [(.tup []), (.tup [])]), (.tup [(.tup []), (.tup [])]), (.tup [(.tup [(.str (sx [104,111,108,100])), (.str (sx [108])), (.tup [])])])])], .lst [(.str (sx [108]))], .lst [(.tup [(.str (sx [112])), (.tup []), (.tup []), (.tup [(.tup []), (.tup [])]), (.tup [(.tup []), (.tup [])]), (.tup [(.tup [(.str (sx [104,111,108,100])), (.str (sx [108])), (.tup [(.tup [(.str (sx [98,111,116,104])), (.tup []), (.str (sx [122,122])), (.tup []), (.tup []), (.str (sx [113])), (.tup [])])])])])]), (.tup [(.str (sx [113])), (.tup []), (.tup []), (.tup [(.tup []), (.tup [])]), (.tup [(.tup []), (.tup [])]), (.tup [(.tup [(.str (sx [104,111,108,100])), (.str (sx [108])), (.tup [])])])])], .lst [(.str (sx [108])), (.str (sx [109]))], .lst [(.tup [(.str (sx [112])), (.tup []), (.tup []), (.tup [(.tup []), (.tup [])]), (.tup [(.tup []), (.tup [])]), (.tup [(.tup [(.str (sx [104,111,108,100])), (.str (sx [108])), (.tup [(.tup [(.str (sx [104,111,108,100])), (.str (sx [109])), (.tup [])])])])])]), (.tup [(.str (sx [113])), (.tup []), (.tup []), (.tup [(.tup []), (.tup [])]), (.tup [(.tup []), (.tup [])]), (.tup [(.tup [(.str (sx [104,111,108,100])), (.str (sx [109])), (.tup [(.tup [(.str (sx [104,111,108,100])), (.str (sx [108])), (.tup [])])])])])])], .lst [(.str (sx [109])), (.str (sx [108]))], .lst [(.tup [(.str (sx [112])), (.tup []), (.tup []), (.tup [(.tup []), (.tup [])]), (.tup [(.tup []), (.tup [])]), (.tup [(.tup [(.str (sx [104,111,108,100])), (.str (sx [108])), (.tup [(.tup [(.str (sx [104,111,108,100])), (.str (sx [109])), (.tup [])])])])])]), (.tup [(.str (sx [113])), (.tup []), (.tup []), (.tup [(.tup []), (.tup [])]), (.tup [(.tup []), (.tup [])]), (.tup [(.tup [(.str (sx [104,111,108,100])), (.str (sx [109])), (.tup [(.tup [(.str (sx [104,111,108,100])), (.str (sx [107])), (.tup [])])])])])]), (.tup [(.str (sx [114])), (.tup []), (.tup []), (.tup [(.tup []), (.tup [])]), (.tup [(.tup []), (.tup [])]), (.tup [(.tup [(.str (sx [104,111,108,100])), (.str (sx [107])), (.tup [(.tup [(.str (sx [104,111,108,100])), (.str (sx [108])), (.tup [])])])])])])], .lst [(.str (sx [108])), (.str (sx [109])), (.str (sx [107]))], .lst [(.tup [(.str (sx [112])), (.tup []), (.tup []), (.tup [(.tup []), (.tup [])]), (.tup [(.tup []), (.tup [])]), (.tup [(.tup [(.str (sx [104,111,108,100])), (.str (sx [108])), (.tup [(.tup [(.str (sx [99,97,108,108])), (.tup []), (.str (sx [112])), (.tup [])])])])])])], .lst [(.str (sx [108]))], .lst [(.str (sx [108]))], .lst [(.tup [(.tup [(.str (sx [108])), (.tup [(.tup [(.str (sx [112])), (.int 0)]), (.tup [(.str (sx [112])), (.int 1)])])])])], .lst [(.tup [(.tup [(.str (sx [108])), (.tup [(.tup [(.str (sx [112])), (.int 0)]), (.tup [(.str (sx [112])), (.int 1)])])])])], .lst [(.str (sx [108]))], .lst [(.tup [(.tup [(.str (sx [108])), (.tup [(.tup [(.str (sx [112])), (.int 0)]), (.tup [(.str (sx [112])), (.int 1)]), (.tup [(.str (sx [113])), (.int 0)])])])])], .lst [(.tup [(.tup [(.str (sx [108])), (.tup [(.tup [(.str (sx [112])), (.int 0)]), (.tup [(.str (sx [112])), (.int 1)]), (.tup [(.str (sx [113])), (.int 0)])])])])], .lst [(.str (sx [109])), (.str (sx [108]))], .lst [(.tup [(.tup [(.str (sx [108])), (.tup [(.tup [(.str (sx [112])), (.int 0)]), (.tup [(.str (sx [112])), (.int 1)]), (.tup [(.str (sx [113])), (.int 0)])])])])], .lst [(.tup [(.tup [(.str (sx [108])), (.tup [(.tup [(.str (sx [112])), (.int 0)]), (.tup [(.str (sx [112])), (.int 1)]), (.tup [(.str (sx [113])), (.int 0)])])])])], .lst [(.str (sx [108])), (.str (sx [109]))], .lst [(.tup [(.tup [(.str (sx [108])), (.tup [(.tup [(.str (sx [112])), (.int 0)]), (.tup [(.str (sx [112])), (.int 1)])])]), (.tup [(.str (sx [109])), (.tup [(.tup [(.str (sx [113])), (.int 0)]), (.tup [(.str (sx [113])), (.int 1)])])])]), (.tup [(.tup [(.str (sx [109])), (.tup [(.tup [(.str (sx [113])), (.int 0)]), (.tup [(.str (sx [113])), (.int 1)])])]), (.tup [(.str (sx [108])), (.tup [(.tup [(.str (sx [112])), (.int 0)]), (.tup [(.str (sx [112])), (.int 1)])])])])], .lst [(.tup [(.tup [(.str (sx [108])), (.tup [(.tup [(.str (sx [112])), (.int 0)]), (.tup [(.str (sx [112])), (.int 1)])])]), (.tup [(.str (sx [109])), (.tup [(.tup [(.str (sx [113])), (.int 0)]), (.tup [(.str (sx [113])), (.int 1)])])])]), (.tup [(.tup [(.str (sx [109])), (.tup [(.tup [(.str (sx [113])), (.int 0)]), (.tup [(.str (sx [113])), (.int 1)])])]), (.tup [(.str (sx [108])), (.tup [(.tup [(.str (sx [112])), (.int 0)]), (.tup [(.str (sx [112])), (.int 1)])])])])]]
theorem q2_3 (ns : List Int) : stepL (kCs g FF 100000 (bodyOf (body 2))) (tgOf (body 2)) w2 (.tup [(.loc .lst 73), (.loc .lst 74), (.tup [(.tup [(.str (sx [108])), (.tup [(.tup [(.str (sx [112])), (.int 0)]), (.tup [(.str (sx [112])), (.int 1)])])]), (.tup [(.str (sx [109])), (.tup [(.tup [(.str (sx [113])), (.int 0)]), (.tup [(.str (sx [113])), (.int 1)])])])])]) (e20 ns) S21 = some ((e21 ns), S22) := by kernel_rfl
def e22 (ns : List Int) : Env := [some (.scr ns), some (.tup [(.tup []), (.tup [])]), some (.loc .lst 75), some (.loc .lst 76), some (.tup [(.tup [(.str (sx [108])), (.tup [(.tup [(.str (sx [112])), (.int 0)]), (.tup [(.str (sx [112])), (.int 1)])])]), (.tup [(.str (sx [109])), (.tup [(.tup [(.str (sx [113])), (.int 0)]), (.tup [(.str (sx [113])), (.int 1)])])]), (.tup [(.str (sx [107])), (.tup [(.tup [(.str (sx [114])), (.int 0)]), (.tup [(.str (sx [114])), (.int 1)])])])]), some (.loc .lst 91), some (.str (sx [114,105,110,103])), some (.tup [(.tup [(.str (sx [107])), (.tup [(.tup [(.str (sx [114])), (.int 0)]), (.tup [(.str (sx [114])), (.int 1)])])]), (.tup [(.str (sx [108])), (.tup [(.tup [(.str (sx [112])), (.int 0)]), (.tup [(.str (sx [112])), (.int 1)])])]), (.tup [(.str (sx [109])), (.tup [(.tup [(.str (sx [113])), (.int 0)]), (.tup [(.str (sx [113])), (.int 1)])])])]), none, some (.loc .lst 93), none, none]
def S23 : Sto := [.lst [], .lst [], .lst [(.tup [])], .lst [], .lst [(.str (sx [108]))], .lst [(.tup [(.str (sx [108]))])], .lst [(.tup [(.str (sx [112])), (.tup []), (.tup []), (.tup [(.tup []), (.tup [])]), (.tup [(.tup []), (.tup [])]), (.tup [(.tup [(.str (sx [104,111,108,100])), (.str (sx [108])), (.tup [])]), (.tup [(.str (sx [104,111,108,100])), (.str (sx [109])), (.tup [])])])])], .lst [(.str (sx [108])), (.str (sx [109]))], .lst [(.tup [(.str (sx [108])), (.str (sx [109]))]), (.tup [(.str (sx [109])), (.str (sx [108]))])], .lst [(.tup [(.loc .lst 0), (.loc .lst 1), (.loc .lst 2)]), (.tup [(.loc .lst 3), (.loc .lst 4), (.loc .lst 5)]), (.tup [(.loc .lst 6), (.loc .lst 7), (.loc .lst 8)]), (.tup [(.loc .lst 10), (.loc .lst 11), (.loc .lst 12)]), (.tup [(.loc .lst 13), (.loc .lst 14), (.loc .lst 15)]), (.tup [(.loc .lst 16), (.loc .lst 17), (.loc .lst 18)]), (.tup [(.loc .lst 19), (.loc .lst 20), (.loc .lst 21)]), (.tup [(.loc .lst 22), (.loc .lst 23), (.loc .lst 24)]), (.tup [(.loc .lst 25), (.loc .lst 26), (.loc .lst 27)]), (.tup [(.loc .lst 28), (.loc .lst 29), (.loc .lst 30)]), (.tup [(.loc .lst 31), (.loc .lst 32), (.loc .lst 33)]), (.tup [(.loc .lst 34), (.loc .lst 35), (.loc .lst 36)]), (.tup [(.loc .lst 37), (.loc .lst 38), (.loc .lst 39)]), (.tup [(.loc .lst 40), (.loc .lst 41), (.loc .lst 42)]), (.tup [(.loc .lst 43), (.loc .lst 44), (.loc .lst 45)]), (.tup [(.loc .lst 47), (.loc .lst 48), (.loc .lst 49)])], .lst [(.tup [(.str (sx [112])), (.tup []), (.tup []), (.tup [(.tup []), (.tup [])]), (.tup [(.tup []), (.tup [])]), (.tup [(.tup [(.str (sx [104,111,108,100])), (.str (sx [109])), (.tup [(.tup [(.str (sx [104,111,108,100])), (.str (sx [108])), (.tup [])])])])])])], .lst [(.str (sx [108])), (.str (sx [109]))], .lst [(.tup [(.str (sx [109])), (.str (sx [108]))])], .lst [(.tup [(.str (sx [112])), (.tup []), (.tup []), (.tup [(.tup []), (.tup [])]), (.tup [(.tup []), (.tup [])]), (.tup [(.tup [(.str (sx [104,111,108,100])), (.str (sx [109])), (.tup [(.tup [(.str (sx [99,97,108,108])), (.tup []), (.str (sx [113])), (.tup [])])])])])]), (.tup [(.str (sx [113])), (.tup []), (.tup []), (.tup [(.tup []), (.tup [])]), (.tup [(.tup []), (.tup [])]), (.tup [(.tup [(.str (sx [104,111,108,100])), (.str (sx [108])), (.tup [])])])])], .lst [(.str (sx [108])), (.str (sx [109]))], .lst [(.tup [(.str (sx [109])), (.str (sx [108]))])], .lst [(.tup [(.str (sx [112])), (.tup []), (.tup []), (.tup [(.tup []), (.tup [])]), (.tup [(.tup []), (.tup [])]), (.tup [(.tup [(.str (sx [104,111,108,100])), (.str (sx [109])), (.tup [(.tup [(.str (sx [99,97,108,108])), (.tup []), (.str (sx [113])), (.tup [])])])])])])], .lst [(.str (sx [108])), (.str (sx [109]))], .lst [(.tup [(.str (sx [108])), (.str (sx [109]))]), (.tup [(.str (sx [109])), (.str (sx [108]))])], .lst [(.tup [(.str (sx [112])), (.tup []), (.tup []), (.tup [(.tup []), (.tup [])]), (.tup [(.tup []), (.tup [])]), (.tup [(.tup [(.str (sx [104,111,108,100])), (.str (sx [107])), (.tup [(.tup [(.str (sx [98,111,116,104])), (.tup []), (.str (sx [113])), (.tup []), (.tup []), (.str (sx [114])), (.tup [])])])])])]), (.tup [(.str (sx [113])), (.tup []), (.tup []), (.tup [(.tup []), (.tup [])]), (.tup [(.tup []), (.tup [])]), (.tup [(.tup [(.str (sx [104,111,108,100])), (.str (sx [108])), (.tup [])])])]), (.tup [(.str (sx [114])), (.tup []), (.tup []), (.tup [(.tup []), (.tup [])]), (.tup [(.tup []), (.tup [])]), (.tup [(.tup [(.str (sx [104,111,108,100])), (.str (sx [109])), (.tup [])])])])], .lst [(.str (sx [108])), (.str (sx [109])), (.str (sx [107]))], .lst [(.tup [(.str (sx [107])), (.str (sx [108])), (.str (sx [109]))]), (.tup [(.str (sx [107])), (.str (sx [109])), (.str (sx [108]))])], .lst [(.tup [(.str (sx [112])), (.tup []), (.tup []), (.tup [(.tup []), (.tup [])]), (.tup [(.tup []), (.tup [])]), (.tup [(.tup [(.str (sx [104,111,108,100])), (.str (sx [122])), (.tup [(.tup [(.str (sx [104,111,108,100])), (.str (sx [108])), (.tup [])])])])])])], .lst [(.str (sx [108]))], .lst [(.tup [(.str (sx [108]))])], .lst [(.tup [(.str (sx [112])), (.tup []), (.tup []), (.tup [(.tup []), (.tup [])]), (.tup [(.tup []), (.tup [])]), (.tup [(.tup [(.str (sx [104,111,108,100])), (.str (sx [108])), (.tup [(.tup [(.str (sx [104,111,108,100])), (.str (sx [122])), (.tup [])])])])])])], .lst [(.str (sx [108]))], .lst [(.tup [(.str (sx [108]))])], .lst [(.tup [(.str (sx [112])), (.tup []), (.tup []), (.tup [(.tup []), (.tup [])]), (.tup [(.tup []), (.tup [])]), (.tup [(.tup [(.str (sx [105,102])), (.int 1), (.str (sx [105,115])), (.int 2), (.tup [(.tup [(.str (sx [104,111,108,100])), (.str (sx [109])), (.tup [(.tup [(.str (sx [104,111,108,100])), (.str (sx [108])), (.tup [])])])])]), (.tup [])])])])], .lst [(.str (sx [108])), (.str (sx [109]))], .lst [(.tup [(.str (sx [109])), (.str (sx [108]))])], .lst [(.tup [(.str (sx [112])), (.tup []), (.tup []), (.tup [(.tup []), (.tup [])]), (.tup [(.tup []), (.tup [])]), (.tup [(.tup [(.str (sx [119,104,105,108,101])), (.int 1), (.str (sx [105,115])), (.int 2), (.tup [(.tup []), (.tup [])]), (.tup [(.tup []), (.tup [])]), (.tup [(.tup [(.str (sx [104,111,108,100])), (.str (sx [109])), (.tup [(.tup [(.str (sx [104,111,108,100])), (.str (sx [108])), (.tup [])])])])])])])])], .lst [(.str (sx [108])), (.str (sx [109]))], .lst [(.tup [(.str (sx [109])), (.str (sx [108]))])], .lst [(.tup [(.str (sx [112])), (.tup []), (.tup []), (.tup [(.tup []), (.tup [])]), (.tup [(.tup []), (.tup [])]), (.tup [(.tup [(.str (sx [105,102])), (.int 1), (.str (sx [105,115])), (.int 1), (.tup []), (.tup [(.tup [(.str (sx [104,111,108,100])), (.str (sx [109])), (.tup [(.tup [(.str (sx [104,111,108,100])), (.str (sx [108])), (.tup [])])])])])])])])], .lst [(.str (sx [108])), (.str (sx [109]))], .lst [(.tup [(.str (sx [109])), (.str (sx [108]))])], .lst [(.tup [(.str (sx [112])), (.tup []), (.tup []), (.tup [(.tup []), (.tup [])]), (.tup [(.tup []), (.tup [])]), (.tup [(.tup [(.str (sx [104,111,108,100])), (.str (sx [109])), (.tup [(.tup [(.str (sx [99,97,108,108])), (.tup []), (.str (sx [113])), (.tup [(.int 1)])])])])])]), (.tup [(.str (sx [113])), (.tup []), (.tup []), (.tup [(.tup []), (.tup [])]), (.tup [(.tup []), (.tup [])]), (.tup [(.tup [(.str (sx [104,111,108,100])), (.str (sx [108])), (.tup [])])])])], .lst [(.str (sx [108])), (.str (sx [109]))], .lst [(.tup [(.str (sx [108])), (.str (sx [109]))]), (.tup [(.str (sx [109])), (.str (sx [108]))])], .lst [(.tup [(.str (sx [112])), (.tup []), (.tup []), (.tup [(.tup []), (.tup [])]), (.tup [(.tup []), (.tup [])]), (.tup [(.tup [(.str (sx [104,111,108,100])), (.str (sx [109])), (.tup [(.tup [(.str (sx [99,97,108,108])), (.tup [(.str (sx [97]))]), (.str (sx [113])), (.tup [])])])])])]), (.tup [(.str (sx [113])), (.tup []), (.tup []), (.tup [(.tup []), (.tup [])]), (.tup [(.tup []), (.tup [])]), (.tup [(.tup [(.str (sx [104,111,108,100])), (.str (sx [108])), (.tup [])])])])], .lst [(.str (sx [108])), (.str (sx [109]))], .lst [(.tup [(.str (sx [108])), (.str (sx [109]))]), (.tup [(.str (sx [109])), (.str (sx [108]))])], .lst [(.tup [(.str (sx [112])), (.tup []), (.tup []), (.tup [(.tup []), (.tup [])]), (.tup [(.tup []), (.tup [])]), (.tup [(.tup [(.str (sx [104,111,108,100])), (.str (sx [109])), (.tup [(.tup [(.str (sx [98,111,116,104])), (.tup [(.str (sx [97]))]), (.str (sx [113])), (.tup []), (.tup []), (.str (sx [113])), (.tup [(.int 1)])])])])])]), (.tup [(.str (sx [113])), (.tup []), (.tup []), (.tup [(.tup []), (.tup [])]), (.tup [(.tup []), (.tup [])]), (.tup [(.tup [(.str (sx [104,111,108,100])), (.str (sx [108])), (.tup [])])])])], .lst [(.str (sx [108])), (.str (sx [109]))], .lst [(.tup [(.str (sx [108])), (.str (sx [109]))]), (.tup [(.str (sx [109])), (.str (sx [108]))])], .lst [(.tup [(.str (sx [112])), (.tup []), (.tup []), (.tup [(.tup []), (.tup [])]), (.tup [(.tup []), (.tup [])]), (.tup [(.tup [(.str (sx [99,97,108,108])), (.tup []), (.str (sx [113])), (.tup [])])])]), (.tup [(.str (sx [113])), (.tup []), (.tup []), (.tup [(.tup []), (.tup [])]), (.tup [(.tup []), (.tup [])]), (.tup [(.tup [(.str (sx [104,111,108,100])), (.str (sx [109])), (.tup [(.tup [(.str (sx [99,97,108,108])), (.tup []), (.str (sx [114])), (.tup [])])])])])])], .lst [(.tup [(.str (sx [112])), (.tup []), (.tup []), (.tup [(.tup []), (.tup [])]), (.tup [(.tup []), (.tup [])]), (.tup [(.tup [(.str (sx [99,97,108,108])), (.tup []), (.str (sx [113])), (.tup [])])])]), (.tup [(.str (sx [113])), (.tup []), (.tup []), (.tup [(.tup []), (.tup [])]), (.tup [(.tup []), (.tup [])]), (.tup [(.tup [(.str (sx [104,111,108,100])), (.str (sx [109])), (.tup [(.tup [(.str (sx [99,97,108,108])), (.tup []), (.str (sx [114])), (.tup [])])])])])]), (.tup [(.str (sx [114])), (.tup []), (.tup []), (.tup [(.tup []), (.tup [])]), (.tup [(.tup []), (.tup [])]), (.tup [(.tup [(.str (sx [104,111,108,100])), (.str (sx [108])), (.tup [])])])])], .lst [(.str (sx [108])), (.str (sx [109]))], .lst [(.tup [(.str (sx [109])), (.str (sx [108]))])], .lst [], .lst [(.str (sx [108]))], .lst [(.str (sx [109])), (.str (sx [108]))], .lst [(.str (sx [109])), (.str (sx [108]))], .lst [(.str (sx [109])), (.str (sx [108]))], .lst [(.str (sx [109])), (.str (sx [108]))], .lst [(.str (sx [107])), (.str (sx [109])), (.str (sx [108]))], .lst [(.str (sx [108]))], .lst [(.str (sx [108]))], .lst [(.str (sx [109])), (.str (sx [108]))], .lst [(.str (sx [109])), (.str (sx [108]))], .lst [(.str (sx [109])), (.str (sx [108]))], .lst [(.str (sx [109])), (.str (sx [108]))], .lst [(.str (sx [109])), (.str (sx [108]))], .lst [(.str (sx [109])), (.str (sx [108]))], .lst [(.str (sx [109])), (.str (sx [108]))], .lst [(.tup [(.str (sx [112])), (.tup []), (.tup []), (.tup [(.tup []), (.tup [])]), (.tup [(.tup []), (.tup [])]), (.tup [(.tup [(.str (sx [104,111,108,100])), (.str (sx [108])), (.tup [(.tup [(.str (sx [104,111,108,100])), (.str (sx [108])), (.tup [])])])])])])], .lst [(.str (sx [108]))], .lst [(.tup [(.loc .lst 66), (.loc .lst 67), (.tup [(.tup [(.str (sx [108])), (.tup [(.tup [(.str (sx [112])), (.int 0)]), (.tup [(.str (sx [112])), (.int 1)])])])])]), (.tup [(.loc .lst 69), (.loc .lst 70), (.tup [(.tup [(.str (sx [108])), (.tup [(.tup [(.str (sx [112])), (.int 0)]), (.tup [(.str (sx [112])), (.int 1)]), (.tup [(.str (sx [113])), (.int 0)])])])])]), (.tup [(.loc .lst 71), (.loc .lst 72), (.tup [(.tup [(.str (sx [108])), (.tup [(.tup [(.str (sx [112])), (.int 0)]), (.tup [(.str (sx [112])), (.int 1)]), (.tup [(.str (sx [113])), (.int 0)])])])])]), (.tup [(.loc .lst 73), (.loc .lst 74), (.tup [(.tup [(.str (sx [108])), (.tup [(.tup [(.str (sx [112])), (.int 0)]), (.tup [(.str (sx [112])), (.int 1)])])]), (.tup [(.str (sx [109])), (.tup [(.tup [(.str (sx [113])), (.int 0)]), (.tup [(.str (sx [113])), (.int 1)])])])])]), (.tup [(.loc .lst 75), (.loc .lst 76), (.tup [(.tup [(.str (sx [108])), (.tup [(.tup [(.str (sx [112])), (.int 0)]), (.tup [(.str (sx [112])), (.int 1)])])]), (.tup [(.str (sx [109])), (.tup [(.tup [(.str (sx [113])), (.int 0)]), (.tup [(.str (sx [113])), (.int 1)])])]), (.tup [(.str (sx [107])), (.tup [(.tup [(.str (sx [114])), (.int 0)]), (.tup [(.str (sx [114])), (.int 1)])])])])]), (.tup [(.loc .lst 77), (.loc .lst 78), (.tup [(.tup [(.str (sx [108])), (.tup [(.tup [(.str (sx [112])), (.int 0)]), (.tup [(.str (sx [112])), (.int 1)]), (.tup [(.str (sx [112])), (.int 0)])])])])])], .lst [(.tup [(.str (sx [112])), (.tup []), (.tup []), (.tup [(.tup []), (.tup [])]), (.tup [(.tup []), (.tup [])]), (.tup [(.tup [(.str (sx [104,111,108,100])), (.str (sx [108])), (.tup [(.tup [(.str (sx [99,97,108,108])), (.tup []), (.str (sx [113])), (.tup [])])])])])]), (.tup [(.str (sx [113])), (.tup []), (.tup []), (.tup [(.tup []), (.tup [])]), (.tup [(.tup []), (.tup [])]), (.tup [(.tup [(.str (sx [104,111,108,100])), (.str (sx [108])), (.tup [])])])])], .lst [(.str (sx [108]))], .lst [(.tup [(.str (sx [112])), (.tup []), (.tup []), (.tup [(.tup []), (.tup [])]), (.tup [(.tup []), (.tup [])]), (.tup [(.tup [(.str (sx [104,111,108,100])), (.str (sx [108])), (.tup [(.tup [(.str (sx [98,111,116,104])), (.tup []), (.str (sx [122,122])), (.tup []), (.tup []), (.str (sx [113])), (.tup [])])])])])]), (.tup [(.str (sx [113])), (.tup []), (.tup []), (.tup [(.tup []), (.tup [])]), (.tup [(.tup []), (.tup [])]), (.tup [(.tup [(.str (sx [104,111,108,100])), (.str (sx [108])), (.tup [])])])])], .lst [(.str (sx [108])), (.str (sx [109]))], .lst [(.tup [(.str (sx [112])), (.tup []), (.tup []), (.tup [(.tup []), (.tup [])]), (.tup [(.tup []), (.tup [])]), (.tup [(.tup [(.str (sx [104,111,108,100])), (.str (sx [108])), (.tup [(.tup [(.str (sx [104,111,108,100])), (.str (sx [109])), (.tup [])])])])])]), (.tup [(.str (sx [113])), (.tup []), (.tup []), (.tup [(.tup []), (.tup [])]), (.tup [(.tup []), (.tup [])]), (.tup [(.tup [(.str (sx [104,111,108,100])), (.str (sx [109])), (.tup [(.tup [(.str (sx [104,111,108,100])), (.str (sx [108])), (.tup [])])])])])])], .lst [(.str (sx [109])), (.str (sx [108]))], .lst [(.tup [(.str (sx [112])), (.tup []), (.tup []), (.tup [(.tup []), (.tup [])]), (.tup [(.tup []), (.tup [])]), (.tup [(.tup [(.str (sx [104,111,108,100])), (.str (sx [108])), (.tup [(.tup [(.str (sx [104,111,108,100])), (.str (sx [109])), (.tup [])])])])])]), (.tup [(.str (sx [113])), (.tup []), (.tup []), (.tup [(.tup []), (.tup [])]), (.tup [(.tup []), (.tup [])]), (.tup [(.tup [(.str (sx [104,111,108,100])), (.str (sx [109])), (.tup [(.tup [(.str (sx [104,111,108,100])), (.str (sx [107])), (.tup [])])])])])]), (.tup [(.str (sx [114])), (.tup []), (.tup []), (.tup [(.tup []), (.tup [])]), (.tup [(.tup []), (.tup [])]), (.tup [(.tup [(.str (sx [104,111,108,100])), (.str (sx [107])), (.tup [(.tup [(.str (sx [104,111,108,100])), (.str (sx [108])), (.tup [])])])])])])], .lst [(.str (sx [108])), (.str (sx [109])), (.str (sx [107]))], .lst [(.tup [(.str (sx [112])), (.tup []), (.tup []), (.tup [(.tup []), (.tup [])]), (.tup [(.tup []), (.tup [])]), (.tup [(.tup [(.str (sx [104,111,108,100])), (.str (sx [108])), (.tup [(.tup [(.str (sx [99,97,108,108])), (.tup []), (.str (sx [112])), (.tup [])])])])])])], .lst [(.str (sx [108]))], .lst [(.str (sx [108]))], .lst [(.tup [(.tup [(.str (sx [108])), (.tup [(.tup [(.str (sx [112])), (.int 0)]), (.tup [(.str (sx [112])), (.int 1)])])])])], .lst [(.tup [(.tup [(.str (sx [108])), (.tup [(.tup [(.str (sx [112])), (.int 0)]), (.tup [(.str (sx [112])), (.int 1)])])])])], .lst [(.str (sx [108]))], .lst [(.tup [(.tup [(.str (sx [108])), (.tup [(.tup [(.str (sx [112])), (.int 0)]), (.tup [(.str (sx [112])), (.int 1)]), (.tup [(.str (sx [113])), (.int 0)])])])])], .lst [(.tup [(.tup [(.str (sx [108])), (.tup [(.tup [(.str (sx [112])), (.int 0)]), (.tup [(.str (sx [112])), (.int 1)]), (.tup [(.str (sx [113])), (.int 0)])])])])], .lst [(.str (sx [109])), (.str (sx [108]))], .lst [(.tup [(.tup [(.str (sx [108])), (.tup [(.tup [(.str (sx [112])), (.int 0)]), (.tup [(.str (sx [112])), (.int 1)]), (.tup [(.str (sx [113])), (.int 0)])])])])], .lst [(.tup [(.tup [(.str (sx [108])), (.tup [(.tup [(.str (sx [112])), (.int 0)]), (.tup [(.str (sx [112])), (.int 1)]), (.tup [(.str (sx [113])), (.int 0)])])])])], .lst [(.str (sx [108])), (.str (sx [109]))], .lst [(.tup [(.tup [(.str (sx [108])), (.tup [(.tup [(.str (sx [112])), (.int 0)]), (.tup [(.str (sx [112])), (.int 1)])])]), (.tup [(.str (sx [109])), (.tup [(.tup [(.str (sx [113])), (.int 0)]), (.tup [(.str (sx [113])), (.int 1)])])])]), (.tup [(.tup [(.str (sx [109])), (.tup [(.tup [(.str (sx [113])), (.int 0)]), (.tup [(.str (sx [113])), (.int 1)])])]), (.tup [(.str (sx [108])), (.tup [(.tup [(.str (sx [112])), (.int 0)]), (.tup [(.str (sx [112])), (.int 1)])])])])], .lst [(.tup [(.tup [(.str (sx [108])), (.tup [(.tup [(.str (sx [112])), (.int 0)]), (.tup [(.str (sx [112])), (.int 1)])])]), (.tup [(.str (sx [109])), (.tup [(.tup [(.str (sx [113])), (.int 0)]), (.tup [(.str (sx [113])), (.int 1)])])])]), (.tup [(.tup [(.str (sx [109])), (.tup [(.tup [(.str (sx [113])), (.int 0)]), (.tup [(.str (sx [113])), (.int 1)])])]), (.tup [(.str (sx [108])), (.tup [(.tup [(.str (sx [112])), (.int 0)]), (.tup [(.str (sx [112])), (.int 1)])])])])], .lst [(.str (sx [107])), (.str (sx [109])), (.str (sx [108]))], .lst [(.tup [(.tup [(.str (sx [108])), (.tup [(.tup [(.str (sx [112])), (.int 0)]), (.tup [(.str (sx [112])), (.int 1)])])]), (.tup [(.str (sx [109])), (.tup [(.tup [(.str (sx [113])), (.int 0)]), (.tup [(.str (sx [113])), (.int 1)])])]), (.tup [(.str (sx [107])), (.tup [(.tup [(.str (sx [114])), (.int 0)]), (.tup [(.str (sx [114])), (.int 1)])])])]), (.tup [(.tup [(.str (sx [109])), (.tup [(.tup [(.str (sx [113])), (.int 0)]), (.tup [(.str (sx [113])), (.int 1)])])]), (.tup [(.str (sx [107])), (.tup [(.tup [(.str (sx [114])), (.int 0)]), (.tup [(.str (sx [114])), (.int 1)])])]), (.tup [(.str (sx [108])), (.tup [(.tup [(.str (sx [112])), (.int 0)]), (.tup [(.str (sx [112])), (.int 1)])])])]), (.tup [(.tup [(.str (sx [107])), (.tup [(.tup [(.str (sx [114])), (.int 0)]), (.tup [(.str (sx [114])), (.int 1)])])]), (.tup [(.str (sx [108])), (.tup [(.tup [(.str (sx [112])), (.int 0)]), (.tup [(.str (sx [112])), (.int 1)])])]), (.tup [(.str (sx [109])), (.tup [(.tup [(.str (sx [113])), (.int 0)]), (.tup [(.str (sx [113])), (.int 1)])])])])], .lst [(.tup [(.tup [(.str (sx [108])), (.tup [(.tup [(.str (sx [112])), (.int 0)]), (.tup [(.str (sx [112])), (.int 1)])])]), (.tup [(.str (sx [109])), (.tup [(.tup [(.str (sx [113])), (.int 0)]), (.tup [(.str (sx [113])), (.int 1)])])]), (.tup [(.str (sx [107])), (.tup [(.tup [(.str (sx [114])), (.int 0)]), (.tup [(.str (sx [114])), (.int 1)])])])]), (.tup [(.tup [(.str (sx [109])), (.tup [(.tup [(.str (sx [113])), (.int 0)]), (.tup [(.str (sx [113])), (.int 1)])])]), (.tup [(.str (sx [107])), (.tup [(.tup [(.str (sx [114])), (.int 0)]), (.tup [(.str (sx [114])), (.int 1)])])]), (.tup [(.str (sx [108])), (.tup [(.tup [(.str (sx [112])), (.int 0)]), (.tup [(.str (sx [112])), (.int 1)])])])]), (.tup [(.tup [(.str (sx [107])), (.tup [(.tup [(.str (sx [114])), (.int 0)]), (.tup [(.str (sx [114])), (.int 1)])])]), (.tup [(.str (sx [108])), (.tup [(.tup [(.str (sx [112])), (.int 0)]), (.tup [(.str (sx [112])), (.int 1)])])]), (.tup [(.str (sx [109])), (.tup [(.tup [(.str (sx [113])), (.int 0)]), (.tup [(.str (sx [113])), (.int 1)])])])])]]
theorem q2_4 (ns : List Int) : stepL (kCs g FF 100000 (bodyOf (body 2))) (tgOf (body 2)) w2 (.tup [(.loc .lst 75), (.loc .lst 76), (.tup [(.tup [(.str (sx [108])), (.tup [(.tup [(.str (sx [112])), (.int 0)]), (.tup [(.str (sx [112])), (.int 1)])])]), (.tup [(.str (sx [109])), (.tup [(.tup [(.str (sx [113])), (.int 0)]), (.tup [(.str (sx [113])), (.int 1)])])]), (.tup [(.str (sx [107])), (.tup [(.tup [(.str (sx [114])), (.int 0)]), (.tup [(.str (sx [114])), (.int 1)])])])])]) (e21 ns) S22 = some ((e22 ns), S23) := by kernel_rfl
def e23 (ns : List Int) : Env := [some (.scr ns), some (.tup [(.tup []), (.tup [])]), some (.loc .lst 77), some (.loc .lst 78), some (.tup [(.tup [(.str (sx [108])), (.tup [(.tup [(.str (sx [112])), (.int 0)]), (.tup [(.str (sx [112])), (.int 1)]), (.tup [(.str (sx [112])), (.int 0)])])])]), some (.loc .lst 94), some (.str (sx [114,105,110,103])), some (.tup [(.tup [(.str (sx [108])), (.tup [(.tup [(.str (sx [112])), (.int 0)]), (.tup [(.str (sx [112])), (.int 1)]), (.tup [(.str (sx [112])), (.int 0)])])])]), none, some (.loc .lst 96), none, none]
def S24 : Sto := [.lst [], .lst [], .lst [(.tup [])], .lst [], .lst [(.str (sx [108]))], .lst [(.tup [(.str (sx [108]))])], .lst [(.tup [(.str (sx [112])), (.tup []), (.tup []), (.tup [(.tup []), (.tup [])]), (.tup [(.tup []), (.tup [])]), (.tup [(.tup [(.str (sx [104,111,108,100])), (.str (sx [108])), (.tup [])]), (.tup [(.str (sx [104,111,108,100])), (.str (sx [109])), (.tup [])])])])], .lst [(.str (sx [108])), (.str (sx [109]))], .lst [(.tup [(.str (sx [108])), (.str (sx [109]))]), (.tup [(.str (sx [109])), (.str (sx [108]))])], .lst [(.tup [(.loc .lst 0), (.loc .lst 1), (.loc .lst 2)]), (.tup [(.loc .lst 3), (.loc .lst 4), (.loc .lst 5)]), (.tup [(.loc .lst 6), (.loc .lst 7), (.loc .lst 8)]), (.tup [(.loc .lst 10), (.loc .lst 11), (.loc .lst 12)]), (.tup [(.loc .lst 13), (.loc .lst 14), (.loc .lst 15)]), (.tup [(.loc .lst 16), (.loc .lst 17), (.loc .lst 18)]), (.tup [(.loc .lst 19), (.loc .lst 20), (.loc .lst 21)]), (.tup [(.loc .lst 22), (.loc .lst 23), (.loc .lst 24)]), (.tup [(.loc .lst 25), (.loc .lst 26), (.loc .lst 27)]), (.tup [(.loc .lst 28), (.loc .lst 29), (.loc .lst 30)]), (.tup [(.loc .lst 31), (.loc .lst 32), (.loc .lst 33)]), (.tup [(.loc .lst 34), (.loc .lst 35), (.loc .lst 36)]), (.tup [(.loc .lst 37), (.loc .lst 38), (.loc .lst 39)]), (.tup [(.loc .lst 40), (.loc .lst 41), (.loc .lst 42)]), (.tup [(.loc .lst 43), (.loc .lst 44), (.loc .lst 45)]), (.tup [(.loc .lst 47), (.loc .lst 48), (.loc .lst 49)])], .lst [(.tup [(.str (sx [112])), (.tup []), (.tup []), (.tup [(.tup []), (.tup [])]), (.tup [(.tup []), (.tup [])]), (.tup [(.tup [(.str (sx [104,111,108,100])), (.str (sx [109])), (.tup [(.tup [(.str (sx [104,111,108,100])), (.str (sx [108])), (.tup [])])])])])])], .lst [(.str (sx [108])), (.str (sx [109]))], .lst [(.tup [(.str (sx [109])), (.str (sx [108]))])], .lst [(.tup [(.str (sx [112])), (.tup []), (.tup []), (.tup [(.tup []), (.tup [])]), (.tup [(.tup []), (.tup [])]), (.tup [(.tup [(.str (sx [104,111,108,100])), (.str (sx [109])), (.tup [(.tup [(.str (sx [99,97,108,108])), (.tup []), (.str (sx [113])), (.tup [])])])])])]), (.tup [(.str (sx [113])), (.tup []), (.tup []), (.tup [(.tup []), (.tup [])]), (.tup [(.tup []), (.tup [])]), (.tup [(.tup [(.str (sx [104,111,108,100])), (.str (sx [108])), (.tup [])])])])], .lst [(.str (sx [108])), (.str (sx [109]))], .lst [(.tup [(.str (sx [109])), (.str (sx [108]))])], .lst [(.tup [(.str (sx [112])), (.tup []), (.tup []), (.tup [(.tup []), (.tup [])]), (.tup [(.tup []), (.tup [])]), (.tup [(.tup [(.str (sx [104,111,108,100])), (.str (sx [109])), (.tup [(.tup [(.str (sx [99,97,108,108])), (.tup []), (.str (sx [113])), (.tup [])])])])])])], .lst [(.str (sx [108])), (.str (sx [109]))], .lst [(.tup [(.str (sx [108])), (.str (sx [109]))]), (.tup [(.str (sx [109])), (.str (sx [108]))])], .lst [(.tup [(.str (sx [112])), (.tup []), (.tup []), (.tup [(.tup []), (.tup [])]), (.tup [(.tup []), (.tup [])]), (.tup [(.tup [(.str (sx [104,111,108,100])), (.str (sx [107])), (.tup [(.tup [(.str (sx [98,111,116,104])), (.tup []), (.str (sx [113])), (.tup []), (.tup []), (.str (sx [114])), (.tup [])])])])])]), (.tup [(.str (sx [113])), (.tup []), (.tup []), (.tup [(.tup []), (.tup [])]), (.tup [(.tup []), (.tup [])]), (.tup [(.tup [(.str (sx [104,111,108,100])), (.str (sx [108])), (.tup [])])])]), (.tup [(.str (sx [114])), (.tup []), (.tup []), (.tup [(.tup []), (.tup [])]), (.tup [(.tup []), (.tup [])]), (.tup [(.tup [(.str (sx [104,111,108,100])), (.str (sx [109])), (.tup [])])])])], .lst [(.str (sx [108])), (.str (sx [109])), (.str (sx [107]))], .lst [(.tup [(.str (sx [107])), (.str (sx [108])), (.str (sx [109]))]), (.tup [(.str (sx [107])), (.str (sx [109])), (.str (sx [108]))])], .lst [(.tup [(.str (sx [112])), (.tup []), (.tup []), (.tup [(.tup []), (.tup [])]), (.tup [(.tup []), (.tup [])]), (.tup [(.tup [(.str (sx [104,111,108,100])), (.str (sx [122])), (.tup [(.tup [(.str (sx [104,111,108,100])), (.str (sx [108])), (.tup [])])])])])])], .lst [(.str (sx [108]))], .lst [(.tup [(.str (sx [108]))])], .lst [(.tup [(.str (sx [112])), (.tup []), (.tup []), (.tup [(.tup []), (.tup [])]), (.tup [(.tup []), (.tup [])]), (.tup [(.tup [(.str (sx [104,111,108,100])), (.str (sx [108])), (.tup [(.tup [(.str (sx [104,111,108,100])), (.str (sx [122])), (.tup [])])])])])])], .lst [(.str (sx [108]))], .lst [(.tup [(.str (sx [108]))])], .lst [(.tup [(.str (sx [112])), (.tup []), (.tup []), (.tup [(.tup []), (.tup [])]), (.tup [(.tup []), (.tup [])]), (.tup [(.tup [(.str (sx [105,102])), (.int 1), (.str (sx [105,115])), (.int 2), (.tup [(.tup [(.str (sx [104,111,108,100])), (.str (sx [109])), (.tup [(.tup [(.str (sx [104,111,108,100])), (.str (sx [108])), (.tup [])])])])]), (.tup [])])])])], .lst [(.str (sx [108])), (.str (sx [109]))], .lst [(.tup [(.str (sx [109])), (.str (sx [108]))])], .lst [(.tup [(.str (sx [112])), (.tup []), (.tup []), (.tup [(.tup []), (.tup [])]), (.tup [(.tup []), (.tup [])]), (.tup [(.tup [(.str (sx [119,104,105,108,101])), (.int 1), (.str (sx [105,115])), (.int 2), (.tup [(.tup []), (.tup [])]), (.tup [(.tup []), (.tup [])]), (.tup [(.tup [(.str (sx [104,111,108,100])), (.str (sx [109])), (.tup [(.tup [(.str (sx [104,111,108,100])), (.str (sx [108])), (.tup [])])])])])])])])], .lst [(.str (sx [108])), (.str (sx [109]))], .lst [(.tup [(.str (sx [109])), (.str (sx [108]))])], .lst [(.tup [(.str (sx [112])), (.tup []), (.tup []), (.tup [(.tup []), (.tup [])]), (.tup [(.tup []), (.tup [])]), (.tup [(.tup [(.str (sx [105,102])), (.int 1), (.str (sx [105,115])), (.int 1), (.tup []), (.tup [(.tup [(.str (sx [104,111,108,100])), (.str (sx [109])), (.tup [(.tup [(.str (sx [104,111,108,100])), (.str (sx [108])), (.tup [])])])])])])])])], .lst [(.str (sx [108])), (.str (sx [109]))], .lst [(.tup [(.str (sx [109])), (.str (sx [108]))])], .lst [(.tup [(.str (sx [112])), (.tup []), (.tup []), (.tup [(.tup []), (.tup [])]), (.tup [(.tup []), (.tup [])]), (.tup [(.tup [(.str (sx [104,111,108,100])), (.str (sx [109])), (.tup [(.tup [(.str (sx [99,97,108,108])), (.tup []), (.str (sx [113])), (.tup [(.int 1)])])])])])]), (.tup [(.str (sx [113])), (.tup []), (.tup []), (.tup [(.tup []), (.tup [])]), (.tup [(.tup []), (.tup [])]), (.tup [(.tup [(.str (sx [104,111,108,100])), (.str (sx [108])), (.tup [])])])])], .lst [(.str (sx [108])), (.str (sx [109]))], .lst [(.tup [(.str (sx [108])), (.str (sx [109]))]), (.tup [(.str (sx [109])), (.str (sx [108]))])], .lst [(.tup [(.str (sx [112])), (.tup []), (.tup []), (.tup [(.tup []), (.tup [])]), (.tup [(.tup []), (.tup [])]), (.tup [(.tup [(.str (sx [104,111,108,100])), (.str (sx [109])), (.tup [(.tup [(.str (sx [99,97,108,108])), (.tup [(.str (sx [97]))]), (.str (sx [113])), (.tup [])])])])])]), (.tup [(.str (sx [113])), (.tup []), (.tup []), (.tup [(.tup []), (.tup [])]), (.tup [(.tup []), (.tup [])]), (.tup [(.tup [(.str (sx [104,111,108,100])), (.str (sx [108])), (.tup [])])])])], .lst [(.str (sx [108])), (.str (sx [109]))], .lst [(.tup [(.str (sx [108])), (.str (sx [109]))]), (.tup [(.str (sx [109])), (.str (sx [108]))])], .lst [(.tup [(.str (sx [112])), (.tup []), (.tup []), (.tup [(.tup []), (.tup [])]), (.tup [(.tup []), (.tup [])]), (.tup [(.tup [(.str (sx [104,111,108,100])), (.str (sx [109])), (.tup [(.tup [(.str (sx [98,111,116,104])), (.tup [(.str (sx [97]))]), (.str (sx [113])), (.tup []), (.tup []), (.str (sx [113])), (.tup [(.int 1)])])])])])]), (.tup [(.str (sx [113])), (.tup []), (.tup []), (.tup [(.tup []), (.tup [])]), (.tup [(.tup []), (.tup [])]), (.tup [(.tup [(.str (sx [104,111,108,100])), (.str (sx [108])), (.tup [])])])])], .lst [(.str (sx [108])), (.str (sx [109]))], .lst [(.tup [(.str (sx [108])), (.str (sx [109]))]), (.tup [(.str (sx [109])), (.str (sx [108]))])], .lst [(.tup [(.str (sx [112])), (.tup []), (.tup []), (.tup [(.tup []), (.tup [])]), (.tup [(.tup []), (.tup [])]), (.tup [(.tup [(.str (sx [99,97,108,108])), (.tup []), (.str (sx [113])), (.tup [])])])]), (.tup [(.str (sx [113])), (.tup []), (.tup []), (.tup [(.tup []), (.tup [])]), (.tup [(.tup []), (.tup [])]), (.tup [(.tup [(.str (sx [104,111,108,100])), (.str (sx [109])), (.tup [(.tup [(.str (sx [99,97,108,108])), (.tup []), (.str (sx [114])), (.tup [])])])])])])], .lst [(.tup [(.str (sx [112])), (.tup []), (.tup []), (.tup [(.tup []), (.tup [])]), (.tup [(.tup []), (.tup [])]), (.tup [(.tup [(.str (sx [99,97,108,108])), (.tup []), (.str (sx [113])), (.tup [])])])]), (.tup [(.str (sx [113])), (.tup []), (.tup []), (.tup [(.tup []), (.tup [])]), (.tup [(.tup []), (.tup [])]), (.tup [(.tup [(.str (sx [104,111,108,100])), (.str (sx [109])), (.tup [(.tup [(.str (sx [99,97,108,108])), (.tup []), (.str (sx [114])), (.tup [])])])])])]), (.tup [(.str (sx [114])), (.tup []), (.tup []), (.tup [(.tup []), (.tup [])]), (.tup [(.tup []), (.tup [])]), (.tup [(.tup [(.str (sx [104,111,108,100])), (.str (sx [108])), (.tup [])])])])], .lst [(.str (sx [108])), (.str (sx [109]))], .lst [(.tup [(.str (sx [109])), (.str (sx [108]))])], .lst [], .lst [(.str (sx [108]))], .lst [(.str (sx [109])), (.str (sx [108]))], .lst [(.str (sx [109])), (.str (sx [108]))], .lst [(.str (sx [109])), (.str (sx [108]))], .lst [(.str (sx [109])), (.str (sx [108]))], .lst [(.str (sx [107])), (.str (sx [109])), (.str (sx [108]))], .lst [(.str (sx [108]))], .lst [(.str (sx [108]))], .lst [(.str (sx [109])), (.str (sx [108]))], .lst [(.str (sx [109])), (.str (sx [108]))], .lst [(.str (sx [109])), (.str (sx [108]))], .lst [(.str (sx [109])), (.str (sx [108]))], .lst [(.str (sx [109])), (.str (sx [108]))], .lst [(.str (sx [109])), (.str (sx [108]))], .lst [(.str (sx [109])), (.str (sx [108]))], .lst [(.tup [(.str (sx [112])), (.tup []), (.tup []), (.tup [(.tup []), (.tup [])]), (.tup [(.tup []), (.tup [])]), (.tup [(.tup [(.str (sx [104,111,108,100])), (.str (sx [108])), (.tup [(.tup [(.str (sx [104,111,108,100])), (.str (sx [108])), (.tup [])])])])])])], .lst [(.str (sx [108]))], .lst [(.tup [(.loc .lst 66), (.loc .lst 67), (.tup [(.tup [(.str (sx [108])), (.tup [(.tup [(.str (sx [112])), (.int 0)]), (.tup [(.str (sx [112])), (.int 1)])])])])]), (.tup [(.loc .lst 69), (.loc .lst 70), (.tup [(.tup [(.str (sx [108])), (.tup [(.tup [(.str (sx [112])), (.int 0)]), (.tup [(.str (sx [112])), (.int 1)]), (.tup [(.str (sx [113])), (.int 0)])])])])]), (.tup [(.loc .lst 71), (.loc .lst 72), (.tup [(.tup [(.str (sx [108])), (.tup [(.tup [(.str (sx [112])), (.int 0)]), (.tup [(.str (sx [112])), (.int 1)]), (.tup [(.str (sx [113])), (.int 0)])])])])]), (.tup [(.loc .lst 73), (.loc .lst 74), (.tup [(.tup [(.str (sx [108])), (.tup [(.tup [(.str (sx [112])), (.int 0)]), (.tup [(.str (sx [112])), (.int 1)])])]), (.tup [(.str (sx [109])), (.tup [(.tup [(.str (sx [113])), (.int 0)]), (.tup [(.str (sx [113])), (.int 1)])])])])]), (.tup [(.loc .lst 75), (.loc .lst 76), (.tup [(.tup [(.str (sx [108])), (.tup [(.tup [(.str (sx [112])), (.int 0)]), (.tup [(.str (sx [112])), (.int 1)])])]), (.tup [(.str (sx [109])), (.tup [(.tup [(.str (sx [113])), (.int 0)]), (.tup [(.str (sx [113])), (.int 1)])])]), (.tup [(.str (sx [107])), (.tup [(.tup [(.str (sx [114])), (.int 0)]), (.tup [(.str (sx [114])), (.int 1)])])])])]), (.tup [(.loc .lst 77), (.loc .lst 78), (.tup [(.tup [(.str (sx [108])), (.tup [(.tup [(.str (sx [112])), (.int 0)]), (.tup [(.str (sx [112])), (.int 1)]), (.tup [(.str (sx [112])), (.int 0)])])])])])], .lst [(.tup [(.str (sx [112])), (.tup []), (.tup []), (.tup [(.tup []), (.tup [])]), (.tup [(.tup []), (.tup [])]), (.tup [(.tup [(.str (sx [104,111,108,100])), (.str (sx [108])), (.tup [(.tup [(.str (sx [99,97,108,108])), (.tup []), (.str (sx [113])), (.tup [])])])])])]), (.tup [(.str (sx [113])), (.tup []), (.tup []), (.tup [(.tup []), (.tup [])]), (.tup [(.tup []), (.tup [])]), (.tup [(.tup [(.str (sx [104,111,108,100])), (.str (sx [108])), (.tup [])])])])], .lst [(.str (sx [108]))], .lst [(.tup [(.str (sx [112])), (.tup []), (.tup []), (.tup [(.tup []), (.tup [])]), (.tup [(.tup []), (.tup [])]), (.tup [(.tup [(.str (sx [104,111,108,100])), (.str (sx [108])), (.tup [(.tup [(.str (sx [98,111,116,104])), (.tup []), (.str (sx [122,122])), (.tup []), (.tup []), (.str (sx [113])), (.tup [])])])])])]), (.tup [(.str (sx [113])), (.tup []), (.tup []), (.tup [(.tup []), (.tup [])]), (.tup [(.tup []), (.tup [])]), (.tup [(.tup [(.str (sx [104,111,108,100])), (.str (sx [108])), (.tup [])])])])], .lst [(.str (sx [108])), (.str (sx [109]))], .lst [(.tup [(.str (sx [112])), (.tup []), (.tup []), (.tup [(.tup []), (.tup [])]), (.tup [(.tup []), (.tup [])]), (.tup [(.tup [(.str (sx [104,111,108,100])), (.str (sx [108])), (.tup [(.tup [(.str (sx [104,111,108,100])), (.str (sx [109])), (.tup [])])])])])]), (.tup [(.str (sx [113])), (.tup []), (.tup []), (.tup [(.tup []), (.tup [])]), (.tup [(.tup []), (.tup [])]), (.tup [(.tup [(.str (sx [104,111,108,100])), (.str (sx [109])), (.tup [(.tup [(.str (sx [104,111,108,100])), (.str (sx [108])), (.tup [])])])])])])], .lst [(.str (sx [109])), (.str (sx [108]))], .lst [(.tup [(.str (sx [112])), (.tup []), (.tup []), (.tup [(.tup []), (.tup [])]), (.tup [(.tup []), (.tup [])]), (.tup [(.tup [(.str (sx [104,111,108,100])), (.str (sx [108])), (.tup [(.tup [(.str (sx [104,111,108,100])), (.str (sx [109])), (.tup [])])])])])]), (.tup [(.str (sx [113])), (.tup []), (.tup []), (.tup [(.tup []), (.tup [])]), (.tup [(.tup []), (.tup [])]), (.tup [(.tup [(.str (sx [104,111,108,100])), (.str (sx [109])), (.tup [(.tup [(.str (sx [104,111,108,100])), (.str (sx [107])), (.tup [])])])])])]), (.tup [(.str (sx [114])), (.tup []), (.tup []), (.tup [(.tup []), (.tup [])]), (.tup [(.tup []), (.tup [])]), (.tup [(.tup [(.str (sx [104,111,108,100])), (.str (sx [107])), (.tup [(.tup [(.str (sx [104,111,108,100])), (.str (sx [108])), (.tup [])])])])])])], .lst [(.str (sx [108])), (.str (sx [109])), (.str (sx [107]))], .lst [(.tup [(.str (sx [112])), (.tup []), (.tup []), (.tup [(.tup []), (.tup [])]), (.tup [(.tup []), (.tup [])]), (.tup [(.tup [(.str (sx [104,111,108,100])), (.str (sx [108])), (.tup [(.tup [(.str (sx [99,97,108,108])), (.tup []), (.str (sx [112])), (.tup [])])])])])])], .lst [(.str (sx [108]))], .lst [(.str (sx [108]))], .lst [(.tup [(.tup [(.str (sx [108])), (.tup [(.tup [(.str (sx [112])), (.int 0)]), (.tup [(.str (sx [112])), (.int 1)])])])])], .lst [(.tup [(.tup [(.str (sx [108])), (.tup [(.tup [(.str (sx [112])), (.int 0)]), (.tup [(.str (sx [112])), (.int 1)])])])])], .lst [(.str (sx [108]))], .lst [(.tup [(.tup [(.str (sx [108])), (.tup [(.tup [(.str (sx [112])), (.int 0)]), (.tup [(.str (sx [112])), (.int 1)]), (.tup [(.str (sx [113])), (.int 0)])])])])], .lst [(.tup [(.tup [(.str (sx [108])), (.tup [(.tup [(.str (sx [112])), (.int 0)]), (.tup [(.str (sx [112])), (.int 1)]), (.tup [(.str (sx [113])), (.int 0)])])])])], .lst [(.str (sx [109])), (.str (sx [108]))], .lst [(.tup [(.tup [(.str (sx [108])), (.tup [(.tup [(.str (sx [112])), (.int 0)]), (.tup [(.str (sx [112])), (.int 1)]), (.tup [(.str (sx [113])), (.int 0)])])])])], .lst [(.tup [(.tup [(.str (sx [108])), (.tup [(.tup [(.str (sx [112])), (.int 0)]), (.tup [(.str (sx [112])), (.int 1)]), (.tup [(.str (sx [113])), (.int 0)])])])])], .lst [(.str (sx [108])), (.str (sx [109]))], .lst [(.tup [(.tup [(.str (sx [108])), (.tup [(.tup [(.str (sx [112])), (.int 0)]), (.tup [(.str (sx [112])), (.int 1)])])]), (.tup [(.str (sx [109])), (.tup [(.tup [(.str (sx [113])), (.int 0)]), (.tup [(.str (sx [113])), (.int 1)])])])]), (.tup [(.tup [(.str (sx [109])), (.tup [(.tup [(.str (sx [113])), (.int 0)]), (.tup [(.str (sx [113])), (.int 1)])])]), (.tup [(.str (sx [108])), (.tup [(.tup [(.str (sx [112])), (.int 0)]), (.tup [(.str (sx [112])), (.int 1)])])])])], .lst [(.tup [(.tup [(.str (sx [108])), (.tup [(.tup [(.str (sx [112])), (.int 0)]), (.tup [(.str (sx [112])), (.int 1)])])]), (.tup [(.str (sx [109])), (.tup [(.tup [(.str (sx [113])), (.int 0)]), (.tup [(.str (sx [113])), (.int 1)])])])]), (.tup [(.tup [(.str (sx [109])), (.tup [(.tup [(.str (sx [113])), (.int 0)]), (.tup [(.str (sx [113])), (.int 1)])])]), (.tup [(.str (sx [108])), (.tup [(.tup [(.str (sx [112])), (.int 0)]), (.tup [(.str (sx [112])), (.int 1)])])])])], .lst [(.str (sx [107])), (.str (sx [109])), (.str (sx [108]))], .lst [(.tup [(.tup [(.str (sx [108])), (.tup [(.tup [(.str (sx [112])), (.int 0)]), (.tup [(.str (sx [112])), (.int 1)])])]), (.tup [(.str (sx [109])), (.tup [(.tup [(.str (sx [113])), (.int 0)]), (.tup [(.str (sx [113])), (.int 1)])])]), (.tup [(.str (sx [107])), (.tup [(.tup [(.str (sx [114])), (.int 0)]), (.tup [(.str (sx [114])), (.int 1)])])])]), (.tup [(.tup [(.str (sx [109])), (.tup [(.tup [(.str (sx [113])), (.int 0)]), (.tup [(.str (sx [113])), (.int 1)])])]), (.tup [(.str (sx [107])), (.tup [(.tup [(.str (sx [114])), (.int 0)]), (.tup [(.str (sx [114])), (.int 1)])])]), (.tup [(.str (sx [108])), (.tup [(.tup [(.str (sx [112])), (.int 0)]), (.tup [(.str (sx [112])), (.int 1)])])])]), (.tup [(.tup [(.str (sx [107])), (.tup [(.tup [(.str (sx [114])), (.int 0)]), (.tup [(.str (sx [114])), (.int 1)])])]), (.tup [(.str (sx [108])), (.tup [(.tup [(.str (sx [112])), (.int 0)]), (.tup [(.str (sx [112])), (.int 1)])])]), (.tup [(.str (sx [109])), (.tup [(.tup [(.str (sx [113])), (.int 0)]), (.tup [(.str (sx [113])), (.int 1)])])])])], .lst [(.tup [(.tup [(.str (sx [108])), (.tup [(.tup [(.str (sx [112])), (.int 0)]), (.tup [(.str (sx [112])), (.int 1)])])]), (.tup [(.str (sx [109])), (.tup [(.tup [(.str (sx [113])), (.int 0)]), (.tup [(.str (sx [113])), (.int 1)])])]), (.tup [(.str (sx [107])), (.tup [(.tup [(.str (sx [114])), (.int 0)]), (.tup [(.str (sx [114])), (.int 1)])])])]), (.tup [(.tup [(.str (sx [109])), (.tup [(.tup [(.str (sx [113])), (.int 0)]), (.tup [(.str (sx [113])), (.int 1)])])]), (.tup [(.str (sx [107])), (.tup [(.tup [(.str (sx [114])), (.int 0)]), (.tup [(.str (sx [114])), (.int 1)])])]), (.tup [(.str (sx [108])), (.tup [(.tup [(.str (sx [112])), (.int 0)]), (.tup [(.str (sx [112])), (.int 1)])])])]), (.tup [(.tup [(.str (sx [107])), (.tup [(.tup [(.str (sx [114])), (.int 0)]), (.tup [(.str (sx [114])), (.int 1)])])]), (.tup [(.str (sx [108])), (.tup [(.tup [(.str (sx [112])), (.int 0)]), (.tup [(.str (sx [112])), (.int 1)])])]), (.tup [(.str (sx [109])), (.tup [(.tup [(.str (sx [113])), (.int 0)]), (.tup [(.str (sx [113])), (.int 1)])])])])], .lst [(.str (sx [108]))], .lst [(.tup [(.tup [(.str (sx [108])), (.tup [(.tup [(.str (sx [112])), (.int 0)]), (.tup [(.str (sx [112])), (.int 1)]), (.tup [(.str (sx [112])), (.int 0)])])])])], .lst [(.tup [(.tup [(.str (sx [108])), (.tup [(.tup [(.str (sx [112])), (.int 0)]), (.tup [(.str (sx [112])), (.int 1)]), (.tup [(.str (sx [112])), (.int 0)])])])])]]
theorem q2_5 (ns : List Int) : stepL (kCs g FF 100000 (bodyOf (body 2))) (tgOf (body 2)) w2 (.tup [(.loc .lst 77), (.loc .lst 78), (.tup [(.tup [(.str (sx [108])), (.tup [(.tup [(.str (sx [112])), (.int 0)]), (.tup [(.str (sx [112])), (.int 1)]), (.tup [(.str (sx [112])), (.int 0)])])])])]) (e22 ns) S23 = some ((e23 ns), S24) := by kernel_rfl
def e24 (ns : List Int) : Env := [some (.scr ns), some (.tup [(.tup []), (.tup [])]), some (.loc .lst 97), some (.loc .lst 78), some (.tup [(.tup [(.str (sx [108])), (.tup [(.tup [(.str (sx [112])), (.int 0)]), (.tup [(.str (sx [112])), (.int 1)]), (.tup [(.str (sx [112])), (.int 0)])])])]), some (.loc .lst 94), some (.str (sx [114,105,110,103])), some (.tup [(.tup [(.str (sx [108])), (.tup [(.tup [(.str (sx [112])), (.int 0)]), (.tup [(.str (sx [112])), (.int 1)]), (.tup [(.str (sx [112])), (.int 0)])])])]), none, some (.loc .lst 96), none, some (.loc .lst 98)]
def S25 : Sto := [.lst [], .lst [], .lst [(.tup [])], .lst [], .lst [(.str (sx [108]))], .lst [(.tup [(.str (sx [108]))])], .lst [(.tup [(.str (sx [112])), (.tup []), (.tup []), (.tup [(.tup []), (.tup [])]), (.tup [(.tup []), (.tup [])]), (.tup [(.tup [(.str (sx [104,111,108,100])), (.str (sx [108])), (.tup [])]), (.tup [(.str (sx [104,111,108,100])), (.str (sx [109])), (.tup [])])])])], .lst [(.str (sx [108])), (.str (sx [109]))], .lst [(.tup [(.str (sx [108])), (.str (sx [109]))]), (.tup [(.str (sx [109])), (.str (sx [108]))])], .lst [(.tup [(.loc .lst 0), (.loc .lst 1), (.loc .lst 2)]), (.tup [(.loc .lst 3), (.loc .lst 4), (.loc .lst 5)]), (.tup [(.loc .lst 6), (.loc .lst 7), (.loc .lst 8)]), (.tup [(.loc .lst 10), (.loc .lst 11), (.loc .lst 12)]), (.tup [(.loc .lst 13), (.loc .lst 14), (.loc .lst 15)]), (.tup [(.loc .lst 16), (.loc .lst 17), (.loc .lst 18)]), (.tup [(.loc .lst 19), (.loc .lst 20), (.loc .lst 21)]), (.tup [(.loc .lst 22), (.loc .lst 23), (.loc .lst 24)]), (.tup [(.loc .lst 25), (.loc .lst 26), (.loc .lst 27)]), (.tup [(.loc .lst 28), (.loc .lst 29), (.loc .lst 30)]), (.tup [(.loc .lst 31), (.loc .lst 32), (.loc .lst 33)]), (.tup [(.loc .lst 34), (.loc .lst 35), (.loc .lst 36)]), (.tup [(.loc .lst 37), (.loc .lst 38), (.loc .lst 39)]), (.tup [(.loc .lst 40), (.loc .lst 41), (.loc .lst 42)]), (.tup [(.loc .lst 43), (.loc .lst 44), (.loc .lst 45)]), (.tup [(.loc .lst 47), (.loc .lst 48), (.loc .lst 49)])], .lst [(.tup [(.str (sx [112])), (.tup []), (.tup []), (.tup [(.tup []), (.tup [])]), (.tup [(.tup []), (.tup [])]), (.tup [(.tup [(.str (sx [104,111,108,100])), (.str (sx [109])), (.tup [(.tup [(.str (sx [104,111,108,100])), (.str (sx [108])), (.tup [])])])])])])], .lst [(.str (sx [108])), (.str (sx [109]))], .lst [(.tup [(.str (sx [109])), (.str (sx [108]))])], .lst [(.tup [(.str (sx [112])), (.tup []), (.tup []), (.tup [(.tup []), (.tup [])]), (.tup [(.tup []), (.tup [])]), (.tup [(.tup [(.str (sx [104,111,108,100])), (.str (sx [109])), (.tup [(.tup [(.str (sx [99,97,108,108])), (.tup []), (.str (sx [113])), (.tup [])])])])])]), (.tup [(.str (sx [113])), (.tup []), (.tup []), (.tup [(.tup []), (.tup [])]), (.tup [(.tup []), (.tup [])]), (.tup [(.tup [(.str (sx [104,111,108,100])), (.str (sx [108])), (.tup [])])])])], .lst [(.str (sx [108])), (.str (sx [109]))], .lst [(.tup [(.str (sx [109])), (.str (sx [108]))])], .lst [(.tup [(.str (sx [112])), (.tup []), (.tup []), (.tup [(.tup []), (.tup [])]), (.tup [(.tup []), (.tup [])]), (.tup [(.tup [(.str (sx [104,111,108,100])), (.str (sx [109])), (.tup [(.tup [(.str (sx [99,97,108,108])), (.tup []), (.str (sx [113])), (.tup [])])])])])])], .lst [(.str (sx [108])), (.str (sx [109]))], .lst [(.tup [(.str (sx [108])), (.str (sx [109]))]), (.tup [(.str (sx [109])), (.str (sx [108]))])], .lst [(.tup [(.str (sx [112])), (.tup []), (.tup []), (.tup [(.tup []), (.tup [])]), (.tup [(.tup []), (.tup [])]), (.tup [(.tup [(.str (sx [104,111,108,100])), (.str (sx [107])), (.tup [(.tup [(.str (sx [98,111,116,104])), (.tup []), (.str (sx [113])), (.tup []), (.tup []), (.str (sx [114])), (.tup [])])])])])]), (.tup [(.str (sx [113])), (.tup []), (.tup []), (.tup [(.tup []), (.tup [])]), (.tup [(.tup []), (.tup [])]), (.tup [(.tup [(.str (sx [104,111,108,100])), (.str (sx [108])), (.tup [])])])]), (.tup [(.str (sx [114])), (.tup []), (.tup []), (.tup [(.tup []), (.tup [])]), (.tup [(.tup []), (.tup [])]), (.tup [(.tup [(.str (sx [104,111,108,100])), (.str (sx [109])), (.tup [])])])])], .lst [(.str (sx [108])), (.str (sx [109])), (.str (sx [107]))], .lst [(.tup [(.str (sx [107])), (.str (sx [108])), (.str (sx [109]))]), (.tup [(.str (sx [107])), (.str (sx [109])), (.str (sx [108]))])], .lst [(.tup [(.str (sx [112])), (.tup []), (.tup []), (.tup [(.tup []), (.tup [])]), (.tup [(.tup []), (.tup [])]), (.tup [(.tup [(.str (sx [104,111,108,100])), (.str (sx [122])), (.tup [(.tup [(.str (sx [104,111,108,100])), (.str (sx [108])), (.tup [])])])])])])], .lst [(.str (sx [108]))], .lst [(.tup [(.str (sx [108]))])], .lst [(.tup [(.str (sx [112])), (.tup []), (.tup []), (.tup [(.tup []), (.tup [])]), (.tup [(.tup []), (.tup [])]), (.tup [(.tup [(.str (sx [104,111,108,100])), (.str (sx [108])), (.tup [(.tup [(.str (sx [104,111,108,100])), (.str (sx [122])), (.tup [])])])])])])], .lst [(.str (sx [108]))], .lst [(.tup [(.str (sx [108]))])], .lst [(.tup [(.str (sx [112])), (.tup []), (.tup []), (.tup [(.tup []), (.tup [])]), (.tup [(.tup []), (.tup [])]), (.tup [(.tup [(.str (sx [105,102])), (.int 1), (.str (sx [105,115])), (.int 2), (.tup [(.tup [(.str (sx [104,111,108,100])), (.str (sx [109])), (.tup [(.tup [(.str (sx [104,111,108,100])), (.str (sx [108])), (.tup [])])])])]), (.tup [])])])])], .lst [(.str (sx [108])), (.str (sx [109]))], .lst [(.tup [(.str (sx [109])), (.str (sx [108]))])], .lst [(.tup [(.str (sx [112])), (.tup []), (.tup []), (.tup [(.tup []), (.tup [])]), (.tup [(.tup []), (.tup [])]), (.tup [(.tup [(.str (sx [119,104,105,108,101])), (.int 1), (.str (sx [105,115])), (.int 2), (.tup [(.tup []), (.tup [])]), (.tup [(.tup []), (.tup [])]), (.tup [(.tup [(.str (sx [104,111,108,100])), (.str (sx [109])), (.tup [(.tup [(.str (sx [104,111,108,100])), (.str (sx [108])), (.tup [])])])])])])])])], .lst [(.str (sx [108])), (.str (sx [109]))], .lst [(.tup [(.str (sx [109])), (.str (sx [108]))])], .lst [(.tup [(.str (sx [112])), (.tup []), (.tup []), (.tup [(.tup []), (.tup [])]), (.tup [(.tup []), (.tup [])]), (.tup [(.tup [(.str (sx [105,102])), (.int 1), (.str (sx [105,115])), (.int 1), (.tup []), (.tup [(.tup [(.str (sx [104,111,108,100])), (.str (sx [109])), (.tup [(.tup [(.str (sx [104,111,108,100])), (.str (sx [108])), (.tup [])])])])])])])])], .lst [(.str (sx [108])), (.str (sx [109]))], .lst [(.tup [(.str (sx [109])), (.str (sx [108]))])], .lst [(.tup [(.str (sx [112])), (.tup []), (.tup []), (.tup [(.tup []), (.tup [])]), (.tup [(.tup []), (.tup [])]), (.tup [(.tup [(.str (sx [104,111,108,100])), (.str (sx [109])), (.tup [(.tup [(.str (sx [99,97,108,108])), (.tup []), (.str (sx [113])), (.tup [(.int 1)])])])])])]), (.tup [(.str (sx [113])), (.tup []), (.tup []), (.tup [(.tup []), (.tup [])]), (.tup [(.tup []), (.tup [])]), (.tup [(.tup [(.str (sx [104,111,108,100])), (.str (sx [108])), (.tup [])])])])], .lst [(.str (sx [108])), (.str (sx [109]))], .lst [(.tup [(.str (sx [108])), (.str (sx [109]))]), (.tup [(.str (sx [109])), (.str (sx [108]))])], .lst [(.tup [(.str (sx [112])), (.tup []), (.tup []), (.tup [(.tup []), (.tup [])]), (.tup [(.tup []), (.tup [])]), (.tup [(.tup [(.str (sx [104,111,108,100])), (.str (sx [109])), (.tup [(.tup [(.str (sx [99,97,108,108])), (.tup [(.str (sx [97]))]), (.str (sx [113])), (.tup [])])])])])]), (.tup [(.str (sx [113])), (.tup []), (.tup []), (.tup [(.tup []), (.tup [])]), (.tup [(.tup []), (.tup [])]), (.tup [(.tup [(.str (sx [104,111,108,100])), (.str (sx [108])), (.tup [])])])])], .lst [(.str (sx [108])), (.str (sx [109]))], .lst [(.tup [(.str (sx [108])), (.str (sx [109]))]), (.tup [(.str (sx [109])), (.str (sx [108]))])], .lst [(.tup [(.str (sx [112])), (.tup []), (.tup []), (.tup [(.tup []), (.tup [])]), (.tup [(.tup []), (.tup [])]), (.tup [(.tup [(.str (sx [104,111,108,100])), (.str (sx [109])), (.tup [(.tup [(.str (sx [98,111,116,104])), (.tup [(.str (sx [97]))]), (.str (sx [113])), (.tup []), (.tup []), (.str (sx [113])), (.tup [(.int 1)])])])])])]), (.tup [(.str (sx [113])), (.tup []), (.tup []), (.tup [(.tup []), (.tup [])]), (.tup [(.tup []), (.tup [])]), (.tup [(.tup [(.str (sx [104,111,108,100])), (.str (sx [108])), (.tup [])])])])], .lst [(.str (sx [108])), (.str (sx [109]))], .lst [(.tup [(.str (sx [108])), (.str (sx [109]))]), (.tup [(.str (sx [109])), (.str (sx [108]))])], .lst [(.tup [(.str (sx [112])), (.tup []), (.tup []), (.tup [(.tup []), (.tup [])]), (.tup [(.tup []), (.tup [])]), (.tup [(.tup [(.str (sx [99,97,108,108])), (.tup []), (.str (sx [113])), (.tup [])])])]), (.tup [(.str (sx [113])), (.tup []), (.tup []), (.tup [(.tup []), (.tup [])]), (.tup [(.tup []), (.tup [])]), (.tup [(.tup [(.str (sx [104,111,108,100])), (.str (sx [109])), (.tup [(.tup [(.str (sx [99,97,108,108])), (.tup []), (.str (sx [114])), (.tup [])])])])])])], .lst [(.tup [(.str (sx [112])), (.tup []), (.tup []), (.tup [(.tup []), (.tup [])]), (.tup [(.tup []), (.tup [])]), (.tup [(.tup [(.str (sx [99,97,108,108])), (.tup []), (.str (sx [113])), (.tup [])])])]), (.tup [(.str (sx [113])), (.tup []), (.tup []), (.tup [(.tup []), (.tup [])]), (.tup [(.tup []), (.tup [])]), (.tup [(.tup [(.str (sx [104,111,108,100])), (.str (sx [109])), (.tup [(.tup [(.str (sx [99,97,108,108])), (.tup []), (.str (sx [114])), (.tup [])])])])])]), (.tup [(.str (sx [114])), (.tup []), (.tup []), (.tup [(.tup []), (.tup [])]), (.tup [(.tup []), (.tup [])]), (.tup [(.tup [(.str (sx [104,111,108,100])), (.str (sx [108])), (.tup [])])])])], .lst [(.str (sx [108])), (.str (sx [109]))], .lst [(.tup [(.str (sx [109])), (.str (sx [108]))])], .lst [], .lst [(.str (sx [108]))], .lst [(.str (sx [109])), (.str (sx [108]))], .lst [(.str (sx [109])), (.str (sx [108]))], .lst [(.str (sx [109])), (.str (sx [108]))], .lst [(.str (sx [109])), (.str (sx [108]))], .lst [(.str (sx [107])), (.str (sx [109])), (.str (sx [108]))], .lst [(.str (sx [108]))], .lst [(.str (sx [108]))], .lst [(.str (sx [109])), (.str (sx [108]))], .lst [(.str (sx [109])), (.str (sx [108]))], .lst [(.str (sx [109])), (.str (sx [108]))], .lst [(.str (sx [109])), (.str (sx [108]))], .lst [(.str (sx [109])), (.str (sx [108]))], .lst [(.str (sx [109])), (.str (sx [108]))], .lst [(.str (sx [109])), (.str (sx [108]))], .lst [(.tup [(.str (sx [112])), (.tup []), (.tup []), (.tup [(.tup []), (.tup [])]), (.tup [(.tup []), (.tup [])]), (.tup [(.tup [(.str (sx [104,111,108,100])), (.str (sx [108])), (.tup [(.tup [(.str (sx [104,111,108,100])), (.str (sx [108])), (.tup [])])])])])])], .lst [(.str (sx [108]))], .lst [(.tup [(.loc .lst 66), (.loc .lst 67), (.tup [(.tup [(.str (sx [108])), (.tup [(.tup [(.str (sx [112])), (.int 0)]), (.tup [(.str (sx [112])), (.int 1)])])])])]), (.tup [(.loc .lst 69), (.loc .lst 70), (.tup [(.tup [(.str (sx [108])), (.tup [(.tup [(.str (sx [112])), (.int 0)]), (.tup [(.str (sx [112])), (.int 1)]), (.tup [(.str (sx [113])), (.int 0)])])])])]), (.tup [(.loc .lst 71), (.loc .lst 72), (.tup [(.tup [(.str (sx [108])), (.tup [(.tup [(.str (sx [112])), (.int 0)]), (.tup [(.str (sx [112])), (.int 1)]), (.tup [(.str (sx [113])), (.int 0)])])])])]), (.tup [(.loc .lst 73), (.loc .lst 74), (.tup [(.tup [(.str (sx [108])), (.tup [(.tup [(.str (sx [112])), (.int 0)]), (.tup [(.str (sx [112])), (.int 1)])])]), (.tup [(.str (sx [109])), (.tup [(.tup [(.str (sx [113])), (.int 0)]), (.tup [(.str (sx [113])), (.int 1)])])])])]), (.tup [(.loc .lst 75), (.loc .lst 76), (.tup [(.tup [(.str (sx [108])), (.tup [(.tup [(.str (sx [112])), (.int 0)]), (.tup [(.str (sx [112])), (.int 1)])])]), (.tup [(.str (sx [109])), (.tup [(.tup [(.str (sx [113])), (.int 0)]), (.tup [(.str (sx [113])), (.int 1)])])]), (.tup [(.str (sx [107])), (.tup [(.tup [(.str (sx [114])), (.int 0)]), (.tup [(.str (sx [114])), (.int 1)])])])])]), (.tup [(.loc .lst 77), (.loc .lst 78), (.tup [(.tup [(.str (sx [108])), (.tup [(.tup [(.str (sx [112])), (.int 0)]), (.tup [(.str (sx [112])), (.int 1)]), (.tup [(.str (sx [112])), (.int 0)])])])])])], .lst [(.tup [(.str (sx [112])), (.tup []), (.tup []), (.tup [(.tup []), (.tup [])]), (.tup [(.tup []), (.tup [])]), (.tup [(.tup [(.str (sx [104,111,108,100])), (.str (sx [108])), (.tup [(.tup [(.str (sx [99,97,108,108])), (.tup []), (.str (sx [113])), (.tup [])])])])])]), (.tup [(.str (sx [113])), (.tup []), (.tup []), (.tup [(.tup []), (.tup [])]), (.tup [(.tup []), (.tup [])]), (.tup [(.tup [(.str (sx [104,111,108,100])), (.str (sx [108])), (.tup [])])])])], .lst [(.str (sx [108]))], .lst [(.tup [(.str (sx [112])), (.tup []), (.tup []), (.tup [(.tup []), (.tup [])]), (.tup [(.tup []), (.tup [])]), (.tup [(.tup [(.str (sx [104,111,108,100])), (.str (sx [108])), (.tup [(.tup [(.str (sx [98,111,116,104])), (.tup []), (.str (sx [122,122])), (.tup []), (.tup []), (.str (sx [113])), (.tup [])])])])])]), (.tup [(.str (sx [113])), (.tup []), (.tup []), (.tup [(.tup []), (.tup [])]), (.tup [(.tup []), (.tup [])]), (.tup [(.tup [(.str (sx [104,111,108,100])), (.str (sx [108])), (.tup [])])])])], .lst [(.str (sx [108])), (.str (sx [109]))], .lst [(.tup [(.str (sx [112])), (.tup []), (.tup []), (.tup [(.tup []), (.tup [])]), (.tup [(.tup []), (.tup [])]), (.tup [(.tup [(.str (sx [104,111,108,100])), (.str (sx [108])), (.tup [(.tup [(.str (sx [104,111,108,100])), (.str (sx [109])), (.tup [])])])])])]), (.tup [(.str (sx [113])), (.tup []), (.tup []), (.tup [(.tup []), (.tup [])]), (.tup [(.tup []), (.tup [])]), (.tup [(.tup [(.str (sx [104,111,108,100])), (.str (sx [109])), (.tup [(.tup [(.str (sx [104,111,108,100])), (.str (sx [108])), (.tup [])])])])])])], .lst [(.str (sx [109])), (.str (sx [108]))], .lst [(.tup [(.str (sx [112])), (.tup []), (.tup []), (.tup [(.tup []), (.tup [])]), (.tup [(.tup []), (.tup [])]), (.tup [(.tup [(.str (sx [104,111,108,100])), (.str (sx [108])), (.tup [(.tup [(.str (sx [104,111,108,100])), (.str (sx [109])), (.tup [])])])])])]), (.tup [(.str (sx [113])), (.tup []), (.tup []), (.tup [(.tup []), (.tup [])]), (.tup [(.tup []), (.tup [])]), (.tup [(.tup [(.str (sx [104,111,108,100])), (.str (sx [109])), (.tup [(.tup [(.str (sx [104,111,108,100])), (.str (sx [107])), (.tup [])])])])])]), (.tup [(.str (sx [114])), (.tup []), (.tup []), (.tup [(.tup []), (.tup [])]), (.tup [(.tup []), (.tup [])]), (.tup [(.tup [(.str (sx [104,111,108,100])), (.str (sx [107])), (.tup [(.tup [(.str (sx [104,111,108,100])), (.str (sx [108])), (.tup [])])])])])])], .lst [(.str (sx [108])), (.str (sx [109])), (.str (sx [107]))], .lst [(.tup [(.str (sx [112])), (.tup []), (.tup []), (.tup [(.tup []), (.tup [])]), (.tup [(.tup []), (.tup [])]), (.tup [(.tup [(.str (sx [104,111,108,100])), (.str (sx [108])), (.tup [(.tup [(.str (sx [99,97,108,108])), (.tup []), (.str (sx [112])), (.tup [])])])])])])], .lst [(.str (sx [108]))], .lst [(.str (sx [108]))], .lst [(.tup [(.tup [(.str (sx [108])), (.tup [(.tup [(.str (sx [112])), (.int 0)]), (.tup [(.str (sx [112])), (.int 1)])])])])], .lst [(.tup [(.tup [(.str (sx [108])), (.tup [(.tup [(.str (sx [112])), (.int 0)]), (.tup [(.str (sx [112])), (.int 1)])])])])], .lst [(.str (sx [108]))], .lst [(.tup [(.tup [(.str (sx [108])), (.tup [(.tup [(.str (sx [112])), (.int 0)]), (.tup [(.str (sx [112])), (.int 1)]), (.tup [(.str (sx [113])), (.int 0)])])])])], .lst [(.tup [(.tup [(.str (sx [108])), (.tup [(.tup [(.str (sx [112])), (.int 0)]), (.tup [(.str (sx [112])), (.int 1)]), (.tup [(.str (sx [113])), (.int 0)])])])])], .lst [(.str (sx [109])), (.str (sx [108]))], .lst [(.tup [(.tup [(.str (sx [108])), (.tup [(.tup [(.str (sx [112])), (.int 0)]), (.tup [(.str (sx [112])), (.int 1)]), (.tup [(.str (sx [113])), (.int 0)])])])])], .lst [(.tup [(.tup [(.str (sx [108])), (.tup [(.tup [(.str (sx [112])), (.int 0)]), (.tup [(.str (sx [112])), (.int 1)]), (.tup [(.str (sx [113])), (.int 0)])])])])], .lst [(.str (sx [108])), (.str (sx [109]))], .lst [(.tup [(.tup [(.str (sx [108])), (.tup [(.tup [(.str (sx [112])), (.int 0)]), (.tup [(.str (sx [112])), (.int 1)])])]), (.tup [(.str (sx [109])), (.tup [(.tup [(.str (sx [113])), (.int 0)]), (.tup [(.str (sx [113])), (.int 1)])])])]), (.tup [(.tup [(.str (sx [109])), (.tup [(.tup [(.str (sx [113])), (.int 0)]), (.tup [(.str (sx [113])), (.int 1)])])]), (.tup [(.str (sx [108])), (.tup [(.tup [(.str (sx [112])), (.int 0)]), (.tup [(.str (sx [112])), (.int 1)])])])])], .lst [(.tup [(.tup [(.str (sx [108])), (.tup [(.tup [(.str (sx [112])), (.int 0)]), (.tup [(.str (sx [112])), (.int 1)])])]), (.tup [(.str (sx [109])), (.tup [(.tup [(.str (sx [113])), (.int 0)]), (.tup [(.str (sx [113])), (.int 1)])])])]), (.tup [(.tup [(.str (sx [109])), (.tup [(.tup [(.str (sx [113])), (.int 0)]), (.tup [(.str (sx [113])), (.int 1)])])]), (.tup [(.str (sx [108])), (.tup [(.tup [(.str (sx [112])), (.int 0)]), (.tup [(.str (sx [112])), (.int 1)])])])])], .lst [(.str (sx [107])), (.str (sx [109])), (.str (sx [108]))], .lst [(.tup [(.tup [(.str (sx [108])), (.tup [(.tup [(.str (sx [112])), (.int 0)]), (.tup [(.str (sx [112])), (.int 1)])])]), (.tup [(.str (sx [109])), (.tup [(.tup [(.str (sx [113])), (.int 0)]), (.tup [(.str (sx [113])), (.int 1)])])]), (.tup [(.str (sx [107])), (.tup [(.tup [(.str (sx [114])), (.int 0)]), (.tup [(.str (sx [114])), (.int 1)])])])]), (.tup [(.tup [(.str (sx [109])), (.tup [(.tup [(.str (sx [113])), (.int 0)]), (.tup [(.str (sx [113])), (.int 1)])])]), (.tup [(.str (sx [107])), (.tup [(.tup [(.str (sx [114])), (.int 0)]), (.tup [(.str (sx [114])), (.int 1)])])]), (.tup [(.str (sx [108])), (.tup [(.tup [(.str (sx [112])), (.int 0)]), (.tup [(.str (sx [112])), (.int 1)])])])]), (.tup [(.tup [(.str (sx [107])), (.tup [(.tup [(.str (sx [114])), (.int 0)]), (.tup [(.str (sx [114])), (.int 1)])])]), (.tup [(.str (sx [108])), (.tup [(.tup [(.str (sx [112])), (.int 0)]), (.tup [(.str (sx [112])), (.int 1)])])]), (.tup [(.str (sx [109])), (.tup [(.tup [(.str (sx [113])), (.int 0)]), (.tup [(.str (sx [113])), (.int 1)])])])])], .lst [(.tup [(.tup [(.str (sx [108])), (.tup [(.tup [(.str (sx [112])), (.int 0)]), (.tup [(.str (sx [112])), (.int 1)])])]), (.tup [(.str (sx [109])), (.tup [(.tup [(.str (sx [113])), (.int 0)]), (.tup [(.str (sx [113])), (.int 1)])])]), (.tup [(.str (sx [107])), (.tup [(.tup [(.str (sx [114])), (.int 0)]), (.tup [(.str (sx [114])), (.int 1)])])])]), (.tup [(.tup [(.str (sx [109])), (.tup [(.tup [(.str (sx [113])), (.int 0)]), (.tup [(.str (sx [113])), (.int 1)])])]), (.tup [(.str (sx [107])), (.tup [(.tup [(.str (sx [114])), (.int 0)]), (.tup [(.str (sx [114])), (.int 1)])])]), (.tup [(.str (sx [108])), (.tup [(.tup [(.str (sx [112])), (.int 0)]), (.tup [(.str (sx [112])), (.int 1)])])])]), (.tup [(.tup [(.str (sx [107])), (.tup [(.tup [(.str (sx [114])), (.int 0)]), (.tup [(.str (sx [114])), (.int 1)])])]), (.tup [(.str (sx [108])), (.tup [(.tup [(.str (sx [112])), (.int 0)]), (.tup [(.str (sx [112])), (.int 1)])])]), (.tup [(.str (sx [109])), (.tup [(.tup [(.str (sx [113])), (.int 0)]), (.tup [(.str (sx [113])), (.int 1)])])])])], .lst [(.str (sx [108]))], .lst [(.tup [(.tup [(.str (sx [108])), (.tup [(.tup [(.str (sx [112])), (.int 0)]), (.tup [(.str (sx [112])), (.int 1)]), (.tup [(.str (sx [112])), (.int 0)])])])])], .lst [(.tup [(.tup [(.str (sx [108])), (.tup [(.tup [(.str (sx [112])), (.int 0)]), (.tup [(.str (sx [112])), (.int 1)]), (.tup [(.str (sx [112])), (.int 0)])])])])], .lst [(.tup [(.str (sx [112])), (.tup []), (.tup []), (.tup [(.tup []), (.tup [])]), (.tup [(.tup []), (.tup [])]), (.tup [(.tup [(.str (sx [104,111,108,100])), (.str (sx [108])), (.tup [(.tup [(.str (sx [104,111,108,100])), (.str (sx [109])), (.tup [])])])])])]), (.tup [(.str (sx [113])), (.tup []), (.tup []), (.tup [(.tup []), (.tup [])]), (.tup [(.tup []), (.tup [])]), (.tup [(.tup [(.str (sx [104,111,108,100])), (.str (sx [109])), (.tup [(.tup [(.str (sx [104,111,108,100])), (.str (sx [107])), (.tup [])])])])])]), (.tup [(.str (sx [114])), (.tup []), (.tup []), (.tup [(.tup []), (.tup [])]), (.tup [(.tup []), (.tup [])]), (.tup [(.tup [(.str (sx [104,111,108,100])), (.str (sx [107])), (.tup [(.tup [(.str (sx [104,111,108,100])), (.str (sx [108])), (.tup [])])])])])])], .lst [(.tup [(.str (sx [109])), (.tup [(.tup []), (.tup [])])]), (.tup [(.str (sx [108])), (.tup [(.tup []), (.tup [])])])]]
theorem q3 (ns : List Int) : kC g FF 100000 (body 3) (e23 ns) S24 = some (.nx, (e24 ns), S25) := by kernel_rfl
theorem q4 (ns : List Int) : kC g FF 100000 (body 4) (e24 ns) S25 = some (.nx, (e24 ns), S25) := by kernel_rfl
def e25 (ns : List Int) : Env := [some (.scr ns), some (.tup [(.tup []), (.tup [])]), some (.loc .lst 99), some (.loc .lst 78), some (.tup [(.tup [(.str (sx [108])), (.tup [(.tup [(.str (sx [112])), (.int 0)]), (.tup [(.str (sx [112])), (.int 1)]), (.tup [(.str (sx [112])), (.int 0)])])])]), some (.loc .lst 94), some (.str (sx [114,105,110,103])), some (.tup [(.tup [(.str (sx [108])), (.tup [(.tup [(.str (sx [112])), (.int 0)]), (.tup [(.str (sx [112])), (.int 1)]), (.tup [(.str (sx [112])), (.int 0)])])])]), none, some (.loc .lst 96), none, some (.loc .lst 98)]
def S26 : Sto := [.lst [], .lst [], .lst [(.tup [])], .lst [], .lst [(.str (sx [108]))], .lst [(.tup [(.str (sx [108]))])], .lst [(.tup [(.str (sx [112])), (.tup []), (.tup []), (.tup [(.tup []), (.tup [])]), (.tup [(.tup []), (.tup [])]), (.tup [(.tup [(.str (sx [104,111,108,100])), (.str (sx [108])), (.tup [])]), (.tup [(.str (sx [104,111,108,100])), (.str (sx [109])), (.tup [])])])])], .lst [(.str (sx [108])), (.str (sx [109]))], .lst [(.tup [(.str (sx [108])), (.str (sx [109]))]), (.tup [(.str (sx [109])), (.str (sx [108]))])], .lst [(.tup [(.loc .lst 0), (.loc .lst 1), (.loc .lst 2)]), (.tup [(.loc .lst 3), (.loc .lst 4), (.loc .lst 5)]), (.tup [(.loc .lst 6), (.loc .lst 7), (.loc .lst 8)]), (.tup [(.loc .lst 10), (.loc .lst 11), (.loc .lst 12)]), (.tup [(.loc .lst 13), (.loc .lst 14), (.loc .lst 15)]), (.tup [(.loc .lst 16), (.loc .lst 17), (.loc .lst 18)]), (.tup [(.loc .lst 19), (.loc .lst 20), (.loc .lst 21)]), (.tup [(.loc .lst 22), (.loc .lst 23), (.loc .lst 24)]), (.tup [(.loc .lst 25), (.loc .lst 26), (.loc .lst 27)]), (.tup [(.loc .lst 28), (.loc .lst 29), (.loc .lst 30)]), (.tup [(.loc .lst 31), (.loc .lst 32), (.loc .lst 33)]), (.tup [(.loc .lst 34), (.loc .lst 35), (.loc .lst 36)]), (.tup [(.loc .lst 37), (.loc .lst 38), (.loc .lst 39)]), (.tup [(.loc .lst 40), (.loc .lst 41), (.loc .lst 42)]), (.tup [(.loc .lst 43), (.loc .lst 44), (.loc .lst 45)]), (.tup [(.loc .lst 47), (.loc .lst 48), (.loc .lst 49)])], .lst [(.tup [(.str (sx [112])), (.tup []), (.tup []), (.tup [(.tup []), (.tup [])]), (.tup [(.tup []), (.tup [])]), (.tup [(.tup [(.str (sx [104,111,108,100])), (.str (sx [109])), (.tup [(.tup [(.str (sx [104,111,108,100])), (.str (sx [108])), (.tup [])])])])])])], .lst [(.str (sx [108])), (.str (sx [109]))], .lst [(.tup [(.str (sx [109])), (.str (sx [108]))])], .lst [(.tup [(.str (sx [112])), (.tup []), (.tup []), (.tup [(.tup []), (.tup [])]), (.tup [(.tup []), (.tup [])]), (.tup [(.tup [(.str (sx [104,111,108,100])), (.str (sx [109])), (.tup [(.tup [(.str (sx [99,97,108,108])), (.tup []), (.str (sx [113])), (.tup [])])])])])]), (.tup [(.str (sx [113])), (.tup []), (.tup []), (.tup [(.tup []), (.tup [])]), (.tup [(.tup []), (.tup [])]), (.tup [(.tup [(.str (sx [104,111,108,100])), (.str (sx [108])), (.tup [])])])])], .lst [(.str (sx [108])), (.str (sx [109]))], .lst [(.tup [(.str (sx [109])), (.str (sx [108]))])], .lst [(.tup [(.str (sx [112])), (.tup []), (.tup []), (.tup [(.tup []), (.tup [])]), (.tup [(.tup []), (.tup [])]), (.tup [(.tup [(.str (sx [104,111,108,100])), (.str (sx [109])), (.tup [(.tup [(.str (sx [99,97,108,108])), (.tup []), (.str (sx [113])), (.tup [])])])])])])], .lst [(.str (sx [108])), (.str (sx [109]))], .lst [(.tup [(.str (sx [108])), (.str (sx [109]))]), (.tup [(.str (sx [109])), (.str (sx [108]))])], .lst [(.tup [(.str (sx [112])), (.tup []), (.tup []), (.tup [(.tup []), (.tup [])]), (.tup [(.tup []), (.tup [])]), (.tup [(.tup [(.str (sx [104,111,108,100])), (.str (sx [107])), (.tup [(.tup [(.str (sx [98,111,116,104])), (.tup []), (.str (sx [113])), (.tup []), (.tup []), (.str (sx [114])), (.tup [])])])])])]), (.tup [(.str (sx [113])), (.tup []), (.tup []), (.tup [(.tup []), (.tup [])]), (.tup [(.tup []), (.tup [])]), (.tup [(.tup [(.str (sx [104,111,108,100])), (.str (sx [108])), (.tup [])])])]), (.tup [(.str (sx [114])), (.tup []), (.tup []), (.tup [(.tup []), (.tup [])]), (.tup [(.tup []), (.tup [])]), (.tup [(.tup [(.str (sx [104,111,108,100])), (.str (sx [109])), (.tup [])])])])], .lst [(.str (sx [108])), (.str (sx [109])), (.str (sx [107]))], .lst [(.tup [(.str (sx [107])), (.str (sx [108])), (.str (sx [109]))]), (.tup [(.str (sx [107])), (.str (sx [109])), (.str (sx [108]))])], .lst [(.tup [(.str (sx [112])), (.tup []), (.tup []), (.tup [(.tup []), (.tup [])]), (.tup [(.tup []), (.tup [])]), (.tup [(.tup [(.str (sx [104,111,108,100])), (.str (sx [122])), (.tup [(.tup [(.str (sx [104,111,108,100])), (.str (sx [108])), (.tup [])])])])])])], .lst [(.str (sx [108]))], .lst [(.tup [(.str (sx [108]))])], .lst [(.tup [(.str (sx [112])), (.tup []), (.tup []), (.tup [(.tup []), (.tup [])]), (.tup [(.tup []), (.tup [])]), (.tup [(.tup [(.str (sx [104,111,108,100])), (.str (sx [108])), (.tup [(.tup [(.str (sx [104,111,108,100])), (.str (sx [122])), (.tup [])])])])])])], .lst [(.str (sx [108]))], .lst [(.tup [(.str (sx [108]))])], .lst [(.tup [(.str (sx [112])), (.tup []), (.tup []), (.tup [(.tup []), (.tup [])]), (.tup [(.tup []), (.tup [])]), (.tup [(.tup [(.str (sx [105,102])), (.int 1), (.str (sx [105,115])), (.int 2), (.tup [(.tup [(.str (sx [104,111,108,100])), (.str (sx [109])), (.tup [(.tup [(.str (sx [104,111,108,100])), (.str (sx [108])), (.tup [])])])])]), (.tup [])])])])], .lst [(.str (sx [108])), (.str (sx [109]))], .lst [(.tup [(.str (sx [109])), (.str (sx [108]))])], .lst [(.tup [(.str (sx [112])), (.tup []), (.tup []), (.tup [(.tup []), (.tup [])]), (.tup [(.tup []), (.tup [])]), (.tup [(.tup [(.str (sx [119,104,105,108,101])), (.int 1), (.str (sx [105,115])), (.int 2), (.tup [(.tup []), (.tup [])]), (.tup [(.tup []), (.tup [])]), (.tup [(.tup [(.str (sx [104,111,108,100])), (.str (sx [109])), (.tup [(.tup [(.str (sx [104,111,108,100])), (.str (sx [108])), (.tup [])])])])])])])])], .lst [(.str (sx [108])), (.str (sx [109]))], .lst [(.tup [(.str (sx [109])), (.str (sx [108]))])], .lst [(.tup [(.str (sx [112])), (.tup []), (.tup []), (.tup [(.tup []), (.tup [])]), (.tup [(.tup []), (.tup [])]), (.tup [(.tup [(.str (sx [105,102])), (.int 1), (.str (sx [105,115])), (.int 1), (.tup []), (.tup [(.tup [(.str (sx [104,111,108,100])), (.str (sx [109])), (.tup [(.tup [(.str (sx [104,111,108,100])), (.str (sx [108])), (.tup [])])])])])])])])], .lst [(.str (sx [108])), (.str (sx [109]))], .lst [(.tup [(.str (sx [109])), (.str (sx [108]))])], .lst [(.tup [(.str (sx [112])), (.tup []), (.tup []), (.tup [(.tup []), (.tup [])]), (.tup [(.tup []), (.tup [])]), (.tup [(.tup [(.str (sx [104,111,108,100])), (.str (sx [109])), (.tup [(.tup [(.str (sx [99,97,108,108])), (.tup []), (.str (sx [113])), (.tup [(.int 1)])])])])])]), (.tup [(.str (sx [113])), (.tup []), (.tup []), (.tup [(.tup []), (.tup [])]), (.tup [(.tup []), (.tup [])]), (.tup [(.tup [(.str (sx [104,111,108,100])), (.str (sx [108])), (.tup [])])])])], .lst [(.str (sx [108])), (.str (sx [109]))], .lst [(.tup [(.str (sx [108])), (.str (sx [109]))]), (.tup [(.str (sx [109])), (.str (sx [108]))])], .lst [(.tup [(.str (sx [112])), (.tup []), (.tup []), (.tup [(.tup []), (.tup [])]), (.tup [(.tup []), (.tup [])]), (.tup [(.tup [(.str (sx [104,111,108,100])), (.str (sx [109])), (.tup [(.tup [(.str (sx [99,97,108,108])), (.tup [(.str (sx [97]))]), (.str (sx [113])), (.tup [])])])])])]), (.tup [(.str (sx [113])), (.tup []), (.tup []), (.tup [(.tup []), (.tup [])]), (.tup [(.tup []), (.tup [])]), (.tup [(.tup [(.str (sx [104,111,108,100])), (.str (sx [108])), (.tup [])])])])], .lst [(.str (sx [108])), (.str (sx [109]))], .lst [(.tup [(.str (sx [108])), (.str (sx [109]))]), (.tup [(.str (sx [109])), (.str (sx [108]))])], .lst [(.tup [(.str (sx [112])), (.tup []), (.tup []), (.tup [(.tup []), (.tup [])]), (.tup [(.tup []), (.tup [])]), (.tup [(.tup [(.str (sx [104,111,108,100])), (.str (sx [109])), (.tup [(.tup [(.str (sx [98,111,116,104])), (.tup [(.str (sx [97]))]), (.str (sx [113])), (.tup []), (.tup []), (.str (sx [113])), (.tup [(.int 1)])])])])])]), (.tup [(.str (sx [113])), (.tup []), (.tup []), (.tup [(.tup []), (.tup [])]), (.tup [(.tup []), (.tup [])]), (.tup [(.tup [(.str (sx [104,111,108,100])), (.str (sx [108])), (.tup [])])])])], .lst [(.str (sx [108])), (.str (sx [109]))], .lst [(.tup [(.str (sx [108])), (.str (sx [109]))]), (.tup [(.str (sx [109])), (.str (sx [108]))])], .lst [(.tup [(.str (sx [112])), (.tup []), (.tup []), (.tup [(.tup []), (.tup [])]), (.tup [(.tup []), (.tup [])]), (.tup [(.tup [(.str (sx [99,97,108,108])), (.tup []), (.str (sx [113])), (.tup [])])])]), (.tup [(.str (sx [113])), (.tup []), (.tup []), (.tup [(.tup []), (.tup [])]), (.tup [(.tup []), (.tup [])]), (.tup [(.tup [(.str (sx [104,111,108,100])), (.str (sx [109])), (.tup [(.tup [(.str (sx [99,97,108,108])), (.tup []), (.str (sx [114])), (.tup [])])])])])])], .lst [(.tup [(.str (sx [112])), (.tup []), (.tup []), (.tup [(.tup []), (.tup [])]), (.tup [(.tup []), (.tup [])]), (.tup [(.tup [(.str (sx [99,97,108,108])), (.tup []), (.str (sx [113])), (.tup [])])])]), (.tup [(.str (sx [113])), (.tup []), (.tup []), (.tup [(.tup []), (.tup [])]), (.tup [(.tup []), (.tup [])]), (.tup [(.tup [(.str (sx [104,111,108,100])), (.str (sx [109])), (.tup [(.tup [(.str (sx [99,97,108,108])), (.tup []), (.str (sx [114])), (.tup [])])])])])]), (.tup [(.str (sx [114])), (.tup []), (.tup []), (.tup [(.tup []), (.tup [])]), (.tup [(.tup []), (.tup [])]), (.tup [(.tup [(.str (sx [104,111,108,100])), (.str (sx [108])), (.tup [])])])])], .lst [(.str (sx [108])), (.str (sx [109]))], .lst [(.tup [(.str (sx [109])), (.str (sx [108]))])], .lst [], .lst [(.str (sx [108]))], .lst [(.str (sx [109])), (.str (sx [108]))], .lst [(.str (sx [109])), (.str (sx [108]))], .lst [(.str (sx [109])), (.str (sx [108]))], .lst [(.str (sx [109])), (.str (sx [108]))], .lst [(.str (sx [107])), (.str (sx [109])), (.str (sx [108]))], .lst [(.str (sx [108]))], .lst [(.str (sx [108]))], .lst [(.str (sx [109])), (.str (sx [108]))], .lst [(.str (sx [109])), (.str (sx [108]))], .lst [(.str (sx [109])), (.str (sx [108]))], .lst [(.str (sx [109])), (.str (sx [108]))], .lst [(.str (sx [109])), (.str (sx [108]))], .lst [(.str (sx [109])), (.str (sx [108]))], .lst [(.str (sx [109])), (.str (sx [108]))], .lst [(.tup [(.str (sx [112])), (.tup []), (.tup []), (.tup [(.tup []), (.tup [])]), (.tup [(.tup []), (.tup [])]), (.tup [(.tup [(.str (sx [104,111,108,100])), (.str (sx [108])), (.tup [(.tup [(.str (sx [104,111,108,100])), (.str (sx [108])), (.tup [])])])])])])], .lst [(.str (sx [108]))], .lst [(.tup [(.loc .lst 66), (.loc .lst 67), (.tup [(.tup [(.str (sx [108])), (.tup [(.tup [(.str (sx [112])), (.int 0)]), (.tup [(.str (sx [112])), (.int 1)])])])])]), (.tup [(.loc .lst 69), (.loc .lst 70), (.tup [(.tup [(.str (sx [108])), (.tup [(.tup [(.str (sx [112])), (.int 0)]), (.tup [(.str (sx [112])), (.int 1)]), (.tup [(.str (sx [113])), (.int 0)])])])])]), (.tup [(.loc .lst 71), (.loc .lst 72), (.tup [(.tup [(.str (sx [108])), (.tup [(.tup [(.str (sx [112])), (.int 0)]), (.tup [(.str (sx [112])), (.int 1)]), (.tup [(.str (sx [113])), (.int 0)])])])])]), (.tup [(.loc .lst 73), (.loc .lst 74), (.tup [(.tup [(.str (sx [108])), (.tup [(.tup [(.str (sx [112])), (.int 0)]), (.tup [(.str (sx [112])), (.int 1)])])]), (.tup [(.str (sx [109])), (.tup [(.tup [(.str (sx [113])), (.int 0)]), (.tup [(.str (sx [113])), (.int 1)])])])])]), (.tup [(.loc .lst 75), (.loc .lst 76), (.tup [(.tup [(.str (sx [108])), (.tup [(.tup [(.str (sx [112])), (.int 0)]), (.tup [(.str (sx [112])), (.int 1)])])]), (.tup [(.str (sx [109])), (.tup [(.tup [(.str (sx [113])), (.int 0)]), (.tup [(.str (sx [113])), (.int 1)])])]), (.tup [(.str (sx [107])), (.tup [(.tup [(.str (sx [114])), (.int 0)]), (.tup [(.str (sx [114])), (.int 1)])])])])]), (.tup [(.loc .lst 77), (.loc .lst 78), (.tup [(.tup [(.str (sx [108])), (.tup [(.tup [(.str (sx [112])), (.int 0)]), (.tup [(.str (sx [112])), (.int 1)]), (.tup [(.str (sx [112])), (.int 0)])])])])])], .lst [(.tup [(.str (sx [112])), (.tup []), (.tup []), (.tup [(.tup []), (.tup [])]), (.tup [(.tup []), (.tup [])]), (.tup [(.tup [(.str (sx [104,111,108,100])), (.str (sx [108])), (.tup [(.tup [(.str (sx [99,97,108,108])), (.tup []), (.str (sx [113])), (.tup [])])])])])]), (.tup [(.str (sx [113])), (.tup []), (.tup []), (.tup [(.tup []), (.tup [])]), (.tup [(.tup []), (.tup [])]), (.tup [(.tup [(.str (sx [104,111,108,100])), (.str (sx [108])), (.tup [])])])])], .lst [(.str (sx [108]))], .lst [(.tup [(.str (sx [112])), (.tup []), (.tup []), (.tup [(.tup []), (.tup [])]), (.tup [(.tup []), (.tup [])]), (.tup [(.tup [(.str (sx [104,111,108,100])), (.str (sx [108])), (.tup [(.tup [(.str (sx [98,111,116,104])), (.tup []), (.str (sx [122,122])), (.tup []), (.tup []), (.str (sx [113])), (.tup [])])])])])]), (.tup [(.str (sx [113])), (.tup []), (.tup []), (.tup [(.tup []), (.tup [])]), (.tup [(.tup []), (.tup [])]), (.tup [(.tup [(.str (sx [104,111,108,100])), (.str (sx [108])), (.tup [])])])])], .lst [(.str (sx [108])), (.str (sx [109]))], .lst [(.tup [(.str (sx [112])), (.tup []), (.tup []), (.tup [(.tup []), (.tup [])]), (.tup [(.tup []), (.tup [])]), (.tup [(.tup [(.str (sx [104,111,108,100])), (.str (sx [108])), (.tup [(.tup [(.str (sx [104,111,108,100])), (.str (sx [109])), (.tup [])])])])])]), (.tup [(.str (sx [113])), (.tup []), (.tup []), (.tup [(.tup []), (.tup [])]), (.tup [(.tup []), (.tup [])]), (.tup [(.tup [(.str (sx [104,111,108,100])), (.str (sx [109])), (.tup [(.tup [(.str (sx [104,111,108,100])), (.str (sx [108])), (.tup [])])])])])])], .lst [(.str (sx [109])), (.str (sx [108]))], .lst [(.tup [(.str (sx [112])), (.tup []), (.tup []), (.tup [(.tup []), (.tup [])]), (.tup [(.tup []), (.tup [])]), (.tup [(.tup [(.str (sx [104,111,108,100])), (.str (sx [108])), (.tup [(.tup [(.str (sx [104,111,108,100])), (.str (sx [109])), (.tup [])])])])])]), (.tup [(.str (sx [113])), (.tup []), (.tup []), (.tup [(.tup []), (.tup [])]), (.tup [(.tup []), (.tup [])]), (.tup [(.tup [(.str (sx [104,111,108,100])), (.str (sx [109])), (.tup [(.tup [(.str (sx [104,111,108,100])), (.str (sx [107])), (.tup [])])])])])]), (.tup [(.str (sx [114])), (.tup []), (.tup []), (.tup [(.tup []), (.tup [])]), (.tup [(.tup []), (.tup [])]), (.tup [(.tup [(.str (sx [104,111,108,100])), (.str (sx [107])), (.tup [(.tup [(.str (sx [104,111,108,100])), (.str (sx [108])), (.tup [])])])])])])], .lst [(.str (sx [108])), (.str (sx [109])), (.str (sx [107]))], .lst [(.tup [(.str (sx [112])), (.tup []), (.tup []), (.tup [(.tup []), (.tup [])]), (.tup [(.tup []), (.tup [])]), (.tup [(.tup [(.str (sx [104,111,108,100])), (.str (sx [108])), (.tup [(.tup [(.str (sx [99,97,108,108])), (.tup []), (.str (sx [112])), (.tup [])])])])])])], .lst [(.str (sx [108]))], .lst [(.str (sx [108]))], .lst [(.tup [(.tup [(.str (sx [108])), (.tup [(.tup [(.str (sx [112])), (.int 0)]), (.tup [(.str (sx [112])), (.int 1)])])])])], .lst [(.tup [(.tup [(.str (sx [108])), (.tup [(.tup [(.str (sx [112])), (.int 0)]), (.tup [(.str (sx [112])), (.int 1)])])])])], .lst [(.str (sx [108]))], .lst [(.tup [(.tup [(.str (sx [108])), (.tup [(.tup [(.str (sx [112])), (.int 0)]), (.tup [(.str (sx [112])), (.int 1)]), (.tup [(.str (sx [113])), (.int 0)])])])])], .lst [(.tup [(.tup [(.str (sx [108])), (.tup [(.tup [(.str (sx [112])), (.int 0)]), (.tup [(.str (sx [112])), (.int 1)]), (.tup [(.str (sx [113])), (.int 0)])])])])], .lst [(.str (sx [109])), (.str (sx [108]))], .lst [(.tup [(.tup [(.str (sx [108])), (.tup [(.tup [(.str (sx [112])), (.int 0)]), (.tup [(.str (sx [112])), (.int 1)]), (.tup [(.str (sx [113])), (.int 0)])])])])], .lst [(.tup [(.tup [(.str (sx [108])), (.tup [(.tup [(.str (sx [112])), (.int 0)]), (.tup [(.str (sx [112])), (.int 1)]), (.tup [(.str (sx [113])), (.int 0)])])])])], .lst [(.str (sx [108])), (.str (sx [109]))], .lst [(.tup [(.tup [(.str (sx [108])), (.tup [(.tup [(.str (sx [112])), (.int 0)]), (.tup [(.str (sx [112])), (.int 1)])])]), (.tup [(.str (sx [109])), (.tup [(.tup [(.str (sx [113])), (.int 0)]), (.tup [(.str (sx [113])), (.int 1)])])])]), (.tup [(.tup [(.str (sx [109])), (.tup [(.tup [(.str (sx [113])), (.int 0)]), (.tup [(.str (sx [113])), (.int 1)])])]), (.tup [(.str (sx [108])), (.tup [(.tup [(.str (sx [112])), (.int 0)]), (.tup [(.str (sx [112])), (.int 1)])])])])], .lst [(.tup [(.tup [(.str (sx [108])), (.tup [(.tup [(.str (sx [112])), (.int 0)]), (.tup [(.str (sx [112])), (.int 1)])])]), (.tup [(.str (sx [109])), (.tup [(.tup [(.str (sx [113])), (.int 0)]), (.tup [(.str (sx [113])), (.int 1)])])])]), (.tup [(.tup [(.str (sx [109])), (.tup [(.tup [(.str (sx [113])), (.int 0)]), (.tup [(.str (sx [113])), (.int 1)])])]), (.tup [(.str (sx [108])), (.tup [(.tup [(.str (sx [112])), (.int 0)]), (.tup [(.str (sx [112])), (.int 1)])])])])], .lst [(.str (sx [107])), (.str (sx [109])), (.str (sx [108]))], .lst [(.tup [(.tup [(.str (sx [108])), (.tup [(.tup [(.str (sx [112])), (.int 0)]), (.tup [(.str (sx [112])), (.int 1)])])]), (.tup [(.str (sx [109])), (.tup [(.tup [(.str (sx [113])), (.int 0)]), (.tup [(.str (sx [113])), (.int 1)])])]), (.tup [(.str (sx [107])), (.tup [(.tup [(.str (sx [114])), (.int 0)]), (.tup [(.str (sx [114])), (.int 1)])])])]), (.tup [(.tup [(.str (sx [109])), (.tup [(.tup [(.str (sx [113])), (.int 0)]), (.tup [(.str (sx [113])), (.int 1)])])]), (.tup [(.str (sx [107])), (.tup [(.tup [(.str (sx [114])), (.int 0)]), (.tup [(.str (sx [114])), (.int 1)])])]), (.tup [(.str (sx [108])), (.tup [(.tup [(.str (sx [112])), (.int 0)]), (.tup [(.str (sx [112])), (.int 1)])])])]), (.tup [(.tup [(.str (sx [107])), (.tup [(.tup [(.str (sx [114])), (.int 0)]), (.tup [(.str (sx [114])), (.int 1)])])]), (.tup [(.str (sx [108])), (.tup [(.tup [(.str (sx [112])), (.int 0)]), (.tup [(.str (sx [112])), (.int 1)])])]), (.tup [(.str (sx [109])), (.tup [(.tup [(.str (sx [113])), (.int 0)]), (.tup [(.str (sx [113])), (.int 1)])])])])], .lst [(.tup [(.tup [(.str (sx [108])), (.tup [(.tup [(.str (sx [112])), (.int 0)]), (.tup [(.str (sx [112])), (.int 1)])])]), (.tup [(.str (sx [109])), (.tup [(.tup [(.str (sx [113])), (.int 0)]), (.tup [(.str (sx [113])), (.int 1)])])]), (.tup [(.str (sx [107])), (.tup [(.tup [(.str (sx [114])), (.int 0)]), (.tup [(.str (sx [114])), (.int 1)])])])]), (.tup [(.tup [(.str (sx [109])), (.tup [(.tup [(.str (sx [113])), (.int 0)]), (.tup [(.str (sx [113])), (.int 1)])])]), (.tup [(.str (sx [107])), (.tup [(.tup [(.str (sx [114])), (.int 0)]), (.tup [(.str (sx [114])), (.int 1)])])]), (.tup [(.str (sx [108])), (.tup [(.tup [(.str (sx [112])), (.int 0)]), (.tup [(.str (sx [112])), (.int 1)])])])]), (.tup [(.tup [(.str (sx [107])), (.tup [(.tup [(.str (sx [114])), (.int 0)]), (.tup [(.str (sx [114])), (.int 1)])])]), (.tup [(.str (sx [108])), (.tup [(.tup [(.str (sx [112])), (.int 0)]), (.tup [(.str (sx [112])), (.int 1)])])]), (.tup [(.str (sx [109])), (.tup [(.tup [(.str (sx [113])), (.int 0)]), (.tup [(.str (sx [113])), (.int 1)])])])])], .lst [(.str (sx [108]))], .lst [(.tup [(.tup [(.str (sx [108])), (.tup [(.tup [(.str (sx [112])), (.int 0)]), (.tup [(.str (sx [112])), (.int 1)]), (.tup [(.str (sx [112])), (.int 0)])])])])], .lst [(.tup [(.tup [(.str (sx [108])), (.tup [(.tup [(.str (sx [112])), (.int 0)]), (.tup [(.str (sx [112])), (.int 1)]), (.tup [(.str (sx [112])), (.int 0)])])])])], .lst [(.tup [(.str (sx [112])), (.tup []), (.tup []), (.tup [(.tup []), (.tup [])]), (.tup [(.tup []), (.tup [])]), (.tup [(.tup [(.str (sx [104,111,108,100])), (.str (sx [108])), (.tup [(.tup [(.str (sx [104,111,108,100])), (.str (sx [109])), (.tup [])])])])])]), (.tup [(.str (sx [113])), (.tup []), (.tup []), (.tup [(.tup []), (.tup [])]), (.tup [(.tup []), (.tup [])]), (.tup [(.tup [(.str (sx [104,111,108,100])), (.str (sx [109])), (.tup [(.tup [(.str (sx [104,111,108,100])), (.str (sx [107])), (.tup [])])])])])]), (.tup [(.str (sx [114])), (.tup []), (.tup []), (.tup [(.tup []), (.tup [])]), (.tup [(.tup []), (.tup [])]), (.tup [(.tup [(.str (sx [104,111,108,100])), (.str (sx [107])), (.tup [(.tup [(.str (sx [104,111,108,100])), (.str (sx [108])), (.tup [])])])])])])], .lst [(.tup [(.str (sx [109])), (.tup [(.tup []), (.tup [])])]), (.tup [(.str (sx [108])), (.tup [(.tup []), (.tup [])])])], .lst [(.tup [(.str (sx [112])), (.tup []), (.tup []), (.tup [(.tup []), (.tup [])]), (.tup [(.tup []), (.tup [])]), (.tup [(.tup [(.str (sx [104,111,108,100])), (.str (sx [107])), (.tup [(.tup [(.str (sx [98,111,116,104])), (.tup []), (.str (sx [113])), (.tup []), (.tup []), (.str (sx [114])), (.tup [])])])])])]), (.tup [(.str (sx [113])), (.tup []), (.tup []), (.tup [(.tup []), (.tup [])]), (.tup [(.tup []), (.tup [])]), (.tup [(.tup [(.str (sx [104,111,108,100])), (.str (sx [108])), (.tup [])])])]), (.tup [(.str (sx [114])), (.tup []), (.tup []), (.tup [(.tup []), (.tup [])]), (.tup [(.tup []), (.tup [])]), (.tup [(.tup [(.str (sx [104,111,108,100])), (.str (sx [109])), (.tup [])])])])]]
theorem q5 (ns : List Int) : kC g FF 100000 (body 5) (e24 ns) S25 = some (.nx, (e25 ns), S26) := by kernel_rfl
theorem q6 (ns : List Int) : kC g FF 100000 (body 6) (e25 ns) S26 = some (.nx, (e25 ns), S26) := by kernel_rfl
theorem q7 (ns : List Int) : kCs g FF 100000 [body 7] (e25 ns) S26 = some (.rt (.bl true), (e25 ns), S26) := by kernel_rfl
theorem law_plain : ∀ ns : List Int, ns.length ≤ 63 → ∃ S, callN g fs 100000 21 f_law.nm [.scr ns] [] = some (.bl true, S) := fun ns h => ⟨_, (sg_call (f := f_law) (n := 20) (by kernel_rfl) rfl (by rw [← kN_eq]; exact (show evCs g FF 100000 f_law.body (e0 ns) S0 = some (.rt (.bl true), (e25 ns), S26) from sg_nx (q0 ns) (sg_for (q1 ns) (sg_step (q1_0 ns) (sg_step (q1_1 ns) (sg_step (q1_2 ns) (sg_step (q1_3 ns) (sg_step (q1_4 ns) (sg_step (q1_5 ns) (sg_step (q1_6 ns) (sg_step (q1_7 ns) (sg_step (q1_8 ns) (sg_step (q1_9 ns) (sg_step (q1_10 ns) (sg_step (q1_11 ns) (sg_step (q1_12 ns) (sg_step (q1_13 ns) (sg_step (q1_14 ns) (sg_step (q1_15 ns) (sg_done (by decide)))))))))))))))))) (sg_for (q2 ns) (sg_step (q2_0 ns) (sg_step (q2_1 ns) (sg_step (q2_2 ns) (sg_step (q2_3 ns) (sg_step (q2_4 ns) (sg_step (q2_5 ns) (sg_done (by decide)))))))) (sg_nx (q3 ns) (sg_nx (q4 ns) (sg_nx (q5 ns) (sg_nx (q6 ns) (sg_end (q7 ns))))))))))).trans (congrArg some (Prod.ext (gc_bl _ _ _) rfl))⟩
end CV.k44

set_option maxHeartbeats 0
namespace CV.k44
open PySem CV PySem.Spec PyProof.Rows L2
theorem c_inner_of : cF tb f_inner_of.nm f_inner_of.ps f_inner_of.N (top 1) = some f_inner_of := by kernel_rfl
theorem c_numbered : cF tb f_numbered.nm f_numbered.ps f_numbered.N (top 2) = some f_numbered := by kernel_rfl
theorem c_called_by : cF tb f_called_by.nm f_called_by.ps f_called_by.N (top 4) = some f_called_by := by kernel_rfl
theorem c_called_work : cF tb f_called_work.nm f_called_work.ps f_called_work.N (top 6) = some f_called_work := by kernel_rfl
theorem c_inner_rows : cF tb f_inner_rows.nm f_inner_rows.ps f_inner_rows.N (top 7) = some f_inner_rows := by kernel_rfl
theorem c_numbered_rows : cF tb f_numbered_rows.nm f_numbered_rows.ps f_numbered_rows.N (top 8) = some f_numbered_rows := by kernel_rfl
theorem c_calls_of : cF tb f_calls_of.nm f_calls_of.ps f_calls_of.N (top 10) = some f_calls_of := by kernel_rfl
theorem c_works_in : cF tb f_works_in.nm f_works_in.ps f_works_in.N (top 11) = some f_works_in := by kernel_rfl
theorem c_chains_of : cF tb f_chains_of.nm f_chains_of.ps f_chains_of.N (top 12) = some f_chains_of := by kernel_rfl
theorem c_chains_within : cF tb f_chains_within.nm f_chains_within.ps f_chains_within.N (top 13) = some f_chains_within := by kernel_rfl
theorem c_without_rounds : cF tb f_without_rounds.nm f_without_rounds.ps f_without_rounds.N (top 14) = some f_without_rounds := by kernel_rfl
theorem c_steps_of : cF tb f_steps_of.nm f_steps_of.ps f_steps_of.N (top 15) = some f_steps_of := by kernel_rfl
theorem c_ring_from : cF tb f_ring_from.nm f_ring_from.ps f_ring_from.N (top 16) = some f_ring_from := by kernel_rfl
theorem c_may_take : cF tb f_may_take.nm f_may_take.ps f_may_take.N (top 17) = some f_may_take := by kernel_rfl
theorem c_order_or_ring : cF tb f_order_or_ring.nm f_order_or_ring.ps f_order_or_ring.N (top 18) = some f_order_or_ring := by kernel_rfl
theorem c__law_work : cF tb f__law_work.nm f__law_work.ps f__law_work.N (top 20) = some f__law_work := by kernel_rfl
theorem c__law_hold : cF tb f__law_hold.nm f__law_hold.ps f__law_hold.N (top 21) = some f__law_hold := by kernel_rfl
theorem c__law_rows : cF tb f__law_rows.nm f__law_rows.ps f__law_rows.N (top 22) = some f__law_rows := by kernel_rfl
theorem c__law_rings : cF tb f__law_rings.nm f__law_rings.ps f__law_rings.N (top 23) = some f__law_rings := by kernel_rfl
theorem c_law : cF tb f_law.nm f_law.ps f_law.N (top 24) = some f_law := by kernel_rfl
def d_inner_of : Dd := ⟨top 1, f_inner_of⟩
theorem k_inner_of : d_inner_of.Ok tb := ⟨c_inner_of, by kernel_rfl, fun _ _ _ _ _ _ us hl => match us, hl with | [_], _ => rfl⟩
def d_numbered : Dd := ⟨top 2, f_numbered⟩
theorem k_numbered : d_numbered.Ok tb := ⟨c_numbered, by kernel_rfl, fun _ _ _ _ _ _ us hl => match us, hl with | [_, _], _ => rfl⟩
def d_called_by : Dd := ⟨top 4, f_called_by⟩
theorem k_called_by : d_called_by.Ok tb := ⟨c_called_by, by kernel_rfl, fun _ _ _ _ _ _ us hl => match us, hl with | [_, _], _ => rfl⟩
def d_called_work : Dd := ⟨top 6, f_called_work⟩
theorem k_called_work : d_called_work.Ok tb := ⟨c_called_work, by kernel_rfl, fun _ _ _ _ _ _ us hl => match us, hl with | [_, _, _, _], _ => rfl⟩
def d_inner_rows : Dd := ⟨top 7, f_inner_rows⟩
theorem k_inner_rows : d_inner_rows.Ok tb := ⟨c_inner_rows, by kernel_rfl, fun _ _ _ _ _ _ us hl => match us, hl with | [_], _ => rfl⟩
def d_numbered_rows : Dd := ⟨top 8, f_numbered_rows⟩
theorem k_numbered_rows : d_numbered_rows.Ok tb := ⟨c_numbered_rows, by kernel_rfl, fun _ _ _ _ _ _ us hl => match us, hl with | [_, _], _ => rfl⟩
def d_calls_of : Dd := ⟨top 10, f_calls_of⟩
theorem k_calls_of : d_calls_of.Ok tb := ⟨c_calls_of, by kernel_rfl, fun _ _ _ _ _ _ us hl => match us, hl with | [_], _ => rfl⟩
def d_works_in : Dd := ⟨top 11, f_works_in⟩
theorem k_works_in : d_works_in.Ok tb := ⟨c_works_in, by kernel_rfl, fun _ _ _ _ _ _ us hl => match us, hl with | [_, _], _ => rfl⟩
def d_chains_of : Dd := ⟨top 12, f_chains_of⟩
theorem k_chains_of : d_chains_of.Ok tb := ⟨c_chains_of, by kernel_rfl, fun _ _ _ _ _ _ us hl => match us, hl with | [_, _], _ => rfl⟩
def d_chains_within : Dd := ⟨top 13, f_chains_within⟩
theorem k_chains_within : d_chains_within.Ok tb := ⟨c_chains_within, by kernel_rfl, fun _ _ _ _ _ _ us hl => match us, hl with | [_, _, _, _, _, _], _ => rfl⟩
def d_without_rounds : Dd := ⟨top 14, f_without_rounds⟩
theorem k_without_rounds : d_without_rounds.Ok tb := ⟨c_without_rounds, by kernel_rfl, fun _ _ _ _ _ _ us hl => match us, hl with | [_], _ => rfl⟩
def d_steps_of : Dd := ⟨top 15, f_steps_of⟩
theorem k_steps_of : d_steps_of.Ok tb := ⟨c_steps_of, by kernel_rfl, fun _ _ _ _ _ _ us hl => match us, hl with | [_, _], _ => rfl⟩
def d_ring_from : Dd := ⟨top 16, f_ring_from⟩
theorem k_ring_from : d_ring_from.Ok tb := ⟨c_ring_from, by kernel_rfl, fun _ _ _ _ _ _ us hl => match us, hl with | [_, _], _ => rfl⟩
def d_may_take : Dd := ⟨top 17, f_may_take⟩
theorem k_may_take : d_may_take.Ok tb := ⟨c_may_take, by kernel_rfl, fun _ _ _ _ _ _ us hl => match us, hl with | [_, _], _ => rfl⟩
def d_order_or_ring : Dd := ⟨top 18, f_order_or_ring⟩
theorem k_order_or_ring : d_order_or_ring.Ok tb := ⟨c_order_or_ring, by kernel_rfl, fun _ _ _ _ _ _ us hl => match us, hl with | [_, _], _ => rfl⟩
def d__law_work : Dd := ⟨top 20, f__law_work⟩
theorem k__law_work : d__law_work.Ok tb := ⟨c__law_work, by kernel_rfl, fun _ _ _ _ _ _ us hl => match us, hl with | [_, _], _ => rfl⟩
def d__law_hold : Dd := ⟨top 21, f__law_hold⟩
theorem k__law_hold : d__law_hold.Ok tb := ⟨c__law_hold, by kernel_rfl, fun _ _ _ _ _ _ us hl => match us, hl with | [_, _], _ => rfl⟩
def d__law_rows : Dd := ⟨top 22, f__law_rows⟩
theorem k__law_rows : d__law_rows.Ok tb := ⟨c__law_rows, by kernel_rfl, fun _ _ _ _ _ _ us hl => match us, hl with | [], _ => rfl⟩
def d__law_rings : Dd := ⟨top 23, f__law_rings⟩
theorem k__law_rings : d__law_rings.Ok tb := ⟨c__law_rings, by kernel_rfl, fun _ _ _ _ _ _ us hl => match us, hl with | [], _ => rfl⟩
def d_law : Dd := ⟨top 24, f_law⟩
theorem k_law : d_law.Ok tb := ⟨c_law, by kernel_rfl, fun _ _ _ _ _ _ us hl => match us, hl with | [_], _ => rfl⟩
def dds : List Dd := [d_inner_of, d_numbered, d_called_by, d_called_work, d_inner_rows, d_numbered_rows, d_calls_of, d_works_in, d_chains_of, d_chains_within, d_without_rounds, d_steps_of, d_ring_from, d_may_take, d_order_or_ring, d__law_work, d__law_hold, d__law_rows, d__law_rings, d_law]
theorem dds_ok : ∀ x ∈ dds, x.Ok tb := by
  intro x hx
  simp only [dds, List.mem_cons, List.not_mem_nil, or_false] at hx
  rcases hx with rfl | rfl | rfl | rfl | rfl | rfl | rfl | rfl | rfl | rfl | rfl | rfl | rfl | rfl | rfl | rfl | rfl | rfl | rfl | rfl
  · exact k_inner_of
  · exact k_numbered
  · exact k_called_by
  · exact k_called_work
  · exact k_inner_rows
  · exact k_numbered_rows
  · exact k_calls_of
  · exact k_works_in
  · exact k_chains_of
  · exact k_chains_within
  · exact k_without_rounds
  · exact k_steps_of
  · exact k_ring_from
  · exact k_may_take
  · exact k_order_or_ring
  · exact k__law_work
  · exact k__law_hold
  · exact k__law_rows
  · exact k__law_rings
  · exact k_law
abbrev R : PySem.W.OpenRow := PySem.W.OpenLaw.row PySem.Challenge.rw_cellvouch_k44_known_orders
abbrev hk : PySem.W.Hook := He.hookX 4 (fas dds) (dds.map Dd.d) (tabs g) [] (modB tb g)
def ob (s : PySem.W.SharedT) : He.AlX := He.obsX 4 (fas dds) (dds.map Dd.d) (tabs g) [] (modB tb g) (HandSHeadRun.getT s)
theorem ob_eq (s : PySem.W.SharedT) : ob s = hk.obs s.abs := He.obsX_eq (HandSHeadRun.getT_eq s)
theorem run (w : World) : HandSHeadRun.RunEq R (PySem.W.view R.prog [24]) hk ob 20000 ("inner_of" :: "numbered" :: "called_by" :: "called_work" :: "inner_rows" :: "numbered_rows" :: "calls_of" :: "works_in" :: "chains_of" :: "chains_within" :: "without_rounds" :: "steps_of" :: "ring_from" :: "may_take" :: "order_or_ring" :: "_law_work" :: "_law_hold" :: "_law_rows" :: "_law_rings" :: []) w := by
  refine PySem.W.byRow2 "special-get-raises" (P := fun w => HandSHeadRun.RunEq R (PySem.W.view R.prog [24]) hk ob 20000 ("inner_of" :: "numbered" :: "called_by" :: "called_work" :: "inner_rows" :: "numbered_rows" :: "calls_of" :: "works_in" :: "chains_of" :: "chains_within" :: "without_rounds" :: "steps_of" :: "ring_from" :: "may_take" :: "order_or_ring" :: "_law_work" :: "_law_hold" :: "_law_rows" :: "_law_rings" :: []) w) (fun w => ?_) (fun w => ?_) w
  · intro os
    kernel_rfl
  · intro os
    kernel_rfl

end CV.k44
open PySem PySem.W PySem.Calls PyProof.Rows in
theorem PySem.Challenge.cw_cellvouch_k44_known_orders_holds : PySem.Challenge.rw_cellvouch_k44_known_orders.Holds := by
  w_on; o_law
  refine HandSHeadRun.head_any (r := OpenLaw.row PySem.Challenge.rw_cellvouch_k44_known_orders) (q := view (OpenLaw.row PySem.Challenge.rw_cellvouch_k44_known_orders).prog [24]) (H := CV.k44.hk) (ob := CV.k44.ob) (M := 20000) (loose := ("inner_of" :: "numbered" :: "called_by" :: "called_work" :: "inner_rows" :: "numbered_rows" :: "calls_of" :: "works_in" :: "chains_of" :: "chains_within" :: "without_rounds" :: "steps_of" :: "ring_from" :: "may_take" :: "order_or_ring" :: "_law_work" :: "_law_hold" :: "_law_rows" :: "_law_rings" :: [])) (d := HandSHeadRun.topDef (OpenLaw.row PySem.Challenge.rw_cellvouch_k44_known_orders).prog 24) (kwd := []) CV.k44.ob_eq
    (by kernel_rfl) (fun s => by kernel_rfl) CV.k44.run (by kernel_rfl) (by kernel_rfl) (by kernel_rfl) (by rfl) (by first | assumption | decide +kernel) (by decide +kernel) ⟨rfl, rfl, rfl, rfl, rfl, by decide +kernel⟩ ?hw ?hc
  case hw => w_witness2
  case hc =>
    exact CV.law_of (l := PySem.Challenge.rw_cellvouch_k44_known_orders) (dl := CV.k44.d_law) (fuel := 100000) (n := 21) rfl ⟨rfl, by decide, by decide⟩ (by kernel_rfl) (by kernel_rfl) (by kernel_rfl) (by simp [CV.k44.dds]) CV.k44.dds_ok (by decide +kernel) (by kernel_rfl) (by decide +kernel) (by kernel_rfl) CV.k44.law_plain
