import PyProof.Rows.All
import Wide.All
import OpenK.AllK
import Wide.FinOn
import PySem.Str
import HandS.ForMost
import HandS.ForExc
import HandS.Lambda
import HandS.EndTab
import HandS.IsInst
import HandS.Deep
import HandS.TupAny
import HandS.TupLe
import HandS.TupSets
import HandS.SetFor
import HandS.Strs
import HandS.Conv
import HandS.Style
import HandS.ExcField
import HandS.ExcInit
import HandS.Wide
import HandS.ExcIs
import PySem.Builtin.Int.Common
import PySem.Challenge.RW_ferriedover_k05_whole_covers_and_pairs_a
import KE.KNestM
import KE.KLam
/-! Data of Python as trees, and the meaning of expressions, statements and defs over them: no heap here. -/
set_option linter.all false
namespace Fe
open PySem (Str)

/-- data: what a value is worth -/
inductive D where
  | non | bl (b : Bool) | int (i : Int) | str (s : Str) | lst (l : List D) | tup (l : List D)
  deriving Inhabited

/-- the longest list, tuple, text -/
def lim : Nat := 16777216

/-! ### equality as Python has it -/
mutual
def eqv : D → D → Bool
  | .non, .non => true
  | .bl a, .bl b => a == b
  | .bl a, .int j => (if a then 1 else 0) == j
  | .int i, .bl b => i == (if b then 1 else 0)
  | .int i, .int j => i == j
  | .str x, .str y => x == y
  | .lst xs, .lst ys => eqvs xs ys
  | .tup xs, .tup ys => eqvs xs ys
  | _, _ => false
def eqvs : List D → List D → Bool
  | [], [] => true
  | x :: xs, y :: ys => eqv x y && eqvs xs ys
  | _, _ => false
end
mutual
def dep : D → Nat
  | .lst xs => deps xs + 1
  | .tup xs => deps xs + 1
  | _ => 0
def deps : List D → Nat
  | [] => 0
  | x :: xs => max (dep x) (deps xs)
end

mutual
/-- all signs are signs -/
def lay : D → Bool
  | .str s => s.cps.all (· < 0x110000)
  | .lst xs => lays xs
  | .tup xs => lays xs
  | _ => true
def lays : List D → Bool
  | [] => true
  | x :: xs => lay x && lays xs
end
/-! ### results, the state -/
/-- what a slot holds: data that never changes again, or a list of one's own -/
inductive C where
  | p (d : D) | o (d : D)
abbrev Env := List (Option C)
/-- an exception: its class, its fields -/
structure Ex where
  c : Str
  fs : List (Str × D)
inductive R (α : Type) where
  | ok (a : α) (ρ : Env) | ex (x : Ex) (ρ : Env) | no
abbrev M (α : Type) := Env → R α
def ret {α : Type} (a : α) : M α := fun ρ => .ok a ρ
def bnd {α β : Type} (f : M α) (k : α → M β) : M β := fun ρ => match f ρ with
  | .ok a ρ' => k a ρ'
  | .ex x ρ' => .ex x ρ'
  | .no => .no
def lft {α : Type} : Option α → M α
  | some a => ret a
  | none => fun _ => .no
def raise {α : Type} (x : Ex) : M α := fun ρ => .ex x ρ
instance : Monad M where
  pure := ret
  bind := bnd

/-- a result of a def: a value; an exception; nothing is said -/
inductive F where
  | ok (d : D) | ex (x : Ex) | no
/-- .. of a def whose first argument is a list that it may change -/
inductive FO where
  | ok (d : D) (o : D) | no
/-- how a statement ends -/
inductive Fl where
  | nx | rt (d : D) | bk | ct

/-! ### names -/
def get (ρ : Env) (i : Nat) : Option C := (ρ[i]?).getD none
def vr (i : Nat) : M D := fun ρ => match get ρ i with
  | some (.p d) => .ok d ρ
  | _ => .no
def st (i : Nat) (d : D) : M Unit := fun ρ => .ok () (ρ.set i (some (.p d)))
def own (i : Nat) : M D := fun ρ => match get ρ i with
  | some (.o d) => .ok d ρ
  | _ => .no
def sto (i : Nat) (d : D) : M Unit := fun ρ => .ok () (ρ.set i (some (.o d)))
/-- from here on the list does not change any more -/
def frz (i : Nat) : M Unit := bnd (own i) (st i)
def del (i : Nat) : M Unit := fun ρ => .ok () (ρ.set i none)

/-! ### operations -/
def asInt : D → Option Int
  | .int i => some i
  | _ => none
def asBool : D → Option Bool
  | .bl b => some b
  | _ => none
def items : D → Option (List D)
  | .lst l => some l
  | .tup l => some l
  | _ => none
def fewL (l : List D) : Option D := if l.length ≤ lim then some (.lst l) else none
def fewT (l : List D) : Option D := if l.length ≤ lim then some (.tup l) else none
def dAdd : D → D → Option D
  | .int i, .int j => some (.int (i + j))
  | .str x, .str y => if x.length + y.length ≤ lim then some (.str (x ++ y)) else none
  | .tup x, .tup y => if x.length + y.length ≤ lim then some (.tup (x ++ y)) else none
  | _, _ => none
def dSub : D → D → Option D
  | .int i, .int j => some (.int (i - j))
  | _, _ => none
def smallI (i : Int) : Bool := decide (-(2 ^ 64) < i ∧ i < 2 ^ 64)
def dMul : D → D → Option D
  | .int i, .int j => if smallI i || smallI j then some (.int (i * j)) else none
  | _, _ => none
def dDiv : D → D → Option D
  | .int i, .int j => if decide (0 < j ∧ j < 1073741824) then some (.int (i / j)) else none
  | _, _ => none
def dMod : D → D → Option D
  | .int i, .int j => if decide (0 < j) then some (.int (i % j)) else none
  | _, _ => none
def dPow : D → D → Option D
  | .int i, .int j => if decide (0 ≤ j ∧ j ≤ 1000000 ∧ i.natAbs < 2 ^ 64) then some (.int (i ^ j.toNat)) else none
  | _, _ => none
def dNeg : D → Option D
  | .int i => some (.int (-i))
  | _ => none
def intsOf : List D → Option (List Int)
  | [] => some []
  | .int i :: r => (intsOf r).map (i :: ·)
  | _ :: _ => none
def lexLt : List Int → List Int → Bool
  | [], [] => false
  | [], _ :: _ => true
  | _ :: _, [] => false
  | x :: xs, y :: ys => if x = y then lexLt xs ys else decide (x < y)
def dLt : D → D → Option Bool
  | .int i, .int j => some (decide (i < j))
  | .tup x, .tup y => (intsOf x).bind fun ns => (intsOf y).map fun ms => lexLt ns ms
  | _, _ => none
def dGt (x y : D) : Option Bool := match x, y with
  | .int i, .int j => some (decide (j < i))
  | .tup x, .tup y => (intsOf x).bind fun ns => (intsOf y).map fun ms => lexLt ms ns
  | _, _ => none
def dLe : D → D → Option Bool
  | .int i, .int j => some (decide (i ≤ j))
  | _, _ => none
def dGe : D → D → Option Bool
  | .int i, .int j => some (decide (j ≤ i))
  | _, _ => none
/-- equality is asked of data that is not too deep -/
def dEq (x y : D) : Option Bool := if dep x ≤ 64 ∧ dep y ≤ 64 ∧ lay x = true ∧ lay y = true then some (eqv x y) else none
def dNe (x y : D) : Option Bool := (dEq x y).map (!·)
def dIn (x y : D) : Option Bool := match y with
  | .lst l => if dep x ≤ 64 ∧ deps l < 64 ∧ lay x = true ∧ lays l = true then some (l.any fun z => eqv z x) else none
  | .tup l => if dep x = 0 ∧ deps l = 0 then some (l.any fun z => eqv z x) else none
  | _ => none
def dNotIn (x y : D) : Option Bool := (dIn x y).map (!·)
def isNon : D → Bool
  | .non => true
  | _ => false
def dIs : D → D → Option Bool
  | x, .non => some (isNon x)
  | .bl a, .bl b => some (a == b)
  | _, _ => none
def dIsNot (x y : D) : Option Bool := (dIs x y).map (!·)
def truth : D → Option Bool
  | .non => some false
  | .bl b => some b
  | .int i => some (i != 0)
  | .lst l => some (!l.isEmpty)
  | .tup l => some (!l.isEmpty)
  | _ => none
def ixN (n : Nat) (i : Int) : Option Nat := if 0 ≤ i then (if i < n then some i.toNat else none) else if -(n : Int) ≤ i then some (i + n).toNat else none
def dIx : D → D → Option D
  | .lst l, .int i => (ixN l.length i).bind fun j => l[j]?
  | .tup l, .int i => (ixN l.length i).bind fun j => l[j]?
  | _, _ => none
def dLen : D → Option D
  | .lst l => some (.int l.length)
  | .tup l => some (.int l.length)
  | .str s => if s.length ≤ lim then some (.int s.length) else none
  | _ => none
def dInt : D → Option D
  | .int i => some (.int i)
  | _ => none
/-- isinstance with int, bool, tuple, list, str -/
def dIsi (T : String) : D → Option Bool
  | .non => some false
  | .bl _ => some (T == "bool" || T == "int")
  | .int _ => some (T == "int")
  | .str _ => some (T == "str")
  | .lst _ => some (T == "list")
  | .tup _ => some (T == "tuple")
def dList : D → Option D
  | .lst l => some (.lst l)
  | .tup l => some (.lst l)
  | _ => none
def dTuple : D → Option D
  | .lst l => some (.tup l)
  | .tup l => some (.tup l)
  | _ => none
def boolsOf : List D → Option (List Bool)
  | [] => some []
  | .bl b :: r => (boolsOf r).map (b :: ·)
  | _ :: _ => none
def dAll : D → Option D
  | .lst l => (boolsOf l).map fun bs => .bl (bs.all id)
  | _ => none
def dAny : D → Option D
  | .lst l => (boolsOf l).map fun bs => .bl (bs.any id)
  | _ => none
def greatest : Int → List Int → Int
  | m, [] => m
  | m, x :: r => greatest (if x > m then x else m) r
def dMax : D → Option D
  | .lst l => (intsOf l).bind fun ns => match ns with
    | [] => none
    | x :: r => some (.int (greatest x r))
  | _ => none
def rng (a b : Int) : List D := (List.range (b - a).toNat).map fun (k : Nat) => .int (a + k)
def bigI (i : Int) : Bool := decide (-(2 ^ 62) ≤ i ∧ i < 2 ^ 62)
def dRng1 : D → Option (List D)
  | .int b => if bigI b then some (rng 0 b) else none
  | _ => none
def dRng2 : D → D → Option (List D)
  | .int a, .int b => if bigI a && bigI b then some (rng a b) else none
  | _, _ => none
/-- list(range(b)) -/
def dLRng1 (x : D) : Option D := (dRng1 x).bind fewL
def rngDown (a b : Int) : List D := (List.range (a - b).toNat).map fun (k : Nat) => .int (a - k)
/-- range(a, b, -1) -/
def dRngD : D → D → Option (List D)
  | .int a, .int b => if bigI a && bigI b then some (rngDown a b) else none
  | _, _ => none
/-! sorted(set(x)): ints, or tuples of ints of one length -/
def insI (x : Int) : List Int → List Int
  | [] => [x]
  | y :: r => if x = y then y :: r else if x < y then x :: y :: r else y :: insI x r
def sortI (l : List Int) : List Int := l.foldr insI []
def insT (x : List Int) : List (List Int) → List (List Int)
  | [] => [x]
  | y :: r => if x = y then y :: r else if lexLt x y then x :: y :: r else y :: insT x r
def sortT (l : List (List Int)) : List (List Int) := l.foldr insT []
def tupsOf : List D → Option (List (List Int))
  | [] => some []
  | .tup x :: r => (intsOf x).bind fun ns => (tupsOf r).map (ns :: ·)
  | _ :: _ => none
def ofTup (ns : List Int) : D := .tup (ns.map .int)
def bdd (d : Nat) (l : List (List Int)) : Bool := l.all fun ns => decide (ns.length = d) && ns.all fun i => decide (0 ≤ i ∧ i < 64)
def dSortT (l : List D) : Option D := (tupsOf l).bind fun ts => if bdd 2 ts then some (.lst ((sortT ts).map ofTup)) else none
def dSortSet : D → Option D
  | .tup l => if l.length < 64 then (match intsOf l with
    | some ns => some (.lst ((sortI ns).map .int))
    | none => dSortT l) else none
  | .lst l => if l.length < 64 then dSortT l else none
  | _ => none
/-- len(set(x)) of ints -/
def dLenSet : D → Option D
  | .lst l => if l.length < 64 then (intsOf l).map fun ns => .int (sortI ns).length else none
  | _ => none

/-! ### expressions -/
def op1 (g : D → Option D) (a : M D) : M D := bnd a fun x => lft (g x)
def op2 (g : D → D → Option D) (a b : M D) : M D := bnd a fun x => bnd b fun y => lft (g x y)
def tb (g : Option Bool) : M D := bnd (lft g) fun b => ret (.bl b)
def mbl (g : D → D → Option Bool) : D → D → Option D := fun x y => (g x y).map .bl
def cmp (g : D → D → Option Bool) (a b : M D) : M D := op2 (mbl g) a b
def cmp1 (g : D → Option Bool) (a : M D) : M D := op1 (fun x => (g x).map .bl) a
/-- low <= x <= high -/
def chn (g h : D → D → Option Bool) (a b c : M D) : M D := bnd a fun x => bnd b fun y => bnd (lft (g x y)) fun k => if k = true then bnd c fun z => tb (h y z) else ret (.bl false)
/-- an expression as a test: its truth; one that is a bool -/
def tst (a : M D) : M Bool := bnd a fun x => lft (truth x)
def tsb (a : M D) : M Bool := bnd a fun x => lft (asBool x)
def andT (a b : M Bool) : M Bool := bnd a fun k => if k = true then b else ret false
def orT (a b : M Bool) : M Bool := bnd a fun k => if k = true then ret true else b
def notT (a : M Bool) : M Bool := bnd a fun k => ret (!k)
/-- and, or, not as values: all but the last one bools -/
def andV (a b : M D) : M D := bnd a fun x => bnd (lft (asBool x)) fun k => if k = true then b else ret (.bl false)
def orV (a b : M D) : M D := bnd a fun x => bnd (lft (asBool x)) fun k => if k = true then ret (.bl true) else b
def notV (a : M D) : M D := bnd a fun x => bnd (lft (asBool x)) fun k => ret (.bl (!k))
def ifE (t : M Bool) (a b : M D) : M D := bnd t fun k => if k = true then a else b
/-- a list of expressions, from the left -/
def nilA : M (List D) := ret []
def consA (a : M D) (r : M (List D)) : M (List D) := bnd a fun x => bnd r fun l => ret (x :: l)
def tupE (a : M (List D)) : M D := bnd a fun l => lft (fewT l)
def lstE (a : M (List D)) : M D := bnd a fun l => lft (fewL l)
/-- a call of a def -/
def clF : F → M D
  | .ok d => ret d
  | .ex x => raise x
  | .no => fun _ => .no
def cl (f : List D → F) (a : M (List D)) : M D := bnd a fun l => clF (f l)
/-- .. whose first argument is the list at slot i -/
def clo (f : D → List D → FO) (i : Nat) (a : M (List D)) : M D := bnd (own i) fun _ => bnd a fun l => bnd (own i) fun o => match f o l with
  | .ok d o' => bnd (sto i o') fun _ => ret d
  | .no => fun _ => .no

/-- .. with keywords: no exception -/
def clN (f : List D → F) (a : M (List D)) : M D := bnd a fun l => match f l with
  | .ok d => ret d
  | _ => fun _ => .no
/-- .. n of them without a name, k with one -/
def clk (f : List D → F) (n k : Nat) (a b : M (List D)) : M D := clN f (bnd a fun l => bnd b fun m => if l.length = n ∧ m.length = k then ret (l ++ m) else fun _ => .no)
/-! ### what is walked -/
def itm (a : M D) : M (List D) := bnd a fun x => lft (items x)
def rg1 (a : M D) : M (List D) := bnd a fun x => lft (dRng1 x)
def rg2 (a b : M D) : M (List D) := bnd a fun x => bnd b fun y => lft (dRng2 x y)
def rgD (a b : M D) : M (List D) := bnd a fun x => bnd b fun y => lft (dRngD x y)

/-! ### targets -/
abbrev G := D → M Unit
def gN (i : Nat) : G := st i
def gNil : List D → M Unit
  | [] => ret ()
  | _ => fun _ => .no
def gCons (g : G) (r : List D → M Unit) : List D → M Unit
  | x :: l => bnd (g x) fun _ => r l
  | [] => fun _ => .no
def gT (n : Nat) (g : List D → M Unit) : G := fun d => match d with
  | .tup l => if l.length = n then g l else fun _ => .no
  | _ => fun _ => .no

/-! ### comprehensions -/
/-- what the names vs held comes back -/
def wipe (ρ : Env) : List Nat → Env
  | [] => ρ
  | v :: vs => (wipe ρ vs).set v none
def isO : Option C → Bool
  | some (.o _) => true
  | _ => false
def pur (ρ : Env) (vs : List Nat) : Bool := vs.all fun v => !isO (get ρ v)
def back (ρ0 : Env) (vs : List Nat) (ρ : Env) : Env := match vs with
  | [] => ρ
  | v :: r => (back ρ0 r ρ).set v (get ρ0 v)
/-- one turn: the names forgotten, the target, the test, the element -/
def cmpT (vs : List Nat) (g : G) (t : M Bool) (e : M D) (x : D) : M (List D) := fun ρ =>
  bnd (g x) (fun _ => bnd t fun k => if k = true then bnd e fun y => ret [y] else ret []) (wipe ρ vs)
def cmpL (f : D → M (List D)) : List D → M (List D)
  | [] => ret []
  | x :: l => bnd (f x) fun a => bnd (cmpL f l) fun b => ret (a ++ b)
/-- [e for g in it if t] -/
def lc (vs : List Nat) (it : M (List D)) (g : G) (t : M Bool) (e : M D) : M D := fun ρ0 => if pur ρ0 vs = false then .no else match it ρ0 with
  | .ok l ρ => (match cmpL (cmpT vs g t e) l ρ with
    | .ok r ρ' => if r.length ≤ lim then .ok (.lst r) (back ρ0 vs ρ') else .no
    | _ => .no)
  | .ex x ρ => .ex x ρ
  | .no => .no
/-- [e for g in it if t for g1 in it1 if t1] -/
def cmpT2 (vs vs1 : List Nat) (g : G) (t : M Bool) (it1 : M (List D)) (g1 : G) (t1 : M Bool) (e : M D) (x : D) : M (List D) := fun ρ =>
  bnd (g x) (fun _ => bnd t fun k => if k = true then bnd it1 fun l1 => cmpL (cmpT vs1 g1 t1 e) l1 else ret []) (wipe ρ vs)
def lc2 (vs vs1 : List Nat) (it : M (List D)) (g : G) (t : M Bool) (it1 : M (List D)) (g1 : G) (t1 : M Bool) (e : M D) : M D := fun ρ0 => if pur ρ0 vs = false then .no else match it ρ0 with
  | .ok l ρ => (match cmpL (cmpT2 vs vs1 g t it1 g1 t1 e) l ρ with
    | .ok r ρ' => if r.length ≤ lim then .ok (.lst r) (back ρ0 vs ρ') else .no
    | _ => .no)
  | .ex x ρ => .ex x ρ
  | .no => .no

/-! ### statements -/
abbrev S := M Fl
def sNx : S := ret .nx
def seq (a b : S) : S := bnd a fun f => match f with
  | .nx => b
  | f => ret f
def asg (e : M D) (g : G) : S := bnd e fun x => bnd (g x) fun _ => ret .nx
def drp (e : M D) : S := bnd e fun _ => ret .nx
def rtn (e : M D) : S := bnd e fun x => ret (.rt x)
def iff (t : M Bool) (a b : S) : S := bnd t fun k => if k = true then a else b
def brk : S := ret .bk
def cnt : S := ret .ct
/-- a ghost step -/
def gho (a : M Unit) (r : S) : S := bnd a fun _ => r
/-- x = [..], the new list one's own -/
def asgO (i : Nat) (e : M D) : S := bnd e fun x => bnd (sto i x) fun _ => ret .nx
/-- a write to the list at slot i -/
def wr (i : Nat) (l : List D) : S := bnd (sto i (.lst l)) fun _ => ret .nx
/-- xs.append(e), xs the list at slot i -/
def app (i : Nat) (e : M D) : S := bnd (own i) fun _ => bnd e fun x => bnd (own i) fun o => match o with
  | .lst l => if l.length < lim then wr i (l ++ [x]) else fun _ => .no
  | _ => fun _ => .no
/-- xs.extend(e) -/
def ext (i : Nat) (e : M D) : S := bnd (own i) fun _ => bnd e fun x => bnd (own i) fun o => match o, x with
  | .lst l, .lst m => if l.length + m.length ≤ lim then wr i (l ++ m) else fun _ => .no
  | _, _ => fun _ => .no
/-- xs.pop() -/
def popO (i : Nat) : M D := bnd (own i) fun o => match o with
  | .lst l => (match l[l.length - 1]? with
    | some x => bnd (sto i (.lst l.dropLast)) fun _ => ret x
    | none => fun _ => .no)
  | _ => fun _ => .no
/-- the truth of the list at slot i -/
def tstO (i : Nat) : M Bool := bnd (own i) fun o => lft (truth o)
/-- row[k], row[k] = e, the list at slot i -/
def ixO (i : Nat) (a : M D) : M D := bnd (own i) fun _ => bnd a fun k => bnd (own i) fun o => lft (dIx o k)
def setO (i : Nat) (a e : M D) : S := bnd e fun x => bnd (own i) fun _ => bnd a fun k => bnd (own i) fun o => match o, k with
  | .lst l, .int k => (match ixN l.length k with
    | some j => wr i (l.set j x)
    | none => fun _ => .no)
  | _, _ => fun _ => .no
/-- a, xs = e, [..], the list one's own -/
def parO (i j : Nat) (a : M D) (es : M (List D)) : S := bnd a fun x => bnd (lstE es) fun l => bnd (st i x) fun _ => bnd (sto j l) fun _ => ret .nx
def forL (f : D → S) : List D → S
  | [] => ret .nx
  | x :: l => bnd (f x) fun r => match r with
    | .nx => forL f l
    | .ct => forL f l
    | .bk => ret .nx
    | .rt d => ret (.rt d)
def forS (it : M (List D)) (g : G) (b : S) : S := bnd it fun l => forL (fun x => bnd (g x) fun _ => b) l
def whlN (t : M Bool) (b : S) : Nat → S
  | 0 => fun _ => .no
  | n + 1 => bnd t fun k => if k = true then bnd b fun r => match r with
    | .nx => whlN t b n
    | .ct => whlN t b n
    | .bk => ret .nx
    | .rt d => ret (.rt d)
    else ret .nx
/-- how many turns a while has at most -/
def fuel : Nat := 2 ^ 60
def whl (t : M Bool) (b : S) : S := whlN t b fuel
/-- a, b = x, y -/
def par (i j : Nat) (a : M (List D)) : S := bnd a fun l => match l with
  | [x, y] => bnd (st i x) fun _ => bnd (st j y) fun _ => ret .nx
  | _ => fun _ => .no

/-! ### a def -/
def start (n : Nat) (ds : List D) : Env := ds.map (fun d => some (.p d)) ++ List.replicate (n - ds.length) none
/-- n parameters, m names -/
def run (n m : Nat) (b : S) (ds : List D) : F := if ds.length = n then (match b (start m ds) with
  | .ok (.rt d) _ => .ok d
  | .ok .nx _ => .ok .non
  | .ex x _ => .ex x
  | _ => .no) else .no
def startO (m : Nat) (o : D) (ds : List D) : Env := some (.o o) :: (ds.map (fun d => some (.p d)) ++ List.replicate (m - ds.length - 1) none)
def runO (n m : Nat) (b : S) (o : D) (ds : List D) : FO := if ds.length + 1 = n then (match b (startO m o ds) with
  | .ok (.rt d) ρ => (match get ρ 0 with
    | some (.o o') => .ok d o'
    | _ => .no)
  | .ok .nx ρ => (match get ρ 0 with
    | some (.o o') => .ok .non o'
    | _ => .no)
  | _ => .no) else .no
/-- raise C(e, ..): the class's fields, the last one first -/
def rse (c : Str) (fs : List Str) (a : M (List D)) : S := bnd a fun l => if l.length = fs.length then raise ⟨c, (fs.zip l).reverse⟩ else fun _ => .no
/-- try: call() / except c as e: return e.f / return "" -/
def refused (c f : Str) (e : M D) : M D := fun ρ => match e ρ with
  | .ok _ ρ' => .ok (.str "") ρ'
  | .ex x ρ' => if x.c = c then (match x.fs.lookup f with
    | some d => .ok d ρ'
    | none => .no) else .no
  | .no => .no
end Fe
set_option Elab.async false
set_option linter.all false
set_option maxRecDepth 100000
set_option maxHeartbeats 1000000
/-! What stands in the heap for data; expressions, statements, defs over it. -/
namespace Fe
open PySem PySem.Spec PyProof.Rows L2

mutual
def Rep (K : PySem.W.Frag) (G : Hp) : D → V → Prop
  | .non, v => v = .non
  | .bl b, v => v = .bl b
  | .int i, v => v = .int i
  | .str s, v => v = .str s
  | .lst l, v => ∃ a vs, v = .ref a ∧ SqL K G a vs ∧ Reps K G l vs
  | .tup l, v => ∃ a vs, v = .ref a ∧ SqT K G a vs ∧ Reps K G l vs
def Reps (K : PySem.W.Frag) (G : Hp) : List D → List V → Prop
  | [], vs => vs = []
  | d :: l, vs => ∃ v r, vs = v :: r ∧ Rep K G d v ∧ Reps K G l r
end
theorem sameT {K : PySem.W.Frag} {H H' : Hp} {a : Addr} {xs : List V} (e : Same H H') (h : SqT K H a xs) : SqT K H' a xs := by
  rcases h with (h | ⟨o, h⟩) | h
  · exact .inl (.inl (e _ _ h))
  · exact .inl (.inr ⟨o, e _ _ h⟩)
  · exact .inr h
mutual
theorem Rep.mono {K : PySem.W.Frag} {G G' : Hp} (e : Same G G') : ∀ {d : D} {v : V}, Rep K G d v → Rep K G' d v
  | .non, _, h => by simpa [Rep] using h
  | .bl _, _, h => by simpa [Rep] using h
  | .int _, _, h => by simpa [Rep] using h
  | .str _, _, h => by simpa [Rep] using h
  | .lst l, v, h => by
    unfold Rep at h ⊢
    obtain ⟨a, vs, h1, h2, h3⟩ := h
    exact ⟨a, vs, h1, e.seq h2, Reps.mono e h3⟩
  | .tup l, v, h => by
    unfold Rep at h ⊢
    obtain ⟨a, vs, h1, h2, h3⟩ := h
    exact ⟨a, vs, h1, sameT e h2, Reps.mono e h3⟩
theorem Reps.mono {K : PySem.W.Frag} {G G' : Hp} (e : Same G G') : ∀ {l : List D} {vs : List V}, Reps K G l vs → Reps K G' l vs
  | [], _, h => by simpa [Reps] using h
  | d :: l, vs, h => by
    unfold Reps at h ⊢
    obtain ⟨v, r, h1, h2, h3⟩ := h
    exact ⟨v, r, h1, Rep.mono e h2, Reps.mono e h3⟩
end
section
variable {K : PySem.W.Frag} {G : Hp}
theorem rep_non {v : V} : Rep K G .non v ↔ v = .non := by unfold Rep; exact Iff.rfl
theorem rep_bl {b : Bool} {v : V} : Rep K G (.bl b) v ↔ v = .bl b := by unfold Rep; exact Iff.rfl
theorem rep_int {i : Int} {v : V} : Rep K G (.int i) v ↔ v = .int i := by unfold Rep; exact Iff.rfl
theorem rep_str {s : Str} {v : V} : Rep K G (.str s) v ↔ v = .str s := by unfold Rep; exact Iff.rfl
theorem rep_lst {l : List D} {v : V} : Rep K G (.lst l) v ↔ ∃ a vs, v = .ref a ∧ SqL K G a vs ∧ Reps K G l vs := by unfold Rep; exact Iff.rfl
theorem rep_tup {l : List D} {v : V} : Rep K G (.tup l) v ↔ ∃ a vs, v = .ref a ∧ SqT K G a vs ∧ Reps K G l vs := by unfold Rep; exact Iff.rfl
theorem reps_nil {vs : List V} : Reps K G [] vs ↔ vs = [] := by unfold Reps; exact Iff.rfl
theorem reps_cons {d : D} {l : List D} {vs : List V} : Reps K G (d :: l) vs ↔ ∃ v r, vs = v :: r ∧ Rep K G d v ∧ Reps K G l r := by
  constructor
  · intro h; rw [Reps] at h; exact h
  · intro h; rw [Reps]; exact h
theorem Reps.len : ∀ {l : List D} {vs : List V}, Reps K G l vs → vs.length = l.length
  | [], vs, h => by rw [reps_nil.mp h]; rfl
  | d :: l, vs, h => by
    obtain ⟨v, r, rfl, _, h3⟩ := reps_cons.mp h
    rw [List.length_cons, List.length_cons, Reps.len h3]
theorem Reps.get : ∀ {l : List D} {vs : List V} {i : Nat} {d : D}, Reps K G l vs → l[i]? = some d → ∃ v, vs[i]? = some v ∧ Rep K G d v
  | [], _, _, _, _, e => by simp at e
  | x :: l, vs, 0, d, h, e => by
    obtain ⟨v, r, rfl, h2, _⟩ := reps_cons.mp h
    cases (Option.some.inj e : x = d)
    exact ⟨v, rfl, h2⟩
  | x :: l, vs, i + 1, d, h, e => by
    obtain ⟨v, r, rfl, _, h3⟩ := reps_cons.mp h
    exact Reps.get (i := i) h3 e
theorem Reps.append : ∀ {l m : List D} {vs ws : List V}, Reps K G l vs → Reps K G m ws → Reps K G (l ++ m) (vs ++ ws)
  | [], m, vs, ws, h, k => by rw [reps_nil.mp h]; exact k
  | d :: l, m, vs, ws, h, k => by
    obtain ⟨v, r, rfl, h2, h3⟩ := reps_cons.mp h
    exact reps_cons.mpr ⟨v, r ++ ws, rfl, h2, h3.append k⟩
theorem Reps.set : ∀ {l : List D} {vs : List V} {d : D} {v : V} (i : Nat), Reps K G l vs → Rep K G d v → Reps K G (l.set i d) (vs.set i v)
  | [], vs, _, _, i, h, _ => by rw [reps_nil.mp h]; exact reps_nil.mpr rfl
  | x :: l, vs, d, v, 0, h, k => by
    obtain ⟨u, r, rfl, h2, h3⟩ := reps_cons.mp h
    exact reps_cons.mpr ⟨v, r, rfl, k, h3⟩
  | x :: l, vs, d, v, i + 1, h, k => by
    obtain ⟨u, r, rfl, h2, h3⟩ := reps_cons.mp h
    exact reps_cons.mpr ⟨u, r.set i v, rfl, h2, Reps.set i h3 k⟩
theorem Reps.dropLast {l : List D} {vs : List V} : Reps K G l vs → Reps K G l.dropLast vs.dropLast := by
  induction l generalizing vs with
  | nil => intro h; rw [reps_nil.mp h]; exact reps_nil.mpr rfl
  | cons d l ih =>
    intro h
    obtain ⟨v, r, rfl, h2, h3⟩ := reps_cons.mp h
    cases l with
    | nil => rw [reps_nil.mp h3]; exact reps_nil.mpr rfl
    | cons e l =>
      obtain ⟨u, q, rfl, h4, h5⟩ := reps_cons.mp h3
      exact reps_cons.mpr ⟨v, (u :: q).dropLast, rfl, h2, ih h3⟩
theorem reps_ints : ∀ (ns : List Int), Reps K G (ns.map .int) (ns.map V.int)
  | [] => reps_nil.mpr rfl
  | n :: r => reps_cons.mpr ⟨_, _, rfl, rep_int.mpr rfl, reps_ints r⟩
theorem intsOf_map : ∀ {l : List D} {ns : List Int}, intsOf l = some ns → l = ns.map .int
  | [], ns, h => by cases h; rfl
  | .int i :: r, ns, h => by
    unfold intsOf at h
    cases e : intsOf r with
    | none => rw [e] at h; cases h
    | some ms => rw [e] at h; cases h; rw [intsOf_map e]; rfl
  | .non :: _, _, h => by cases h
  | .bl _ :: _, _, h => by cases h
  | .str _ :: _, _, h => by cases h
  | .lst _ :: _, _, h => by cases h
  | .tup _ :: _, _, h => by cases h
theorem Reps.ints {l : List D} {ns : List Int} {vs : List V} (e : intsOf l = some ns) (h : Reps K G l vs) : vs = ns.map V.int := by
  rw [intsOf_map e] at h
  clear e
  induction ns generalizing vs with
  | nil => exact reps_nil.mp h
  | cons n r ih =>
    obtain ⟨v, q, rfl, h2, h3⟩ := reps_cons.mp h
    rw [rep_int.mp h2, ih h3]; rfl
theorem boolsOf_map : ∀ {l : List D} {bs : List Bool}, boolsOf l = some bs → l = bs.map .bl
  | [], ns, h => by cases h; rfl
  | .bl i :: r, ns, h => by
    unfold boolsOf at h
    cases e : boolsOf r with
    | none => rw [e] at h; cases h
    | some ms => rw [e] at h; cases h; rw [boolsOf_map e]; rfl
  | .non :: _, _, h => by cases h
  | .int _ :: _, _, h => by cases h
  | .str _ :: _, _, h => by cases h
  | .lst _ :: _, _, h => by cases h
  | .tup _ :: _, _, h => by cases h
theorem Reps.bools {l : List D} {bs : List Bool} {vs : List V} (e : boolsOf l = some bs) (h : Reps K G l vs) : vs = bs.map V.bl := by
  rw [boolsOf_map e] at h
  clear e
  induction bs generalizing vs with
  | nil => exact reps_nil.mp h
  | cons n r ih =>
    obtain ⟨v, q, rfl, h2, h3⟩ := reps_cons.mp h
    rw [rep_bl.mp h2, ih h3]; rfl
end

/-! ### the state -/
def NT (G : Hp) : Prop := ∀ a ps, G a ≠ some (.tbl ps)
/-- fixed through a def: the written part, the tables of code objects, the errors' classes; what was frozen at the entry, what has to stay; where the first argument stands, if it is a list that may change -/
structure Bs where
  K : PySem.W.Frag
  T : List (Addr × Str)
  X : Str → Option Addr
structure Ct (B : Bs) where
  G0 : Hp
  F : Hp
  fx : Option Addr
def CRep {B : Bs} (c : Ct B) (G H : Hp) : C → V → Prop
  | .p d, v => Rep B.K G d v
  | .o d, v => ∃ a l vs, d = .lst l ∧ v = .ref a ∧ H a = some (.lst vs) ∧ Reps B.K G l vs ∧ G a = none ∧ c.F a = none
structure Good {B : Bs} (c : Ct B) (G H : Hp) (σ : L2.St) (ρ : Env) : Prop where
  gh : Same G H
  nt : NT G
  g0 : Same c.G0 G
  nf : NT c.F
  fr : ∀ a, G a ≠ none → c.G0 a ≠ none ∨ c.F a = none
  fh : Same c.F H
  tb : LamX.Tabs B.T H
  len : σ.length = ρ.length
  sl : ∀ i x, get ρ i = some x → ∃ v, σ[i]? = some (some v) ∧ CRep c G H x v
  sep : ∀ i j d e v, get ρ i = some (.o d) → get ρ j = some (.o e) → σ[i]? = some (some v) → σ[j]? = some (some v) → i = j
  fix : ∀ a d, c.fx = some a → get ρ 0 = some (.o d) → σ[0]? = some (some (.ref a))
/-- new objects: H grows to H', its frozen part G to G' -/
structure New (G H G' H' : Hp) : Prop where
  gg : Same G G'
  gh : Same G' H'
  hh : Same H H'
  nt : NT G'
  fr : ∀ a, G' a ≠ none → G a ≠ none ∨ H a = none
theorem New.refl {G H : Hp} (s : Same G H) (n : NT G) : New G H G H := ⟨Same.refl _, s, Same.refl _, n, fun _ h => .inl h⟩
theorem same_upd {H : Hp} {p : Addr} {o : HO} (h : H p = none) : Same H (upd H p o) := fun b x e => by
  rw [upd_ne (ne_of_none e h)]
  exact e
theorem same_upds {G H : Hp} {p : Addr} {o : HO} (s : Same G H) : Same (upd G p o) (upd H p o) := fun b x e => by
  by_cases hb : b = p
  · subst hb; rw [upd_same] at e ⊢; exact e
  · rw [upd_ne hb] at e ⊢; exact s _ _ e
theorem New.mk1 {G H : Hp} {p : Addr} {o : HO} (s : Same G H) (n : NT G) (h : H p = none) (ho : ∀ ps, o ≠ .tbl ps) : New G H (upd G p o) (upd H p o) :=
  ⟨same_upd (s.free h), same_upds s, same_upd h, fun a ps e => by
    by_cases ha : a = p
    · subst ha; rw [upd_same] at e; exact ho ps (Option.some.inj e)
    · rw [upd_ne ha] at e; exact n a ps e, fun a e => by
    by_cases ha : a = p
    · subst ha; exact .inr h
    · rw [upd_ne ha] at e; exact .inl e⟩
theorem New.trans {G H G1 H1 G2 H2 : Hp} (a : New G H G1 H1) (b : New G1 H1 G2 H2) : New G H G2 H2 :=
  ⟨a.gg.trans b.gg, b.gh, a.hh.trans b.hh, b.nt, fun x h => (b.fr x h).elim (a.fr x) fun z => .inr (a.hh.free z)⟩
section
variable {B : Bs} {c : Ct B} {G H G' H' : Hp} {σ : L2.St} {ρ : Env}
theorem Good.ext (g : Good c G H σ ρ) (n : New G H G' H') : Good c G' H' σ ρ where
  gh := n.gh
  nt := n.nt
  g0 := g.g0.trans n.gg
  nf := g.nf
  fr := fun a h => (n.fr a h).elim (g.fr a) fun z => .inr (g.fh.free z)
  fh := g.fh.trans n.hh
  tb := g.tb.ext n.hh
  len := g.len
  sl := fun i x e => by
    obtain ⟨v, h1, h2⟩ := g.sl i x e
    refine ⟨v, h1, ?_⟩
    cases x with
    | p d => exact Rep.mono n.gg h2
    | o d =>
      obtain ⟨a, l, vs, e1, e2, e3, e4, e5, e6⟩ := h2
      refine ⟨a, l, vs, e1, e2, n.hh _ _ e3, Reps.mono n.gg e4, ?_, e6⟩
      cases q : G' a with
      | none => rfl
      | some o =>
        rcases n.fr a (by rw [q]; simp) with z | z
        · exact absurd e5 z
        · rw [e3] at z; cases z
  sep := g.sep
  fix := g.fix
theorem get_set {ρ : Env} {i j : Nat} {x : Option C} : get (ρ.set i x) j = if i = j then (if i < ρ.length then x else none) else get ρ j := by
  unfold get
  by_cases h : i = j
  · subst h
    rw [if_pos rfl]
    by_cases hl : i < ρ.length
    · rw [if_pos hl, List.getElem?_set_self hl]; rfl
    · rw [if_neg hl, List.getElem?_eq_none (by simpa using hl)]; rfl
  · rw [if_neg h, List.getElem?_set_ne h]
theorem Good.set (g : Good c G H σ ρ) {i : Nat} {d : D} {v : V} (r : Rep B.K G d v) (hi : i < σ.length) : Good c G H (σ.set i (some v)) (ρ.set i (some (.p d))) where
  gh := g.gh
  nt := g.nt
  g0 := g.g0
  nf := g.nf
  fr := g.fr
  fh := g.fh
  tb := g.tb
  len := by rw [List.length_set, List.length_set, g.len]
  sl := fun j x e => by
    rw [get_set] at e
    by_cases h : i = j
    · subst h
      rw [if_pos rfl, if_pos (by rw [← g.len]; exact hi)] at e
      cases e
      exact ⟨v, List.getElem?_set_self hi, r⟩
    · rw [if_neg h] at e
      rw [List.getElem?_set_ne h]
      exact g.sl j x e
  sep := fun j k d1 d2 u e1 e2 h1 h2 => by
    rw [get_set] at e1 e2
    by_cases hj : i = j
    · rw [if_pos hj] at e1; split at e1 <;> cases e1
    · by_cases hk : i = k
      · rw [if_pos hk] at e2; split at e2 <;> cases e2
      · rw [if_neg hj] at e1
        rw [if_neg hk] at e2
        rw [List.getElem?_set_ne hj] at h1
        rw [List.getElem?_set_ne hk] at h2
        exact g.sep j k d1 d2 u e1 e2 h1 h2
  fix := fun a d1 ha e1 => by
    rw [get_set] at e1
    by_cases hj : i = 0
    · rw [if_pos hj] at e1; split at e1 <;> cases e1
    · rw [if_neg hj] at e1
      rw [List.getElem?_set_ne hj]
      exact g.fix a d1 ha e1
end

/-! ### what a denotation wants -/
def ExRep (B : Bs) (G H : Hp) (x : Ex) (cls : Value) (d : Option Addr) : Prop :=
  ∃ C dd fs, B.X x.c = some C ∧ cls = .ref C ∧ d = some dd ∧ H dd = some (.xd fs) ∧ fs.map (·.1) = x.fs.map (·.1) ∧ Reps B.K G (x.fs.map (·.2)) (fs.map (·.2))
def Post {α β : Type} (rep : Bs → Hp → α → β → Prop) {B : Bs} (c : Ct B) (W : WX) (σ : L2.St) (G : Hp) (r : R α) (Q : β → Hp → Prop) : Prop := match r with
  | .ok d ρ => ∀ v H' G', Same G G' → Good c G' H' σ ρ → rep B G' d v → Q v H'
  | .ex x ρ => ∀ cls dd H' G', Same G G' → Good c G' H' σ ρ → ExRep B G' H' x cls dd → W cls dd σ H'
  | .no => False
def Den {α β : Type} (rep : Bs → Hp → α → β → Prop) {B : Bs} (c : Ct B) (W : WX) (f : M α) : L2.St → Hp → (β → Hp → Prop) → Prop := fun σ H Q =>
  ∃ G ρ, Good c G H σ ρ ∧ Post rep c W σ G (f ρ) Q
abbrev rD (B : Bs) (G : Hp) (d : D) (v : V) : Prop := Rep B.K G d v
/-- a list that is tracked as it is -/
abbrev rX (B : Bs) (G : Hp) (d : D) (v : V) : Prop := ∃ a l vs, d = .lst l ∧ v = .ref a ∧ G a = some (.lst vs) ∧ Reps B.K G l vs
abbrev rL (B : Bs) (G : Hp) (d : List D) (v : List V) : Prop := Reps B.K G d v
abbrev rB (_ : Bs) (_ : Hp) (d : Bool) (v : Bool) : Prop := d = v
abbrev dE {B : Bs} (c : Ct B) (W : WX) (f : M D) : TE := Den rD c W f
abbrev dT {B : Bs} (c : Ct B) (W : WX) (f : M Bool) : TT := Den rB c W f
abbrev dA {B : Bs} (c : Ct B) (W : WX) (f : M (List D)) : TA := Den rL c W f
section
variable {α β γ δ : Type} {rep : Bs → Hp → α → β → Prop} {rep2 : Bs → Hp → γ → δ → Prop} {B : Bs} {c : Ct B} {W : WX} {σ : L2.St} {G H G' : Hp} {ρ : Env}
theorem Post.mono {r : R α} {Q : β → Hp → Prop} (s : Same G G') (h : Post rep c W σ G r Q) : Post rep c W σ G' r Q := by
  cases r with
  | ok d ρ => exact fun v H1 G1 s1 => h v H1 G1 (s.trans s1)
  | ex x ρ => exact fun k dd H1 G1 s1 => h k dd H1 G1 (s.trans s1)
  | no => exact h
theorem Den.imp {f : M α} {Q Q' : β → Hp → Prop} (h : Den rep c W f σ H Q) (k : ∀ v H, Q v H → Q' v H) : Den rep c W f σ H Q' := by
  obtain ⟨G, ρ, g, p⟩ := h
  refine ⟨G, ρ, g, ?_⟩
  revert p
  cases f ρ with
  | ok d ρ' => exact fun p v H1 G1 s g1 r => k _ _ (p v H1 G1 s g1 r)
  | ex x ρ' => exact fun p => p
  | no => exact fun p => p
theorem Post.chg {rep' : Bs → Hp → α → β → Prop} {r : R α} {Q : β → Hp → Prop} (k : ∀ G d v, rep' B G d v → rep B G d v) (h : Post rep c W σ G r Q) : Post rep' c W σ G r Q := by
  cases r with
  | ok d ρ => exact fun v H1 G1 s1 g1 r1 => h v H1 G1 s1 g1 (k _ _ _ r1)
  | ex x ρ => exact h
  | no => exact h
theorem Den.chg {rep' : Bs → Hp → α → β → Prop} {f : M α} {Q : β → Hp → Prop} (k : ∀ G d v, rep' B G d v → rep B G d v) (h : Den rep c W f σ H Q) : Den rep' c W f σ H Q := by
  obtain ⟨G, ρ, g, p⟩ := h
  exact ⟨G, ρ, g, p.chg k⟩
theorem rX_D {G : Hp} {d : D} {v : V} (h : rX B G d v) : rD B G d v := by
  obtain ⟨a, l, vs, rfl, rfl, h1, h2⟩ := h
  exact rep_lst.mpr ⟨a, vs, rfl, .inl (.inl h1), h2⟩
theorem post_bnd {f : M α} {k : α → M γ} {Q : δ → Hp → Prop} (g : Good c G H σ ρ) (p : Post rep2 c W σ G (bnd f k ρ) Q) :
    Den rep c W f σ H (fun v H1 => ∃ G1 ρ1 d, Same G G1 ∧ Good c G1 H1 σ ρ1 ∧ rep B G1 d v ∧ Post rep2 c W σ G1 (k d ρ1) Q) := by
  refine ⟨G, ρ, g, ?_⟩
  unfold bnd at p
  revert p
  cases f ρ with
  | ok d ρ' => exact fun p v H1 G1 s g1 r => ⟨G1, ρ', d, s, g1, r, Post.mono s p⟩
  | ex x ρ' => exact fun p => p
  | no => exact fun p => p
theorem den_bnd {f : M α} {k : α → M γ} {Q : δ → Hp → Prop} (h : Den rep2 c W (bnd f k) σ H Q) :
    Den rep c W f σ H (fun v H1 => ∃ G1 ρ1 d, Good c G1 H1 σ ρ1 ∧ rep B G1 d v ∧ Post rep2 c W σ G1 (k d ρ1) Q) := by
  obtain ⟨G, ρ, g, p⟩ := h
  exact (post_bnd g p).imp fun v H1 ⟨G1, ρ1, d, _, a, b, e⟩ => ⟨G1, ρ1, d, a, b, e⟩
theorem post_lft {o : Option α} {Q : β → Hp → Prop} (p : Post rep c W σ G (lft o ρ) Q) : ∃ z, o = some z ∧ Post rep c W σ G (.ok z ρ) Q := by
  cases o with
  | none => exact False.elim p
  | some z => exact ⟨z, rfl, p⟩
theorem Good.keep (g : Good c G H σ ρ) {v : β} {d : α} {Q : β → Hp → Prop} (p : Post rep c W σ G (.ok d ρ) Q) (r : rep B G d v) : Q v H := p v H G (Same.refl _) g r
end
section
variable {X : Cx}
theorem peI {e : Expr} {t t' : TE} (h : PE X e t) (k : ∀ σ H Q, t' σ H Q → t σ H Q) : PE X e t' := ⟨fun pins s σ H Q I w => h.run pins s σ H Q I (k _ _ _ w)⟩
theorem ptI {e : Expr} {t t' : TT} (h : PT X e t) (k : ∀ σ H Q, t' σ H Q → t σ H Q) : PT X e t' := ⟨fun pins s σ H Q I w => h.run pins s σ H Q I (k _ _ _ w)⟩
theorem pwI {e : Expr} {t t' : TT} (h : PW X e t) (k : ∀ σ H Q, t' σ H Q → t σ H Q) : PW X e t' := ⟨fun wh pins s σ H Q I w => h.run wh pins s σ H Q I (k _ _ _ w)⟩
theorem paI {e : List Expr} {t t' : TA} (h : PA X e t) (k : ∀ σ H Q, t' σ H Q → t σ H Q) : PA X e t' := ⟨fun pos pins s σ H Q I w => h.run pos pins s σ H Q I (k _ _ _ w)⟩
theorem psI {e : Stmt} {t t' : TS} (h : PS X e t) (k : ∀ D σ H, t' D σ H → t D σ H) : PS X e t' := ⟨fun pins s σ H D I w => h.run pins s σ H D I (k _ _ _ w)⟩
theorem pssI {e : List Stmt} {t t' : TS} (h : PSs X e t) (k : ∀ D σ H, t' D σ H → t D σ H) : PSs X e t' := ⟨fun pins s σ H D I w => h.run pins s σ H D I (k _ _ _ w)⟩
end
end Fe
set_option Elab.async false
set_option linter.all false
set_option maxRecDepth 100000
set_option maxHeartbeats 1000000
/-! Rules of expressions. -/
namespace Fe
open PySem PySem.Spec PyProof.Rows L2

/-! ### by values -/
def Rule2 (K : PySem.W.Frag) (r : R2) (g : D → D → Option D) : Prop :=
  ∀ (G H : Hp) (d e z : D) (x y : V) (Q : VK), Same G H → NT G → Rep K G d x → Rep K G e y → g d e = some z → (∀ v H' G', New G H G' H' → Rep K G' z v → Q v H') → r x y H Q
def Rule1 (K : PySem.W.Frag) (r : V → Hp → VK → Prop) (g : D → Option D) : Prop :=
  ∀ (G H : Hp) (d z : D) (x : V) (Q : VK), Same G H → NT G → Rep K G d x → g d = some z → (∀ v H' G', New G H G' H' → Rep K G' z v → Q v H') → r x H Q
/-- a call of a built-in -/
def RuleL (K : PySem.W.Frag) (r : List V → Hp → VK → Prop) (g : List D → Option D) : Prop :=
  ∀ (G H : Hp) (l : List D) (z : D) (vs : List V) (Q : VK), Same G H → NT G → Reps K G l vs → g l = some z → (∀ v H' G', New G H G' H' → Rep K G' z v → Q v H') → r vs H Q
section
variable {K : PySem.W.Frag} {G H : Hp}
theorem sqL_up (s : Same G H) {a : Addr} {xs : List V} (h : SqL K G a xs) : SqL K H a xs := s.seq h
theorem sqT_up (s : Same G H) {a : Addr} {xs : List V} (h : SqT K G a xs) : SqT K H a xs := sameT s h
theorem lim_eq : lim = sizeLine := by rw [sizeLine_eq]; rfl

theorem rule_add : Rule2 K (fun x y H Q => rI0 (fun i j => .int (i + j)) x y H Q ∨ ((fun x y H Q => ∃ i j, x = .str i ∧ y = .str j ∧ i.length + j.length ≤ sizeLine ∧ Q (.str (i ++ j)) H) x y H Q ∨ rCatA K x y H Q)) dAdd := by
  intro G H d e z x y Q s n rx ry h k
  cases d <;> cases e <;> first | (cases h; done) | skip
  · cases h
    rw [rep_int] at rx ry
    exact .inl ⟨_, _, rx, ry, k _ _ _ (New.refl s n) (rep_int.mpr rfl)⟩
  · rename_i a b
    simp only [dAdd] at h
    split at h
    · cases h
      rw [rep_str] at rx ry
      exact .inr (.inl ⟨_, _, rx, ry, by rw [← lim_eq]; assumption, k _ _ _ (New.refl s n) (rep_str.mpr rfl)⟩)
    · cases h
  · rename_i l m
    simp only [dAdd] at h
    split at h
    · rename_i hz
      cases h
      obtain ⟨a, xs, rfl, h1, h2⟩ := rep_tup.mp rx
      obtain ⟨b, ys, rfl, h3, h4⟩ := rep_tup.mp ry
      have e1 := h2.len
      have e2 := h4.len
      refine .inr (.inr ⟨a, b, xs, ys, rfl, rfl, sqT_up s h1, sqT_up s h3, by rw [e1, e2, ← lim_eq]; exact hz, fun e => ?_, fun _ e => ?_, fun _ _ p hp => ?_⟩)
      · subst e
        have : l = [] := by cases l with | nil => rfl | cons _ _ => simp at e1
        subst this
        exact k _ _ _ (New.refl s n) (rep_tup.mpr ⟨b, ys, rfl, h3, h4⟩)
      · subst e
        have : m = [] := by cases m with | nil => rfl | cons _ _ => simp at e2
        subst this
        rw [List.append_nil] at k
        exact k _ _ _ (New.refl s n) (rep_tup.mpr ⟨a, xs, rfl, h1, h2⟩)
      · have N : New G H (upd G p (.tup (xs ++ ys))) (upd H p (.tup (xs ++ ys))) := New.mk1 s n hp (fun ps z => by cases z)
        exact k _ _ _ N (rep_tup.mpr ⟨p, _, rfl, .inl (.inl upd_same), Reps.mono N.gg (h2.append h4)⟩)
    · cases h
theorem rule_sub : Rule2 K (rI0 fun i j => .int (i - j)) dSub := by
  intro G H d e z x y Q s n rx ry h k
  cases d <;> cases e <;> first | (cases h; done) | skip
  cases h
  rw [rep_int] at rx ry
  exact ⟨_, _, rx, ry, k _ _ _ (New.refl s n) (rep_int.mpr rfl)⟩
theorem rule_mul : Rule2 K (rI CMul fun i j => .int (i * j)) dMul := by
  intro G H d e z x y Q s n rx ry h k
  cases d <;> cases e <;> first | (cases h; done) | skip
  rename_i i j
  simp only [dMul] at h
  split at h
  · rename_i hc
    cases h
    rw [rep_int] at rx ry
    refine ⟨_, _, rx, ry, ?_, k _ _ _ (New.refl s n) (rep_int.mpr rfl)⟩
    unfold smallI at hc
    simp only [Bool.or_eq_true, decide_eq_true_eq] at hc
    exact hc
  · cases h
theorem rule_div : Rule2 K (rI CDiv fun i j => .int (i / j)) dDiv := by
  intro G H d e z x y Q s n rx ry h k
  cases d <;> cases e <;> first | (cases h; done) | skip
  simp only [dDiv] at h
  split at h
  · rename_i hc
    cases h
    rw [rep_int] at rx ry
    exact ⟨_, _, rx, ry, (by simpa only [CDiv, CPow, decide_eq_true_eq] using hc), k _ _ _ (New.refl s n) (rep_int.mpr rfl)⟩
  · cases h
theorem rule_mod : Rule2 K (rI (fun _ j => 0 < j) fun i j => .int (i % j)) dMod := by
  intro G H d e z x y Q s n rx ry h k
  cases d <;> cases e <;> first | (cases h; done) | skip
  simp only [dMod] at h
  split at h
  · rename_i hc
    cases h
    rw [rep_int] at rx ry
    exact ⟨_, _, rx, ry, of_decide_eq_true hc, k _ _ _ (New.refl s n) (rep_int.mpr rfl)⟩
  · cases h
theorem rule_pow : Rule2 K (rI CPow fun i j => .int (i ^ j.toNat)) dPow := by
  intro G H d e z x y Q s n rx ry h k
  cases d <;> cases e <;> first | (cases h; done) | skip
  simp only [dPow] at h
  split at h
  · rename_i hc
    cases h
    rw [rep_int] at rx ry
    exact ⟨_, _, rx, ry, (by simpa only [CDiv, CPow, decide_eq_true_eq] using hc), k _ _ _ (New.refl s n) (rep_int.mpr rfl)⟩
  · cases h
theorem rule_neg : Rule1 K (rU fun i => .int (-i)) dNeg := by
  intro G H d z x Q s n rx h k
  cases d <;> first | (cases h; done) | skip
  cases h
  rw [rep_int] at rx
  exact ⟨_, rx, k _ _ _ (New.refl s n) (rep_int.mpr rfl)⟩
theorem mbl_some {g : D → D → Option Bool} {d e z : D} (h : mbl g d e = some z) : ∃ b, g d e = some b ∧ z = .bl b := by
  unfold mbl at h
  cases q : g d e with
  | none => rw [q] at h; cases h
  | some b => rw [q] at h; cases h; exact ⟨b, rfl, rfl⟩
theorem lexLt_eq : ∀ ns ms : List Int, HT.lexLt ns ms = lexLt ns ms
  | [], [] => rfl
  | [], _ :: _ => rfl
  | _ :: _, [] => rfl
  | i :: r, j :: q => by simp only [HT.lexLt, lexLt, lexLt_eq r q]
theorem rule_lt : Rule2 K (fun x y H Q => rI0 (fun i j => .bl (decide (i < j))) x y H Q ∨ rLtT K x y H Q) (mbl dLt) := by
  intro G H d e z x y Q s n rx ry h k
  obtain ⟨b, hb, rfl⟩ := mbl_some h
  cases d <;> cases e <;> first | (cases hb; done) | skip
  · cases hb
    rw [rep_int] at rx ry
    exact .inl ⟨_, _, rx, ry, k _ _ _ (New.refl s n) (rep_bl.mpr rfl)⟩
  · rename_i l m
    simp only [dLt] at hb
    obtain ⟨ns, e1, hb⟩ := Option.bind_eq_some_iff.mp hb
    obtain ⟨ms, e2, hb⟩ := Option.map_eq_some_iff.mp hb
    obtain ⟨a, xs, rfl, h1, h2⟩ := rep_tup.mp rx
    obtain ⟨b', ys, rfl, h3, h4⟩ := rep_tup.mp ry
    rw [h2.ints e1] at h1
    rw [h4.ints e2] at h3
    refine .inr ⟨a, b', ns, ms, rfl, rfl, sqT_up s h1, sqT_up s h3, k _ _ _ (New.refl s n) (rep_bl.mpr ?_)⟩
    rw [← hb, lexLt_eq]
theorem rule_le : Rule2 K (rI0 fun i j => .bl (decide (i ≤ j))) (mbl dLe) := by
  intro G H d e z x y Q s n rx ry h k
  obtain ⟨b, hb, rfl⟩ := mbl_some h
  cases d <;> cases e <;> first | (cases hb; done) | skip
  cases hb
  rw [rep_int] at rx ry
  exact ⟨_, _, rx, ry, k _ _ _ (New.refl s n) (rep_bl.mpr rfl)⟩
theorem rule_ge : Rule2 K (rI0 fun i j => .bl (decide (j ≤ i))) (mbl dGe) := by
  intro G H d e z x y Q s n rx ry h k
  obtain ⟨b, hb, rfl⟩ := mbl_some h
  cases d <;> cases e <;> first | (cases hb; done) | skip
  cases hb
  rw [rep_int] at rx ry
  exact ⟨_, _, rx, ry, k _ _ _ (New.refl s n) (rep_bl.mpr rfl)⟩
/-! data as the library's -/
mutual
def py : D → PyData
  | .non => .none
  | .bl b => .bool b
  | .int i => .int i
  | .str s => .str s
  | .lst l => .list (pys l)
  | .tup l => .tuple (pys l)
def pys : List D → List PyData
  | [] => []
  | d :: l => py d :: pys l
end
mutual
theorem Rep.dp : ∀ {d : D} {v : V}, Rep K G d v → Dp K G v (py d)
  | .non, v, h => by rw [rep_non.mp h]; exact .non
  | .bl b, v, h => by rw [rep_bl.mp h]; exact .bl b
  | .int b, v, h => by rw [rep_int.mp h]; exact .int b
  | .str b, v, h => by rw [rep_str.mp h]; exact .str b
  | .lst l, v, h => by
    obtain ⟨a, vs, rfl, h1, h2⟩ := rep_lst.mp h
    exact .lst h1 (Reps.dp h2)
  | .tup l, v, h => by
    obtain ⟨a, vs, rfl, h1, h2⟩ := rep_tup.mp h
    exact .tup h1 (Reps.dp h2)
theorem Reps.dp : ∀ {l : List D} {vs : List V}, Reps K G l vs → DpAll K G vs (pys l)
  | [], vs, h => by rw [reps_nil.mp h]; exact .nil
  | d :: l, vs, h => by
    obtain ⟨v, r, rfl, h2, h3⟩ := reps_cons.mp h
    exact .cons (Rep.dp h2) (Reps.dp h3)
end
mutual
theorem dp_up (s : Same G H) : ∀ {d : PyData} {v : V}, Dp K G v d → Dp K H v d
  | _, _, .non => .non
  | _, _, .bl b => .bl b
  | _, _, .int b => .int b
  | _, _, .str b => .str b
  | _, _, .lst h1 h2 => .lst (s.seq h1) (dps_up s h2)
  | _, _, .tup h1 h2 => .tup (sameT s h1) (dps_up s h2)
theorem dps_up (s : Same G H) : ∀ {d : List PyData} {v : List V}, DpAll K G v d → DpAll K H v d
  | _, _, .nil => .nil
  | _, _, .cons h1 h2 => .cons (dp_up s h1) (dps_up s h2)
end
mutual
theorem py_lay : ∀ d : D, (py d).canLay0 = lay d
  | .non => rfl
  | .bl _ => rfl
  | .int _ => rfl
  | .str _ => rfl
  | .lst l => by simp only [py, PyData.canLay0, lay, pys_lay l]
  | .tup l => by simp only [py, PyData.canLay0, lay, pys_lay l]
theorem pys_lay : ∀ l : List D, PyData.canLayAll0 (pys l) = lays l
  | [] => rfl
  | d :: l => by simp only [pys, PyData.canLayAll0, lays, py_lay d, pys_lay l]
end
mutual
theorem py_depth : ∀ d : D, (py d).depth = dep d
  | .non => rfl
  | .bl _ => rfl
  | .int _ => rfl
  | .str _ => rfl
  | .lst l => by simp only [py, PyData.depth, dep, pys_depth l]
  | .tup l => by simp only [py, PyData.depth, dep, pys_depth l]
theorem pys_depth : ∀ l : List D, PyData.depthAll (pys l) = deps l
  | [] => rfl
  | d :: l => by simp only [pys, PyData.depthAll, deps, py_depth d, pys_depth l]
end
mutual
theorem py_eqv : ∀ d e : D, PyData.eqv (py d) (py e) = eqv d e
  | .non, e => by cases e <;> rfl
  | .bl _, e => by cases e <;> rfl
  | .int _, e => by cases e <;> rfl
  | .str _, e => by cases e <;> rfl
  | .lst l, e => by
    cases e <;> first | rfl | skip
    rename_i m
    show PyData.eqvAll (pys l) (pys m) = eqvs l m
    exact pys_eqv l m
  | .tup l, e => by
    cases e <;> first | rfl | skip
    rename_i m
    show PyData.eqvAll (pys l) (pys m) = eqvs l m
    exact pys_eqv l m
theorem pys_eqv : ∀ l m : List D, PyData.eqvAll (pys l) (pys m) = eqvs l m
  | [], [] => rfl
  | [], _ :: _ => rfl
  | _ :: _, [] => rfl
  | d :: l, e :: m => by simp only [pys, PyData.eqvAll, eqvs, py_eqv d e, pys_eqv l m]
end
theorem py_shaped {d : D} (h : dep d ≤ 64) (hl : lay d = true) : SeqAt.shaped (py d) = true := by
  unfold SeqAt.shaped
  rw [py_lay, py_depth, hl, Bool.true_and]
  exact decide_eq_true h
theorem dEq_some {d e : D} {b : Bool} (h : dEq d e = some b) : dep d ≤ 64 ∧ dep e ≤ 64 ∧ lay d = true ∧ lay e = true ∧ b = eqv d e := by
  unfold dEq at h
  split at h
  · rename_i q
    cases h
    exact ⟨q.1, q.2.1, q.2.2.1, q.2.2.2, rfl⟩
  · cases h
theorem rule_eq : Rule2 K (rEqD K) (mbl dEq) := by
  intro G H d e z x y Q s n rx ry h k
  obtain ⟨b, hb, rfl⟩ := mbl_some h
  obtain ⟨h1, h2, l1, l2, rfl⟩ := dEq_some hb
  refine ⟨py d, py e, dp_up s rx.dp, dp_up s ry.dp, py_shaped h1 l1, py_shaped h2 l2, ?_⟩
  rw [py_eqv]
  exact k _ _ _ (New.refl s n) (rep_bl.mpr rfl)
theorem rule_ne : Rule2 K (rNeD K) (mbl dNe) := by
  intro G H d e z x y Q s n rx ry h k
  obtain ⟨b, hb, rfl⟩ := mbl_some h
  unfold dNe at hb
  obtain ⟨b', hb', rfl⟩ := Option.map_eq_some_iff.mp hb
  obtain ⟨h1, h2, l1, l2, rfl⟩ := dEq_some hb'
  refine ⟨py d, py e, dp_up s rx.dp, dp_up s ry.dp, py_shaped h1 l1, py_shaped h2 l2, ?_⟩
  rw [py_eqv]
  exact k _ _ _ (New.refl s n) (rep_bl.mpr rfl)
theorem dep_flat {d : D} {v : V} (h : dep d = 0) (r : Rep K G d v) : flatV v = true := by
  cases d with
  | non => rw [rep_non.mp r]; rfl
  | bl b => rw [rep_bl.mp r]; rfl
  | int b => rw [rep_int.mp r]; rfl
  | str b => rw [rep_str.mp r]; rfl
  | lst l => simp [dep] at h
  | tup l => simp [dep] at h
theorem deps_flat : ∀ {l : List D} {vs : List V}, deps l = 0 → Reps K G l vs → vs.all flatV = true
  | [], vs, _, r => by rw [reps_nil.mp r]; rfl
  | d :: l, vs, h, r => by
    obtain ⟨v, q, rfl, h2, h3⟩ := reps_cons.mp r
    have h' : max (dep d) (deps l) = 0 := h
    rw [List.all_cons, dep_flat (by omega) h2, deps_flat (by omega) h3]
    rfl
theorem eqV_eqv {d e : D} {v u : V} (hd : dep d = 0) (he : dep e = 0) (rv : Rep K G d v) (ru : Rep K G e u) : eqV v u = eqv d e := by
  cases d <;> cases e <;> first | (simp [dep] at hd; done) | (simp [dep] at he; done) | skip
  all_goals
    first | rw [rep_non] at rv | rw [rep_bl] at rv | rw [rep_int] at rv | rw [rep_str] at rv
    first | rw [rep_non] at ru | rw [rep_bl] at ru | rw [rep_int] at ru | rw [rep_str] at ru
    subst rv
    subst ru
    first | rfl | (simp only [eqV, eqv]; first | rfl | exact (Bool.beq_eq_decide_eq _ _).symm | (rename_i x y; cases x <;> rfl) | (rename_i x y; cases y <;> rfl) | skip)
theorem inV_any {e : D} {u : V} (he : dep e = 0) (ru : Rep K G e u) : ∀ {l : List D} {vs : List V}, deps l = 0 → Reps K G l vs → inV u vs = l.any fun z => eqv z e
  | [], vs, _, r => by rw [reps_nil.mp r]; rfl
  | d :: l, vs, h, r => by
    obtain ⟨v, q, rfl, h2, h3⟩ := reps_cons.mp r
    have h' : max (dep d) (deps l) = 0 := h
    show (eqV v u || inV u q) = _
    rw [List.any_cons, eqV_eqv (by omega) he h2 ru, inV_any he ru (by omega) h3]
theorem pys_any (d : D) : ∀ l : List D, ((pys l).any fun z => PyData.eqv z (py d)) = l.any fun z => eqv z d
  | [] => rfl
  | e :: l => by simp only [pys, List.any_cons, py_eqv, pys_any d l]
theorem rule_in : Rule2 K (fun x y H Q => rIn K false x y H Q ∨ rInD K x y H Q) (mbl dIn) := by
  intro G H d e z x y Q s n rx ry h k
  obtain ⟨b, hb, rfl⟩ := mbl_some h
  cases e <;> first | (cases hb; done) | skip
  · rename_i l
    simp only [dIn] at hb
    split at hb
    · rename_i hc
      cases hb
      refine .inr ⟨py d, pys l, dp_up s rx.dp, dp_up s ry.dp, py_shaped hc.1 hc.2.2.1, py_shaped (d := .lst l) (by unfold dep; omega) hc.2.2.2, ?_⟩
      rw [pys_any]
      exact k _ _ _ (New.refl s n) (rep_bl.mpr rfl)
    · cases hb
  · rename_i l
    simp only [dIn] at hb
    split at hb
    · rename_i hc
      cases hb
      obtain ⟨a, vs, rfl, h1, h2⟩ := rep_tup.mp ry
      refine .inl ⟨a, vs, rfl, .inr (sqT_up s h1), dep_flat hc.1 rx, deps_flat hc.2 h2, ?_⟩
      rw [if_neg Bool.false_ne_true, inV_any hc.1 rx hc.2 h2]
      exact k _ _ _ (New.refl s n) (rep_bl.mpr rfl)
    · cases hb
theorem rule_notIn : Rule2 K (fun x y H Q => rIn K true x y H Q ∨ rNotInD K x y H Q) (mbl dNotIn) := by
  intro G H d e z x y Q s n rx ry h k
  obtain ⟨b, hb, rfl⟩ := mbl_some h
  unfold dNotIn at hb
  obtain ⟨b', hb', rfl⟩ := Option.map_eq_some_iff.mp hb
  clear hb
  cases e <;> first | (cases hb'; done) | skip
  · rename_i l
    simp only [dIn] at hb'
    split at hb'
    · rename_i hc
      cases hb'
      refine .inr ⟨py d, pys l, dp_up s rx.dp, dp_up s ry.dp, py_shaped hc.1 hc.2.2.1, py_shaped (d := .lst l) (by unfold dep; omega) hc.2.2.2, ?_⟩
      rw [pys_any]
      exact k _ _ _ (New.refl s n) (rep_bl.mpr rfl)
    · cases hb'
  · rename_i l
    simp only [dIn] at hb'
    split at hb'
    · rename_i hc
      cases hb'
      obtain ⟨a, vs, rfl, h1, h2⟩ := rep_tup.mp ry
      refine .inl ⟨a, vs, rfl, .inr (sqT_up s h1), dep_flat hc.1 rx, deps_flat hc.2 h2, ?_⟩
      rw [if_pos rfl, inV_any hc.1 rx hc.2 h2]
      exact k _ _ _ (New.refl s n) (rep_bl.mpr rfl)
    · cases hb'
theorem isNon_iff {d : D} {v : V} (r : Rep K G d v) : decide (v = V.non) = isNon d := by
  cases d with
  | non => rw [rep_non.mp r]; rfl
  | bl b => rw [rep_bl.mp r]; rfl
  | int b => rw [rep_int.mp r]; rfl
  | str b => rw [rep_str.mp r]; rfl
  | lst l => obtain ⟨a, vs, rfl, _⟩ := rep_lst.mp r; rfl
  | tup l => obtain ⟨a, vs, rfl, _⟩ := rep_tup.mp r; rfl
theorem rule_is : Rule2 K (fun x y H Q => (y = .non ∧ Q (.bl (decide (x = .non))) H) ∨ rIsB x y H Q) (mbl dIs) := by
  intro G H d e z x y Q s n rx ry h k
  obtain ⟨b, hb, rfl⟩ := mbl_some h
  by_cases he : e = .non
  · subst he
    have hb' : b = isNon d := by cases d <;> (cases hb; rfl)
    rw [rep_non] at ry
    refine .inl ⟨ry, ?_⟩
    rw [isNon_iff rx, ← hb']
    exact k _ _ _ (New.refl s n) (rep_bl.mpr rfl)
  · cases d <;> cases e <;> first | (exact absurd rfl he) | (cases hb; done) | skip
    rw [rep_bl] at rx ry
    refine .inr ⟨_, _, rx, ry, ?_⟩
    rename_i i j
    have hb' : b = decide (i = j) := by
      have : some (i == j) = some b := hb
      rw [← Option.some.inj this, Bool.beq_eq_decide_eq]
    rw [← hb']
    exact k _ _ _ (New.refl s n) (rep_bl.mpr rfl)
theorem rule_isNot : Rule2 K (fun x y H Q => (y = .non ∧ Q (.bl (!decide (x = .non))) H) ∨ rNotB x y H Q) (mbl dIsNot) := by
  intro G H d e z x y Q s n rx ry h k
  obtain ⟨b0, hb0, rfl⟩ := mbl_some h
  unfold dIsNot at hb0
  obtain ⟨b, hb, rfl⟩ := Option.map_eq_some_iff.mp hb0
  by_cases he : e = .non
  · subst he
    have hb' : b = isNon d := by cases d <;> (cases hb; rfl)
    rw [rep_non] at ry
    refine .inl ⟨ry, ?_⟩
    rw [isNon_iff rx, ← hb']
    exact k _ _ _ (New.refl s n) (rep_bl.mpr rfl)
  · cases d <;> cases e <;> first | (exact absurd rfl he) | (cases hb; done) | skip
    rw [rep_bl] at rx ry
    refine .inr ⟨_, _, rx, ry, ?_⟩
    rename_i i j
    have hb' : b = decide (i = j) := by
      have : some (i == j) = some b := hb
      rw [← Option.some.inj this, Bool.beq_eq_decide_eq]
    rw [← hb']
    exact k _ _ _ (New.refl s n) (rep_bl.mpr rfl)
theorem ixN_eq : Fe.ixN = L2.ixN := rfl
theorem rule_ix : Rule2 K (fun x y H Q => rIxL K x y H Q ∨ rIxT K x y H Q) dIx := by
  intro G H d e z x y Q s n rx ry h k
  cases d <;> cases e <;> first | (cases h; done) | skip
  · rename_i l i
    rw [rep_int] at ry
    obtain ⟨a, vs, rfl, h1, h2⟩ := rep_lst.mp rx
    obtain ⟨j, hj, hz⟩ := Option.bind_eq_some_iff.mp h
    obtain ⟨v, hv, rv⟩ := h2.get hz
    refine .inl ⟨a, vs, i, v, rfl, ry, sqL_up s h1, ?_, k _ _ _ (New.refl s n) rv⟩
    unfold atI
    rw [h2.len]
    show (Fe.ixN l.length i).bind _ = _
    rw [hj]
    exact hv
  · rename_i l i
    rw [rep_int] at ry
    obtain ⟨a, vs, rfl, h1, h2⟩ := rep_tup.mp rx
    obtain ⟨j, hj, hz⟩ := Option.bind_eq_some_iff.mp h
    obtain ⟨v, hv, rv⟩ := h2.get hz
    refine .inr ⟨a, vs, i, v, rfl, ry, sqT_up s h1, ?_, k _ _ _ (New.refl s n) rv⟩
    unfold atI
    rw [h2.len]
    show (Fe.ixN l.length i).bind _ = _
    rw [hj]
    exact hv
end

/-! ### expressions -/
section
variable {X : Cx} {B : Bs} {c : Ct B} {W : WX} {a b d : Expr} {fa fb fd : M D} {ta tb td : M Bool} {pos : Pos}
theorem e_var (i : Nat) {x : Str} {pos : Pos} (hN : X.N[i]? = some x := by rfl) (hv : Vis X.env.scope x := by first | exact Or.inl rfl | exact Or.inr (Or.inl rfl) | exact Or.inr (Or.inr rfl)) (hd : (x == ("__debug__" : Str)) = false := by decide)
    (hcd : (x == ("__classdict__" : Str)) = false := by decide) : PE X (.Name x pos) (dE c W (vr i)) := peI (pv i hN hv hd hcd) fun σ H Q ⟨G, ρ, g, p⟩ => by
  unfold vr at p
  revert p
  cases h : get ρ i with
  | none => exact False.elim
  | some x =>
    cases x with
    | o d => exact False.elim
    | p d =>
      intro p
      obtain ⟨v, h1, r⟩ := g.sl i _ h
      exact ⟨v, h1, g.keep p r⟩
theorem e_int {i j pos} : PE X (.Constant (.int i) j pos) (dE c W (Fe.ret (.int i))) := peI pe_int fun σ H Q ⟨G, ρ, g, p⟩ => g.keep p (rep_int.mpr rfl)
theorem e_bl {i j pos} : PE X (.Constant (.bool i) j pos) (dE c W (Fe.ret (.bl i))) := peI pe_bl fun σ H Q ⟨G, ρ, g, p⟩ => g.keep p (rep_bl.mpr rfl)
theorem e_non {j pos} : PE X (.Constant .none j pos) (dE c W (Fe.ret .non)) := peI pe_non fun σ H Q ⟨G, ρ, g, p⟩ => g.keep p (rep_non.mpr rfl)
theorem e_str {x j pos} : PE X (.Constant (.str x) j pos) (dE c W (Fe.ret (.str x))) := peI pe_str fun σ H Q ⟨G, ρ, g, p⟩ => g.keep p (rep_str.mpr rfl)
/-- a module's constant: a number, a text -/
theorem e_gI {x : Str} {i : Int} {t : Tok} {pos : Pos} (hm : X.mg x = some (.int i t)) (hg : Gl X x := by rfl) (hd : (x == ("__debug__" : Str)) = false := by decide) : PE X (.Name x pos) (dE c W (Fe.ret (.int i))) :=
  peI (pe_glob (v := .int i) hg hm ⟨t, rfl⟩ hd) fun σ H Q ⟨G, ρ, g, p⟩ => g.keep p (rep_int.mpr rfl)
theorem e_gS {x : Str} {i : Str} {t : Tok} {pos : Pos} (hm : X.mg x = some (.str i t)) (hg : Gl X x := by rfl) (hd : (x == ("__debug__" : Str)) = false := by decide) : PE X (.Name x pos) (dE c W (Fe.ret (.str i))) :=
  peI (pe_glob (v := .str i) hg hm ⟨t, rfl⟩ hd) fun σ H Q ⟨G, ρ, g, p⟩ => g.keep p (rep_str.mpr rfl)

theorem use2 {r : R2} {g : D → D → Option D} (hg : Rule2 B.K r g) {σ : L2.St} {H : Hp} {Q : VK} (h : dE c W (op2 g fa fb) σ H Q) : tOp r (dE c W fa) (dE c W fb) σ H Q := by
  refine (den_bnd h).imp fun x H1 ⟨G1, ρ1, d, g1, rx, p1⟩ => ?_
  refine (post_bnd g1 p1).imp fun y H2 ⟨G2, ρ2, e, s2, g2, ry, p2⟩ => ?_
  obtain ⟨z, hz, p3⟩ := post_lft p2
  exact hg G2 H2 d e z x y Q g2.gh g2.nt (Rep.mono s2 rx) ry hz fun v H' G' n rz => p3 v H' G' n.gg (g2.ext n) rz
theorem use1 {r : V → Hp → VK → Prop} {g : D → Option D} (hg : Rule1 B.K r g) {σ : L2.St} {H : Hp} {Q : VK} (h : dE c W (op1 g fa) σ H Q) : tUn r (dE c W fa) σ H Q := by
  refine (den_bnd h).imp fun x H1 ⟨G1, ρ1, d, g1, rx, p1⟩ => ?_
  obtain ⟨z, hz, p3⟩ := post_lft p1
  exact hg G1 H1 d z x Q g1.gh g1.nt rx hz fun v H' G' n rz => p3 v H' G' n.gg (g1.ext n) rz
theorem e_op {op : Operator} {r : R2} {g : D → D → Option D} (ho : OpR X (binaryOp op) r) (hg : Rule2 B.K r g) (ha : PE X a (dE c W fa)) (hb : PE X b (dE c W fb)) : PE X (.BinOp a op b pos) (dE c W (op2 g fa fb)) :=
  peI (pe_op ho ha hb) fun _ _ _ h => use2 hg h
theorem e_add (ha : PE X a (dE c W fa)) (hb : PE X b (dE c W fb)) (hK : B.K = X.K := by rfl) : PE X (.BinOp a .Add b pos) (dE c W (op2 dAdd fa fb)) := e_op (op_add.or (op_add_str.or op_catA)) (by rw [hK]; exact rule_add) ha hb
theorem e_sub (ha : PE X a (dE c W fa)) (hb : PE X b (dE c W fb)) : PE X (.BinOp a .Sub b pos) (dE c W (op2 dSub fa fb)) := e_op op_sub rule_sub ha hb
theorem e_mul (ha : PE X a (dE c W fa)) (hb : PE X b (dE c W fb)) : PE X (.BinOp a .Mult b pos) (dE c W (op2 dMul fa fb)) := e_op op_mul rule_mul ha hb
theorem e_div (ha : PE X a (dE c W fa)) (hb : PE X b (dE c W fb)) : PE X (.BinOp a .FloorDiv b pos) (dE c W (op2 dDiv fa fb)) := e_op op_fdiv rule_div ha hb
theorem e_mod (ha : PE X a (dE c W fa)) (hb : PE X b (dE c W fb)) : PE X (.BinOp a .Mod b pos) (dE c W (op2 dMod fa fb)) := e_op op_mod rule_mod ha hb
theorem e_pow (ha : PE X a (dE c W fa)) (hb : PE X b (dE c W fb)) : PE X (.BinOp a .Pow b pos) (dE c W (op2 dPow fa fb)) := e_op op_pow rule_pow ha hb
theorem e_neg (ha : PE X a (dE c W fa)) : PE X (.UnaryOp .USub a pos) (dE c W (op1 dNeg fa)) := peI (pe_un un_neg ha) fun _ _ _ h => use1 rule_neg h
theorem e_cmp {op : CmpOp} {r : R2} {g : D → D → Option Bool} (ho : OpR X (compareOp op) r) (hg : Rule2 B.K r (mbl g)) (ha : PE X a (dE c W fa)) (hb : PE X b (dE c W fb)) (hm : behindInMarks op b = false) : PE X (.Compare a [op] [b] pos) (dE c W (cmp g fa fb)) :=
  peI (pe_cmpR ho ha hb hm) fun _ _ _ h => use2 hg h
theorem e_lt {k : Nat} (hr : Room k X.A) (ha : PE X a (dE c W fa)) (hb : PE X b (dE c W fb)) (hK : B.K = X.K := by rfl) : PE X (.Compare a [.Lt] [b] pos) (dE c W (cmp dLt fa fb)) := e_cmp (op_lt.or (op_ltT hr.units0)) (by rw [hK]; exact rule_lt) ha hb (nomark _)
theorem e_le (ha : PE X a (dE c W fa)) (hb : PE X b (dE c W fb)) : PE X (.Compare a [.LtE] [b] pos) (dE c W (cmp dLe fa fb)) := e_cmp op_le rule_le ha hb (nomark _)
theorem e_ge (ha : PE X a (dE c W fa)) (hb : PE X b (dE c W fb)) : PE X (.Compare a [.GtE] [b] pos) (dE c W (cmp dGe fa fb)) := e_cmp op_ge rule_ge ha hb (nomark _)
theorem e_eq {k : Nat} (hr : Room k X.A) (ha : PE X a (dE c W fa)) (hb : PE X b (dE c W fb)) (hK : B.K = X.K := by rfl) : PE X (.Compare a [.Eq] [b] pos) (dE c W (cmp dEq fa fb)) := e_cmp (op_eqD hr.units) (by rw [hK]; exact rule_eq) ha hb (nomark _)
theorem e_ne {k : Nat} (hr : Room k X.A) (ha : PE X a (dE c W fa)) (hb : PE X b (dE c W fb)) (hK : B.K = X.K := by rfl) : PE X (.Compare a [.NotEq] [b] pos) (dE c W (cmp dNe fa fb)) := e_cmp (op_neD hr.units) (by rw [hK]; exact rule_ne) ha hb (nomark _)
theorem room65 {A : Around} {k : Nat} (hr : Room (k + 1) A) : A.units + 65 < cLine := by have := hr.un; omega
theorem e_in {k : Nat} (hr : Room (k + 1) X.A) (ha : PE X a (dE c W fa)) (hb : PE X b (dE c W fb)) (hm : behindInMarks .In b = false := by rfl) (hK : B.K = X.K := by rfl) : PE X (.Compare a [.In] [b] pos) (dE c W (cmp dIn fa fb)) := e_cmp (op_in_seq.or (op_inD (room65 hr))) (by rw [hK]; exact rule_in) ha hb hm
theorem e_notIn {k : Nat} (hr : Room (k + 1) X.A) (ha : PE X a (dE c W fa)) (hb : PE X b (dE c W fb)) (hm : behindInMarks .NotIn b = false := by rfl) (hK : B.K = X.K := by rfl) : PE X (.Compare a [.NotIn] [b] pos) (dE c W (cmp dNotIn fa fb)) := e_cmp (op_notIn_seq.or (op_notInD (room65 hr))) (by rw [hK]; exact rule_notIn) ha hb hm
theorem e_is (ha : PE X a (dE c W fa)) (hb : PE X b (dE c W fb)) : PE X (.Compare a [.Is] [b] pos) (dE c W (cmp dIs fa fb)) := e_cmp (op_isN.or op_isBl) rule_is ha hb (nomark _)
theorem e_isNot (ha : PE X a (dE c W fa)) (hb : PE X b (dE c W fb)) : PE X (.Compare a [.IsNot] [b] pos) (dE c W (cmp dIsNot fa fb)) := e_cmp (op_notN.or op_notBl) rule_isNot ha hb (nomark _)
theorem e_ix (ha : PE X a (dE c W fa)) (hb : PE X b (dE c W fb)) (hs : PlainIx b := by exact fun _ _ => rfl) (hK : B.K = X.K := by rfl) : PE X (.Subscript a b pos) (dE c W (op2 dIx fa fb)) :=
  peI (pe_ix (ix_list.or ix_tup) ha hb hs) fun _ _ _ h => use2 (by rw [hK]; exact rule_ix) h

/-! tests -/
theorem t_bl (ha : PE X a (dE c W fa)) (he : ∀ whole, isTrue a X.env whole = (do let v ← whole; standAt a.pos; holding [v] (truthy v)) := by intro _; rfl) : PT X a (dT c W (tsb fa)) :=
  ptI (pt_val ha he) fun σ H Q h => by
    refine (den_bnd h).imp fun x H1 ⟨G1, ρ1, d, g1, rx, p1⟩ => ?_
    obtain ⟨z, hz, p3⟩ := post_lft p1
    cases d <;> first | (cases hz; done) | skip
    cases hz
    exact ⟨_, rep_bl.mp rx, g1.keep p3 rfl⟩
theorem t_cmp {op : CmpOp} {r : R2} {g : D → D → Option Bool} (ho : OpR X (compareOp op) r) (hg : Rule2 B.K r (mbl g)) (ha : PE X a (dE c W fa)) (hb : PE X b (dE c W fb)) (hm : behindInMarks op b = false) : PT X (.Compare a [op] [b] pos) (dT c W (tsb (cmp g fa fb))) :=
  ptI (pt_cmpR ho ha hb hm) fun σ H Q h => by
    have h2 : dE c W (cmp g fa fb) σ H (fun x H1 => ∃ k, x = .bl k ∧ Q k H1) := (den_bnd h).imp fun x H1 ⟨G1, ρ1, d, g1, rx, p1⟩ => by
      obtain ⟨z, hz, p3⟩ := post_lft p1
      cases d <;> first | (cases hz; done) | skip
      cases hz
      exact ⟨_, rep_bl.mp rx, g1.keep p3 rfl⟩
    exact use2 hg h2
theorem t_lt {k : Nat} (hr : Room k X.A) (ha : PE X a (dE c W fa)) (hb : PE X b (dE c W fb)) (hK : B.K = X.K := by rfl) : PT X (.Compare a [.Lt] [b] pos) (dT c W (tsb (cmp dLt fa fb))) := t_cmp (op_lt.or (op_ltT hr.units0)) (by rw [hK]; exact rule_lt) ha hb (nomark _)
theorem t_le (ha : PE X a (dE c W fa)) (hb : PE X b (dE c W fb)) : PT X (.Compare a [.LtE] [b] pos) (dT c W (tsb (cmp dLe fa fb))) := t_cmp op_le rule_le ha hb (nomark _)
theorem t_ge (ha : PE X a (dE c W fa)) (hb : PE X b (dE c W fb)) : PT X (.Compare a [.GtE] [b] pos) (dT c W (tsb (cmp dGe fa fb))) := t_cmp op_ge rule_ge ha hb (nomark _)
theorem t_eq {k : Nat} (hr : Room k X.A) (ha : PE X a (dE c W fa)) (hb : PE X b (dE c W fb)) (hK : B.K = X.K := by rfl) : PT X (.Compare a [.Eq] [b] pos) (dT c W (tsb (cmp dEq fa fb))) := t_cmp (op_eqD hr.units) (by rw [hK]; exact rule_eq) ha hb (nomark _)
theorem t_ne {k : Nat} (hr : Room k X.A) (ha : PE X a (dE c W fa)) (hb : PE X b (dE c W fb)) (hK : B.K = X.K := by rfl) : PT X (.Compare a [.NotEq] [b] pos) (dT c W (tsb (cmp dNe fa fb))) := t_cmp (op_neD hr.units) (by rw [hK]; exact rule_ne) ha hb (nomark _)
theorem t_in {k : Nat} (hr : Room (k + 1) X.A) (ha : PE X a (dE c W fa)) (hb : PE X b (dE c W fb)) (hm : behindInMarks .In b = false := by rfl) (hK : B.K = X.K := by rfl) : PT X (.Compare a [.In] [b] pos) (dT c W (tsb (cmp dIn fa fb))) := t_cmp (op_in_seq.or (op_inD (room65 hr))) (by rw [hK]; exact rule_in) ha hb hm
theorem t_notIn {k : Nat} (hr : Room (k + 1) X.A) (ha : PE X a (dE c W fa)) (hb : PE X b (dE c W fb)) (hm : behindInMarks .NotIn b = false := by rfl) (hK : B.K = X.K := by rfl) : PT X (.Compare a [.NotIn] [b] pos) (dT c W (tsb (cmp dNotIn fa fb))) := t_cmp (op_notIn_seq.or (op_notInD (room65 hr))) (by rw [hK]; exact rule_notIn) ha hb hm
theorem t_is (ha : PE X a (dE c W fa)) (hb : PE X b (dE c W fb)) : PT X (.Compare a [.Is] [b] pos) (dT c W (tsb (cmp dIs fa fb))) := t_cmp (op_isN.or op_isBl) rule_is ha hb (nomark _)
theorem t_isNot (ha : PE X a (dE c W fa)) (hb : PE X b (dE c W fb)) : PT X (.Compare a [.IsNot] [b] pos) (dT c W (tsb (cmp dIsNot fa fb))) := t_cmp (op_notN.or op_notBl) rule_isNot ha hb (nomark _)
theorem t_tr (ha : PE X a (dE c W fa)) (he : ∀ whole, isTrue a X.env whole = (do let v ← whole; standAt a.pos; holding [v] (truthy v)) := by intro _; rfl) (hK : B.K = X.K := by rfl) : PT X a (dT c W (tst fa)) :=
  ptI (pt_truth ha he) fun σ H Q h => by
    refine (den_bnd h).imp fun x H1 ⟨G1, ρ1, d, g1, rx, p1⟩ => ?_
    obtain ⟨z, hz, p3⟩ := post_lft p1
    replace rx : Rep B.K G1 d x := rx
    rw [hK] at rx
    refine ⟨z, ?_, g1.keep p3 rfl⟩
    cases d with
    | non => cases hz; rw [rep_non.mp rx]; rfl
    | bl b => cases hz; rw [rep_bl.mp rx]; rfl
    | int b => cases hz; rw [rep_int.mp rx]; rfl
    | str b => cases hz
    | lst l =>
      obtain ⟨a, vs, rfl, h1, h2⟩ := rep_lst.mp rx
      cases hz
      refine .inl ⟨vs, sqL_up g1.gh h1, ?_⟩
      cases l with
      | nil => rw [reps_nil.mp h2]; rfl
      | cons d l => obtain ⟨v, r, rfl, _⟩ := reps_cons.mp h2; rfl
    | tup l =>
      obtain ⟨a, vs, rfl, h1, h2⟩ := rep_tup.mp rx
      cases hz
      refine .inr (.inl ⟨vs, sqT_up g1.gh h1, ?_⟩)
      cases l with
      | nil => rw [reps_nil.mp h2]; rfl
      | cons d l => obtain ⟨v, r, rfl, _⟩ := reps_cons.mp h2; rfl
theorem t_not (ha : PT X a (dT c W ta)) : PT X (.UnaryOp .Not a pos) (dT c W (notT ta)) := ptI (pt_not ha) fun σ H Q h =>
  (den_bnd h).imp fun x H1 ⟨G1, ρ1, d, g1, rx, p1⟩ => by
    cases (show d = x from rx)
    exact g1.keep p1 rfl
theorem w_and1 (ha : PT X a (dT c W ta)) : PW X (.BoolOp .And [a] pos) (dT c W ta) := pw_and1 ha
theorem w_or1 (ha : PT X a (dT c W ta)) : PW X (.BoolOp .Or [a] pos) (dT c W ta) := pw_or1 ha
variable {rest : List Expr}
theorem w_and (ha : PT X a (dT c W ta)) (hb : PW X (.BoolOp .And (b :: rest) pos) (dT c W tb)) : PW X (.BoolOp .And (a :: b :: rest) pos) (dT c W (andT ta tb)) := pwI (pw_and ha hb) fun σ H Q h =>
  (den_bnd h).imp fun x H1 ⟨G1, ρ1, d, g1, rx, p1⟩ => by
    have e : d = x := rx
    subst e
    cases d with
    | true =>
      rw [if_pos rfl]
      exact ⟨G1, ρ1, g1, p1⟩
    | false =>
      rw [if_neg Bool.false_ne_true]
      exact g1.keep p1 rfl
theorem w_or (ha : PT X a (dT c W ta)) (hb : PW X (.BoolOp .Or (b :: rest) pos) (dT c W tb)) : PW X (.BoolOp .Or (a :: b :: rest) pos) (dT c W (orT ta tb)) := pwI (pw_or ha hb) fun σ H Q h =>
  (den_bnd h).imp fun x H1 ⟨G1, ρ1, d, g1, rx, p1⟩ => by
    have e : d = x := rx
    subst e
    cases d with
    | true =>
      rw [if_pos rfl]
      exact g1.keep p1 rfl
    | false =>
      rw [if_neg Bool.false_ne_true]
      exact ⟨G1, ρ1, g1, p1⟩
theorem e_and (ha : PE X a (dE c W fa)) (hb : PE X (.BoolOp .And (b :: rest) pos) (dE c W fb)) : PE X (.BoolOp .And (a :: b :: rest) pos) (dE c W (andV fa fb)) := peI (pe_and ha hb) fun σ H Q h =>
  (den_bnd h).imp fun x H1 ⟨G1, ρ1, d, g1, rx, p1⟩ => by
    cases d <;> first | exact False.elim p1 | skip
    rename_i k
    refine ⟨k, rep_bl.mp rx, ?_⟩
    cases k with
    | true =>
      rw [if_pos rfl]
      exact ⟨G1, ρ1, g1, p1⟩
    | false =>
      rw [if_neg Bool.false_ne_true]
      exact g1.keep p1 (rep_bl.mpr rfl)
theorem e_or (ha : PE X a (dE c W fa)) (hb : PE X (.BoolOp .Or (b :: rest) pos) (dE c W fb)) : PE X (.BoolOp .Or (a :: b :: rest) pos) (dE c W (orV fa fb)) := peI (pe_or ha hb) fun σ H Q h =>
  (den_bnd h).imp fun x H1 ⟨G1, ρ1, d, g1, rx, p1⟩ => by
    cases d <;> first | exact False.elim p1 | skip
    rename_i k
    refine ⟨k, rep_bl.mp rx, ?_⟩
    cases k with
    | true =>
      rw [if_pos rfl]
      exact g1.keep p1 (rep_bl.mpr rfl)
    | false =>
      rw [if_neg Bool.false_ne_true]
      exact ⟨G1, ρ1, g1, p1⟩
theorem e_one {op} (ha : PE X a (dE c W fa)) : PE X (.BoolOp op [a] pos) (dE c W fa) := pe_one ha
theorem e_not (ha : PE X a (dE c W fa)) : PE X (.UnaryOp .Not a pos) (dE c W (notV fa)) := peI (pe_not ha) fun σ H Q h =>
  (den_bnd h).imp fun x H1 ⟨G1, ρ1, d, g1, rx, p1⟩ => by
    cases d <;> first | exact False.elim p1 | skip
    rename_i k
    exact ⟨k, rep_bl.mp rx, g1.keep p1 (rep_bl.mpr rfl)⟩
/-- not of a test, as a value -/
theorem e_if (ht : PT X d (dT c W td)) (ha : PE X a (dE c W fa)) (hb : PE X b (dE c W fb)) : PE X (.IfExp d a b pos) (dE c W (ifE td fa fb)) := peI (pe_ifExp ht ha hb) fun σ H Q h =>
  (den_bnd h).imp fun x H1 ⟨G1, ρ1, d, g1, rx, p1⟩ => by
    have e : d = x := rx
    subst e
    cases d with
    | true =>
      rw [if_pos rfl]
      exact ⟨G1, ρ1, g1, p1⟩
    | false =>
      rw [if_neg Bool.false_ne_true]
      exact ⟨G1, ρ1, g1, p1⟩
theorem chn_use {r r' : R2} {g h : D → D → Option Bool} (hg : Rule2 B.K r (mbl g)) (hh : Rule2 B.K r' (mbl h)) {σ : L2.St} {H : Hp} {Q : VK} (q : dE c W (chn g h fa fb fd) σ H Q) : tChain r r' (dE c W fa) (dE c W fb) (dE c W fd) σ H Q := by
  refine (den_bnd q).imp fun x H1 ⟨G1, ρ1, d, g1, rx, p1⟩ => ?_
  refine (post_bnd g1 p1).imp fun y H2 ⟨G2, ρ2, e, s2, g2, ry, p2⟩ => ?_
  cases hz : g d e with
  | none => rw [hz] at p2; exact False.elim p2
  | some k =>
    rw [hz] at p2
    refine hg G2 H2 d e (.bl k) x y _ g2.gh g2.nt (Rep.mono s2 rx) ry (by unfold mbl; rw [hz]; rfl) fun v H3 G3 n rz => ⟨k, rep_bl.mp rz, ?_⟩
    have g3 := g2.ext n
    have p3 := Post.mono n.gg p2
    cases k with
    | false =>
      rw [if_neg Bool.false_ne_true]
      exact g3.keep p3 (rep_bl.mpr rfl)
    | true =>
      rw [if_pos rfl]
      refine (post_bnd g3 (show Post rD c W σ G3 (bnd fd (fun z => Fe.tb (h e z)) ρ2) Q from p3)).imp fun z H4 ⟨G4, ρ4, f, s4, g4, rz4, p4⟩ => ?_
      cases hz2 : h e f with
      | none => rw [hz2] at p4; exact False.elim p4
      | some k2 =>
        rw [hz2] at p4
        refine hh G4 H4 e f (.bl k2) y z _ g4.gh g4.nt (Rep.mono s4 (Rep.mono n.gg ry)) rz4 (by unfold mbl; rw [hz2]; rfl) fun v H5 G5 n5 rz5 => ?_
        exact (show Post rD c W σ G4 (.ok (.bl k2) ρ4) Q from p4) v H5 G5 n5.gg (g4.ext n5) rz5
theorem e_chn {op op' : CmpOp} {r r' : R2} {g h : D → D → Option Bool} (ho : OpR X (compareOp op) r) (ho' : OpR X (compareOp op') r') (hg : Rule2 B.K r (mbl g)) (hh : Rule2 B.K r' (mbl h)) (ha : PE X a (dE c W fa)) (hb : PE X b (dE c W fb)) (hd : PE X d (dE c W fd))
    (hm : lastMarks [op, op'] [b, d] = false := by with_unfolding_all rfl) : PE X (.Compare a [op, op'] [b, d] pos) (dE c W (chn g h fa fb fd)) :=
  peI (pe_chain ho ho' ha hb hd hm) fun σ H Q q => chn_use hg hh q
theorem t_chn {op op' : CmpOp} {r r' : R2} {g h : D → D → Option Bool} (ho : OpR X (compareOp op) r) (ho' : OpR X (compareOp op') r') (hg : Rule2 B.K r (mbl g)) (hh : Rule2 B.K r' (mbl h)) (ha : PE X a (dE c W fa)) (hb : PE X b (dE c W fb)) (hd : PE X d (dE c W fd))
    (hm : lastMarks [op, op'] [b, d] = false := by with_unfolding_all rfl) : PT X (.Compare a [op, op'] [b, d] pos) (dT c W (tsb (chn g h fa fb fd))) :=
  ptI (pt_chain ho ho' ha hb hd hm) fun σ H Q q => by
    have h2 : dE c W (chn g h fa fb fd) σ H (fun x H1 => ∃ k, x = .bl k ∧ Q k H1) := (den_bnd q).imp fun x H1 ⟨G1, ρ1, d, g1, rx, p1⟩ => by
      obtain ⟨z, hz, p3⟩ := post_lft p1
      cases d <;> first | (cases hz; done) | skip
      cases hz
      exact ⟨_, rep_bl.mp rx, g1.keep p3 rfl⟩
    exact chn_use hg hh h2

/-! arguments, displays -/
variable {es : List Expr} {fs : M (List D)}
theorem a_nil : PA X [] (dA c W nilA) := paI pa_nil fun σ H Q ⟨G, ρ, g, p⟩ => g.keep p (reps_nil.mpr rfl)
theorem a_cons (ha : PE X a (dE c W fa)) (hr : PA X es (dA c W fs)) (hs : starEach (a :: es) X.env = (false, eval a X.env) :: starEach es X.env := by rfl) : PA X (a :: es) (dA c W (consA fa fs)) := paI (pa_cons ha hr hs) fun σ H Q h => by
  refine (den_bnd h).imp fun x H1 ⟨G1, ρ1, d, g1, rx, p1⟩ => ?_
  refine (post_bnd g1 p1).imp fun y H2 ⟨G2, ρ2, e, s2, g2, ry, p2⟩ => ?_
  exact g2.keep p2 (reps_cons.mpr ⟨_, _, rfl, Rep.mono s2 rx, ry⟩)
theorem e_tup {k : Nat} (h : PA X es (dA c W fs)) : PE X (.Tuple es k pos) (dE c W (tupE fs)) := peI (pe_tup h) fun σ H Q h =>
  (den_bnd h).imp fun x H1 ⟨G1, ρ1, l, g1, rx, p1⟩ => by
    obtain ⟨z, hz, p3⟩ := post_lft p1
    unfold fewT at hz
    split at hz
    · rename_i hl
      cases hz
      refine ⟨by rw [Reps.len rx, ← lim_eq]; exact hl, fun p hp => ?_⟩
      have N : New G1 H1 (upd G1 p (.tup x)) (upd H1 p (.tup x)) := New.mk1 g1.gh g1.nt hp (fun ps z => by cases z)
      exact p3 _ _ _ N.gg (g1.ext N) (rep_tup.mpr ⟨p, _, rfl, .inl (.inl upd_same), Reps.mono N.gg rx⟩)
    · cases hz
theorem e_lst {k : Nat} (h : PA X es (dA c W fs)) : PE X (.List es pos) (dE c W (lstE fs)) := peI (pe_lst h) fun σ H Q h =>
  (den_bnd h).imp fun x H1 ⟨G1, ρ1, l, g1, rx, p1⟩ => by
    obtain ⟨z, hz, p3⟩ := post_lft p1
    unfold fewL at hz
    split at hz
    · rename_i hl
      cases hz
      refine ⟨by rw [Reps.len rx, ← lim_eq]; exact hl, fun p hp => ?_⟩
      have N : New G1 H1 (upd G1 p (.lst x)) (upd H1 p (.lst x)) := New.mk1 g1.gh g1.nt hp (fun ps z => by cases z)
      exact p3 _ _ _ N.gg (g1.ext N) (rep_lst.mpr ⟨p, _, rfl, .inl (.inl upd_same), Reps.mono N.gg rx⟩)
    · cases hz
end
end Fe
set_option Elab.async false
set_option linter.all false
set_option maxRecDepth 100000
set_option maxHeartbeats 1000000
/-! What is walked; statements; comprehensions. -/
namespace Fe
open PySem PySem.Spec PyProof.Rows L2

/-! ### what is walked -/
structure Goes (K : PySem.W.Frag) (G : Hp) (J : It) (ds : List D) : Prop where
  go : ∀ i H, Same G H → i < ds.length → J.go i H
  stop : ∀ H, Same G H → J.stop ds.length H
  yld : ∀ i H x H', Same G H → J.yld i H x H' → i < ds.length → ∀ G1, Same G G1 → Same G1 H → NT G1 → ∃ G2 d, New G1 H G2 H' ∧ ds[i]? = some d ∧ Rep K G2 d x
abbrev rI (B : Bs) (G : Hp) (ds : List D) (J : It) : Prop := Goes B.K G J ds
abbrev dI {B : Bs} (c : Ct B) (W : WX) (f : M (List D)) : TI := Den rI c W f
theorem Goes.mono {K : PySem.W.Frag} {G G' : Hp} {J : It} {ds : List D} (s : Same G G') (g : Goes K G J ds) : Goes K G' J ds :=
  ⟨fun i H h => g.go i H (s.trans h), fun H h => g.stop H (s.trans h), fun i H x H' h y l G1 h1 => g.yld i H x H' (s.trans h) y l G1 (s.trans h1)⟩
theorem goes_list {K : PySem.W.Frag} {G : Hp} {a : Addr} {l : List D} {vs : List V} (h : SqL K G a vs) (r : Reps K G l vs) : Goes K G (Itl K a) l where
  go := fun i H s hi => by
    obtain ⟨v, hv, _⟩ := r.get (List.getElem?_eq_getElem hi)
    exact ⟨vs, v, s.seq h, hv⟩
  stop := fun H s => ⟨vs, s.seq h, Nat.le_of_eq r.len⟩
  yld := fun i H x H' s y hi G1 s1 s2 n => by
    obtain ⟨e, y⟩ := y
    subst e
    obtain ⟨v, hv, rv⟩ := r.get (List.getElem?_eq_getElem hi)
    have e := y vs (s.seq h)
    rw [hv] at e
    cases e
    exact ⟨G1, _, New.refl s2 n, List.getElem?_eq_getElem hi, Rep.mono s1 rv⟩
theorem goes_tup {K : PySem.W.Frag} {G : Hp} {a : Addr} {l : List D} {vs : List V} (h : SqT K G a vs) (r : Reps K G l vs) : Goes K G (Itt K a) l where
  go := fun i H s hi => by
    obtain ⟨v, hv, _⟩ := r.get (List.getElem?_eq_getElem hi)
    exact ⟨vs, v, sameT s h, hv⟩
  stop := fun H s => ⟨vs, sameT s h, Nat.le_of_eq r.len⟩
  yld := fun i H x H' s y hi G1 s1 s2 n => by
    obtain ⟨e, y⟩ := y
    subst e
    obtain ⟨v, hv, rv⟩ := r.get (List.getElem?_eq_getElem hi)
    have e := y vs (sameT s h)
    rw [hv] at e
    cases e
    exact ⟨G1, _, New.refl s2 n, List.getElem?_eq_getElem hi, Rep.mono s1 rv⟩
theorem rng_len (a b : Int) : (rng a b).length = (b - a).toNat := by unfold rng; rw [List.length_map, List.length_range]
theorem rng_get {a b : Int} {i : Nat} (h : i < (b - a).toNat) : (rng a b)[i]? = some (.int (a + i)) := by
  unfold rng
  rw [List.getElem?_map, List.getElem?_range h]
  rfl
theorem goes_rng {K : PySem.W.Frag} {G : Hp} {a b : Int} : Goes K G (Itr a (b - a).toNat) (rng a b) where
  go := fun i H s hi => by rw [rng_len] at hi; exact hi
  stop := fun H s => by rw [rng_len]; exact Nat.le_refl _
  yld := fun i H x H' s y hi G1 s1 s2 n => by
    obtain ⟨e, y⟩ := y
    subst e y
    rw [rng_len] at hi
    exact ⟨G1, _, New.refl s2 n, rng_get hi, rep_int.mpr rfl⟩
section
variable {X : Cx} {B : Bs} {c : Ct B} {W : WX} {a b tg : Expr} {fa fb : M D} {pos : Pos}
theorem i_seq (ha : PE X a (dE c W fa)) (hK : B.K = X.K := by rfl) : PI X tg a (dI c W (itm fa)) := by
  refine ⟨fun pins s σ H R I ⟨G, ρ, g, p⟩ => ?_⟩
  unfold itm bnd at p
  revert p
  cases hf : fa ρ with
  | no => exact False.elim
  | ex x ρ' => exact fun p => (pi_list (tg := tg) ha).run pins s σ H R I ⟨G, ρ, g, by rw [hf]; exact p⟩
  | ok d ρ' =>
    cases d with
    | non => exact False.elim
    | bl b => exact False.elim
    | int b => exact False.elim
    | str b => exact False.elim
    | lst l =>
      intro p
      refine (pi_list (tg := tg) ha).run pins s σ H R I ⟨G, ρ, g, ?_⟩
      rw [hf]
      intro v H1 G1 s1 g1 r
      obtain ⟨a, vs, rfl, h1, h2⟩ := rep_lst.mp r
      rw [← hK]
      exact ⟨a, rfl, ⟨vs, sqL_up g1.gh h1⟩, p _ H1 G1 s1 g1 (goes_list h1 h2)⟩
    | tup l =>
      intro p
      refine (pi_tup (tg := tg) ha).run pins s σ H R I ⟨G, ρ, g, ?_⟩
      rw [hf]
      intro v H1 G1 s1 g1 r
      obtain ⟨a, vs, rfl, h1, h2⟩ := rep_tup.mp r
      rw [← hK]
      exact ⟨a, rfl, ⟨vs, sqT_up g1.gh h1⟩, p _ H1 G1 s1 g1 (goes_tup h1 h2)⟩
theorem piI {e : Expr} {t t' : TI} (h : PI X tg e t) (k : ∀ σ H Q, t' σ H Q → t σ H Q) : PI X tg e t' := ⟨fun pins s σ H Q I w => h.run pins s σ H Q I (k _ _ _ w)⟩
theorem bigI_of {i : Int} (h : bigI i = true) : -(2 ^ 62) ≤ i ∧ i < 2 ^ 62 := of_decide_eq_true h
theorem i_rg1 (hm : X.mg "range" = none) (ha : PE X a (dE c W fa)) {p : Pos} (hg : Gl X "range" := by rfl) (hs : starEach [a] X.env = [(false, eval a X.env)] := by rfl) : PI X tg (.Call (.Name "range" p) [a] [] pos) (dI c W (rg1 fa)) :=
  piI (pi_range1 hg hm (pa_cons ha pa_nil hs) hs) fun σ H R h => by
    refine (den_bnd h).imp fun x H1 ⟨G1, ρ1, d, g1, rx, p1⟩ => ?_
    obtain ⟨z, hz, p3⟩ := post_lft p1
    cases d <;> first | (cases hz; done) | skip
    rename_i j
    simp only [dRng1] at hz
    split at hz
    · rename_i hj
      cases hz
      obtain ⟨h1, h2⟩ := bigI_of hj
      refine ⟨j, by rw [rep_int.mp rx], h1, h2, g1.keep p3 ?_⟩
      have e : j.toNat = (j - 0).toNat := by rw [Int.sub_zero]
      rw [e]
      exact goes_rng
    · cases hz
theorem i_rg2 (hm : X.mg "range" = none) (ha : PE X a (dE c W fa)) (hb : PE X b (dE c W fb)) {p : Pos} (hg : Gl X "range" := by rfl) (hs : starEach [a, b] X.env = [(false, eval a X.env), (false, eval b X.env)] := by rfl) (hs2 : starEach [b] X.env = [(false, eval b X.env)] := by rfl) :
    PI X tg (.Call (.Name "range" p) [a, b] [] pos) (dI c W (rg2 fa fb)) :=
  piI (pi_range2 hg hm (pa_cons ha (pa_cons hb pa_nil hs2) (by rw [hs, hs2])) hs hs2) fun σ H R h => by
    refine (den_bnd h).imp fun x H1 ⟨G1, ρ1, d, g1, rx, p1⟩ => ?_
    refine (post_bnd g1 p1).imp fun y H2 ⟨G2, ρ2, e, s2, g2, ry, p2⟩ => ?_
    obtain ⟨z, hz, p3⟩ := post_lft p2
    cases d <;> cases e <;> first | (cases hz; done) | skip
    simp only [dRng2] at hz
    split at hz
    · rename_i hj
      cases hz
      obtain ⟨k1, k2⟩ := Bool.and_eq_true_iff.mp hj
      obtain ⟨h1, h2⟩ := bigI_of k1
      obtain ⟨h3, h4⟩ := bigI_of k2
      exact ⟨_, _, by rw [rep_int.mp rx, rep_int.mp ry], ⟨h1, h2, h3, h4⟩, g2.keep p3 goes_rng⟩
    · cases hz
end

/-! ### targets -/
def PostU {B : Bs} (c : Ct B) (G : Hp) (r : R Unit) (Q : L2.St → Hp → Prop) : Prop := match r with
  | .ok _ ρ => ∀ σ' H' G', Same G G' → Good c G' H' σ' ρ → Q σ' H'
  | _ => False
theorem PostU.mono {B : Bs} {c : Ct B} {G G' : Hp} {r : R Unit} {Q : L2.St → Hp → Prop} (s : Same G G') (h : PostU c G r Q) : PostU c G' r Q := by
  cases r with
  | ok d ρ => exact fun σ' H1 G1 s1 => h σ' H1 G1 (s.trans s1)
  | ex x ρ => exact h
  | no => exact h
/-- all slots but vs are as they were -/
def Agr (vs : List Nat) (σ σ' : L2.St) : Prop := σ'.length = σ.length ∧ ∀ j, j ∉ vs → σ'[j]? = σ[j]?
theorem Agr.refl {vs : List Nat} {σ : L2.St} : Agr vs σ σ := ⟨rfl, fun _ _ => rfl⟩
theorem Agr.trans {vs ws : List Nat} {σ σ1 σ2 : L2.St} (a : Agr vs σ σ1) (b : Agr ws σ1 σ2) : Agr (vs ++ ws) σ σ2 :=
  ⟨b.1.trans a.1, fun j h => (b.2 j fun z => h (List.mem_append_right _ z)).trans (a.2 j fun z => h (List.mem_append_left _ z))⟩
def dG {B : Bs} (c : Ct B) (vs : List Nat) (g : G) : TG := fun v σ H Q => ∃ G ρ d, Good c G H σ ρ ∧ Rep B.K G d v ∧ PostU c G (g d ρ) fun σ' H' => Agr vs σ σ' → Q σ' H'
def dGs {B : Bs} (c : Ct B) (ws : List Nat) (g : List D → M Unit) : TGs := fun vs σ H Q => ∃ G ρ ds, Good c G H σ ρ ∧ Reps B.K G ds vs ∧ PostU c G (g ds ρ) fun σ' H' => Agr ws σ σ' → Q σ' H'
section
variable {X : Cx} {B : Bs} {c : Ct B} {W : WX} {pos : Pos}
theorem g_name (i : Nat) {x : Str} (hN : X.N.Nodup) (hi : X.N[i]? = some x := by rfl) (hx : Loc X.env.scope x := by first | exact Or.inl rfl | exact Or.inr rfl) (hf : X.fn x = true ∨ X.env.scope.names.lookup x = some .local := by first | exact .inl rfl | exact .inr rfl | assumption) : PG X (.Name x pos) (dG c [i] (gN i)) := by
  refine ⟨fun pins s σ H v u Q I r ⟨G, ρ, d, g, rd, p⟩ => ?_⟩
  refine (pg_name hN hi hx hf).run pins s σ H v u Q I r ?_
  have hl : i < σ.length := by rw [I.len]; exact (List.getElem?_eq_some_iff.mp hi).1
  refine p _ H G (Same.refl _) (g.set rd hl) ⟨List.length_set, fun j hj => List.getElem?_set_ne fun e => hj ?_⟩
  rw [e]
  exact List.mem_singleton_self j
theorem gs_nil : PGs X [] (dGs c [] gNil) := by
  refine ⟨fun pins s σ H vs us Q I r ⟨G, ρ, ds, g, rd, p⟩ => ?_⟩
  refine pgs_nil.run pins s σ H vs us Q I r ?_
  cases ds with
  | nil => exact ⟨reps_nil.mp rd, p σ H G (Same.refl _) g Agr.refl⟩
  | cons d l => exact False.elim p
theorem gs_cons {e : Expr} {es : List Expr} {v1 v2 : List Nat} {g : G} {gr : List D → M Unit} (h1 : PG X e (dG c v1 g)) (h2 : PGs X es (dGs c v2 gr)) (hs : (assignEach (e :: es) X.env).map (·.2) = assign e X.env :: (assignEach es X.env).map (·.2) := by rfl) : PGs X (e :: es) (dGs c (v1 ++ v2) (gCons g gr)) := by
  refine ⟨fun pins s σ H vs us Q I r ⟨G, ρ, ds, gd, rd, p⟩ => ?_⟩
  refine (pgs_cons h1 h2 hs).run pins s σ H vs us Q I r ?_
  cases ds with
  | nil => exact False.elim p
  | cons d l =>
    obtain ⟨v, q, rfl, r1, r2⟩ := reps_cons.mp rd
    refine ⟨v, q, rfl, G, ρ, d, gd, r1, ?_⟩
    replace p : PostU c G (bnd (g d) (fun _ => gr l) ρ) _ := p
    unfold bnd at p
    revert p
    cases g d ρ with
    | no => exact False.elim
    | ex x ρ' => exact False.elim
    | ok z ρ' =>
      intro p σ' H' G' s' g' a
      refine ⟨G', ρ', l, g', Reps.mono s' r2, ?_⟩
      have p' : PostU c G' (gr l ρ') _ := PostU.mono s' p
      revert p'
      cases gr l ρ' with
      | no => exact False.elim
      | ex x ρ' => exact False.elim
      | ok z ρ' => exact fun p' σ2 H2 G2 s2 g2 a2 => p' σ2 H2 G2 s2 g2 (a.trans a2)
theorem g_tup {es : List Expr} {k n : Nat} {ws : List Nat} {gr : List D → M Unit} (hc : X.calm = true) (h : PGs X es (dGs c ws gr)) (hn : (assignEach es X.env).length = n := by rfl) (hst : (assignEach es X.env).findIdx? (·.1) = none := by rfl) (hK : B.K = X.K := by rfl) : PG X (.Tuple es k pos) (dG c ws (gT n gr)) := by
  refine ⟨fun pins s σ H v u Q I r ⟨G, ρ, d, gd, rd, p⟩ => ?_⟩
  refine (pg_tup hc h hn hst).run pins s σ H v u Q I r ?_
  cases d <;> first | exact False.elim p | skip
  rename_i l
  obtain ⟨a, vs, rfl, h1, h2⟩ := rep_tup.mp rd
  simp only [gT] at p
  split at p
  · rename_i hl
    rw [hK] at h1
    exact ⟨a, vs, rfl, sqT_up gd.gh h1, by rw [h2.len]; exact hl, G, ρ, l, gd, h2, p⟩
  · exact False.elim p
end

/-! ### statements -/
def PostS {B : Bs} (c : Ct B) (W : WX) (G : Hp) (r : R Fl) (E : Ends) : Prop := match r with
  | .ok .nx ρ => ∀ σ' H' G', Same G G' → Good c G' H' σ' ρ → E.nx σ' H'
  | .ok .bk ρ => ∀ σ' H' G', Same G G' → Good c G' H' σ' ρ → E.bk σ' H'
  | .ok .ct ρ => ∀ σ' H' G', Same G G' → Good c G' H' σ' ρ → E.ct σ' H'
  | .ok (.rt d) ρ => ∀ σ' H' G' v, Same G G' → Good c G' H' σ' ρ → Rep B.K G' d v → E.rt v H'
  | .ex x ρ => ∀ σ' cls dd H' G', Same G G' → Good c G' H' σ' ρ → ExRep B G' H' x cls dd → W cls dd σ' H'
  | .no => False
def dS {B : Bs} (c : Ct B) (W : WX) (f : S) : TS := fun E σ H => ∃ G ρ, Good c G H σ ρ ∧ PostS c W G (f ρ) E
section
variable {B : Bs} {c : Ct B} {W : WX} {G G' H : Hp} {σ : L2.St} {ρ : Env} {E E' : Ends}
theorem PostS.mono {r : R Fl} (s : Same G G') (h : PostS c W G r E) : PostS c W G' r E := by
  cases r with
  | ok d ρ => cases d with
    | nx => exact fun σ' H1 G1 s1 => h σ' H1 G1 (s.trans s1)
    | bk => exact fun σ' H1 G1 s1 => h σ' H1 G1 (s.trans s1)
    | ct => exact fun σ' H1 G1 s1 => h σ' H1 G1 (s.trans s1)
    | rt d => exact fun σ' H1 G1 v s1 => h σ' H1 G1 v (s.trans s1)
  | ex x ρ => exact fun σ' k dd H1 G1 s1 => h σ' k dd H1 G1 (s.trans s1)
  | no => exact h
/-- other ends -/
theorem PostS.ends {r : R Fl} (h : PostS c W G r E) (h1 : ∀ ρ, r = .ok .nx ρ → ∀ σ' H' G', Same G G' → Good c G' H' σ' ρ → E'.nx σ' H')
    (h2 : ∀ ρ, r = .ok .bk ρ → ∀ σ' H' G', Same G G' → Good c G' H' σ' ρ → E'.bk σ' H') (h3 : ∀ ρ, r = .ok .ct ρ → ∀ σ' H' G', Same G G' → Good c G' H' σ' ρ → E'.ct σ' H') (h4 : E'.rt = E.rt) : PostS c W G r E' := by
  cases r with
  | ok d ρ => cases d with
    | nx => exact h1 ρ rfl
    | bk => exact h2 ρ rfl
    | ct => exact h3 ρ rfl
    | rt d => intro σ' H' G' v s g r; rw [h4]; exact h σ' H' G' v s g r
  | ex x ρ => exact h
  | no => exact h
theorem posts_bnd {α β : Type} {rep : Bs → Hp → α → β → Prop} {f : M α} {k : α → S} (g : Good c G H σ ρ) (p : PostS c W G (bnd f k ρ) E) :
    Den rep c W f σ H (fun v H1 => ∃ G1 ρ1 d, Same G G1 ∧ Good c G1 H1 σ ρ1 ∧ rep B G1 d v ∧ PostS c W G1 (k d ρ1) E) := by
  refine ⟨G, ρ, g, ?_⟩
  unfold bnd at p
  revert p
  cases f ρ with
  | ok d ρ' => exact fun p v H1 G1 s g1 r => ⟨G1, ρ', d, s, g1, r, PostS.mono s p⟩
  | ex x ρ' => exact fun p cls dd H' G' => p σ cls dd H' G'
  | no => exact fun p => p
/-- a statement, then what follows -/
theorem posts_seq {a : S} {b : S} (p : PostS c W G (seq a b ρ) E) : PostS c W G (a ρ) { E with nx := dS c W b E } := by
  unfold seq bnd at p
  revert p
  cases a ρ with
  | no => exact fun p => p
  | ex x ρ' => exact fun p => p
  | ok f ρ' => cases f with
    | nx => exact fun p σ' H' G' s g => ⟨G', ρ', g, PostS.mono s p⟩
    | bk => exact fun p => p
    | ct => exact fun p => p
    | rt d => exact fun p => p
end
section
variable {X : Cx} {B : Bs} {c : Ct B} {W : WX} {st : Stmt} {rest : List Stmt} {fs fr : S} {a tg : Expr} {fa : M D} {ft : M Bool} {pos : Pos}
theorem ss_nil : PSs X [] (dS c W sNx) := pssI pss_nil fun E σ H ⟨G, ρ, g, p⟩ => p σ H G (Same.refl _) g
theorem ss_cons (h1 : PS X st (dS c W fs)) (h2 : PSs X rest (dS c W fr)) : PSs X (st :: rest) (dS c W (seq fs fr)) := pssI (pss_cons h1 h2) fun E σ H ⟨G, ρ, g, p⟩ => ⟨G, ρ, g, posts_seq p⟩
theorem ss_one (h1 : PS X st (dS c W fs)) : PSs X [st] (dS c W fs) := pss_one h1
theorem s_doc {x j pos pos'} : PS X (.Expr (.Constant (.str x) j pos) pos') (dS c W sNx) := psI ps_doc fun E σ H ⟨G, ρ, g, p⟩ => p σ H G (Same.refl _) g
theorem s_brk : PS X (.Break pos) (dS c W brk) := psI ps_break fun E σ H ⟨G, ρ, g, p⟩ => p σ H G (Same.refl _) g
theorem s_cnt : PS X (.Continue pos) (dS c W cnt) := psI ps_continue fun E σ H ⟨G, ρ, g, p⟩ => p σ H G (Same.refl _) g
theorem s_ret (h : PE X a (dE c W fa)) : PS X (.Return (some a) pos) (dS c W (rtn fa)) := psI (ps_ret h) fun E σ H ⟨G, ρ, g, p⟩ =>
  (posts_bnd g p).imp fun v H1 ⟨G1, ρ1, d, s, g1, r, p1⟩ => p1 σ H1 G1 v (Same.refl _) g1 r
theorem s_drp (h : PE X a (dE c W fa)) (hs : swapsWith a none pos.line X.env = pure false := by rfl) : PS X (.Expr a pos) (dS c W (drp fa)) := psI (ps_expr h hs) fun E σ H ⟨G, ρ, g, p⟩ =>
  (posts_bnd g p).imp fun v H1 ⟨G1, ρ1, d, s, g1, r, p1⟩ => p1 σ H1 G1 (Same.refl _) g1
theorem s_if {t : Expr} {x y : List Stmt} {fx fy : S} (ht : PT X t (dT c W ft)) (hx : PSs X x (dS c W fx)) (hy : PSs X y (dS c W fy)) : PS X (.If t x y pos) (dS c W (iff ft fx fy)) := psI (ps_if ht hx hy) fun E σ H ⟨G, ρ, g, p⟩ =>
  (posts_bnd g p).imp fun v H1 ⟨G1, ρ1, d, s, g1, r, p1⟩ => by
    have e : d = v := r
    subst e
    cases d with
    | true => rw [if_pos rfl]; exact ⟨G1, ρ1, g1, p1⟩
    | false => rw [if_neg Bool.false_ne_true]; exact ⟨G1, ρ1, g1, p1⟩
/-- PostS of a store -/
theorem posts_u {G : Hp} {E : Ends} {f : M Unit} {k : S} {ρ : Env} (p : PostS c W G (bnd f (fun _ => k) ρ) E) (hx : ∀ x ρ', f ρ ≠ .ex x ρ') : PostU c G (f ρ) fun σ' H' => dS c W k E σ' H' := by
  unfold bnd at p
  revert p
  cases hf : f ρ with
  | no => exact fun p => p
  | ex x ρ' => exact absurd hf (hx x ρ')
  | ok u ρ' => exact fun p σ' H' G' s g => ⟨G', ρ', g, PostS.mono s p⟩
/-- a store raises nothing -/
def NoX (g : G) : Prop := ∀ d ρ x ρ', g d ρ ≠ .ex x ρ'
def NoXs (g : List D → M Unit) : Prop := ∀ d ρ x ρ', g d ρ ≠ .ex x ρ'
theorem nx_name {i : Nat} : NoX (gN i) := fun _ _ _ _ h => by cases h
theorem nx_nil : NoXs gNil := fun d _ _ _ h => by cases d <;> cases h
theorem nx_cons {g : G} {r : List D → M Unit} (h1 : NoX g) (h2 : NoXs r) : NoXs (gCons g r) := fun d ρ x ρ' h => by
  cases d with
  | nil => cases h
  | cons d l =>
    replace h : bnd (g d) (fun _ => r l) ρ = .ex x ρ' := h
    unfold bnd at h
    cases hg : g d ρ with
    | no => rw [hg] at h; cases h
    | ex y ρ'' => exact h1 _ _ _ _ hg
    | ok u ρ'' => rw [hg] at h; exact h2 _ _ _ _ h
theorem nx_tup {n : Nat} {r : List D → M Unit} (h : NoXs r) : NoX (gT n r) := fun d ρ x ρ' e => by
  cases d <;> first | (cases e; done) | skip
  simp only [gT] at e
  split at e
  · exact h _ _ _ _ e
  · cases e
theorem s_asg {g : G} {ws : List Nat} (h : PE X a (dE c W fa)) (hg : PG X tg (dG c ws g)) (nx : NoX g) (hs : swapsWithSole [tg] a pos.line X.env = pure false := by rfl) (hw : swappedStores [tg] a X.env = pure none := by rfl)
    (h1 : (assignEach [tg] X.env).map (·.2) = [assign tg X.env] := by rfl) : PS X (.Assign [tg] a pos) (dS c W (asg fa g)) := psI (ps_asg h hg hs hw h1) fun E σ H ⟨G, ρ, gd, p⟩ =>
  (posts_bnd gd p).imp fun v H1 ⟨G1, ρ1, d, s, g1, r, p1⟩ => by
    refine ⟨G1, ρ1, d, g1, r, ?_⟩
    have q := posts_u p1 (nx d ρ1)
    revert q
    cases g d ρ1 with
    | no => exact fun q => q
    | ex x ρ' => exact fun q => q
    | ok u ρ' =>
      intro q σ' H' G' s' g' _
      obtain ⟨G2, ρ2, g2, p2⟩ := q σ' H' G' s' g'
      exact p2 σ' H' G2 (Same.refl _) g2
/-- x = e -/
theorem s_set (i : Nat) {x : Str} {pos' : Pos} (hN : X.N.Nodup) (h : PE X a (dE c W fa)) (hi : X.N[i]? = some x := by rfl) (hx : Loc X.env.scope x := by first | exact Or.inl rfl | exact Or.inr rfl) (hs : swapsWith a (some (.Name x pos')) pos.line X.env = pure false := by rfl)
    (hf : X.fn x = true ∨ X.env.scope.names.lookup x = some .local := by first | exact .inl rfl | exact .inr rfl | assumption) : PS X (.Assign [.Name x pos'] a pos) (dS c W (asg fa (gN i))) := by
  refine ⟨fun pins s σ H E I ⟨G, ρ, gd, p⟩ => ?_⟩
  have hl : i < σ.length := by rw [I.len]; exact (List.getElem?_eq_some_iff.mp hi).1
  refine (ps_set hN hi hx h hs hf).run pins s σ H E I ((posts_bnd gd p).imp fun v H1 ⟨G1, ρ1, d, s, g1, r, p1⟩ => ?_)
  exact p1 _ H1 G1 (Same.refl _) (g1.set r hl)

/-! for -/
theorem s_for {it : Expr} {body : List Stmt} {fi : M (List D)} {g : G} {fb : S} (hp : PassesOwn (model X.prog X.w) X.A X.env X.xe) (hc : X.calm = true) (hi : PI X tg it (dI c W fi)) {ws : List Nat} (hg : PG X tg (dG c ws g)) (nx : NoX g) (hb : PSs X body (dS c W fb))
    (hs : ∀ x, foldedSetIterable it X.env x = pure x := by intro _; rfl) : PS X (.For tg it body [] pos) (dS c W (forS fi g fb)) := psI (ps_for hp hc hi hg hb hs) fun E σ H ⟨G, ρ, gd, p⟩ => by
  refine (posts_bnd gd p).imp fun J H1 ⟨G1, ρ1, ds, s1, g1, go, p1⟩ => ?_
  refine ⟨fun i m σ H => i ≤ ds.length ∧ m = ds.length - i ∧ ∃ G' ρ', Same G1 G' ∧ Good c G' H σ ρ' ∧ PostS c W G' (forL (fun x => bnd (g x) fun _ => fb) (ds.drop i) ρ') E,
    ⟨_, Nat.zero_le _, rfl, G1, ρ1, Same.refl _, g1, p1⟩, fun i m σ H ⟨hi, hm, G2, ρ2, s2, g2, p2⟩ => ?_⟩
  by_cases hlt : i < ds.length
  · refine .inr ⟨go.go i H (s2.trans g2.gh) hlt, fun σ' H' => ∃ G' ρ', Same G1 G' ∧ Good c G' H' σ' ρ' ∧ PostS c W G' (forL (fun x => bnd (g x) fun _ => fb) (ds.drop (i + 1)) ρ') E,
      fun σ' H' ⟨G', ρ', a, b, d⟩ => ⟨ds.length - (i + 1), by omega, by omega, rfl, G', ρ', a, b, d⟩, fun x H' hy => ?_⟩
    obtain ⟨G3, d, n3, hd, rd⟩ := go.yld i H x H' (s2.trans g2.gh) hy hlt G2 s2 g2.gh g2.nt
    have e : ds.drop i = d :: ds.drop (i + 1) := by
      rw [List.drop_eq_getElem_cons hlt]
      rw [List.getElem?_eq_getElem hlt] at hd
      rw [Option.some.inj hd]
    rw [e] at p2
    have g3 := g2.ext n3
    have p3 := PostS.mono n3.gg p2
    refine ⟨G3, ρ2, d, g3, rd, ?_⟩
    unfold forL at p3
    revert p3
    show PostS c W G3 (bnd (bnd (g d) fun _ => fb) _ ρ2) E → _
    unfold bnd
    cases hgd : g d ρ2 with
    | no => exact False.elim
    | ex y ρ' => exact absurd hgd (nx _ _ _ _)
    | ok u ρ3 =>
      intro p3 σ' H4 G4 s4 g4 _
      refine ⟨G4, ρ3, g4, ?_⟩
      have s14 : Same G1 G4 := s2.trans (n3.gg.trans s4)
      revert p3
      show PostS c W G3 (bnd fb _ ρ3) E → _
      unfold bnd
      cases hfb : fb ρ3 with
      | no => exact False.elim
      | ex y ρ' => exact fun p3 => PostS.mono s4 p3
      | ok r ρ4 => cases r with
        | nx => exact fun p3 σ5 H5 G5 s5 g5 => ⟨G5, ρ4, s14.trans s5, g5, PostS.mono (s4.trans s5) p3⟩
        | ct => exact fun p3 σ5 H5 G5 s5 g5 => ⟨G5, ρ4, s14.trans s5, g5, PostS.mono (s4.trans s5) p3⟩
        | bk => exact fun p3 σ5 H5 G5 s5 g5 => (PostS.mono (s4.trans s5) p3 : PostS c W G5 (.ok .nx ρ4) E) σ5 H5 G5 (Same.refl _) g5
        | rt d => exact fun p3 => PostS.mono s4 p3
  · have e : i = ds.length := by omega
    subst e
    rw [List.drop_length] at p2
    exact .inl ⟨go.stop H (s2.trans g2.gh), p2 σ H G2 (Same.refl _) g2⟩
/-! while -/
theorem s_while {t : Expr} {body : List Stmt} {fb : S} (hp : PassesOwn (model X.prog X.w) X.A X.env X.xe) (ht : PT X t (dT c W ft)) (hb : PSs X body (dS c W fb)) : PS X (.While t body [] pos) (dS c W (whl ft fb)) := psI (ps_while hp ht hb) fun E σ H ⟨G, ρ, gd, p⟩ => by
  refine ⟨fun m σ H => ∃ G' ρ', Good c G' H σ ρ' ∧ PostS c W G' (whlN ft fb m ρ') E, ⟨_, G, ρ, gd, p⟩, fun m σ H ⟨G2, ρ2, g2, p2⟩ => ?_⟩
  cases m with
  | zero => exact False.elim p2
  | succ m =>
    refine (posts_bnd g2 p2).imp fun v H1 ⟨G3, ρ3, k, s3, g3, r, p3⟩ => ?_
    have e : k = v := r
    subst e
    cases k with
    | false =>
      rw [if_neg Bool.false_ne_true]
      exact p3 σ H1 G3 (Same.refl _) g3
    | true =>
      rw [if_pos rfl]
      refine ⟨fun σ' H' => ∃ G' ρ', Good c G' H' σ' ρ' ∧ PostS c W G' (whlN ft fb m ρ') E, fun σ' H' h => ⟨m, Nat.lt_succ_self _, h⟩, G3, ρ3, g3, ?_⟩
      rw [if_pos rfl] at p3
      revert p3
      show PostS c W G3 (bnd fb _ ρ3) E → _
      unfold bnd
      cases hfb : fb ρ3 with
      | no => exact False.elim
      | ex y ρ' => exact fun p3 => p3
      | ok r ρ4 => cases r with
        | nx => exact fun p3 σ5 H5 G5 s5 g5 => ⟨G5, ρ4, g5, PostS.mono s5 p3⟩
        | ct => exact fun p3 σ5 H5 G5 s5 g5 => ⟨G5, ρ4, g5, PostS.mono s5 p3⟩
        | bk => exact fun p3 σ5 H5 G5 s5 g5 => (PostS.mono s5 p3 : PostS c W G5 (.ok .nx ρ4) E) σ5 H5 G5 (Same.refl _) g5
        | rt d => exact fun p3 => p3
end
end Fe
set_option Elab.async false
set_option linter.all false
set_option maxRecDepth 100000
set_option maxHeartbeats 1000000
/-! List comprehensions. -/
namespace Fe
open PySem PySem.Spec PyProof.Rows L2

theorem wipe_get {σ : L2.St} {j : Nat} : ∀ {vs : List Nat}, (L2.wipe σ vs)[j]? = if j ∈ vs then (σ[j]?).map (fun _ => none) else σ[j]?
  | [] => by simp [L2.wipe]
  | v :: vs => by
    show ((L2.wipe σ vs).set v none)[j]? = _
    by_cases h : v = j
    · subst h
      rw [if_pos List.mem_cons_self]
      by_cases hl : v < (L2.wipe σ vs).length
      · rw [List.getElem?_set_self hl]
        rw [wipe_length] at hl
        rw [List.getElem?_eq_getElem hl]
        rfl
      · rw [List.getElem?_eq_none (by simpa using hl)]
        rw [wipe_length] at hl
        rw [List.getElem?_eq_none (by simpa using hl)]
        rfl
    · rw [List.getElem?_set_ne h, wipe_get]
      by_cases hj : j ∈ vs
      · rw [if_pos hj, if_pos (List.mem_cons_of_mem _ hj)]
      · rw [if_neg hj, if_neg (by simp only [List.mem_cons, not_or]; exact ⟨fun e => h e.symm, hj⟩)]
theorem ewipe_len (ρ : Env) : ∀ vs : List Nat, (Fe.wipe ρ vs).length = ρ.length
  | [] => rfl
  | v :: vs => by show ((Fe.wipe ρ vs).set v none).length = _; rw [List.length_set, ewipe_len ρ vs]
theorem ewipe_get {ρ : Env} {j : Nat} : ∀ {vs : List Nat}, get (Fe.wipe ρ vs) j = if j ∈ vs then none else get ρ j
  | [] => by simp [Fe.wipe]
  | v :: vs => by
    show get ((Fe.wipe ρ vs).set v none) j = _
    rw [get_set, ewipe_get]
    by_cases h : v = j
    · subst h
      rw [if_pos rfl, if_pos List.mem_cons_self]
      split <;> rfl
    · rw [if_neg h]
      by_cases hj : j ∈ vs
      · rw [if_pos hj, if_pos (List.mem_cons_of_mem _ hj)]
      · rw [if_neg hj, if_neg (by simp only [List.mem_cons, not_or]; exact ⟨fun e => h e.symm, hj⟩)]
theorem back_len (ρ0 ρ : Env) : ∀ vs : List Nat, (back ρ0 vs ρ).length = ρ.length
  | [] => rfl
  | v :: vs => by show ((back ρ0 vs ρ).set v _).length = _; rw [List.length_set, back_len ρ0 ρ vs]
theorem back_get {ρ0 ρ : Env} {j : Nat} (hl : ρ0.length = ρ.length) : ∀ {vs : List Nat}, get (back ρ0 vs ρ) j = if j ∈ vs then get ρ0 j else get ρ j
  | [] => by simp [back]
  | v :: vs => by
    show get ((back ρ0 vs ρ).set v _) j = _
    rw [get_set, back_get hl]
    by_cases h : v = j
    · subst h
      rw [if_pos rfl, if_pos List.mem_cons_self, back_len]
      split
      · rfl
      · rename_i q
        unfold get
        rw [List.getElem?_eq_none (by omega)]
        rfl
    · rw [if_neg h]
      by_cases hj : j ∈ vs
      · rw [if_pos hj, if_pos (List.mem_cons_of_mem _ hj)]
      · rw [if_neg hj, if_neg (by simp only [List.mem_cons, not_or]; exact ⟨fun e => h e.symm, hj⟩)]
theorem wipe_agr {vs ws : List Nat} {σ σ' : L2.St} (a : Agr ws σ σ') (h : ∀ i ∈ ws, i ∈ vs) : L2.wipe σ' vs = L2.wipe σ vs := by
  apply List.ext_getElem?
  intro j
  rw [wipe_get, wipe_get]
  by_cases hj : j ∈ vs
  · rw [if_pos hj, if_pos hj]
    by_cases hl : j < σ.length
    · rw [List.getElem?_eq_getElem hl, List.getElem?_eq_getElem (by rw [a.1]; exact hl)]
      rfl
    · have h1 := a.1
      rw [List.getElem?_eq_none (by omega), List.getElem?_eq_none (by omega)]
  · rw [if_neg hj, if_neg hj, a.2 j fun z => hj (h j z)]
theorem wipe_wipe {vs ws : List Nat} {σ : L2.St} (h : ∀ i ∈ ws, i ∈ vs) : L2.wipe (L2.wipe σ ws) vs = L2.wipe σ vs := by
  apply List.ext_getElem?
  intro j
  rw [wipe_get, wipe_get, wipe_get]
  by_cases hj : j ∈ vs
  · rw [if_pos hj, if_pos hj]
    by_cases hw : j ∈ ws
    · rw [if_pos hw]
      cases σ[j]? <;> rfl
    · rw [if_neg hw]
  · rw [if_neg hj, if_neg hj, if_neg fun z => hj (h j z)]
theorem ewipe_ewipe {vs ws : List Nat} {ρ : Env} (h : ∀ i ∈ ws, i ∈ vs) : Fe.wipe (Fe.wipe ρ ws) vs = Fe.wipe ρ vs := by
  have key : ∀ (ρ : Env) (vs : List Nat) (j : Nat), (Fe.wipe ρ vs)[j]? = if j ∈ vs then (ρ[j]?).map (fun _ => none) else ρ[j]? := by
    intro ρ vs j
    induction vs with
    | nil => simp [Fe.wipe]
    | cons v vs ih =>
      show ((Fe.wipe ρ vs).set v none)[j]? = _
      by_cases h : v = j
      · subst h
        rw [if_pos List.mem_cons_self]
        by_cases hl : v < (Fe.wipe ρ vs).length
        · rw [List.getElem?_set_self hl]
          rw [ewipe_len] at hl
          rw [List.getElem?_eq_getElem hl]
          rfl
        · rw [List.getElem?_eq_none (by simpa using hl)]
          rw [ewipe_len] at hl
          rw [List.getElem?_eq_none (by simpa using hl)]
          rfl
      · rw [List.getElem?_set_ne h, ih]
        by_cases hj : j ∈ vs
        · rw [if_pos hj, if_pos (List.mem_cons_of_mem _ hj)]
        · rw [if_neg hj, if_neg (by simp only [List.mem_cons, not_or]; exact ⟨fun e => h e.symm, hj⟩)]
  apply List.ext_getElem?
  intro j
  rw [key, key, key]
  by_cases hj : j ∈ vs
  · rw [if_pos hj, if_pos hj]
    by_cases hw : j ∈ ws
    · rw [if_pos hw]
      cases ρ[j]? <;> rfl
    · rw [if_neg hw]
  · rw [if_neg hj, if_neg hj, if_neg fun z => hj (h j z)]

section
variable {B : Bs} {c : Ct B} {G G' H H' : Hp} {σ : L2.St} {ρ ρ' ρ0 : Env} {vs : List Nat} {D0 : Addr} {acc acc' : List V}
theorem Good.wipe (g : Good c G H σ ρ) : Good c G H (L2.wipe σ vs) (Fe.wipe ρ vs) where
  gh := g.gh
  nt := g.nt
  g0 := g.g0
  nf := g.nf
  fr := g.fr
  fh := g.fh
  tb := g.tb
  len := by rw [wipe_length, ewipe_len, g.len]
  sl := fun i x e => by
    rw [ewipe_get] at e
    by_cases hi : i ∈ vs
    · rw [if_pos hi] at e; cases e
    · rw [if_neg hi] at e
      rw [wipe_get, if_neg hi]
      exact g.sl i x e
  sep := fun i j d e v h1 h2 h3 h4 => by
    rw [ewipe_get] at h1 h2
    by_cases hi : i ∈ vs
    · rw [if_pos hi] at h1; cases h1
    · by_cases hj : j ∈ vs
      · rw [if_pos hj] at h2; cases h2
      · rw [if_neg hi] at h1
        rw [if_neg hj] at h2
        rw [wipe_get, if_neg hi] at h3
        rw [wipe_get, if_neg hj] at h4
        exact g.sep i j d e v h1 h2 h3 h4
  fix := fun a d ha h1 => by
    rw [ewipe_get] at h1
    by_cases hi : 0 ∈ vs
    · rw [if_pos hi] at h1; cases h1
    · rw [if_neg hi] at h1
      rw [wipe_get, if_neg hi]
      exact g.fix a d ha h1
/-- behind the block: the block's names hold again what they held -/
theorem Good.back (g : Good c G H (L2.wipe σ vs) (Fe.wipe ρ vs)) {G0 H0 : Hp} (g0 : Good c G0 H0 σ ρ0) (s : Same G0 G) (hp : pur ρ0 vs = true) : Good c G H σ (Fe.back ρ0 vs ρ) := by
  have hlen : ρ0.length = ρ.length := by
    have h1 := g0.len
    have h2 := g.len
    rw [wipe_length, ewipe_len] at h2
    omega
  have np : ∀ i d, i ∈ vs → get ρ0 i ≠ some (.o d) := fun i d hi e => by
    unfold pur at hp
    have := List.all_eq_true.mp hp i hi
    rw [e] at this
    cases this
  exact {
    gh := g.gh
    nt := g.nt
    g0 := g.g0
    nf := g.nf
    fr := g.fr
    fh := g.fh
    tb := g.tb
    len := by rw [back_len, ← hlen, g0.len]
    sl := fun i x e => by
      rw [back_get hlen] at e
      by_cases hi : i ∈ vs
      · rw [if_pos hi] at e
        obtain ⟨v, h1, h2⟩ := g0.sl i x e
        cases x with
        | p d => exact ⟨v, h1, Rep.mono s h2⟩
        | o d => exact absurd e (np i d hi)
      · rw [if_neg hi] at e
        have := g.sl i x (by rw [ewipe_get, if_neg hi]; exact e)
        rw [wipe_get, if_neg hi] at this
        exact this
    sep := fun i j d e v h1 h2 h3 h4 => by
      rw [back_get hlen] at h1 h2
      by_cases hi : i ∈ vs
      · rw [if_pos hi] at h1; exact absurd h1 (np i d hi)
      · by_cases hj : j ∈ vs
        · rw [if_pos hj] at h2; exact absurd h2 (np j e hj)
        · rw [if_neg hi] at h1
          rw [if_neg hj] at h2
          refine g.sep i j d e v (by rw [ewipe_get, if_neg hi]; exact h1) (by rw [ewipe_get, if_neg hj]; exact h2) ?_ ?_
          · rw [wipe_get, if_neg hi]; exact h3
          · rw [wipe_get, if_neg hj]; exact h4
    fix := fun a d ha h1 => by
      rw [back_get hlen] at h1
      by_cases hi : 0 ∈ vs
      · rw [if_pos hi] at h1; exact absurd h1 (np 0 d hi)
      · rw [if_neg hi] at h1
        have := g.fix a d ha (by rw [ewipe_get, if_neg hi]; exact h1)
        rw [wipe_get, if_neg hi] at this
        exact this }
/-- the list that grows stays as it is meanwhile -/
def Ct.at {B : Bs} (c : Ct B) (D : Addr) (acc : List V) : Ct B := { c with F := upd c.F D (.lst acc) }
theorem Good.begin (g : Good c G H σ ρ) (hD : H D0 = none) : Good (c.at D0 []) G (upd H D0 (.lst [])) σ ρ where
  gh := g.gh.trans (same_upd hD)
  nt := g.nt
  g0 := g.g0
  nf := fun a ps e => by
    have e' : upd c.F D0 (.lst []) a = some (.tbl ps) := e
    by_cases h : a = D0
    · subst h; rw [upd_same] at e'; cases e'
    · rw [upd_ne h] at e'; exact g.nf a ps e'
  fr := fun a h => (g.fr a h).imp id fun z => by
    show upd c.F D0 (.lst []) a = none
    rw [upd_ne ?_]
    · exact z
    · intro e
      subst e
      exact h (g.gh.free hD)
  fh := same_upds g.fh
  tb := g.tb.ext (same_upd hD)
  len := g.len
  sl := fun i x e => by
    obtain ⟨v, h1, h2⟩ := g.sl i x e
    refine ⟨v, h1, ?_⟩
    cases x with
    | p d => exact h2
    | o d =>
      obtain ⟨a, l, ws, e1, e2, e3, e4, e5, e6⟩ := h2
      have ne : a ≠ D0 := ne_of_none e3 hD
      refine ⟨a, l, ws, e1, e2, by rw [upd_ne ne]; exact e3, e4, e5, ?_⟩
      show upd c.F D0 (.lst []) a = none
      rw [upd_ne ne]
      exact e6
  sep := g.sep
  fix := g.fix
theorem Good.atD (g : Good (c.at D0 acc) G H σ ρ) : H D0 = some (.lst acc) := g.fh _ _ upd_same
theorem Good.gD (g : Good (c.at D0 acc) G H σ ρ) (h0 : c.G0 D0 = none) : G D0 = none := by
  cases q : G D0 with
  | none => rfl
  | some o =>
    rcases g.fr D0 (by rw [q]; simp) with z | z
    · exact absurd h0 z
    · have z' : upd c.F D0 (.lst acc) D0 = none := z
      rw [upd_same] at z'; cases z'
theorem Good.grow (g : Good (c.at D0 acc) G H σ ρ) (h0 : c.G0 D0 = none) (hF : c.F D0 = none) : Good (c.at D0 acc') G (upd H D0 (.lst acc')) σ ρ where
  gh := fun a o e => by
    rw [upd_ne (ne_of_none e (g.gD h0))]
    exact g.gh a o e
  nt := g.nt
  g0 := g.g0
  nf := fun a ps e => by
    have e' : upd c.F D0 (.lst acc') a = some (.tbl ps) := e
    by_cases h : a = D0
    · subst h; rw [upd_same] at e'; cases e'
    · rw [upd_ne h] at e'
      exact g.nf a ps (show upd c.F D0 (.lst acc) a = _ by rw [upd_ne h]; exact e')
  fr := fun a h => (g.fr a h).imp id fun z => by
    have z' : upd c.F D0 (.lst acc) a = none := z
    show upd c.F D0 (.lst acc') a = none
    by_cases ha : a = D0
    · subst ha; rw [upd_same] at z'; cases z'
    · rw [upd_ne ha] at z' ⊢; exact z'
  fh := fun a o e => by
    have e' : upd c.F D0 (.lst acc') a = some o := e
    by_cases ha : a = D0
    · subst ha; rw [upd_same] at e' ⊢; exact e'
    · rw [upd_ne ha] at e' ⊢
      exact g.fh a o (show upd c.F D0 (.lst acc) a = _ by rw [upd_ne ha]; exact e')
  tb := fun p hp => by
    obtain ⟨ps, h1, h2, h3⟩ := g.tb p hp
    refine ⟨ps, ?_, h2, fun pos cv hc => ?_⟩
    · rw [upd_ne (ne_of h1 g.atD (fun z => by cases z))]; exact h1
    · obtain ⟨cc, e1, e2⟩ := h3 pos cv hc
      refine ⟨cc, e1, ?_⟩
      rw [upd_ne (ne_of e2 g.atD (fun z => by unfold LamX.CodeO at z; cases z))]
      exact e2
  len := g.len
  sl := fun i x e => by
    obtain ⟨v, h1, h2⟩ := g.sl i x e
    refine ⟨v, h1, ?_⟩
    cases x with
    | p d => exact h2
    | o d =>
      obtain ⟨a, l, ws, e1, e2, e3, e4, e5, e6⟩ := h2
      have e6' : upd c.F D0 (.lst acc) a = none := e6
      have ne : a ≠ D0 := fun z => by subst z; rw [upd_same] at e6'; cases e6'
      refine ⟨a, l, ws, e1, e2, by rw [upd_ne ne]; exact e3, e4, e5, ?_⟩
      show upd c.F D0 (.lst acc') a = none
      rw [upd_ne ne] at e6' ⊢
      exact e6'
  sep := g.sep
  fix := g.fix
/-- the list is complete: frozen -/
theorem Good.done (g : Good (c.at D0 acc) G H σ ρ) (hF : c.F D0 = none) : Good c (upd G D0 (.lst acc)) H σ ρ where
  gh := fun a o e => by
    by_cases ha : a = D0
    · subst ha; rw [upd_same] at e; rw [← e]; exact g.atD
    · rw [upd_ne ha] at e; exact g.gh a o e
  nt := fun a ps e => by
    by_cases ha : a = D0
    · subst ha; rw [upd_same] at e; cases e
    · rw [upd_ne ha] at e; exact g.nt a ps e
  g0 := fun a o e => by
    by_cases ha : a = D0
    · subst ha
      have h1 := g.gh _ _ (g.g0 _ _ e)
      rw [g.atD] at h1
      rw [upd_same]
      exact h1
    · rw [upd_ne ha]; exact g.g0 a o e
  nf := fun a ps e => g.nf a ps (show upd c.F D0 (.lst acc) a = _ by rw [upd_ne (ne_of_none e hF)]; exact e)
  fr := fun a h => by
    by_cases ha : a = D0
    · subst ha; exact .inr hF
    · rw [upd_ne ha] at h
      exact (g.fr a h).imp id fun z => by
        have z' : upd c.F D0 (.lst acc) a = none := z
        rw [upd_ne ha] at z'; exact z'
  fh := fun a o e => g.fh a o (show upd c.F D0 (.lst acc) a = _ by rw [upd_ne (ne_of_none e hF)]; exact e)
  tb := g.tb
  len := g.len
  sl := fun i x e => by
    have su : Same G (upd G D0 (.lst acc)) := fun a o q => by
      by_cases ha : a = D0
      · subst ha
        have h1 := g.gh _ _ q
        rw [g.atD] at h1
        rw [upd_same]; exact h1
      · rw [upd_ne ha]; exact q
    obtain ⟨v, h1, h2⟩ := g.sl i x e
    refine ⟨v, h1, ?_⟩
    cases x with
    | p d => exact Rep.mono su h2
    | o d =>
      obtain ⟨a, l, ws, e1, e2, e3, e4, e5, e6⟩ := h2
      have e6' : upd c.F D0 (.lst acc) a = none := e6
      have ne : a ≠ D0 := fun z => by subst z; rw [upd_same] at e6'; cases e6'
      refine ⟨a, l, ws, e1, e2, e3, Reps.mono su e4, by rw [upd_ne ne]; exact e5, ?_⟩
      rw [upd_ne ne] at e6'
      exact e6'
  sep := g.sep
  fix := g.fix

/-! ### one turn -/
abbrev W0 : WX := fun _ _ _ _ => False
def aG (B : Bs) (vs : List Nat) (g : Fe.G) : TG := fun v σ H Q => ∃ c : Ct B, dG c vs g v σ H Q
def aT (B : Bs) (f : M Bool) : TT := fun σ H Q => ∃ c : Ct B, dT c W0 f σ H Q
def aE (B : Bs) (f : M D) : TE := fun σ H Q => ∃ c : Ct B, dE c W0 f σ H Q
def aI (B : Bs) (f : M (List D)) : TI := fun σ H Q => ∃ c : Ct B, dI c W0 f σ H Q
theorem bnd_ok {α β : Type} {f : M α} {k : α → M β} {ρ ρ' : Env} {r : β} (h : bnd f k ρ = .ok r ρ') : ∃ a ρ1, f ρ = .ok a ρ1 ∧ k a ρ1 = .ok r ρ' := by
  unfold bnd at h
  cases hf : f ρ with
  | no => rw [hf] at h; cases h
  | ex x ρ1 => rw [hf] at h; cases h
  | ok a ρ1 => rw [hf] at h; exact ⟨a, ρ1, rfl, h⟩
theorem den_ok {α β : Type} {rep : Bs → Hp → α → β → Prop} {W : WX} {f : M α} {d : α} {Q : β → Hp → Prop} (g : Good c G H σ ρ) (hf : f ρ = .ok d ρ') (h : ∀ v H' G', Same G G' → Good c G' H' σ ρ' → rep B G' d v → Q v H') : Den rep c W f σ H Q :=
  ⟨G, ρ, g, by rw [hf]; exact h⟩
/-- the element's part of a turn, behind the target -/
theorem turn_elt {r racc : List D} {ft : M Bool} {fe : M D} {σ2 : L2.St} {Nx : Hp → Prop} (h0 : c.G0 D0 = none) (hF : c.F D0 = none) (ra : Reps B.K G racc acc) (g : Good (c.at D0 acc) G H σ2 ρ)
    (hT : bnd ft (fun k => if k = true then bnd fe fun y => Fe.ret [y] else Fe.ret []) ρ = .ok r ρ') (hl : racc.length + r.length ≤ lim)
    (hN : ∀ G' H' acc', Same G G' → Good (c.at D0 acc') G' H' σ2 ρ' → Reps B.K G' (racc ++ r) acc' → Nx H') :
    aT B ft σ2 H fun b H3 => if b = true then aE B fe σ2 H3 fun y H4 => ∃ acc, H4 D0 = some (.lst acc) ∧ acc.length < sizeLine ∧ Nx (upd H4 D0 (.lst (acc ++ [y]))) else Nx H3 := by
  obtain ⟨k, ρ1, h1, h2⟩ := bnd_ok hT
  refine ⟨c.at D0 acc, den_ok g h1 fun b H3 G3 s3 g3 rb => ?_⟩
  have e : k = b := rb
  subst e
  cases k with
  | false =>
    rw [if_neg Bool.false_ne_true] at h2 ⊢
    cases h2
    exact hN G3 H3 acc s3 g3 (by rw [List.append_nil]; exact Reps.mono s3 ra)
  | true =>
    rw [if_pos rfl] at h2 ⊢
    obtain ⟨y, ρ2, h3, h4⟩ := bnd_ok h2
    cases h4
    refine ⟨c.at D0 acc, den_ok g3 h3 fun v H4 G4 s4 g4 rv => ⟨acc, g4.atD, ?_, ?_⟩⟩
    · rw [ra.len, ← lim_eq]
      simp only [List.length_cons, List.length_nil] at hl
      omega
    · exact hN G4 _ _ (s3.trans s4) (g4.grow h0 hF) (Reps.append (Reps.mono (s3.trans s4) ra) (reps_cons.mpr ⟨_, _, rfl, rv, reps_nil.mpr rfl⟩))
theorem turn_tgt {x : V} {d : D} {ws : List Nat} {g : Fe.G} {k : M (List D)} {r : List D} {R : L2.St → Hp → Prop} (gd : Good (c.at D0 acc) G H σ ρ) (rx : Rep B.K G d x) (nx : NoX g) (hT : bnd (g d) (fun _ => k) ρ = .ok r ρ')
    (hR : ∀ σ' H' G' ρ1, Same G G' → Good (c.at D0 acc) G' H' σ' ρ1 → Agr ws σ σ' → k ρ1 = .ok r ρ' → R σ' H') : aG B ws g x σ H R := by
  obtain ⟨u, ρ1, h1, h2⟩ := bnd_ok hT
  refine ⟨c.at D0 acc, G, ρ, d, gd, rx, ?_⟩
  rw [h1]
  exact fun σ' H' G' s g' a => hR σ' H' G' ρ1 s g' a h2
theorem cmpL_cons {f : D → M (List D)} {x : D} {l : List D} {ρ ρ' : Env} {r : List D} (h : cmpL f (x :: l) ρ = .ok r ρ') : ∃ a b ρ1, f x ρ = .ok a ρ1 ∧ cmpL f l ρ1 = .ok b ρ' ∧ r = a ++ b := by
  obtain ⟨a, ρ1, h1, h2⟩ := bnd_ok (show bnd (f x) (fun a => bnd (cmpL f l) fun b => Fe.ret (a ++ b)) ρ = _ from h)
  obtain ⟨b, ρ2, h3, h4⟩ := bnd_ok h2
  cases h4
  exact ⟨a, b, ρ1, h1, h3, rfl⟩
end

section
variable {X : Cx} {B : Bs} {c : Ct B} {W : WX} {elt tg it tg1 it1 : Expr} {ifs ifs1 : List Expr} {scope : Scope} {own : List (Str × Nat)} {pos : Pos} {fi fi1 : M (List D)} {g g1 : G} {ft ft1 : M Bool} {fe : M D}
theorem ts_nil : PTs X [] (aT B (Fe.ret true)) := ⟨fun pins s σ H Q I ⟨c, G, ρ, g, p⟩ => pts_nil.run pins s σ H Q I (p _ H G (Same.refl _) g rfl)⟩
theorem ts_one {t : Expr} (h : ∀ c : Ct B, PT X t (dT c W0 ft)) : PTs X [t] (aT B ft) := pts_one ⟨fun pins s σ H Q I ⟨c, q⟩ => (h c).run pins s σ H Q I q⟩
theorem pt_any {t : Expr} (h : ∀ c : Ct B, PT X t (dT c W0 ft)) : PT X t (aT B ft) := ⟨fun pins s σ H Q I ⟨c, q⟩ => (h c).run pins s σ H Q I q⟩
theorem pe_any {e : Expr} (h : ∀ c : Ct B, PE X e (dE c W0 fe)) : PE X e (aE B fe) := ⟨fun pins s σ H Q I ⟨c, q⟩ => (h c).run pins s σ H Q I q⟩
theorem pg_any {ws : List Nat} (h : ∀ c : Ct B, PG X tg (dG c ws g)) : PG X tg (aG B ws g) := ⟨fun pins s σ H v u Q I r ⟨c, q⟩ => (h c).run pins s σ H v u Q I r q⟩
theorem pi_any (h : ∀ c : Ct B, PI X tg it (dI c W0 fi)) : PI X tg it (aI B fi) := ⟨fun pins s σ H R I ⟨c, q⟩ => (h c).run pins s σ H R I q⟩
/-- what a comprehension asks of its reading -/
theorem lc_use {vs ws : List Nat} (nx : NoX g) (hw : ∀ i ∈ ws, i ∈ vs) {σ : L2.St} {H : Hp} {Q : VK} (h : Den rX c W (lc vs fi g ft fe) σ H Q) : tLc (dI c W fi) (aG B ws g) (aT B ft) (aE B fe) vs σ H Q := by
  obtain ⟨G, ρ0, gd, p⟩ := h
  unfold lc at p
  by_cases hp : pur ρ0 vs = false
  · rw [if_pos hp] at p; exact False.elim p
  rw [if_neg hp] at p
  have hp' : pur ρ0 vs = true := by simpa using hp
  refine ⟨G, ρ0, gd, ?_⟩
  revert p
  cases fi ρ0 with
  | no => exact fun p => p
  | ex x ρ' => exact fun p => p
  | ok l ρ1 =>
    intro p J H1 G1 s1 g1 go D hD
    dsimp only at p
    cases hL : cmpL (cmpT vs g ft fe) l ρ1 with
    | no => rw [hL] at p; exact False.elim p
    | ex x ρ' => rw [hL] at p; exact False.elim p
    | ok r ρe =>
    rw [hL] at p
    dsimp only at p
    by_cases hlim : r.length ≤ lim
    case neg => rw [if_neg hlim] at p; exact False.elim p
    rw [if_pos hlim] at p
    have h0 : c.G0 D = none := (gd.g0.trans (s1.trans g1.gh)).free hD
    have hF : c.F D = none := g1.fh.free hD
    refine ⟨fun i m H => i ≤ l.length ∧ m = l.length - i ∧ ∃ G' ρ' acc racc r', Same G1 G' ∧ Good (c.at D acc) G' H (L2.wipe σ vs) (Fe.wipe ρ' vs) ∧ Reps B.K G' racc acc ∧ cmpL (cmpT vs g ft fe) (l.drop i) ρ' = .ok r' ρe ∧ racc ++ r' = r,
      ⟨_, Nat.zero_le _, rfl, G1, ρ1, [], [], r, Same.refl _, (g1.begin hD).wipe, reps_nil.mpr rfl, hL, rfl⟩, fun i m H2 ⟨hi, hm, G2, ρ2, acc, racc, r', s2, g2, ra, hc, hr⟩ => ?_⟩
    by_cases hlt : i < l.length
    · refine .inr ⟨go.go i H2 (s2.trans g2.gh) hlt, fun H' => ∃ G' ρ' acc racc r', Same G1 G' ∧ Good (c.at D acc) G' H' (L2.wipe σ vs) (Fe.wipe ρ' vs) ∧ Reps B.K G' racc acc ∧ cmpL (cmpT vs g ft fe) (l.drop (i + 1)) ρ' = .ok r' ρe ∧ racc ++ r' = r,
        fun H' q => ⟨l.length - (i + 1), by omega, by omega, rfl, q⟩, fun x H3 hy => ?_⟩
      obtain ⟨G3, d, n3, hd, rd⟩ := go.yld i H2 x H3 (s2.trans g2.gh) hy hlt G2 s2 g2.gh g2.nt
      have e : l.drop i = d :: l.drop (i + 1) := by
        rw [List.drop_eq_getElem_cons hlt]
        rw [List.getElem?_eq_getElem hlt] at hd
        rw [Option.some.inj hd]
      rw [e] at hc
      obtain ⟨a, b, ρ3, hT, hb, rfl⟩ := cmpL_cons hc
      have g3 := g2.ext n3
      refine turn_tgt g3 rd nx hT fun σ' H4 G4 ρ4 s4 g4 ag hk => ?_
      have ew : L2.wipe σ' vs = L2.wipe σ vs := by
        rw [wipe_agr ag hw, wipe_wipe fun i h => h]
      refine ⟨by rw [ew], turn_elt (racc := racc) h0 hF (Reps.mono (n3.gg.trans s4) ra) g4 hk ?_ fun G5 H5 acc' s5 g5 ra' => ?_⟩
      · rw [← List.length_append]
        have : (racc ++ a).length ≤ r.length := by rw [← hr]; simp only [List.length_append]; omega
        omega
      · have g6 := g5.wipe (vs := vs)
        rw [ew] at g6
        exact ⟨G5, ρ3, acc', racc ++ a, b, s2.trans (n3.gg.trans (s4.trans s5)), g6, ra', hb, by rw [List.append_assoc]; exact hr⟩
    · have e : i = l.length := by omega
      subst e
      rw [List.drop_length] at hc
      cases hc
      rw [List.append_nil] at hr
      subst hr
      have sd : Same G2 (upd G2 D (.lst acc)) := same_upd (g2.gD h0)
      have g3 := (g2.done hF).back gd (s1.trans (s2.trans sd)) hp'
      exact .inl ⟨go.stop H2 (s2.trans g2.gh), p _ H2 _ (s1.trans (s2.trans sd)) g3 ⟨D, racc, acc, rfl, rfl, upd_same, Reps.mono sd ra⟩⟩
/-- [elt for tg in it if ..] -/
theorem e_lc {ws : List Nat} (hc : X.calm = true) (hN : X.N.Nodup) (ok : BlkOk X.N X.env.scope scope own) (hw : ∀ i ∈ ws, i ∈ own.map (·.2)) (nx : NoX g) (hi : PI X tg it (dI c W fi))
    (hg : ∀ (s : Shared) (H : Hp) (C : Addr) (cl : List (Str × Addr)) (fp : List Addr) (c : Ct B), PG (X.blk s H scope (compEnvC scope cl C X.env) fp) tg (dG c ws g))
    (ht : ∀ (s : Shared) (H : Hp) (C : Addr) (cl : List (Str × Addr)) (fp : List Addr), PTs (X.blk s H scope (compEnvC scope cl C X.env) fp) ifs (aT B ft))
    (he : ∀ (s : Shared) (H : Hp) (C : Addr) (cl : List (Str × Addr)) (fp : List Addr) (c : Ct B), PE (X.blk s H scope (compEnvC scope cl C X.env) fp) elt (dE c W0 fe)) (hs : ∀ x, foldedSetIterable it X.env x = pure x := by intro _; rfl) :
    PE X (.ListComp elt [⟨tg, it, ifs, 0⟩] scope pos) (dE c W (lc (own.map (·.2)) fi g ft fe)) :=
  peI (pe_lc hc hN hi ok (fun s H C cl fp => pg_any (hg s H C cl fp)) ht (fun s H C cl fp => pe_any (he s H C cl fp)) hs) fun σ H Q h => lc_use nx hw (Den.chg (fun _ _ _ r => rX_D r) h)
theorem x_lc {ws : List Nat} (hc : X.calm = true) (hN : X.N.Nodup) (ok : BlkOk X.N X.env.scope scope own) (hw : ∀ i ∈ ws, i ∈ own.map (·.2)) (nx : NoX g) (hi : PI X tg it (dI c W fi))
    (hg : ∀ (s : Shared) (H : Hp) (C : Addr) (cl : List (Str × Addr)) (fp : List Addr) (c : Ct B), PG (X.blk s H scope (compEnvC scope cl C X.env) fp) tg (dG c ws g))
    (ht : ∀ (s : Shared) (H : Hp) (C : Addr) (cl : List (Str × Addr)) (fp : List Addr), PTs (X.blk s H scope (compEnvC scope cl C X.env) fp) ifs (aT B ft))
    (he : ∀ (s : Shared) (H : Hp) (C : Addr) (cl : List (Str × Addr)) (fp : List Addr) (c : Ct B), PE (X.blk s H scope (compEnvC scope cl C X.env) fp) elt (dE c W0 fe)) (hs : ∀ x, foldedSetIterable it X.env x = pure x := by intro _; rfl) :
    PE X (.ListComp elt [⟨tg, it, ifs, 0⟩] scope pos) (Den rX c W (lc (own.map (·.2)) fi g ft fe)) :=
  peI (pe_lc hc hN hi ok (fun s H C cl fp => pg_any (hg s H C cl fp)) ht (fun s H C cl fp => pe_any (he s H C cl fp)) hs) fun σ H Q h => lc_use nx hw h
/-- y = [..] on one line, y a local -/
theorem s_lc {ws : List Nat} {i : Nat} {y : Str} {py spos : Pos} (hc : X.calm = true) (hN : X.N.Nodup) (hyl : X.env.scope.names.lookup y = some .local)
    (hsw : swapsWith (.ListComp elt [⟨tg, it, ifs, 0⟩] scope pos) (some (.Name y py)) spos.line X.env = pure true) (ok : BlkOk X.N X.env.scope scope own) (hw : ∀ i ∈ ws, i ∈ own.map (·.2)) (nx : NoX g) (hi : PI X tg it (dI c W fi))
    (hg : ∀ (s : Shared) (H : Hp) (C : Addr) (cl : List (Str × Addr)) (fp : List Addr) (c : Ct B), PG (X.blk s H scope (compEnvC scope cl C X.env) fp) tg (dG c ws g))
    (ht : ∀ (s : Shared) (H : Hp) (C : Addr) (cl : List (Str × Addr)) (fp : List Addr), PTs (X.blk s H scope (compEnvC scope cl C X.env) fp) ifs (aT B ft))
    (he : ∀ (s : Shared) (H : Hp) (C : Addr) (cl : List (Str × Addr)) (fp : List Addr) (c : Ct B), PE (X.blk s H scope (compEnvC scope cl C X.env) fp) elt (dE c W0 fe)) (hy : X.N[i]? = some y := by rfl) (hs : ∀ x, foldedSetIterable it X.env x = pure x := by intro _; rfl) :
    PS X (.Assign [.Name y py] (.ListComp elt [⟨tg, it, ifs, 0⟩] scope pos) spos) (dS c W (asg (lc (own.map (·.2)) fi g ft fe) (gN i))) := by
  refine ⟨fun pins s σ H E I ⟨G, ρ, gd, p⟩ => ?_⟩
  have hl : i < σ.length := by rw [I.len]; exact (List.getElem?_eq_some_iff.mp hy).1
  refine (ps_setLc hc hN hy hyl hsw hi ok (fun s H C cl fp => pg_any (hg s H C cl fp)) ht (fun s H C cl fp => pe_any (he s H C cl fp)) hs).run pins s σ H E I (lc_use nx hw (Den.chg (fun _ _ _ r => rX_D r) ((posts_bnd gd p).imp fun v H1 ⟨G1, ρ1, d, s, g1, r, p1⟩ => ?_)))
  exact p1 _ H1 G1 (Same.refl _) (g1.set r hl)
end
end Fe
set_option Elab.async false
set_option linter.all false
set_option maxRecDepth 100000
set_option maxHeartbeats 1000000
/-! List comprehensions with two clauses. -/
namespace Fe
open PySem PySem.Spec PyProof.Rows L2
section
variable {X : Cx} {B : Bs} {c : Ct B} {W : WX} {elt tg it tg1 it1 : Expr} {ifs ifs1 : List Expr} {scope : Scope} {own : List (Str × Nat)} {pos : Pos} {fi fi1 : M (List D)} {g g1 : G} {ft ft1 : M Bool} {fe : M D}
theorem lc2_use {vs vs1 ws ws1 : List Nat} (nx : NoX g) (nx1 : NoX g1) (hw : ∀ i ∈ ws, i ∈ vs) (hw1 : ∀ i ∈ ws1, i ∈ vs1) (hv : ∀ i ∈ vs1, i ∈ vs) {σ : L2.St} {H : Hp} {Q : VK} (h : Den rX c W (lc2 vs vs1 fi g ft fi1 g1 ft1 fe) σ H Q) :
    tLc2 (dI c W fi) (aG B ws g) (aT B ft) (aI B fi1) (aG B ws1 g1) (aT B ft1) (aE B fe) vs vs1 σ H Q := by
  obtain ⟨G, ρ0, gd, p⟩ := h
  unfold lc2 at p
  by_cases hp : pur ρ0 vs = false
  · rw [if_pos hp] at p; exact False.elim p
  rw [if_neg hp] at p
  have hp' : pur ρ0 vs = true := by simpa using hp
  refine ⟨G, ρ0, gd, ?_⟩
  revert p
  cases fi ρ0 with
  | no => exact fun p => p
  | ex x ρ' => exact fun p => p
  | ok l ρ1 =>
    intro p J H1 G1 s1 gg1 go D hD
    dsimp only at p
    cases hL : cmpL (cmpT2 vs vs1 g ft fi1 g1 ft1 fe) l ρ1 with
    | no => rw [hL] at p; exact False.elim p
    | ex x ρ' => rw [hL] at p; exact False.elim p
    | ok r ρe =>
    rw [hL] at p
    dsimp only at p
    by_cases hlim : r.length ≤ lim
    case neg => rw [if_neg hlim] at p; exact False.elim p
    rw [if_pos hlim] at p
    have h0 : c.G0 D = none := (gd.g0.trans (s1.trans gg1.gh)).free hD
    have hF : c.F D = none := gg1.fh.free hD
    refine ⟨fun i m H => i ≤ l.length ∧ m = l.length - i ∧ ∃ G' ρ' acc racc r', Same G1 G' ∧ Good (c.at D acc) G' H (L2.wipe σ vs) (Fe.wipe ρ' vs) ∧ Reps B.K G' racc acc ∧ cmpL (cmpT2 vs vs1 g ft fi1 g1 ft1 fe) (l.drop i) ρ' = .ok r' ρe ∧ racc ++ r' = r,
      ⟨_, Nat.zero_le _, rfl, G1, ρ1, [], [], r, Same.refl _, (gg1.begin hD).wipe, reps_nil.mpr rfl, hL, rfl⟩, fun i m H2 ⟨hi, hm, G2, ρ2, acc, racc, r', s2, g2, ra, hc, hr⟩ => ?_⟩
    by_cases hlt : i < l.length
    · refine .inr ⟨go.go i H2 (s2.trans g2.gh) hlt, fun H' => ∃ G' ρ' acc racc r', Same G1 G' ∧ Good (c.at D acc) G' H' (L2.wipe σ vs) (Fe.wipe ρ' vs) ∧ Reps B.K G' racc acc ∧ cmpL (cmpT2 vs vs1 g ft fi1 g1 ft1 fe) (l.drop (i + 1)) ρ' = .ok r' ρe ∧ racc ++ r' = r,
        fun H' q => ⟨l.length - (i + 1), by omega, by omega, rfl, q⟩, fun x H3 hy => ?_⟩
      obtain ⟨G3, d, n3, hd, rd⟩ := go.yld i H2 x H3 (s2.trans g2.gh) hy hlt G2 s2 g2.gh g2.nt
      have e : l.drop i = d :: l.drop (i + 1) := by
        rw [List.drop_eq_getElem_cons hlt]
        rw [List.getElem?_eq_getElem hlt] at hd
        rw [Option.some.inj hd]
      rw [e] at hc
      obtain ⟨a, b, ρ3, hT, hb, rfl⟩ := cmpL_cons hc
      have g3 := g2.ext n3
      refine turn_tgt g3 rd nx hT fun σ' H4 G4 ρ4 s4 g4 ag hk => ?_
      have ew : L2.wipe σ' vs = L2.wipe σ vs := by
        rw [wipe_agr ag hw, wipe_wipe fun i h => h]
      refine ⟨by rw [ew], ?_⟩
      obtain ⟨k, ρ5, h1, h2⟩ := bnd_ok hk
      have s14 : Same G1 G4 := s2.trans (n3.gg.trans s4)
      have ra4 : Reps B.K G4 racc acc := Reps.mono (n3.gg.trans s4) ra
      refine ⟨c.at D acc, den_ok g4 h1 fun bb H5 G5 s5 g5 rb => ?_⟩
      have e : k = bb := rb
      subst e
      cases k with
      | false =>
        rw [if_neg Bool.false_ne_true] at h2 ⊢
        cases h2
        have g6 := g5.wipe (vs := vs)
        rw [ew] at g6
        exact ⟨G5, _, acc, racc, b, s14.trans s5, g6, Reps.mono s5 ra4, hb, hr⟩
      | true =>
        rw [if_pos rfl] at h2 ⊢
        obtain ⟨l1, ρ6, h3, h4⟩ := bnd_ok h2
        refine ⟨c.at D acc, den_ok g5 h3 fun J1 H6 G6 s6 g6 go1 => ?_⟩
        refine ⟨fun j k H => j ≤ l1.length ∧ k = l1.length - j ∧ ∃ G' ρ' acc racc1 r1, Same G6 G' ∧ Good (c.at D acc) G' H (L2.wipe σ' vs1) (Fe.wipe ρ' vs1) ∧ Reps B.K G' (racc ++ racc1) acc ∧ cmpL (cmpT vs1 g1 ft1 fe) (l1.drop j) ρ' = .ok r1 ρ3 ∧ racc1 ++ r1 = a,
          ⟨_, Nat.zero_le _, rfl, G6, ρ6, acc, [], a, Same.refl _, g6.wipe, by rw [List.append_nil]; exact Reps.mono (s5.trans s6) ra4, h4, rfl⟩, fun j q H7 ⟨hj, hq, G7, ρ7, acc7, racc1, r1, s7, g7, ra7, hc7, hr7⟩ => ?_⟩
        by_cases hjl : j < l1.length
        · refine .inr ⟨go1.go j H7 (s7.trans g7.gh) hjl, fun H' => ∃ G' ρ' acc racc1 r1, Same G6 G' ∧ Good (c.at D acc) G' H' (L2.wipe σ' vs1) (Fe.wipe ρ' vs1) ∧ Reps B.K G' (racc ++ racc1) acc ∧ cmpL (cmpT vs1 g1 ft1 fe) (l1.drop (j + 1)) ρ' = .ok r1 ρ3 ∧ racc1 ++ r1 = a,
            fun H' q => ⟨l1.length - (j + 1), by omega, by omega, rfl, q⟩, fun x1 H8 hy1 => ?_⟩
          obtain ⟨G8, d1, n8, hd1, rd1⟩ := go1.yld j H7 x1 H8 (s7.trans g7.gh) hy1 hjl G7 s7 g7.gh g7.nt
          have e : l1.drop j = d1 :: l1.drop (j + 1) := by
            rw [List.drop_eq_getElem_cons hjl]
            rw [List.getElem?_eq_getElem hjl] at hd1
            rw [Option.some.inj hd1]
          rw [e] at hc7
          obtain ⟨a1, b1, ρ8, hT1, hb1, rfl⟩ := cmpL_cons hc7
          have g8 := g7.ext n8
          refine turn_tgt g8 rd1 nx1 hT1 fun σ9 H9 G9 ρ9 s9 g9 ag9 hk9 => ?_
          have ew9 : L2.wipe σ9 vs1 = L2.wipe σ' vs1 := by
            rw [wipe_agr ag9 hw1, wipe_wipe fun i h => h]
          refine ⟨by rw [ew9], turn_elt (racc := racc ++ racc1) h0 hF (Reps.mono (n8.gg.trans s9) ra7) g9 hk9 ?_ fun G10 H10 acc' s10 g10 ra' => ?_⟩
          · have : ((racc ++ racc1) ++ a1).length ≤ r.length := by rw [← hr, ← hr7]; simp only [List.length_append]; omega
            rw [← List.length_append]
            omega
          · have g11 := g10.wipe (vs := vs1)
            rw [ew9] at g11
            exact ⟨G10, ρ8, acc', racc1 ++ a1, b1, s7.trans (n8.gg.trans (s9.trans s10)), g11, by rw [← List.append_assoc]; exact ra', hb1, by rw [List.append_assoc]; exact hr7⟩
        · have e : j = l1.length := by omega
          subst e
          rw [List.drop_length] at hc7
          cases hc7
          rw [List.append_nil] at hr7
          subst hr7
          have g12 := g7.wipe (vs := vs)
          rw [wipe_wipe hv, ewipe_ewipe hv, ew] at g12
          exact .inl ⟨go1.stop H7 (s7.trans g7.gh), G7, ρ3, acc7, racc ++ racc1, b, s14.trans (s5.trans (s6.trans s7)), g12, ra7, hb, by rw [List.append_assoc]; exact hr⟩
    · have e : i = l.length := by omega
      subst e
      rw [List.drop_length] at hc
      cases hc
      rw [List.append_nil] at hr
      subst hr
      have sd : Same G2 (upd G2 D (.lst acc)) := same_upd (g2.gD h0)
      have g3 := (g2.done hF).back gd (s1.trans (s2.trans sd)) hp'
      exact .inl ⟨go.stop H2 (s2.trans g2.gh), p _ H2 _ (s1.trans (s2.trans sd)) g3 ⟨D, racc, acc, rfl, rfl, upd_same, Reps.mono sd ra⟩⟩
abbrev AnyB (X : Cx) (scope : Scope) (P : Cx → Prop) : Prop := ∀ (s : Shared) (H : Hp) (C : Addr) (cl : List (Str × Addr)) (fp : List Addr), P (X.blk s H scope (compEnvC scope cl C X.env) fp)
/-- [elt for tg in it if .. for tg1 in it1 if ..] -/
theorem e_lc2 {ws ws1 vs1 : List Nat} (hc : X.calm = true) (hN : X.N.Nodup) (ok : BlkOk X.N X.env.scope scope own) (hw : ∀ i ∈ ws, i ∈ own.map (·.2)) (hw1 : ∀ i ∈ ws1, i ∈ vs1) (hv : ∀ i ∈ vs1, i ∈ own.map (·.2)) (nx : NoX g) (nx1 : NoX g1) (hi : PI X tg it (dI c W fi))
    (hg : AnyB X scope fun X => ∀ c : Ct B, PG X tg (dG c ws g)) (ht : AnyB X scope fun X => PTs X ifs (aT B ft))
    (hi1 : AnyB X scope fun X => ∀ c : Ct B, PI X tg1 it1 (dI c W0 fi1)) (hg1 : AnyB X scope fun X => ∀ c : Ct B, PG X tg1 (dG c ws1 g1)) (ht1 : AnyB X scope fun X => PTs X ifs1 (aT B ft1))
    (he : AnyB X scope fun X => ∀ c : Ct B, PE X elt (dE c W0 fe)) (hs : ∀ x, foldedSetIterable it X.env x = pure x := by intro _; rfl) (hs1 : ∀ env x, foldedSetIterable it1 env x = pure x := by intro _ _; rfl) :
    PE X (.ListComp elt [⟨tg, it, ifs, 0⟩, ⟨tg1, it1, ifs1, 0⟩] scope pos) (dE c W (lc2 (own.map (·.2)) vs1 fi g ft fi1 g1 ft1 fe)) :=
  peI (pe_lc2 hc hN hi ok hv (fun s H C cl fp => pg_any (hg s H C cl fp)) ht (fun s H C cl fp => pi_any (hi1 s H C cl fp)) (fun s H C cl fp => pg_any (hg1 s H C cl fp)) ht1 (fun s H C cl fp => pe_any (he s H C cl fp)) hs hs1) fun σ H Q h => lc2_use nx nx1 hw hw1 hv (Den.chg (fun _ _ _ r => rX_D r) h)
theorem x_lc2 {ws ws1 vs1 : List Nat} (hc : X.calm = true) (hN : X.N.Nodup) (ok : BlkOk X.N X.env.scope scope own) (hw : ∀ i ∈ ws, i ∈ own.map (·.2)) (hw1 : ∀ i ∈ ws1, i ∈ vs1) (hv : ∀ i ∈ vs1, i ∈ own.map (·.2)) (nx : NoX g) (nx1 : NoX g1) (hi : PI X tg it (dI c W fi))
    (hg : AnyB X scope fun X => ∀ c : Ct B, PG X tg (dG c ws g)) (ht : AnyB X scope fun X => PTs X ifs (aT B ft))
    (hi1 : AnyB X scope fun X => ∀ c : Ct B, PI X tg1 it1 (dI c W0 fi1)) (hg1 : AnyB X scope fun X => ∀ c : Ct B, PG X tg1 (dG c ws1 g1)) (ht1 : AnyB X scope fun X => PTs X ifs1 (aT B ft1))
    (he : AnyB X scope fun X => ∀ c : Ct B, PE X elt (dE c W0 fe)) (hs : ∀ x, foldedSetIterable it X.env x = pure x := by intro _; rfl) (hs1 : ∀ env x, foldedSetIterable it1 env x = pure x := by intro _ _; rfl) :
    PE X (.ListComp elt [⟨tg, it, ifs, 0⟩, ⟨tg1, it1, ifs1, 0⟩] scope pos) (Den rX c W (lc2 (own.map (·.2)) vs1 fi g ft fi1 g1 ft1 fe)) :=
  peI (pe_lc2 hc hN hi ok hv (fun s H C cl fp => pg_any (hg s H C cl fp)) ht (fun s H C cl fp => pi_any (hi1 s H C cl fp)) (fun s H C cl fp => pg_any (hg1 s H C cl fp)) ht1 (fun s H C cl fp => pe_any (he s H C cl fp)) hs hs1) fun σ H Q h => lc2_use nx nx1 hw hw1 hv h
theorem s_lc2 {ws ws1 vs1 : List Nat} {i : Nat} {y : Str} {py spos : Pos} (hc : X.calm = true) (hN : X.N.Nodup) (hyl : X.env.scope.names.lookup y = some .local)
    (hsw : swapsWith (.ListComp elt [⟨tg, it, ifs, 0⟩, ⟨tg1, it1, ifs1, 0⟩] scope pos) (some (.Name y py)) spos.line X.env = pure true) (ok : BlkOk X.N X.env.scope scope own) (hw : ∀ i ∈ ws, i ∈ own.map (·.2)) (hw1 : ∀ i ∈ ws1, i ∈ vs1) (hv : ∀ i ∈ vs1, i ∈ own.map (·.2)) (nx : NoX g) (nx1 : NoX g1) (hi : PI X tg it (dI c W fi))
    (hg : AnyB X scope fun X => ∀ c : Ct B, PG X tg (dG c ws g)) (ht : AnyB X scope fun X => PTs X ifs (aT B ft))
    (hi1 : AnyB X scope fun X => ∀ c : Ct B, PI X tg1 it1 (dI c W0 fi1)) (hg1 : AnyB X scope fun X => ∀ c : Ct B, PG X tg1 (dG c ws1 g1)) (ht1 : AnyB X scope fun X => PTs X ifs1 (aT B ft1))
    (he : AnyB X scope fun X => ∀ c : Ct B, PE X elt (dE c W0 fe)) (hy : X.N[i]? = some y := by rfl) (hs : ∀ x, foldedSetIterable it X.env x = pure x := by intro _; rfl) (hs1 : ∀ env x, foldedSetIterable it1 env x = pure x := by intro _ _; rfl) :
    PS X (.Assign [.Name y py] (.ListComp elt [⟨tg, it, ifs, 0⟩, ⟨tg1, it1, ifs1, 0⟩] scope pos) spos) (dS c W (asg (lc2 (own.map (·.2)) vs1 fi g ft fi1 g1 ft1 fe) (gN i))) := by
  refine ⟨fun pins s σ H E I ⟨G, ρ, gd, p⟩ => ?_⟩
  have hl : i < σ.length := by rw [I.len]; exact (List.getElem?_eq_some_iff.mp hy).1
  refine (ps_setLc2 hc hN hy hyl hsw hi ok hv (fun s H C cl fp => pg_any (hg s H C cl fp)) ht (fun s H C cl fp => pi_any (hi1 s H C cl fp)) (fun s H C cl fp => pg_any (hg1 s H C cl fp)) ht1 (fun s H C cl fp => pe_any (he s H C cl fp)) hs hs1).run pins s σ H E I (lc2_use nx nx1 hw hw1 hv (Den.chg (fun _ _ _ r => rX_D r) ((posts_bnd gd p).imp fun v H1 ⟨G1, ρ1, d, s, g1, r, p1⟩ => ?_)))
  exact p1 _ H1 G1 (Same.refl _) (g1.set r hl)
end
end Fe
set_option Elab.async false
set_option linter.all false
set_option maxRecDepth 100000
set_option maxHeartbeats 1000000
/-! Calls of defs; defs; lists of one's own. -/
namespace Fe
open PySem PySem.Spec PyProof.Rows L2

/-! ### promises -/
def noT (H : Hp) : Hp := fun b => match H b with
  | some (.tbl _) => none
  | o => o
theorem noT_some {H : Hp} {a : Addr} {o : HO} (e : noT H a = some o) : H a = some o := by
  unfold noT at e
  split at e
  · cases e
  · exact e
theorem noT_nt {H : Hp} : NT (noT H) := fun a ps e => by
  unfold noT at e
  split at e
  · cases e
  · rename_i h; exact h ps e
theorem noT_of {H : Hp} {a : Addr} {o : HO} (e : H a = some o) (n : ∀ ps, o ≠ .tbl ps) : noT H a = some o := by
  unfold noT
  rw [e]
  cases o <;> first | rfl | exact absurd rfl (n _)
theorem noT_same {H : Hp} : Same (noT H) H := fun _ _ e => noT_some e
/-- what a call leaves -/
structure Ret (T : List (Addr × Str)) (G H G' H' : Hp) : Prop where
  gg : Same G G'
  gh : Same G' H'
  nt : NT G'
  fr : ∀ a, G' a ≠ none → G a ≠ none ∨ noT H a = none
  hh : Same (noT H) H'
  tb : LamX.Tabs T H'
def spF (B : Bs) (φ : List D → F) : Sp := fun vs H Q E => ∃ G ds, Same G H ∧ NT G ∧ LamX.Tabs B.T H ∧ Reps B.K G ds vs ∧ match φ ds with
  | .ok d => ∀ v H' G', Ret B.T G H G' H' → Rep B.K G' d v → Q v H'
  | .ex x => ∀ cls dd H' G', Ret B.T G H G' H' → ExRep B G' H' x cls dd → E cls dd H'
  | .no => False
/-- all but tables and what stands at x -/
def butO (H : Hp) (x : Addr) : Hp := fun b => if b = x then none else noT H b
theorem butO_some {H : Hp} {x a : Addr} {o : HO} (e : butO H x a = some o) : a ≠ x ∧ H a = some o := by
  unfold butO at e
  split at e
  · cases e
  · rename_i h; exact ⟨h, noT_some e⟩
structure RetO (T : List (Addr × Str)) (x : Addr) (G H G' H' : Hp) : Prop where
  gg : Same G G'
  gh : Same G' H'
  nt : NT G'
  fr : ∀ a, G' a ≠ none → G a ≠ none ∨ noT H a = none
  hh : Same (butO H x) H'
  tb : LamX.Tabs T H'
def spO (B : Bs) (φ : D → List D → FO) : Sp := fun vs H Q _ => ∃ G l ds a ws us, vs = .ref a :: us ∧ Same G H ∧ NT G ∧ LamX.Tabs B.T H ∧ H a = some (.lst ws) ∧ G a = none ∧ Reps B.K G l ws ∧ Reps B.K G ds us ∧ match φ (.lst l) ds with
  | .ok d o => ∀ v H' G' l' ws', o = .lst l' → RetO B.T a G H G' H' → H' a = some (.lst ws') → G' a = none → Reps B.K G' l' ws' → Rep B.K G' d v → Q v H'
  | .no => False
section
variable {B : Bs} {c : Ct B} {G G' H H' : Hp} {σ : L2.St} {ρ : Env}
theorem Good.call (g : Good c G H σ ρ) (n : Ret B.T G H G' H') : Good c G' H' σ ρ where
  gh := n.gh
  nt := n.nt
  g0 := g.g0.trans n.gg
  nf := g.nf
  fr := fun a h => (n.fr a h).elim (g.fr a) fun z => .inr (by
    cases q : c.F a with
    | none => rfl
    | some o => rw [noT_of (g.fh _ _ q) fun ps e => g.nf a ps (e ▸ q)] at z; cases z)
  fh := fun a o e => n.hh _ _ (noT_of (g.fh _ _ e) fun ps e' => g.nf a ps (e' ▸ e))
  tb := n.tb
  len := g.len
  sl := fun i x e => by
    obtain ⟨v, h1, h2⟩ := g.sl i x e
    refine ⟨v, h1, ?_⟩
    cases x with
    | p d => exact Rep.mono n.gg h2
    | o d =>
      obtain ⟨a, l, vs, e1, e2, e3, e4, e5, e6⟩ := h2
      have e3' : noT H a = some (.lst vs) := noT_of e3 fun ps z => by cases z
      refine ⟨a, l, vs, e1, e2, n.hh _ _ e3', Reps.mono n.gg e4, ?_, e6⟩
      cases q : G' a with
      | none => rfl
      | some o =>
        rcases n.fr a (by rw [q]; simp) with z | z
        · exact absurd e5 z
        · rw [e3'] at z; cases z
  sep := g.sep
  fix := g.fix
theorem own_at {i : Nat} {o : D} {ρ' : Env} (h : own i ρ = .ok o ρ') : get ρ i = some (.o o) ∧ ρ' = ρ := by
  unfold own at h
  split at h
  · rename_i q; cases h; exact ⟨q, rfl⟩
  · cases h
theorem Good.callO (g : Good c G H σ ρ) {i : Nat} {o : D} {a : Addr} {l' : List D} {ws' : List V} (ho : get ρ i = some (.o o)) (ha : σ[i]? = some (some (.ref a))) (n : RetO B.T a G H G' H') (hw : H' a = some (.lst ws')) (hn : G' a = none) (hr : Reps B.K G' l' ws') :
    Good c G' H' σ (ρ.set i (some (.o (.lst l')))) := by
  obtain ⟨v0, q1, a0, l0, ws0, r1, r2, r3, r4, r5, r6⟩ := g.sl i _ ho
  rw [ha] at q1
  cases q1
  cases r2
  have hi : i < ρ.length := by
    rw [← g.len]
    exact (List.getElem?_eq_some_iff.mp ha).1
  have inF : ∀ b o, c.F b = some o → butO H a b = some o := fun b o e => by
    unfold butO
    rw [if_neg (ne_of_none e r6)]
    exact noT_of (g.fh _ _ e) fun ps e' => g.nf b ps (e' ▸ e)
  exact {
    gh := n.gh
    nt := n.nt
    g0 := g.g0.trans n.gg
    nf := g.nf
    fr := fun b h => (n.fr b h).elim (g.fr b) fun z => .inr (by
      cases q : c.F b with
      | none => rfl
      | some o => rw [noT_of (g.fh _ _ q) fun ps e => g.nf b ps (e ▸ q)] at z; cases z)
    fh := fun b o e => n.hh _ _ (inF b o e)
    tb := n.tb
    len := by rw [List.length_set, g.len]
    sl := fun j x e => by
      rw [get_set] at e
      by_cases h : i = j
      · subst h
        rw [if_pos rfl, if_pos hi] at e
        cases e
        exact ⟨_, ha, a, l', ws', rfl, rfl, hw, hr, hn, r6⟩
      · rw [if_neg h] at e
        obtain ⟨v, h1, h2⟩ := g.sl j x e
        refine ⟨v, h1, ?_⟩
        cases x with
        | p d => exact Rep.mono n.gg h2
        | o d =>
          obtain ⟨b, l, vs, e1, e2, e3, e4, e5, e6⟩ := h2
          have ne : b ≠ a := fun z => h (g.sep i j o d (.ref a) ho e ha (by rw [h1, e2, z]))
          have e3' : noT H b = some (.lst vs) := noT_of e3 fun ps z => by cases z
          refine ⟨b, l, vs, e1, e2, n.hh _ _ (by unfold butO; rw [if_neg ne]; exact e3'), Reps.mono n.gg e4, ?_, e6⟩
          cases q : G' b with
          | none => rfl
          | some u =>
            rcases n.fr b (by rw [q]; simp) with z | z
            · exact absurd e5 z
            · rw [e3'] at z; cases z
    sep := fun j k d1 d2 u e1 e2 h1 h2 => by
      rw [get_set] at e1 e2
      have w1 : ∃ d, get ρ j = some (.o d) := by
        by_cases hj : i = j
        · subst hj; exact ⟨o, ho⟩
        · rw [if_neg hj] at e1; exact ⟨d1, e1⟩
      have w2 : ∃ d, get ρ k = some (.o d) := by
        by_cases hk : i = k
        · subst hk; exact ⟨o, ho⟩
        · rw [if_neg hk] at e2; exact ⟨d2, e2⟩
      obtain ⟨d, w1⟩ := w1
      obtain ⟨d', w2⟩ := w2
      exact g.sep j k d d' u w1 w2 h1 h2
    fix := fun b d hb e1 => by
      rw [get_set] at e1
      by_cases hj : i = 0
      · subst hj; exact g.fix b o hb ho
      · rw [if_neg hj] at e1
        exact g.fix b d hb e1 }
end

/-! ### calls -/
/-- a def that stands behind the top, with what it is worth -/
structure Df (P : Program) (w : World) (B : Bs) (mg : Str → Option Value) (base : Heap) (k : Nat) (x : Str) (φ : List D → F) : Prop where
  ex : ∃ f fd ps, FnOk P w B.K mg base (L2.CX P w) k f fd ps (spF B φ) ∧ mg x = some (.ref f) ∧ PySem.W.keepIn B.K (.ref f) = true ∧ Binds B.K fd ps []
structure DfO (P : Program) (w : World) (B : Bs) (mg : Str → Option Value) (base : Heap) (k : Nat) (x : Str) (φ : D → List D → FO) : Prop where
  ex : ∃ f fd ps, FnOk P w B.K mg base (L2.CX P w) k f fd ps (spO B φ) ∧ mg x = some (.ref f) ∧ PySem.W.keepIn B.K (.ref f) = true ∧ Binds B.K fd ps []
/-- .. called with keywords -/
structure DfK (P : Program) (w : World) (B : Bs) (mg : Str → Option Value) (base : Heap) (k : Nat) (x : Str) (n : Nat) (ks : List Str) (φ : List D → F) : Prop where
  ex : ∃ f fd ps, FnOk P w B.K mg base (L2.CX P w) k f fd ps (spF B φ) ∧ mg x = some (.ref f) ∧ PySem.W.keepIn B.K (.ref f) = true ∧ KBinds B.K fd ps ks (fun us ws => if us.length = n ∧ ws.length = ks.length then us ++ ws else []) (fun us ws => if us.length = n ∧ ws.length = ks.length then us ++ ws else [])
section
variable {X : Cx} {B : Bs} {c : Ct B} {W : WX} {e : Expr} {es : List Expr} {fs fk : M (List D)} {p pos : Pos} {x : Str} {k : Nat}
theorem e_call {φ : List D → F} {j : Nat} (D0 : Df X.prog X.w B X.mg X.base j x φ) (hK : B.K = X.K) (hr : Room k X.A) (hj : j ≤ k) (tk : Takes X W) (ha : PA X (e :: es) (dA c W fs)) (hg : Gl X x := by rfl)
    (hdb : (x == ("__debug__" : Str)) = false := by decide) (he : starEach (e :: es) X.env = (false, eval e X.env) :: starEach es X.env := by rfl) (hpl : (backTo pos (starEach es X.env)).any (·.1) = false := by rfl) :
    PE X (.Call (.Name x p) (e :: es) [] pos) (dE c W (cl φ fs)) := by
  obtain ⟨f, fd, ps, F, hm, hk, hb⟩ := D0.ex
  rw [hK] at F hk hb
  refine peI (pe_callS (E := WE W) F (hr.mono hj) hg hm hk hb (fun σ => passAt tk σ) ha hdb he hpl) fun σ H Q h => ?_
  refine (den_bnd h).imp fun vs H1 ⟨G1, ρ1, ds, g1, rs, p1⟩ => ⟨G1, ds, g1.gh, g1.nt, g1.tb, rs, ?_⟩
  revert p1
  cases φ ds with
  | no => exact fun p => p
  | ok d => exact fun p v H' G' n r => p v H' G' n.gg (g1.call n) r
  | ex x => exact fun p cls dd H' G' n r => p cls dd H' G' n.gg (g1.call n) r
theorem e_callK {φ : List D → F} {j n nk : Nat} {ks : List Str} {kws : List Keyword} (D0 : DfK X.prog X.w B X.mg X.base j x n ks φ) (hK : B.K = X.K) (hr : Room k X.A) (hj : j ≤ k) (ha : PA X (e :: es) (dA c W fs)) (hkw : PK X kws (dA c W fk)) (hn : (e :: es).length = n) (hnk : kws.length = nk) (hg : Gl X x := by rfl)
    (hall : (backToKw pos (keywordEach kws X.env)).all (·.1.isSome) = true := by rfl) (hks : (backToKw pos (keywordEach kws X.env)).filterMap (·.1) = ks := by rfl)
    (hk2 : ks.length = nk := by rfl) (hdb : (x == ("__debug__" : Str)) = false := by decide) (he : starEach (e :: es) X.env = (false, eval e X.env) :: starEach es X.env := by rfl)
    (hpl : ((backTo pos (starEach (e :: es) X.env)).any (·.1) || (backToKw pos (keywordEach kws X.env)).any (·.1.isNone)) = false := by rfl) :
    PE X (.Call (.Name x p) (e :: es) kws pos) (dE c W (clk φ n nk fs fk))  := by
  subst hk2
  show PE X _ (dE c W (clN φ (bnd fs fun l => bnd fk fun m => if l.length = n ∧ m.length = ks.length then Fe.ret (l ++ m) else fun _ => .no)))
  obtain ⟨f, fd, ps, F, hm, hk, hb⟩ := D0.ex
  rw [hK] at F hk hb
  refine peI (pe_callK (E := E0) F (hr.mono hj) hg hm hk hb passL ha hkw hall hks hdb he hpl) fun σ H Q h => ?_
  obtain ⟨G, ρ, g, p⟩ := h
  have assoc : ∀ ρ, clN φ (bnd fs fun l => bnd fk fun m => if l.length = n ∧ m.length = ks.length then Fe.ret (l ++ m) else fun _ => .no) ρ = bnd fs (fun l => clN φ (bnd fk fun m => if l.length = n ∧ m.length = ks.length then Fe.ret (l ++ m) else fun _ => .no)) ρ := by
    intro ρ
    unfold clN bnd
    cases fs ρ <;> rfl
  rw [assoc] at p
  refine (post_bnd g p).imp fun vs H1 ⟨G1, ρ1, ds, s1, g1, rs, p1⟩ => ?_
  have assoc2 : clN φ (bnd fk fun m => if ds.length = n ∧ m.length = ks.length then Fe.ret (ds ++ m) else fun _ => .no) ρ1 = bnd fk (fun m => clN φ (if ds.length = n ∧ m.length = ks.length then Fe.ret (ds ++ m) else fun _ => .no)) ρ1 := by
    unfold clN bnd
    cases fk ρ1 <;> rfl
  rw [assoc2] at p1
  refine (post_bnd g1 p1).imp fun ws H2 ⟨G2, ρ2, es', s2, g2, rs2, p2⟩ => ?_
  by_cases hl : ds.length = n ∧ es'.length = ks.length
  · rw [if_pos hl] at p2
    have r1 := Reps.len rs
    have r2 := Reps.len rs2
    have hgl : vs.length = n ∧ ws.length = ks.length := ⟨by rw [r1]; exact hl.1, by rw [r2]; exact hl.2⟩
    show spF B φ (if vs.length = n ∧ ws.length = ks.length then vs ++ ws else []) H2 Q E0
    rw [if_pos hgl]
    refine ⟨G2, ds ++ es', g2.gh, g2.nt, g2.tb, Reps.append (Reps.mono s2 rs) rs2, ?_⟩
    revert p2
    show Post rD c W σ G2 ((match φ (ds ++ es') with | .ok d => Fe.ret d | _ => fun _ => .no) ρ2) Q → _
    cases φ (ds ++ es') with
    | no => exact fun p => p
    | ok d => exact fun p v H' G' n r => p v H' G' n.gg (g2.call n) r
    | ex x => exact fun p => False.elim p
  · rw [if_neg hl] at p2
    exact False.elim p2
theorem k_nil : PK X [] (dA c W nilA) := ⟨fun pos pins s σ H Q I ⟨G, ρ, g, p⟩ => pk_nil.run pos pins s σ H Q I (p [] H G (Same.refl _) g (reps_nil.mpr rfl))⟩
theorem k_cons {nm : Option Str} {kpos : Pos} {kws : List Keyword} {fa : M D} (ha : PE X e (dE c W fa)) (hr : PK X kws (dA c W fk)) : PK X (⟨nm, e, kpos⟩ :: kws) (dA c W (consA fa fk)) :=
  ⟨fun pos pins s σ H Q I h => (pk_cons ha hr).run pos pins s σ H Q I (by
    refine (den_bnd h).imp fun x H1 ⟨G1, ρ1, d, g1, rx, p1⟩ => ?_
    refine (post_bnd g1 p1).imp fun y H2 ⟨G2, ρ2, e, s2, g2, ry, p2⟩ => ?_
    exact g2.keep p2 (reps_cons.mpr ⟨_, _, rfl, Rep.mono s2 rx, ry⟩))⟩
/-- a call whose first argument is a list of one's own, at slot i -/
theorem e_clo {φ : D → List D → FO} {j : Nat} (i : Nat) {y : Str} {yp : Pos} (D0 : DfO X.prog X.w B X.mg X.base j x φ) (hK : B.K = X.K) (hr : Room k X.A) (hj : j ≤ k) (ha : PA X es (dA c W fs)) (hi : X.N[i]? = some y := by rfl)
    (hv : Vis X.env.scope y := by first | exact Or.inl rfl | exact Or.inr (Or.inl rfl) | exact Or.inr (Or.inr rfl)) (hg : Gl X x := by rfl) (hyd : (y == ("__debug__" : Str)) = false := by decide) (hyc : (y == ("__classdict__" : Str)) = false := by decide)
    (hdb : (x == ("__debug__" : Str)) = false := by decide) (he : starEach (.Name y yp :: es) X.env = (false, eval (.Name y yp) X.env) :: starEach es X.env := by rfl) (hpl : (backTo pos (starEach es X.env)).any (·.1) = false := by rfl) :
    PE X (.Call (.Name x p) (.Name y yp :: es) [] pos) (dE c W (clo φ i fs)) := by
  obtain ⟨f, fd, ps, F, hm, hk, hb⟩ := D0.ex
  rw [hK] at F hk hb
  refine peI (pe_callS (E := WE (fun _ _ _ _ => False)) F (hr.mono hj) hg hm hk hb (fun σ => passAt L2.takes0 σ) (pa_cons (pv i hi hv hyd hyc) ha he) hdb he hpl) fun σ H Q h => ?_
  obtain ⟨G, ρ, g, p⟩ := h
  cases ho : own i ρ with
  | no => unfold clo bnd at p; rw [ho] at p; exact False.elim p
  | ex x ρ' => unfold own at ho; split at ho <;> cases ho
  | ok o ρ' =>
    obtain ⟨q1, rfl⟩ := own_at ho
    obtain ⟨v, h1, a, l, ws, e1, e2, e3, e4, e5, e6⟩ := g.sl i _ q1
    subst e2
    have p' : Post rD c W σ G (bnd fs (fun m => bnd (own i) fun o => match φ o m with
      | .ok d o' => bnd (sto i o') fun _ => Fe.ret d
      | .no => fun _ => .no) ρ') Q := by
      unfold clo at p
      unfold bnd at p
      rw [ho] at p
      exact p
    refine ⟨.ref a, h1, (post_bnd g p').imp fun vs H1 ⟨G1, ρ1, ds, s1, g1, rs, p1⟩ => ?_⟩
    cases ho1 : own i ρ1 with
    | no => unfold bnd at p1; rw [ho1] at p1; exact False.elim p1
    | ex x ρ' => unfold own at ho1; split at ho1 <;> cases ho1
    | ok o1 ρ2 =>
      obtain ⟨q2, rfl⟩ := own_at ho1
      obtain ⟨v1, h2, a1, l1, ws1, f1, f2, f3, f4, f5, f6⟩ := g1.sl i _ q2
      rw [h1] at h2
      cases h2
      cases f2
      have p2 : Post rD c W σ G1 ((match φ o1 ds with
        | .ok d o' => bnd (sto i o') fun _ => Fe.ret d
        | .no => fun _ => .no) ρ2) Q := by
        unfold bnd at p1
        rw [ho1] at p1
        exact p1
      subst f1
      refine ⟨G1, l1, ds, a, ws1, vs, rfl, g1.gh, g1.nt, g1.tb, f3, f5, f4, rs, ?_⟩
      revert p2
      cases φ (.lst l1) ds with
      | no => exact fun p => p
      | ok d o' =>
        intro p v H' G' l' ws' e n hw hn hr r
        subst e
        exact p v H' G' n.gg (g1.callO q2 h1 n hw hn hr) r
end

/-! ### defs -/
theorem start_get {m : Nat} {ds : List D} {i : Nat} {x : C} (h : get (Fe.start m ds) i = some x) : ∃ d, ds[i]? = some d ∧ x = .p d := by
  unfold get Fe.start at h
  by_cases hi : i < ds.length
  · rw [List.getElem?_append_left (by rw [List.length_map]; exact hi), List.getElem?_map, List.getElem?_eq_getElem hi] at h
    cases h
    exact ⟨ds[i], List.getElem?_eq_getElem hi, rfl⟩
  · rw [List.getElem?_append_right (by rw [List.length_map]; omega), List.getElem?_replicate] at h
    split at h <;> cases h
theorem start_at {N : List Str} {vs : List V} {i : Nat} {v : V} (h : vs[i]? = some v) : (L2.start N vs)[i]? = some (some v) := by
  unfold L2.start
  have hi := (List.getElem?_eq_some_iff.mp h).1
  rw [List.getElem?_append_left (by rw [List.length_map]; exact hi), List.getElem?_map, h]
  rfl
abbrev wD (E : XK) : WX := fun cls d _ H => E cls d H
section
variable {P : Program} {w : World} {B : Bs} {mg : Str → Option Value} {base : Heap} {x qual : Str} {st : Stmt} {f : Addr} {fd : FuncData} {N ps : List Str} {k n m : Nat}
theorem sp_len {φb : Fe.S} {vs : List V} {H : Hp} {Q : VK} {E : XK} (h : spF B (run n m φb) vs H Q E) : vs.length = n := by
  obtain ⟨G, ds, _, _, _, rs, h⟩ := h
  rw [rs.len]
  unfold run at h
  by_cases hl : ds.length = n
  · exact hl
  · rw [if_neg hl] at h; exact False.elim h
theorem read_ok {X : Cx} {b : List Stmt} (hNl : N.length = m) (hle : n ≤ m) {body : Fe.S} {vs : List V} {H : Hp} {Q : VK} {E : XK} (sp : spF B (run n m body) vs H Q E) (hb : ∀ c : Ct B, c.fx = none → PSs X b (dS c (wD E) body)) :
    ∃ t, PSs X b t ∧ t { nx := fun _ H' => Q .non H', rt := Q } (L2.start N vs) H := by
  obtain ⟨G, ds, sg, ng, tb, rs, h⟩ := sp
  refine ⟨_, hb ⟨G, noT H, none⟩ rfl, ?_⟩
  unfold run at h
  by_cases hl : ds.length = n
  case neg => rw [if_neg hl] at h; exact False.elim h
  rw [if_pos hl] at h
  have hvl : vs.length = n := by rw [rs.len, hl]
  have gd : Good (⟨G, noT H, none⟩ : Ct B) G H (L2.start N vs) (Fe.start m ds) := {
    gh := sg
    nt := ng
    g0 := Same.refl _
    nf := noT_nt
    fr := fun a h => .inl h
    fh := noT_same
    tb := tb
    len := by
      unfold L2.start Fe.start
      rw [List.length_append, List.length_append, List.length_map, List.length_map, List.length_replicate, List.length_replicate, hNl, hvl, hl]
    sl := fun i y e => by
      obtain ⟨d, h1, rfl⟩ := start_get e
      obtain ⟨v, h2, h3⟩ := rs.get h1
      exact ⟨v, start_at h2, h3⟩
    sep := fun i j d e v h1 _ _ _ => by
      obtain ⟨d', _, z⟩ := start_get h1
      cases z
    fix := fun a d ha => by cases ha }
  have fin : ∀ {σ' : L2.St} {H' G' : Hp} {ρ' : Env}, Good (⟨G, noT H, none⟩ : Ct B) G' H' σ' ρ' → Ret B.T G H G' H' := fun g' => ⟨g'.g0, g'.gh, g'.nt, g'.fr, g'.fh, g'.tb⟩
  refine ⟨G, Fe.start m ds, gd, ?_⟩
  revert h
  cases body (Fe.start m ds) with
  | no => exact fun h => h
  | ex y ρ' => exact fun h σ' cls dd H' G' _ g' r => h cls dd H' G' (fin g') r
  | ok fl ρ' => cases fl with
    | nx => exact fun h σ' H' G' _ g' => h .non H' G' (fin g') (rep_non.mpr rfl)
    | rt d => exact fun h σ' H' G' v _ g' r => h v H' G' (fin g') r
    | bk => exact fun h => False.elim h
    | ct => exact fun h => False.elim h
theorem fn_ok (F0 : Fun B.K x qual st f fd) (S : FnScope N ps (defScope st)) (hps : ps.length = n) (hNl : N.length = m) (hle : n ≤ m) {body : Fe.S}
    (hb : ∀ (cdv : Value) (A : Around) (outer : List PySem.Env) (s : Shared) (H : Hp) (E : XK) (c : Ct B), c.fx = none → Room k (A.deeper (envOfC qual (defScope st) s.heap.objs.size f cdv)) →
      PSs (cxOf (L2.CX P w) P w B.K mg base N qual (defScope st) f cdv A outer s H E) (defBody st) (dS c (wD E) body)) : FnOk P w B.K mg base (L2.CX P w) (k + 1) f fd ps (spF B (run n m body)) :=
  F0.okX S (fun vs H Q E h => by rw [sp_len h, hps]) fun cdv A outer s H vs Q E hr h => read_ok hNl hle h fun c hc => hb cdv A outer s H E c hc hr
/-- .. whose code object is known (it makes lambdas) -/
theorem fn_okL {oc : Value} {od an : Option Addr} {kV doc pm cdv ct : Value} {osl : Array (Option Value)} (lk : B.K.lookup f = some ⟨oc, od, .func (PySem.W.fnOf x qual (defArgs st) (defBody st) (defScope st) .none kV doc pm an cdv ct), osl⟩) (hcd : PySem.W.codeIn B.K cdv qual = true)
    (S : FnScope N ps (defScope st)) (hps : ps.length = n) (hNl : N.length = m) (hle : n ≤ m) {body : Fe.S}
    (hb : ∀ (A : Around) (outer : List PySem.Env) (s : Shared) (H : Hp) (E : XK) (c : Ct B), c.fx = none → Room k (A.deeper (envOfC qual (defScope st) s.heap.objs.size f cdv)) →
      PSs (cxOf (L2.CX P w) P w B.K mg base N qual (defScope st) f cdv A outer s H E) (defBody st) (dS c (wD E) body)) : FnOk P w B.K mg base (L2.CX P w) (k + 1) f (PySem.W.fnOf x qual (defArgs st) (defBody st) (defScope st) .none kV doc pm an cdv ct) ps (spF B (run n m body)) :=
  fn_of lk hcd S (fun vs H Q E h => by rw [sp_len h, hps]) fun A outer s H vs Q E hr h => read_ok hNl hle h fun c hc => hb A outer s H E c hc hr
theorem startO_get {m : Nat} {o : D} {ds : List D} {i : Nat} {y : C} (h : get (startO m o ds) i = some y) : (i = 0 ∧ y = .o o) ∨ ∃ j d, i = j + 1 ∧ ds[j]? = some d ∧ y = .p d := by
  cases i with
  | zero => exact .inl ⟨rfl, (Option.some.inj h).symm⟩
  | succ j =>
    refine .inr ⟨j, ?_⟩
    have h' : get (ds.map (fun d => some (C.p d)) ++ List.replicate (m - ds.length - 1) none) j = some y := h
    unfold get at h'
    by_cases hi : j < ds.length
    · rw [List.getElem?_append_left (by rw [List.length_map]; exact hi), List.getElem?_map, List.getElem?_eq_getElem hi] at h'
      cases h'
      exact ⟨ds[j], rfl, List.getElem?_eq_getElem hi, rfl⟩
    · rw [List.getElem?_append_right (by rw [List.length_map]; omega), List.getElem?_replicate] at h'
      split at h' <;> cases h'
theorem sp_lenO {φb : Fe.S} {vs : List V} {H : Hp} {Q : VK} {E : XK} (h : spO B (runO n m φb) vs H Q E) : vs.length = n := by
  obtain ⟨G, l, ds, a, ws, us, ev, _, _, _, _, _, _, rs, h⟩ := h
  rw [ev, List.length_cons, rs.len]
  unfold runO at h
  by_cases hl : ds.length + 1 = n
  · exact hl
  · rw [if_neg hl] at h; exact False.elim h
theorem read_okO {X : Cx} {b : List Stmt} (hNl : N.length = m) (hle : n ≤ m) {body : Fe.S} {vs : List V} {H : Hp} {Q : VK} {E : XK} (sp : spO B (runO n m body) vs H Q E) (hb : ∀ c : Ct B, PSs X b (dS c (fun _ _ _ _ => False) body)) :
    ∃ t, PSs X b t ∧ t { nx := fun _ H' => Q .non H', rt := Q } (L2.start N vs) H := by
  obtain ⟨G, l, ds, a, ws, us, ev, sg, ng, tb, ha, hna, rl, rs, h⟩ := sp
  refine ⟨_, hb ⟨G, butO H a, some a⟩, ?_⟩
  subst ev
  unfold runO at h
  by_cases hl : ds.length + 1 = n
  case neg => rw [if_neg hl] at h; exact False.elim h
  rw [if_pos hl] at h
  have hvl : us.length = ds.length := rs.len
  have noA : butO H a a = none := if_pos rfl
  have gd : Good (⟨G, butO H a, some a⟩ : Ct B) G H (L2.start N (.ref a :: us)) (startO m (.lst l) ds) := {
    gh := sg
    nt := ng
    g0 := Same.refl _
    nf := fun b ps e => by
      have e' : butO H a b = some (.tbl ps) := e
      unfold butO at e'
      split at e'
      · cases e'
      · exact noT_nt b ps e'
    fr := fun a h => .inl h
    fh := fun b o e => (butO_some e).2
    tb := tb
    len := by
      unfold L2.start startO
      simp only [List.length_append, List.length_cons, List.length_map, List.length_replicate]
      omega
    sl := fun i y e => by
      rcases startO_get e with ⟨rfl, rfl⟩ | ⟨j, d, rfl, h1, rfl⟩
      · exact ⟨.ref a, start_at rfl, a, l, ws, rfl, rfl, ha, rl, hna, noA⟩
      · obtain ⟨v, h2, h3⟩ := rs.get h1
        exact ⟨v, start_at (by simpa using h2), h3⟩
    sep := fun i j d e v h1 h2 _ _ => by
      rcases startO_get h1 with ⟨rfl, _⟩ | ⟨j', d', rfl, _, z⟩
      · rcases startO_get h2 with ⟨rfl, _⟩ | ⟨j', d', rfl, _, z⟩
        · rfl
        · cases z
      · cases z
    fix := fun b d hb _ => by
      cases hb
      exact start_at rfl }
  have fin : ∀ {σ' : L2.St} {H' G' : Hp} {ρ' : Env}, Good (⟨G, butO H a, some a⟩ : Ct B) G' H' σ' ρ' → ∀ o', get ρ' 0 = some (.o o') → ∃ l' ws', o' = .lst l' ∧ RetO B.T a G H G' H' ∧ H' a = some (.lst ws') ∧ G' a = none ∧ Reps B.K G' l' ws' := fun {σ' H' G' ρ'} g' o' ho => by
    obtain ⟨v, h1, a', l', ws', e1, e2, e3, e4, e5, e6⟩ := g'.sl 0 _ ho
    have h2 := g'.fix a o' rfl ho
    rw [h1, e2] at h2
    cases h2
    refine ⟨l', ws', e1, ⟨g'.g0, g'.gh, g'.nt, fun b hb => ?_, g'.fh, g'.tb⟩, e3, e5, e4⟩
    rcases g'.fr b hb with z | z
    · exact .inl z
    · refine .inr ?_
      have z' : butO H a b = none := z
      unfold butO at z'
      split at z'
      · rename_i e; rw [e] at hb; exact absurd e5 hb
      · exact z'
  refine ⟨G, startO m (.lst l) ds, gd, ?_⟩
  revert h
  cases body (startO m (.lst l) ds) with
  | no => exact fun h => h
  | ex y ρ' => exact fun h => False.elim h
  | ok fl ρ' => cases fl with
    | nx =>
      dsimp only
      cases ho : get ρ' 0 with
      | none => exact fun h => False.elim h
      | some y => cases y with
        | p d => exact fun h => False.elim h
        | o o' =>
          intro h σ' H' G' _ g'
          obtain ⟨l', ws', e, n, hw, hn, hr'⟩ := fin g' o' ho
          exact h .non H' G' l' ws' e n hw hn hr' (rep_non.mpr rfl)
    | rt d =>
      dsimp only
      cases ho : get ρ' 0 with
      | none => exact fun h => False.elim h
      | some y => cases y with
        | p d => exact fun h => False.elim h
        | o o' =>
          intro h σ' H' G' v _ g' r
          obtain ⟨l', ws', e, n, hw, hn, hr'⟩ := fin g' o' ho
          exact h v H' G' l' ws' e n hw hn hr' r
    | bk => exact fun h => False.elim h
    | ct => exact fun h => False.elim h
/-- a def whose first argument is a list that it may change -/
theorem fn_okO (F0 : Fun B.K x qual st f fd) (S : FnScope N ps (defScope st)) (hps : ps.length = n) (hNl : N.length = m) (hle : n ≤ m) {body : Fe.S}
    (hb : ∀ (cdv : Value) (A : Around) (outer : List PySem.Env) (s : Shared) (H : Hp) (E : XK) (c : Ct B), Room k (A.deeper (envOfC qual (defScope st) s.heap.objs.size f cdv)) →
      PSs (cxOf (L2.CX P w) P w B.K mg base N qual (defScope st) f cdv A outer s H E) (defBody st) (dS c (fun _ _ _ _ => False) body)) : FnOk P w B.K mg base (L2.CX P w) (k + 1) f fd ps (spO B (runO n m body)) :=
  F0.okX S (fun vs H Q E h => by rw [sp_lenO h, hps]) fun cdv A outer s H vs Q E hr h => read_okO hNl hle h fun c => hb cdv A outer s H E c hr
theorem fn_okOL {oc : Value} {od an : Option Addr} {kV doc pm cdv ct : Value} {osl : Array (Option Value)} (lk : B.K.lookup f = some ⟨oc, od, .func (PySem.W.fnOf x qual (defArgs st) (defBody st) (defScope st) .none kV doc pm an cdv ct), osl⟩) (hcd : PySem.W.codeIn B.K cdv qual = true)
    (S : FnScope N ps (defScope st)) (hps : ps.length = n) (hNl : N.length = m) (hle : n ≤ m) {body : Fe.S}
    (hb : ∀ (A : Around) (outer : List PySem.Env) (s : Shared) (H : Hp) (E : XK) (c : Ct B), Room k (A.deeper (envOfC qual (defScope st) s.heap.objs.size f cdv)) →
      PSs (cxOf (L2.CX P w) P w B.K mg base N qual (defScope st) f cdv A outer s H E) (defBody st) (dS c (fun _ _ _ _ => False) body)) : FnOk P w B.K mg base (L2.CX P w) (k + 1) f (PySem.W.fnOf x qual (defArgs st) (defBody st) (defScope st) .none kV doc pm an cdv ct) ps (spO B (runO n m body)) :=
  fn_of lk hcd S (fun vs H Q E h => by rw [sp_lenO h, hps]) fun A outer s H vs Q E hr h => read_okO hNl hle h fun c => hb A outer s H E c hr
end
end Fe
set_option Elab.async false
set_option linter.all false
set_option maxRecDepth 100000
set_option maxHeartbeats 1000000
/-! Lists of one's own; built-ins; errors. -/
namespace Fe
open PySem PySem.Spec PyProof.Rows L2
section
variable {B : Bs} {c : Ct B} {G G' H H' : Hp} {σ : L2.St} {ρ : Env}
theorem own_rep (g : Good c G H σ ρ) {i : Nat} {o : D} (h : get ρ i = some (.o o)) : ∃ a l ws, o = .lst l ∧ σ[i]? = some (some (.ref a)) ∧ H a = some (.lst ws) ∧ Reps B.K G l ws ∧ G a = none ∧ c.F a = none := by
  obtain ⟨v, h1, a, l, ws, e1, e2, e3, e4, e5, e6⟩ := g.sl i _ h
  subst e2
  exact ⟨a, l, ws, e1, h1, e3, e4, e5, e6⟩
/-- what stands at an own list's address changes -/
theorem Good.wr (g : Good c G H σ ρ) {i : Nat} {o : D} {a : Addr} {l' : List D} {ws ws' : List V} (ho : get ρ i = some (.o o)) (ha : σ[i]? = some (some (.ref a))) (hw : H a = some (.lst ws)) (hr : Reps B.K G l' ws') :
    Good c G (upd H a (.lst ws')) σ (ρ.set i (some (.o (.lst l')))) := by
  obtain ⟨a0, l, ws0, e1, e2, e3, e4, e5, e6⟩ := own_rep g ho
  rw [ha] at e2
  cases e2
  have hi : i < ρ.length := by
    rw [← g.len]
    exact (List.getElem?_eq_some_iff.mp ha).1
  exact {
    gh := fun b o e => by rw [upd_ne (ne_of_none e e5)]; exact g.gh b o e
    nt := g.nt
    g0 := g.g0
    nf := g.nf
    fr := g.fr
    fh := fun b o e => by rw [upd_ne (ne_of_none e e6)]; exact g.fh b o e
    tb := fun p hp => by
      obtain ⟨ps, h1, h2, h3⟩ := g.tb p hp
      refine ⟨ps, ?_, h2, fun pos cv hc => ?_⟩
      · rw [upd_ne (ne_of h1 hw (fun z => by cases z))]; exact h1
      · obtain ⟨cc, q1, q2⟩ := h3 pos cv hc
        refine ⟨cc, q1, ?_⟩
        rw [upd_ne (ne_of q2 hw (fun z => by unfold LamX.CodeO at z; cases z))]
        exact q2
    len := by rw [List.length_set, g.len]
    sl := fun j x e => by
      rw [get_set] at e
      by_cases h : i = j
      · subst h
        rw [if_pos rfl, if_pos hi] at e
        cases e
        exact ⟨_, ha, a, l', ws', rfl, rfl, upd_same, hr, e5, e6⟩
      · rw [if_neg h] at e
        obtain ⟨v, h1, h2⟩ := g.sl j x e
        refine ⟨v, h1, ?_⟩
        cases x with
        | p d => exact h2
        | o d =>
          obtain ⟨b, m, vs, f1, f2, f3, f4, f5, f6⟩ := h2
          have ne : b ≠ a := fun z => h (g.sep i j o d (.ref a) ho e ha (by rw [h1, f2, z]))
          exact ⟨b, m, vs, f1, f2, by rw [upd_ne ne]; exact f3, f4, f5, f6⟩
    sep := fun j k d1 d2 u e1 e2 h1 h2 => by
      rw [get_set] at e1 e2
      have w1 : ∃ d, get ρ j = some (.o d) := by
        by_cases hj : i = j
        · subst hj; exact ⟨o, ho⟩
        · rw [if_neg hj] at e1; exact ⟨d1, e1⟩
      have w2 : ∃ d, get ρ k = some (.o d) := by
        by_cases hk : i = k
        · subst hk; exact ⟨o, ho⟩
        · rw [if_neg hk] at e2; exact ⟨d2, e2⟩
      obtain ⟨d, w1⟩ := w1
      obtain ⟨d', w2⟩ := w2
      exact g.sep j k d d' u w1 w2 h1 h2
    fix := fun b d hb e1 => by
      rw [get_set] at e1
      by_cases hj : i = 0
      · subst hj; exact g.fix b o hb ho
      · rw [if_neg hj] at e1
        exact g.fix b d hb e1 }
/-- a new list of one's own -/
theorem Good.newO (g : Good c G H σ ρ) {i : Nat} {p : Addr} {l : List D} {ws : List V} (hp : H p = none) (hr : Reps B.K G l ws) (hi : i < σ.length) (hf : c.fx = none ∨ i ≠ 0) : Good c G (upd H p (.lst ws)) (σ.set i (some (.ref p))) (ρ.set i (some (.o (.lst l)))) where
  gh := g.gh.trans (same_upd hp)
  nt := g.nt
  g0 := g.g0
  nf := g.nf
  fr := g.fr
  fh := g.fh.trans (same_upd hp)
  tb := g.tb.ext (same_upd hp)
  len := by rw [List.length_set, List.length_set, g.len]
  sl := fun j x e => by
    rw [get_set] at e
    by_cases h : i = j
    · subst h
      rw [if_pos rfl, if_pos (by rw [← g.len]; exact hi)] at e
      cases e
      exact ⟨_, List.getElem?_set_self hi, p, l, ws, rfl, rfl, upd_same, hr, g.gh.free hp, g.fh.free hp⟩
    · rw [if_neg h] at e
      rw [List.getElem?_set_ne h]
      obtain ⟨v, h1, h2⟩ := g.sl j x e
      refine ⟨v, h1, ?_⟩
      cases x with
      | p d => exact h2
      | o d =>
        obtain ⟨b, m, vs, f1, f2, f3, f4, f5, f6⟩ := h2
        exact ⟨b, m, vs, f1, f2, same_upd hp _ _ f3, f4, f5, f6⟩
  sep := fun j k d1 d2 u e1 e2 h1 h2 => by
    have old : ∀ {j d v}, i ≠ j → get (ρ.set i (some (.o (.lst l)))) j = some (.o d) → (σ.set i (some (.ref p)))[j]? = some (some v) → v ≠ .ref p := fun {j d v} hj e h => by
      rw [get_set, if_neg hj] at e
      rw [List.getElem?_set_ne hj] at h
      obtain ⟨a, m, vs, f1, f2, f3, _⟩ := own_rep g e
      rw [f2] at h
      cases h
      intro z
      cases z
      rw [hp] at f3
      cases f3
    by_cases hj : i = j
    · by_cases hk : i = k
      · exact hj.symm.trans hk
      · subst hj
        rw [List.getElem?_set_self hi] at h1
        cases h1
        exact absurd rfl (old hk e2 h2)
    · by_cases hk : i = k
      · subst hk
        rw [List.getElem?_set_self hi] at h2
        cases h2
        exact absurd rfl (old hj e1 h1)
      · rw [get_set, if_neg hj] at e1
        rw [get_set, if_neg hk] at e2
        rw [List.getElem?_set_ne hj] at h1
        rw [List.getElem?_set_ne hk] at h2
        exact g.sep j k d1 d2 u e1 e2 h1 h2
  fix := fun b d hb e1 => by
    have hj : i ≠ 0 := hf.resolve_left fun z => by rw [hb] at z; cases z
    rw [get_set, if_neg hj] at e1
    rw [List.getElem?_set_ne hj]
    exact g.fix b d hb e1
/-- from now on it does not change -/
theorem Good.frz (g : Good c G H σ ρ) {i : Nat} {o : D} (ho : get ρ i = some (.o o)) : ∃ G', Same G G' ∧ Good c G' H σ (ρ.set i (some (.p o))) := by
  obtain ⟨a, l, ws, e1, e2, e3, e4, e5, e6⟩ := own_rep g ho
  subst e1
  have hi : i < ρ.length := by
    rw [← g.len]
    exact (List.getElem?_eq_some_iff.mp e2).1
  have su : Same G (upd G a (.lst ws)) := same_upd e5
  refine ⟨upd G a (.lst ws), su, ?_⟩
  exact {
    gh := fun b o e => by
      by_cases hb : b = a
      · subst hb; rw [upd_same] at e; rw [← e]; exact e3
      · rw [upd_ne hb] at e; exact g.gh b o e
    nt := fun b ps e => by
      by_cases hb : b = a
      · subst hb; rw [upd_same] at e; cases e
      · rw [upd_ne hb] at e; exact g.nt b ps e
    g0 := g.g0.trans su
    nf := g.nf
    fr := fun b h => by
      by_cases hb : b = a
      · subst hb; exact .inr e6
      · rw [upd_ne hb] at h; exact g.fr b h
    fh := g.fh
    tb := g.tb
    len := by rw [List.length_set, g.len]
    sl := fun j x e => by
      rw [get_set] at e
      by_cases h : i = j
      · subst h
        rw [if_pos rfl, if_pos hi] at e
        cases e
        exact ⟨_, e2, rep_lst.mpr ⟨a, ws, rfl, .inl (.inl upd_same), Reps.mono su e4⟩⟩
      · rw [if_neg h] at e
        obtain ⟨v, h1, h2⟩ := g.sl j x e
        refine ⟨v, h1, ?_⟩
        cases x with
        | p d => exact Rep.mono su h2
        | o d =>
          obtain ⟨b, m, vs, f1, f2, f3, f4, f5, f6⟩ := h2
          have ne : b ≠ a := fun z => h (g.sep i j _ d (.ref a) ho e e2 (by rw [h1, f2, z]))
          exact ⟨b, m, vs, f1, f2, f3, Reps.mono su f4, by rw [upd_ne ne]; exact f5, f6⟩
    sep := fun j k d1 d2 u q1 q2 h1 h2 => by
      rw [get_set] at q1 q2
      by_cases hj : i = j
      · rw [if_pos hj] at q1; split at q1 <;> cases q1
      · by_cases hk : i = k
        · rw [if_pos hk] at q2; split at q2 <;> cases q2
        · rw [if_neg hj] at q1
          rw [if_neg hk] at q2
          exact g.sep j k d1 d2 u q1 q2 h1 h2
    fix := fun b d hb q1 => by
      rw [get_set] at q1
      by_cases hj : i = 0
      · rw [if_pos hj] at q1; split at q1 <;> cases q1
      · rw [if_neg hj] at q1
        exact g.fix b d hb q1 }
theorem own_cases (i : Nat) (ρ : Env) : (∃ o, get ρ i = some (.o o) ∧ own i ρ = .ok o ρ) ∨ own i ρ = .no := by
  unfold own
  cases h : get ρ i with
  | none => exact .inr rfl
  | some x => cases x with
    | p d => exact .inr rfl
    | o d => exact .inl ⟨d, rfl, rfl⟩
/-- the list at slot i, ahead of what follows -/
theorem posts_own {W : WX} {i : Nat} {k : D → S} {E : Ends} (p : PostS c W G (bnd (own i) k ρ) E) : ∃ o, get ρ i = some (.o o) ∧ PostS c W G (k o ρ) E := by
  unfold bnd at p
  rcases own_cases i ρ with ⟨o, h1, h2⟩ | h2
  · rw [h2] at p; exact ⟨o, h1, p⟩
  · rw [h2] at p; exact False.elim p
theorem post_own {α β : Type} {rep : Bs → Hp → α → β → Prop} {W : WX} {i : Nat} {k : D → M α} {Q : β → Hp → Prop} (p : Post rep c W σ G (bnd (own i) k ρ) Q) : ∃ o, get ρ i = some (.o o) ∧ Post rep c W σ G (k o ρ) Q := by
  unfold bnd at p
  rcases own_cases i ρ with ⟨o, h1, h2⟩ | h2
  · rw [h2] at p; exact ⟨o, h1, p⟩
  · rw [h2] at p; exact False.elim p
end

section
variable {X : Cx} {B : Bs} {c : Ct B} {W : WX} {e a : Expr} {es : List Expr} {fe fa : M D} {fs : M (List D)} {pos p1 p2 : Pos} {x y : Str} {rest : List Stmt} {fr : S}
theorem ss_frz (i : Nat) (h : PSs X rest (dS c W fr)) : PSs X rest (dS c W (gho (Fe.frz i) fr)) := pssI h fun E σ H ⟨G, ρ, g, p⟩ => by
  have p' : PostS c W G (bnd (own i) (fun o => bnd (st i o) fun _ => fr) ρ) E := by
    revert p
    unfold gho Fe.frz bnd
    rcases own_cases i ρ with ⟨o, h1, h2⟩ | h2 <;> rw [h2] <;> exact fun p => p
  obtain ⟨o, h1, p2⟩ := posts_own p'
  obtain ⟨G', s', g'⟩ := g.frz h1
  exact ⟨G', _, g', PostS.mono s' p2⟩
/-- x = [..], one's own -/
theorem s_lstO (i : Nat) {pos' : Pos} (hN : X.N.Nodup) (h : PA X es (dA c W fs)) (hf : c.fx = none ∨ i ≠ 0) (hi : X.N[i]? = some x := by rfl) (hx : Loc X.env.scope x := by first | exact Or.inl rfl | exact Or.inr rfl) (hs : swapsWith (.List es p1) (some (.Name x pos')) pos.line X.env = pure false := by rfl)
    (hfn : X.fn x = true ∨ X.env.scope.names.lookup x = some .local := by first | exact .inl rfl | exact .inr rfl | assumption) : PS X (.Assign [.Name x pos'] (.List es p1) pos) (dS c W (asgO i (lstE fs))) := by
  refine ⟨fun pins s σ H E I ⟨G, ρ, gd, p⟩ => ?_⟩
  have hl : i < σ.length := by rw [I.len]; exact (List.getElem?_eq_some_iff.mp hi).1
  refine (ps_set hN hi hx (pe_lst h) hs hfn).run pins s σ H E I ?_
  have p' : PostS c W G (bnd fs (fun l => bnd (lft (fewL l)) fun x => bnd (sto i x) fun _ => Fe.ret .nx) ρ) E := by
    revert p
    unfold asgO lstE bnd
    cases fs ρ <;> exact fun p => p
  refine (posts_bnd gd p').imp fun v H1 ⟨G1, ρ1, l, s1, g1, r, q⟩ => ?_
  unfold fewL at q
  by_cases hlim : l.length ≤ lim
  case neg => rw [if_neg hlim] at q; exact False.elim q
  rw [if_pos hlim] at q
  refine ⟨by rw [Reps.len r, ← lim_eq]; exact hlim, fun p hp => ?_⟩
  exact q _ _ _ (Same.refl _) (g1.newO hp r hl hf)
/-- a, xs = e, [..] -/
theorem s_parO (i j : Nat) {px py pt q1 q2 : Pos} {kt k2 : Nat} (hc : X.calm = true) (hN : X.N.Nodup) (hij : i ≠ j) (ha : PE X a (dE c W fa)) (h : PA X es (dA c W fs)) (hf : c.fx = none ∨ j ≠ 0) (hi : X.N[i]? = some x := by rfl) (hj : X.N[j]? = some y := by rfl)
    (hx : X.env.scope.names.lookup x = some .local := by rfl) (hy : X.env.scope.names.lookup y = some .local := by rfl)
    (hw : swappedStores [.Tuple [.Name x px, .Name y py] kt pt] (.Tuple [a, .List es q1] k2 q2) X.env = pure (some [x, y]) := by rfl)
    (hs : swapsWithSole [.Tuple [.Name x px, .Name y py] kt pt] (.Tuple [a, .List es q1] k2 q2) pos.line X.env = pure false := by rfl)
    (hs1 : starEach [a, .List es q1] X.env = (false, eval a X.env) :: starEach [.List es q1] X.env := by rfl) :
    PS X (.Assign [.Tuple [.Name x px, .Name y py] kt pt] (.Tuple [a, .List es q1] k2 q2) pos) (dS c W (parO i j fa fs)) := by
  refine ⟨fun pins s σ H E I ⟨G, ρ, gd, p⟩ => ?_⟩
  have hli : i < σ.length := by rw [I.len]; exact (List.getElem?_eq_some_iff.mp hi).1
  have hlj : j < σ.length := by rw [I.len]; exact (List.getElem?_eq_some_iff.mp hj).1
  refine (ps_par hc hN hi hj hij hx hy (pa_cons ha (pa_cons (pe_lst h) pa_nil) hs1) hw hs).run pins s σ H E I ?_
  refine (posts_bnd gd p).imp fun v H1 ⟨G1, ρ1, d, s1, g1, r1, q⟩ => ?_
  have q' : PostS c W G1 (bnd fs (fun l => bnd (lft (fewL l)) fun l => bnd (st i d) fun _ => bnd (sto j l) fun _ => Fe.ret .nx) ρ1) E := by
    revert q
    unfold lstE bnd
    cases fs ρ1 <;> exact fun p => p
  refine (posts_bnd g1 q').imp fun w H2 ⟨G2, ρ2, l, s2, g2, r2, q⟩ => ?_
  unfold fewL at q
  by_cases hlim : l.length ≤ lim
  case neg => rw [if_neg hlim] at q; exact False.elim q
  rw [if_pos hlim] at q
  refine ⟨by rw [Reps.len r2, ← lim_eq]; exact hlim, fun p hp => ⟨v, .ref p, rfl, ?_⟩⟩
  exact q _ _ _ (Same.refl _) ((g2.set (Rep.mono s2 r1) hli).newO hp r2 (by rw [List.length_set]; exact hlj) hf)
/-- xs.append(e) -/
theorem s_app (i : Nat) {q1 q2 : Pos} (h : PE X e (dE c W fe)) (hi : X.N[i]? = some x := by rfl) (hv : Vis X.env.scope x := by first | exact Or.inl rfl | exact Or.inr (Or.inl rfl) | exact Or.inr (Or.inr rfl)) (hxd : (x == ("__debug__" : Str)) = false := by decide) (hxc : (x == ("__classdict__" : Str)) = false := by decide)
    (hbase : attributeBase (.Name x p1) "append" X.env (eval (.Name x p1) X.env) = eval (.Name x p1) X.env := by rfl)
    (hfew : ((backTo q2 (starEach [e] X.env)).all (fun x => !x.1) && (backToKw q2 (keywordEach [] X.env)).all (fun x => x.1.isSome) && decide (([e] : List Expr).length + ([] : List Keyword).length + (if ([] : List Keyword).isEmpty then 0 else 1) < 30)) = true := by rfl)
    (hline : (q1.endLine == q2.line) = true := by rfl) (hse : starEach [e] X.env = (false, eval e X.env) :: starEach [] X.env := by rfl) (hpl : (backTo q2 (starEach [] X.env)).any (·.1) = false := by rfl)
    (hsw : swapsWith (.Call (.Attribute (.Name x p1) "append" q1) [e] [] q2) none pos.line X.env = pure false := by rfl) (hK : B.K = X.K := by rfl) :
    PS X (.Expr (.Call (.Attribute (.Name x p1) "append" q1) [e] [] q2) pos) (dS c W (app i fe)) := by
  refine psI (ps_expr (pe_bm PySem.F.plainAttrs_list PySem.F.slot_list_append PySem.F.type_list_append mt_append (pv i hi hv hxd hxc) (pa_cons h pa_nil hse) hbase hfew hline hse hpl) hsw) fun E σ H ⟨G, ρ, g, p⟩ => ?_
  obtain ⟨o, h1, p1⟩ := posts_own p
  obtain ⟨ad, l, ws, e1, e2, e3, e4, e5, e6⟩ := own_rep g h1
  refine ⟨.ref ad, e2, .inl ⟨rfl, ws, .inl (.inl e3)⟩, (posts_bnd g p1).imp fun v H1 ⟨G1, ρ1, d, s1, g1, r1, q⟩ => ?_⟩
  obtain ⟨o1, h2, q1⟩ := posts_own q
  obtain ⟨ad1, l1, ws1, f1, f2, f3, f4, f5, f6⟩ := own_rep g1 h2
  rw [e2] at f2
  cases f2
  subst f1
  dsimp only at q1
  by_cases hlt : l1.length < lim
  case neg => rw [if_neg hlt] at q1; exact False.elim q1
  rw [if_pos hlt] at q1
  refine ⟨ad, ws1, v, rfl, rfl, f3, by rw [f4.len, ← lim_eq]; exact hlt, ?_⟩
  exact q1 _ _ _ (Same.refl _) (g1.wr h2 e2 f3 (f4.append (reps_cons.mpr ⟨_, _, rfl, r1, reps_nil.mpr rfl⟩)))
/-- xs.extend(e), e a new list -/
theorem s_ext (i : Nat) {q1 q2 : Pos} (h : PE X e (Den rX c W fe)) (hi : X.N[i]? = some x := by rfl) (hv : Vis X.env.scope x := by first | exact Or.inl rfl | exact Or.inr (Or.inl rfl) | exact Or.inr (Or.inr rfl)) (hxd : (x == ("__debug__" : Str)) = false := by decide) (hxc : (x == ("__classdict__" : Str)) = false := by decide)
    (hbase : attributeBase (.Name x p1) "extend" X.env (eval (.Name x p1) X.env) = eval (.Name x p1) X.env := by rfl)
    (hfew : ((backTo q2 (starEach [e] X.env)).all (fun x => !x.1) && (backToKw q2 (keywordEach [] X.env)).all (fun x => x.1.isSome) && decide (([e] : List Expr).length + ([] : List Keyword).length + (if ([] : List Keyword).isEmpty then 0 else 1) < 30)) = true := by rfl)
    (hline : (q1.endLine == q2.line) = true := by rfl) (hse : starEach [e] X.env = (false, eval e X.env) :: starEach [] X.env := by rfl) (hpl : (backTo q2 (starEach [] X.env)).any (·.1) = false := by rfl)
    (hsw : swapsWith (.Call (.Attribute (.Name x p1) "extend" q1) [e] [] q2) none pos.line X.env = pure false := by rfl) (hK : B.K = X.K := by rfl) :
    PS X (.Expr (.Call (.Attribute (.Name x p1) "extend" q1) [e] [] q2) pos) (dS c W (ext i fe)) := by
  refine psI (ps_expr (pe_bm PySem.F.plainAttrs_list PySem.F.slot_list_extend PySem.F.type_list_extend mt_extend (pv i hi hv hxd hxc) (pa_cons h pa_nil hse) hbase hfew hline hse hpl) hsw) fun E σ H ⟨G, ρ, g, p⟩ => ?_
  obtain ⟨o, h1, p1⟩ := posts_own p
  obtain ⟨ad, l, ws, e1, e2, e3, e4, e5, e6⟩ := own_rep g h1
  refine ⟨.ref ad, e2, .inl ⟨rfl, ws, .inl (.inl e3)⟩, (posts_bnd g p1).imp fun v H1 ⟨G1, ρ1, d, s1, g1, ⟨b, m, zs, r1, r2, r3, r4⟩, q⟩ => ?_⟩
  obtain ⟨o1, h2, q1⟩ := posts_own q
  obtain ⟨ad1, l1, ws1, f1, f2, f3, f4, f5, f6⟩ := own_rep g1 h2
  rw [e2] at f2
  cases f2
  subst f1 r1 r2
  dsimp only at q1
  by_cases hlt : l1.length + m.length ≤ lim
  case neg => rw [if_neg hlt] at q1; exact False.elim q1
  rw [if_pos hlt] at q1
  refine ⟨ad, b, ws1, zs, rfl, rfl, f3, g1.gh _ _ r3, by rw [f4.len, r4.len, ← lim_eq]; exact hlt, ?_⟩
  exact q1 _ _ _ (Same.refl _) (g1.wr h2 e2 f3 (f4.append r4))
theorem reps_last {K : PySem.W.Frag} {G : Hp} {l : List D} {vs : List V} {d : D} (h : Reps K G l vs) (e : l[l.length - 1]? = some d) : ∃ v, vs[vs.length - 1]? = some v ∧ Rep K G d v := by
  rw [h.len]
  exact h.get e
/-- xs.pop() -/
theorem e_pop (i : Nat) {q1 q2 : Pos} (hi : X.N[i]? = some x := by rfl) (hv : Vis X.env.scope x := by first | exact Or.inl rfl | exact Or.inr (Or.inl rfl) | exact Or.inr (Or.inr rfl)) (hxd : (x == ("__debug__" : Str)) = false := by decide) (hxc : (x == ("__classdict__" : Str)) = false := by decide)
    (hbase : attributeBase (.Name x p1) "pop" X.env (eval (.Name x p1) X.env) = eval (.Name x p1) X.env := by rfl) (hline : (q1.endLine == q2.line) = true := by rfl) : PE X (.Call (.Attribute (.Name x p1) "pop" q1) [] [] q2) (dE c W (popO i)) := by
  refine peI (pe_bm0 PySem.F.plainAttrs_list PySem.F.slot_list_pop PySem.F.type_list_pop mt_pop (pv i hi hv hxd hxc) hbase hline) fun σ H Q ⟨G, ρ, g, p⟩ => ?_
  obtain ⟨o, h1, p1⟩ := post_own p
  obtain ⟨ad, l, ws, e1, e2, e3, e4, e5, e6⟩ := own_rep g h1
  subst e1
  dsimp only at p1
  cases hl : l[l.length - 1]? with
  | none => rw [hl] at p1; exact False.elim p1
  | some d =>
    rw [hl] at p1
    obtain ⟨v, hv, rv⟩ := reps_last e4 hl
    refine ⟨.ref ad, e2, .inl ⟨rfl, ws, .inl (.inl e3)⟩, ad, ws, v, rfl, rfl, e3, hv, ?_⟩
    exact p1 v _ G (Same.refl _) (g.wr h1 e2 e3 e4.dropLast) rv
/-- if xs, while xs -/
theorem t_own (i : Nat) {q : Pos} (hi : X.N[i]? = some x := by rfl) (hv : Vis X.env.scope x := by first | exact Or.inl rfl | exact Or.inr (Or.inl rfl) | exact Or.inr (Or.inr rfl)) (hxd : (x == ("__debug__" : Str)) = false := by decide) (hxc : (x == ("__classdict__" : Str)) = false := by decide)
    (he : ∀ whole, isTrue (.Name x q) X.env whole = (do let v ← whole; standAt (Expr.Name x q).pos; holding [v] (truthy v)) := by intro _; rfl) : PT X (.Name x q) (dT c W (tstO i)) := by
  refine ptI (pt_truth (pv i hi hv hxd hxc) he) fun σ H Q ⟨G, ρ, g, p⟩ => ?_
  obtain ⟨o, h1, p1⟩ := post_own p
  obtain ⟨ad, l, ws, e1, e2, e3, e4, e5, e6⟩ := own_rep g h1
  subst e1
  refine ⟨.ref ad, e2, !l.isEmpty, .inl ⟨ws, .inl (.inl e3), ?_⟩, g.keep p1 rfl⟩
  cases l with
  | nil => rw [reps_nil.mp e4]; rfl
  | cons d l => obtain ⟨v, r, rfl, _⟩ := reps_cons.mp e4; rfl
/-- xs[k] -/
theorem e_ixO (i : Nat) {q : Pos} {fk : M D} (hk : PE X a (dE c W fk)) (hi : X.N[i]? = some x := by rfl) (hv : Vis X.env.scope x := by first | exact Or.inl rfl | exact Or.inr (Or.inl rfl) | exact Or.inr (Or.inr rfl)) (hxd : (x == ("__debug__" : Str)) = false := by decide) (hxc : (x == ("__classdict__" : Str)) = false := by decide)
    (hs : PlainIx a := by exact fun _ _ => rfl) : PE X (.Subscript (.Name x q) a pos) (dE c W (ixO i fk)) := by
  refine peI (pe_ix ix_list (pv i hi hv hxd hxc) hk hs) fun σ H Q ⟨G, ρ, g, p⟩ => ?_
  obtain ⟨o, h1, p1⟩ := post_own p
  obtain ⟨ad, l, ws, e1, e2, e3, e4, e5, e6⟩ := own_rep g h1
  refine ⟨.ref ad, e2, (post_bnd g p1).imp fun v H1 ⟨G1, ρ1, d, s1, g1, r1, q1⟩ => ?_⟩
  obtain ⟨o1, h2, q2⟩ := post_own q1
  obtain ⟨ad1, l1, ws1, f1, f2, f3, f4, f5, f6⟩ := own_rep g1 h2
  rw [e2] at f2
  cases f2
  subst f1
  obtain ⟨z, hz, p3⟩ := post_lft q2
  cases d <;> first | (cases hz; done) | skip
  obtain ⟨j, hj, hz⟩ := Option.bind_eq_some_iff.mp hz
  obtain ⟨u, hu, ru⟩ := f4.get hz
  refine ⟨ad, ws1, _, u, rfl, rep_int.mp r1, .inl (.inl f3), ?_, g1.keep p3 ru⟩
  unfold atI
  rw [f4.len]
  show (Fe.ixN l1.length _).bind _ = _
  rw [hj]
  exact hu
/-- xs[k] = e -/
theorem s_setO (i : Nat) {q qs : Pos} {fk : M D} (he : PE X e (dE c W fe)) (hk : PE X a (dE c W fk)) (hi : X.N[i]? = some x := by rfl) (hv : Vis X.env.scope x := by first | exact Or.inl rfl | exact Or.inr (Or.inl rfl) | exact Or.inr (Or.inr rfl)) (hxd : (x == ("__debug__" : Str)) = false := by decide) (hxc : (x == ("__classdict__" : Str)) = false := by decide)
    (ha : ∀ v, assign (.Subscript (.Name x q) a qs) X.env v = (do
      let ov ← holding [v] (eval (.Name x q) X.env)
      let iv ← holding [v, ov] (eval a X.env)
      standAt qs
      holding [v, ov, iv] (setItem ov iv v)
      release [v, ov, iv] []) := by intro _; rfl)
    (hs : swapsWithSole [.Subscript (.Name x q) a qs] e pos.line X.env = pure false := by rfl) (hw : swappedStores [.Subscript (.Name x q) a qs] e X.env = pure none := by rfl)
    (h1 : (assignEach [.Subscript (.Name x q) a qs] X.env).map (·.2) = [assign (.Subscript (.Name x q) a qs) X.env] := by rfl) : PS X (.Assign [.Subscript (.Name x q) a qs] e pos) (dS c W (setO i fk fe)) := by
  refine psI (ps_asg he (pg_sub (pv i hi hv hxd hxc) hk set_list ha) hs hw h1) fun E σ H ⟨G, ρ, g, p⟩ => ?_
  refine (posts_bnd g p).imp fun v H1 ⟨G1, ρ1, d, s1, g1, r1, q1⟩ => ?_
  obtain ⟨o, h1, p1⟩ := posts_own q1
  obtain ⟨ad, l, ws, e1, e2, e3, e4, e5, e6⟩ := own_rep g1 h1
  refine ⟨.ref ad, e2, (posts_bnd g1 p1).imp fun u H2 ⟨G2, ρ2, k, s2, g2, r2, q2⟩ => ?_⟩
  obtain ⟨o1, h2, q3⟩ := posts_own q2
  obtain ⟨ad1, l1, ws1, f1, f2, f3, f4, f5, f6⟩ := own_rep g2 h2
  rw [e2] at f2
  cases f2
  subst f1
  cases k <;> first | exact False.elim q3 | skip
  rename_i k
  dsimp only at q3
  cases hj : Fe.ixN l1.length k with
  | none => rw [hj] at q3; exact False.elim q3
  | some j =>
    rw [hj] at q3
    refine ⟨ad, ws1, k, j, rfl, rep_int.mp r2, f3, by rw [f4.len]; exact hj, ?_⟩
    exact q3 _ _ _ (Same.refl _) (g2.wr h2 e2 f3 (Reps.set j f4 (Rep.mono s2 r1)))
end
end Fe
set_option Elab.async false
set_option linter.all false
set_option maxRecDepth 100000
set_option maxHeartbeats 1000000
/-! Built-ins by name. -/
namespace Fe
open PySem PySem.Spec PyProof.Rows L2
/-- a built-in of one argument -/
def RuleC (K : PySem.W.Frag) (r : List V → Hp → VK → Prop) (g : D → Option D) : Prop :=
  ∀ (G H : Hp) (d z : D) (x : V) (Q : VK), Same G H → NT G → Rep K G d x → g d = some z → (∀ v H' G', New G H G' H' → Rep K G' z v → Q v H') → r [x] H Q
section
variable {K : PySem.W.Frag}
theorem rc_len : RuleC K (fun xs H Q => (∃ p ys, xs = [.ref p] ∧ (SqL K H p ys ∨ SqT K H p ys) ∧ Q (.int ys.length) H) ∨ ∃ z, xs = [.str z] ∧ z.length ≤ sizeLine ∧ Q (.int z.length) H) dLen := by
  intro G H d z x Q s n rx h k
  cases d <;> first | (cases h; done) | skip
  · rename_i t
    simp only [dLen] at h
    split at h
    · rename_i hz
      cases h
      exact .inr ⟨t, by rw [rep_str.mp rx], by rw [← lim_eq]; exact hz, k _ _ _ (New.refl s n) (rep_int.mpr rfl)⟩
    · cases h
  · cases h
    obtain ⟨a, vs, rfl, h1, h2⟩ := rep_lst.mp rx
    refine .inl ⟨a, vs, rfl, .inl (sqL_up s h1), ?_⟩
    rw [h2.len]
    exact k _ _ _ (New.refl s n) (rep_int.mpr rfl)
  · cases h
    obtain ⟨a, vs, rfl, h1, h2⟩ := rep_tup.mp rx
    refine .inl ⟨a, vs, rfl, .inr (sqT_up s h1), ?_⟩
    rw [h2.len]
    exact k _ _ _ (New.refl s n) (rep_int.mpr rfl)
theorem rc_int : RuleC K (fun xs H Q => (∃ i, xs = [.int i] ∧ Q (.int i) H) ∨ ∃ k, xs = [.bl k] ∧ Q (.int (if k then 1 else 0)) H) dInt := by
  intro G H d z x Q s n rx h k
  cases d <;> first | (cases h; done) | skip
  cases h
  exact .inl ⟨_, by rw [rep_int.mp rx], k _ _ _ (New.refl s n) (rep_int.mpr rfl)⟩
theorem rc_list : RuleC K (fun xs H Q => ∃ p ys, xs = [.ref p] ∧ (SqL K H p ys ∨ SqT K H p ys) ∧ ∀ l, H l = none → Q (.ref l) (upd H l (.lst ys))) dList := by
  intro G H d z x Q s n rx h k
  cases d <;> first | (cases h; done) | skip
  · cases h
    obtain ⟨a, vs, rfl, h1, h2⟩ := rep_lst.mp rx
    refine ⟨a, vs, rfl, .inl (sqL_up s h1), fun l hl => ?_⟩
    have N : New G H (upd G l (.lst vs)) (upd H l (.lst vs)) := New.mk1 s n hl (fun ps z => by cases z)
    exact k _ _ _ N (rep_lst.mpr ⟨l, vs, rfl, .inl (.inl upd_same), Reps.mono N.gg h2⟩)
  · cases h
    obtain ⟨a, vs, rfl, h1, h2⟩ := rep_tup.mp rx
    refine ⟨a, vs, rfl, .inr (sqT_up s h1), fun l hl => ?_⟩
    have N : New G H (upd G l (.lst vs)) (upd H l (.lst vs)) := New.mk1 s n hl (fun ps z => by cases z)
    exact k _ _ _ N (rep_lst.mpr ⟨l, vs, rfl, .inl (.inl upd_same), Reps.mono N.gg h2⟩)
theorem rc_tuple : RuleC K (fun xs H Q => ∃ p ys, xs = [.ref p] ∧ ((SqL K H p ys ∧ ∀ l, H l = none → Q (.ref l) (upd H l (.tup ys))) ∨ (SqT K H p ys ∧ Q (.ref p) H))) dTuple := by
  intro G H d z x Q s n rx h k
  cases d <;> first | (cases h; done) | skip
  · cases h
    obtain ⟨a, vs, rfl, h1, h2⟩ := rep_lst.mp rx
    refine ⟨a, vs, rfl, .inl ⟨sqL_up s h1, fun l hl => ?_⟩⟩
    have N : New G H (upd G l (.tup vs)) (upd H l (.tup vs)) := New.mk1 s n hl (fun ps z => by cases z)
    exact k _ _ _ N (rep_tup.mpr ⟨l, vs, rfl, .inl (.inl upd_same), Reps.mono N.gg h2⟩)
  · cases h
    obtain ⟨a, vs, rfl, h1, h2⟩ := rep_tup.mp rx
    exact ⟨a, vs, rfl, .inr ⟨sqT_up s h1, k _ _ _ (New.refl s n) (rep_tup.mpr ⟨a, vs, rfl, h1, h2⟩)⟩⟩
theorem rc_all : RuleC K (rAll K) dAll := by
  intro G H d z x Q s n rx h k
  cases d <;> first | (cases h; done) | skip
  obtain ⟨bs, hb, rfl⟩ := Option.map_eq_some_iff.mp h
  obtain ⟨a, vs, rfl, h1, h2⟩ := rep_lst.mp rx
  refine ⟨a, bs, rfl, ?_, k _ _ _ (New.refl s n) (rep_bl.mpr rfl)⟩
  rw [← h2.bools hb]
  exact sqL_up s h1
theorem rc_any : RuleC K (rAny K) dAny := by
  intro G H d z x Q s n rx h k
  cases d <;> first | (cases h; done) | skip
  obtain ⟨bs, hb, rfl⟩ := Option.map_eq_some_iff.mp h
  obtain ⟨a, vs, rfl, h1, h2⟩ := rep_lst.mp rx
  refine ⟨a, bs, rfl, ?_, k _ _ _ (New.refl s n) (rep_bl.mpr rfl)⟩
  rw [← h2.bools hb]
  exact sqL_up s h1
theorem greatest_le : ∀ (r : List Int) (m : Int), m ≤ greatest m r ∧ ∀ y ∈ r, y ≤ greatest m r
  | [], m => ⟨Int.le_refl _, fun y h => by cases h⟩
  | x :: r, m => by
    obtain ⟨h1, h2⟩ := greatest_le r (if x > m then x else m)
    show m ≤ greatest (if x > m then x else m) r ∧ _
    refine ⟨Int.le_trans ?_ h1, fun y hy => ?_⟩
    · split <;> omega
    · rcases List.mem_cons.mp hy with rfl | hy
      · refine Int.le_trans ?_ h1
        split <;> omega
      · exact h2 y hy
theorem greatest_mem : ∀ (r : List Int) (m : Int), greatest m r = m ∨ greatest m r ∈ r
  | [], m => .inl rfl
  | x :: r, m => by
    show greatest (if x > m then x else m) r = m ∨ greatest (if x > m then x else m) r ∈ x :: r
    rcases greatest_mem r (if x > m then x else m) with h | h
    · rw [h]
      split
      · exact .inr List.mem_cons_self
      · exact .inl rfl
    · exact .inr (List.mem_cons_of_mem _ h)
theorem rc_max : RuleC K (rMax K) dMax := by
  intro G H d z x Q s n rx h k
  cases d <;> first | (cases h; done) | skip
  rename_i l
  obtain ⟨ns, hb, hz⟩ := Option.bind_eq_some_iff.mp h
  obtain ⟨a, vs, rfl, h1, h2⟩ := rep_lst.mp rx
  cases ns with
  | nil => cases hz
  | cons m r =>
    cases hz
    refine ⟨a, m :: r, rfl, ?_, Nat.succ_pos _, fun y hy hle => ?_⟩
    · rw [← h2.ints hb]
      exact sqL_up s h1
    · obtain ⟨g1, g2⟩ := greatest_le r m
      have e : y = greatest m r := by
        refine Int.le_antisymm ?_ ?_
        · rcases List.mem_cons.mp hy with e | hy
          · rw [e]; exact g1
          · exact g2 y hy
        · refine hle _ ?_
          rcases greatest_mem r m with e | e
          · rw [e]; exact List.mem_cons_self
          · exact List.mem_cons_of_mem _ e
      rw [e]
      exact k _ _ _ (New.refl s n) (rep_int.mpr rfl)
end
section
variable {X : Cx} {B : Bs} {c : Ct B} {W : WX} {e a : Expr} {fe fa : M D} {pos p p1 : Pos} {x : Str}
theorem e_cb {id : String} {r : List V → Hp → VK → Prop} {g : D → Option D} (hc : CallR X (.builtin id) r) (hr : RuleC B.K r g) (hm : X.mg x = none) (hv : bootBuiltins x = some (.builtin id)) (h : PE X e (dE c W fe)) (hg : Gl X x := by rfl) (hse : starEach [e] X.env = (false, eval e X.env) :: starEach [] X.env := by rfl) (hn : x ≠ "__name__" := by decide) (hdb : (x == ("__debug__" : Str)) = false := by decide) :
    PE X (.Call (.Name x p) [e] [] pos) (dE c W (op1 g fe)) :=
  peI (pe_callB hc hg hm hv (pa_cons h pa_nil hse) hn hdb (he := hse)) fun σ H Q h => (den_bnd h).imp fun v H1 ⟨G1, ρ1, d, g1, rx, p1⟩ => by
    obtain ⟨z, hz, p3⟩ := post_lft p1
    exact hr G1 H1 d z v Q g1.gh g1.nt rx hz fun u H' G' n rz => p3 u H' G' n.gg (g1.ext n) rz
theorem e_ct {T : String} {r : List V → Hp → VK → Prop} {g : D → Option D} (hc : CallR X (.type T) r) (hr : RuleC B.K r g) (hm : X.mg x = none) (hv : bootBuiltins x = some (.type T)) (h : PE X e (dE c W fe)) (hg : Gl X x := by rfl) (hse : starEach [e] X.env = (false, eval e X.env) :: starEach [] X.env := by rfl) (hn : x ≠ "__name__" := by decide) (hdb : (x == ("__debug__" : Str)) = false := by decide) :
    PE X (.Call (.Name x p) [e] [] pos) (dE c W (op1 g fe)) :=
  peI (pe_callTy hc hg hm hv (pa_cons h pa_nil hse) hn hdb (he := hse)) fun σ H Q h => (den_bnd h).imp fun v H1 ⟨G1, ρ1, d, g1, rx, p1⟩ => by
    obtain ⟨z, hz, p3⟩ := post_lft p1
    exact hr G1 H1 d z v Q g1.gh g1.nt rx hz fun u H' G' n rz => p3 u H' G' n.gg (g1.ext n) rz
theorem e_len (hm : X.mg "len" = none) (h : PE X e (dE c W fe)) (hK : B.K = X.K := by rfl) (hg : Gl X "len" := by rfl) (hse : starEach [e] X.env = (false, eval e X.env) :: starEach [] X.env := by rfl) : PE X (.Call (.Name "len" p) [e] [] pos) (dE c W (op1 dLen fe)) :=
  e_cb (call_len_seq.or call_len_str) (by rw [hK]; exact rc_len) hm PySem.boot_len h hg hse
theorem e_intC (hm : X.mg "int" = none) (h : PE X e (dE c W fe)) (hg : Gl X "int" := by rfl) (hse : starEach [e] X.env = (false, eval e X.env) :: starEach [] X.env := by rfl) : PE X (.Call (.Name "int" p) [e] [] pos) (dE c W (op1 dInt fe)) :=
  e_ct call_int1 rc_int hm boot_int h hg hse
theorem e_listC (hm : X.mg "list" = none) (h : PE X e (dE c W fe)) (hK : B.K = X.K := by rfl) (hg : Gl X "list" := by rfl) (hse : starEach [e] X.env = (false, eval e X.env) :: starEach [] X.env := by rfl) : PE X (.Call (.Name "list" p) [e] [] pos) (dE c W (op1 dList fe)) :=
  e_ct call_list_of (by rw [hK]; exact rc_list) hm (by decide +kernel) h hg hse
theorem e_tupleC (hm : X.mg "tuple" = none) (h : PE X e (dE c W fe)) (hK : B.K = X.K := by rfl) (hg : Gl X "tuple" := by rfl) (hse : starEach [e] X.env = (false, eval e X.env) :: starEach [] X.env := by rfl) : PE X (.Call (.Name "tuple" p) [e] [] pos) (dE c W (op1 dTuple fe)) :=
  e_ct call_tuple_of (by rw [hK]; exact rc_tuple) hm (by decide +kernel) h hg hse
theorem e_all (hc : X.calm = true) (hm : X.mg "all" = none) (h : PE X e (dE c W fe)) (hK : B.K = X.K := by rfl) (hg : Gl X "all" := by rfl) (hse : starEach [e] X.env = (false, eval e X.env) :: starEach [] X.env := by rfl) : PE X (.Call (.Name "all" p) [e] [] pos) (dE c W (op1 dAll fe)) :=
  e_cb (cr_all hc) (by rw [hK]; exact rc_all) hm (by decide +kernel) h hg hse
theorem e_any (hc : X.calm = true) (hm : X.mg "any" = none) (h : PE X e (dE c W fe)) (hK : B.K = X.K := by rfl) (hg : Gl X "any" := by rfl) (hse : starEach [e] X.env = (false, eval e X.env) :: starEach [] X.env := by rfl) : PE X (.Call (.Name "any" p) [e] [] pos) (dE c W (op1 dAny fe)) :=
  e_cb (cr_any hc) (by rw [hK]; exact rc_any) hm (by decide +kernel) h hg hse
theorem e_max (hc : X.calm = true) (hm : X.mg "max" = none) (h : PE X e (dE c W fe)) (hK : B.K = X.K := by rfl) (hg : Gl X "max" := by rfl) (hse : starEach [e] X.env = (false, eval e X.env) :: starEach [] X.env := by rfl) : PE X (.Call (.Name "max" p) [e] [] pos) (dE c W (op1 dMax fe)) :=
  e_cb (cr_max hc) (by rw [hK]; exact rc_max) hm (by decide +kernel) h hg hse
theorem p_all (hc : X.calm = true) (hm : X.mg "all" = none) (h : PE X e (dE c W fe)) (hK : B.K = X.K := by rfl) (hg : Gl X "all" := by rfl) (hse : starEach [e] X.env = (false, eval e X.env) :: starEach [] X.env := by rfl) : PE X (.Call (.Name "all" p) [e] [] pos) (dE c W (op1 dAll fe)) := e_all hc hm h hK hg hse
/-- list(range(n)) -/
theorem e_listRg (hc : X.calm = true) (hm : X.mg "list" = none) (hm2 : X.mg "range" = none) (h : PE X e (dE c W fe)) {p2 pos2 : Pos} (hg : Gl X "list" := by rfl) (hg2 : Gl X "range" := by rfl) (na : starEach [e] X.env = (false, eval e X.env) :: starEach [] X.env := by rfl)
    (na2 : starEach [.Call (.Name "range" p2) [e] [] pos2] X.env = (false, eval (.Call (.Name "range" p2) [e] [] pos2) X.env) :: starEach [] X.env := by rfl) : PE X (.Call (.Name "list" p) [.Call (.Name "range" p2) [e] [] pos2] [] pos) (dE c W (op1 dLRng1 fe)) :=
  peI (pe_listRg hc hg hm (prg_1 hg2 hm2 h na) na2) fun σ H Q h => (den_bnd h).imp fun v H1 ⟨G1, ρ1, d, g1, rx, p1⟩ => by
    obtain ⟨z, hz, p3⟩ := post_lft p1
    obtain ⟨l, hl, hz⟩ := Option.bind_eq_some_iff.mp hz
    cases d <;> first | (cases hl; done) | skip
    rename_i j
    simp only [dRng1] at hl
    split at hl
    · rename_i hj
      cases hl
      obtain ⟨h1, h2⟩ := bigI_of hj
      unfold fewL at hz
      split at hz
      · rename_i hlim
        cases hz
        rw [rng_len] at hlim
        refine ⟨j, rep_int.mp rx, ⟨by omega, by omega, h1, h2, hlim⟩, fun q hq => ?_⟩
        have N : New G1 H1 (upd G1 q (.lst (rgV 0 j))) (upd H1 q (.lst (rgV 0 j))) := New.mk1 g1.gh g1.nt hq (fun ps z => by cases z)
        refine p3 _ _ _ N.gg (g1.ext N) (rep_lst.mpr ⟨q, _, rfl, .inl (.inl upd_same), ?_⟩)
        have e1 : rng 0 j = ((List.range (j - 0).toNat).map fun (k : Nat) => (0 : Int) + k).map .int := by unfold rng; rw [List.map_map]; rfl
        have e2 : rgV 0 j = ((List.range (j - 0).toNat).map fun (k : Nat) => (0 : Int) + k).map V.int := by unfold rgV; rw [List.map_map]; rfl
        rw [e1, e2]
        exact reps_ints _
      · cases hz
    · cases hl
/-! isinstance with a built-in class -/
theorem kit_int {a : String} {r : Bool} (h : kitB a "int" = some r) {K : PySem.W.Frag} : PySem.W.kitOne K (.type a) (.type "int") = some r := kit_ty h
theorem tyX_lst {K : PySem.W.Frag} {H : Hp} {a : Addr} {vs : List V} (h : SqL K H a vs) : TyX K H (.ref a) (.type "list") := by
  rcases h with (h | ⟨o, h⟩) | ⟨o, its, n, h1, h2, _⟩
  · exact .base (.lst h)
  · exact .base (.frz h)
  · exact .kList h1 h2
theorem tyX_tup {K : PySem.W.Frag} {H : Hp} {a : Addr} {vs : List V} (h : SqT K H a vs) : TyX K H (.ref a) (.type "tuple") := by
  rcases h with (h | ⟨o, h⟩) | ⟨o, its, n, h1, h2, _⟩
  · exact .base (.tup h)
  · exact .fTuple h
  · exact .kTuple h1 h2
theorem e_isi (T : String) (hm : X.mg "isinstance" = none) (hmT : X.mg T = none) (h : PE X e (dE c W fe)) (hT : T = "int" ∨ T = "bool" ∨ T = "tuple" ∨ T = "list" ∨ T = "str") (hv : bootBuiltins T = some (.type T)) (hK : B.K = X.K := by rfl) (hg : Gl X "isinstance" := by rfl) (hgT : Gl X T := by rfl)
    (hn : (T : Str) ≠ "__name__" := by decide) (hd : ((T : Str) == ("__debug__" : Str)) = false := by decide)
    (hs1 : starEach [e, .Name T p1] X.env = (false, eval e X.env) :: starEach [.Name T p1] X.env := by rfl) (hs2 : starEach [.Name T p1] X.env = (false, eval (.Name T p1) X.env) :: starEach [] X.env := by rfl) :
    PE X (.Call (.Name "isinstance" p) [e, .Name T p1] [] pos) (dE c W (cmp1 (dIsi T) fe)) :=
  peI (pe_callB call_isi hg hm (by decide +kernel) (pa_cons h (pa_cons (pe_bltn (v := .ty T) hgT hmT hv rfl hn hd) pa_nil hs2) hs1) (he := hs1)) fun σ H Q h => (den_bnd h).imp fun v H1 ⟨G1, ρ1, d, g1, rx, p1⟩ => by
    obtain ⟨z, hz, p3⟩ := post_lft p1
    obtain ⟨b, hb, rfl⟩ := Option.map_eq_some_iff.mp hz
    replace rx : Rep B.K G1 d v := rx
    rw [hK] at rx
    have fin : ∀ t : String, TyX X.K H1 v (.type t) → kitB t T = some b → rIsi X.K [v, .ty T] H1 Q := fun t ty hk => ⟨v, .ty T, _, _, b, rfl, .ty T, ty, kit_ty hk, g1.keep p3 (rep_bl.mpr rfl)⟩
    cases d with
    | non => have ev := rep_non.mp rx; subst ev; cases hb; refine fin "NoneType" (.base .non) ?_; rcases hT with rfl | rfl | rfl | rfl | rfl <;> decide +kernel
    | bl k => have ev := rep_bl.mp rx; subst ev; cases hb; refine fin "bool" (.base (.bl k)) ?_; rcases hT with rfl | rfl | rfl | rfl | rfl <;> decide +kernel
    | int k => have ev := rep_int.mp rx; subst ev; cases hb; refine fin "int" (.base (.int k)) ?_; rcases hT with rfl | rfl | rfl | rfl | rfl <;> decide +kernel
    | str k => have ev := rep_str.mp rx; subst ev; cases hb; refine fin "str" (.base (.str k)) ?_; rcases hT with rfl | rfl | rfl | rfl | rfl <;> decide +kernel
    | lst l =>
      obtain ⟨a, vs, rfl, h1, _⟩ := rep_lst.mp rx
      cases hb
      refine fin "list" (tyX_lst (sqL_up g1.gh h1)) ?_
      rcases hT with rfl | rfl | rfl | rfl | rfl <;> decide +kernel
    | tup l =>
      obtain ⟨a, vs, rfl, h1, _⟩ := rep_tup.mp rx
      cases hb
      refine fin "tuple" (tyX_tup (sqT_up g1.gh h1)) ?_
      rcases hT with rfl | rfl | rfl | rfl | rfl <;> decide +kernel
end
end Fe
set_option Elab.async false
set_option linter.all false
set_option maxRecDepth 100000
set_option maxHeartbeats 4000000
/-! set(xs) of a list or a tuple, of ints or of tuples of ints; sorted of it; its length. -/
namespace Fe
open PySem PySem.Spec PyProof.Rows L2
/-- the new empty set, as the machine lays it -/
abbrev bareSet (w : World) : Obj := { cls := .type "set", dict := none, data := .set #[] 0 (.fresh 0 0 (!w.params.followText "set-order")) }
abbrev seqIt (nm : String) (l : Addr) : Obj := { cls := .type nm, data := .fields #[.ref l, .int 0 0] }
section
variable {P : Program} {w : World} {A : Around} {E : Value → Shared → Prop} {s : Shared}
set_option maxRecDepth 100000 in
/-- set(t), t a tuple: what its loop over the new set leaves -/
theorem set_of_tuple {l : Addr} {items : Array Value} {Z : Heap → Prop} {Q : Value → Shared → Prop} (hot : A.handled = none) (isT : s.heap.IsTuple l items)
    (loop : ∀ (B : Around), B.handled = none → B.in1.units ≤ A.units + 5 →
      codeAny (model P w) B (.builtin "set.update.loop" ⟨[.ref s.heap.objs.size, .ref (s.heap.push (bareSet w)).objs.size], []⟩) (fun r s2 => r = .ok (.ret .none) ∧ ∃ h2 t2, s2 = { s with heap := h2, toks := t2 } ∧ Z h2)
        { s with heap := (s.heap.push (bareSet w)).push (seqIt "tuple_iterator" l) })
    (fin : ∀ h2 t2, Z h2 → Q (.ref s.heap.objs.size) { s with heap := h2, toks := t2 }) : wpAny (model P w) A (call (.type "set") [.ref l]) Q E s := by
  have ⟨cc, tt, cm⟩ := F.called_set.mro
  have cmade := F.called_set.made
  have csub := F.called_set.sub
  refine wpAny_call (codeAny_of_tree ?_)
  show wpAny (model P w) _ (callAny (.type "set") ⟨[.ref l], []⟩) _ _ s
  refine wpAny_pure (And.intro (Code.quiet_builtin _ (by decide +kernel)) (codeAny_builtin F.entry_type_call ?_))
  rw [Around.under_plain (weight_type_call_type "set" [.ref l] []) rfl]
  have n1 := F.called_set.notType
  have n2 := F.called_set.canCreate
  have n3 := F.typeCall_set_1 (.ref l)
  repeat (any_goals (first | assumption | wp_step))
  refine codeAny_mono (code_set_led1 (.ref l) (E := E) (Q₁ := fun ob s1 => ob = .ref s.heap.objs.size ∧ s1 = { s with heap := s.heap.push (bareSet w) }) ⟨rfl, rfl⟩) fun r s1 hr => ?_
  cases r with
  | error e => exact hr
  | ok fl =>
    cases fl with
    | next => exact hr.elim
    | brk => exact hr.elim
    | cont => exact hr.elim
    | ret ob =>
      obtain ⟨e1, e2⟩ := hr
      subst e1 e2
      have atS : (s.heap.push (bareSet w)).get? s.heap.objs.size = some (bareSet w) := Heap.get?_push_size _ rfl
      have tyS : Shared.TypeIs { s with heap := s.heap.push (bareSet w) } (.ref s.heap.objs.size) "set" := ⟨_, atS, rfl⟩
      have i1 := F.called_set.init.lookup
      have i2 := F.called_set.init.bind (.ref s.heap.objs.size)
      repeat (any_goals (first | assumption | wp_step))
      refine codeAny_mono (codeAny_call_builtin (R := wants (fun r s2 => r = .none ∧ ∃ h2 t2, s2 = { s with heap := h2, toks := t2 } ∧ Z h2) E) F.called_set.init.plain F.entry_set_init (check_set_init_1 tyS ?_)) fun r2 s2 hr2 => ?_
      · obtain ⟨⟨k1, k2, k3, k4⟩, og, oc, on, od⟩ := isT
        simp only at oc od
        subst oc od
        have ob' : (s.heap.push (bareSet w)).get? l = some { cls := .type "tuple", dict := k2, data := .seq items on, slots := k4 } := Heap.get?_push_of_some _ og
        have j1 := F.sub_tuple_set
        have j2 := F.sub_tuple_frozenset
        have j3 : (Value.type "tuple" == Value.type "dict") = false := by decide
        have j4 : (s.heap.push (bareSet w)).IsTuple l items := ⟨_, ob', rfl, on, rfl⟩
        unfold Builtin.«set.__init__» noKeywords Builtin.Frozenset.updateFrom
        generalize hPI : pyIter = PI
        wp_walk
        subst hPI
        refine wpAny_pyIter_tuple j4 (wpAny_bind (wpAny_runValue ?_))
        refine codeAny_mono (loop _ (by simp [hot]) (by simp [Around.in1])) fun r s2 ⟨e, h2, t2, e2, z⟩ => ?_
        subst e e2
        show wpAny _ _ _ _ _ _
        refine wpAny_pure ?_
        show wpAny _ _ (PySem.ret Value.none) _ _ _
        exact wpAny_pure ⟨rfl, h2, t2, rfl, z⟩
      · cases r2 with
        | error e => exact hr2
        | ok fl2 =>
          cases fl2 with
          | next => exact hr2.elim
          | brk => exact hr2.elim
          | cont => exact hr2.elim
          | ret r =>
            obtain ⟨e1, h2, t2, e2, z⟩ := hr2
            subst e1 e2
            repeat (any_goals (first | assumption | wp_step))
            exact fin _ _ z
/-- set(t), t a tuple of tuples of ints -/
theorem set_tup_tups {l : Addr} {items : Array Value} (ks : List (Addr × List Int)) {Q : Value → Shared → Prop} (hot : A.handled = none) (isT : s.heap.IsTuple l items) (its : items.toList = ks.map fun p => Value.ref p.1)
    (each : ∀ p ∈ ks, IsT P w s.heap p.2 p.1) (few : ks.length < 64) (room : A.units + 5 < cLine)
    (fin : ∀ h2 t2 L es ep t, SetTR P w h2 s.heap.objs.size L es ep t → Got ks ks.length L → (∀ b o, s.heap.get? b = some o → h2.get? b = some o) → Q (.ref s.heap.objs.size) { s with heap := h2, toks := t2 }) :
    wpAny (model P w) A (call (.type "set") [.ref l]) Q E s := by
  have sz : items.size = ks.length := by
    have q := congrArg List.length its
    simpa using q
  refine set_of_tuple (Z := fun h2 => ∃ L es ep t, SetTR P w h2 s.heap.objs.size L es ep t ∧ Got ks ks.length L ∧ ∀ b o, s.heap.get? b = some o → h2.get? b = some o) hot isT (fun B hB hu => ?_) fun h2 t2 ⟨L, es, ep, t, a, b, d⟩ => fin h2 t2 L es ep t a b d
  have lt : l < s.heap.objs.size := let ⟨_, og, _⟩ := isT; Heap.lt_size og
  have gone : ∀ b, s.heap.objs.size ≤ b → s.heap.get? b = none := fun b hb => Heap.get?_none_of_le hb
  have up : ∀ b o, s.heap.get? b = some o → ((s.heap.push (bareSet w)).push (seqIt "tuple_iterator" l)).get? b = some o := fun b o e => Heap.get?_push_of_some _ (Heap.get?_push_of_some _ e)
  have isT2 : ((s.heap.push (bareSet w)).push (seqIt "tuple_iterator" l)).IsTuple l items := let ⟨o, og, q⟩ := isT; ⟨o, up _ _ og, q⟩
  have hneI : l ≠ (s.heap.push (bareSet w)).objs.size := by
    rw [Heap.size_push]; exact Nat.ne_of_lt (Nat.lt_succ_of_lt lt)
  have apart : s.heap.objs.size ∉ [(s.heap.push (bareSet w)).objs.size, l] := by
    rw [Heap.size_push]
    simp only [List.mem_cons, List.not_mem_nil, or_false, not_or]
    exact ⟨Nat.ne_of_lt (Nat.lt_succ_self _), Nat.ne_of_gt lt⟩
  refine set_update_tups (A := B) (s := { s with heap := (s.heap.push (bareSet w)).push (seqIt "tuple_iterator" l) }) (Walks.tuple (A := B.in1) (by simp [hB]) (s.heap.push (bareSet w)).objs.size l hneI items).toS s.heap.objs.size apart ks sz few (fun i v hv => ?_) s.heap each (gone _ (Nat.le_refl _))
    (fun b hb => gone b ?_) (Nat.lt_of_le_of_lt hu room) (items.size - 0) 0 (by omega) (Nat.zero_le _) ?_ up ?_ ?_
  · have q : items.toList[i]? = some v := by rw [Array.getElem?_toList]; exact hv
    rw [its, List.getElem?_map] at q
    cases hq : ks[i]? with
    | none => rw [hq] at q; cases q
    | some p => rw [hq] at q; exact ⟨p, rfl, (Option.some.inj q).symm⟩
  · rw [List.mem_singleton.mp hb, Heap.size_push]; exact Nat.le_succ _
  · exact ⟨⟨_, Heap.get?_push_size _ rfl, rfl, rfl⟩, isT2⟩
  · exact ⟨[], #[], 0, _, setTR_fresh (Heap.get?_push_of_some _ (Heap.get?_push_size _ rfl)), Got.zero ks⟩
  · intro s2 L es ep t hm a b d
    rw [sz] at b
    obtain ⟨h2, g2, d2, t2, o2⟩ := s2
    have eg : g2 = s.gens := hm.gens
    have ed : d2 = s.drawn := hm.drawn
    have eo : o2 = s.os := hm.os
    subst eg ed eo
    exact ⟨rfl, h2, t2, rfl, L, es, ep, t, a, b, d⟩
end
section
variable {X : Cx}
def rSetTT (K : PySem.W.Frag) (P : Program) (w : World) : List V → Hp → VK → Prop := fun xs H Q => ∃ (l : Addr) (ks : List (Addr × List Int)), xs = [V.ref l] ∧ SqT K H l (ks.map fun p => V.ref p.1) ∧ (∀ p ∈ ks, SqT K H p.1 (p.2.map V.int)) ∧ ks.length < 64 ∧
  ∀ a L, H a = none → (∀ p ∈ L, p ∈ ks) → (∀ p ∈ ks, p.2 ∈ L.map (·.2)) → Q (.ref a) (upd H a (SetTO P w a L))
theorem cr_setTT (hc : X.calm = true) (hu : X.A.units + 64 < cLine) : CallR X (.type "set") (rSetTT X.K X.prog X.w) := by
  intro pins s σ H xs us Q I r ⟨l, ks, ex, hl, hk, hf, q⟩
  subst ex
  rw [Vals.ref1 r]
  obtain ⟨its, rv, pl, hz⟩ := I.tuple hl
  have fresh : H s.heap.objs.size = none := I.hok.fresh (Nat.le_refl _)
  refine set_tup_tups (P := X.prog) (w := X.w) ks (I.ok.hd hc) pl (by simpa using refs_of_vals rv) (fun p hp => I.isT (hk p hp)) hf (by omega) fun h2 t2 L es ep t R g k => ?_
  exact ⟨.ref s.heap.objs.size, _, I.laid (t' := t2) k (Nat.le_refl _) (setTO_new R.t0), rfl, q _ L fresh (fun p hp => List.mem_of_mem_take (g.sub p hp)) fun p hp => g.all p (by rw [List.take_length]; exact hp)⟩
/-- set(t), t a tuple of ints -/
def rSetTI (K : PySem.W.Frag) (w : World) : List V → Hp → VK → Prop := fun xs H Q => ∃ (l : Addr) (ns : List Int), xs = [V.ref l] ∧ SqT K H l (ns.map V.int) ∧ ns.length < 64 ∧
  ∀ a n, H a = none → n ≤ ns.length → Q (.ref a) (upd H a (SetO w a (fun j => decide (j ∈ ns)) n))
theorem cr_setTI (hc : X.calm = true) : CallR X (.type "set") (rSetTI X.K X.w) := by
  intro pins s σ H xs us Q I r ⟨l, ns, ex, hl, hf, q⟩
  subst ex
  rw [Vals.ref1 r]
  obtain ⟨its, rv, pl, hz⟩ := I.tuple hl
  refine call_set_tupI ns (I.ok.hd hc) pl (by simpa using rv.ints) (by unfold scanBound; omega) fun h2 t2 n R le k => ?_
  exact ⟨.ref s.heap.objs.size, _, I.laid (t' := t2) k (Nat.le_refl _) (setO_new R), rfl, q _ n (I.hok.fresh (Nat.le_refl _)) le⟩
end
/-! ### the mathematics: a rising list is the sorted set -/
theorem insI_mem (x : Int) : ∀ (l : List Int) (z : Int), z ∈ insI x l ↔ z = x ∨ z ∈ l
  | [], z => by simp [insI]
  | y :: r, z => by
    unfold insI
    split
    · rename_i h; subst h; simp
    · split
      · simp
      · rw [List.mem_cons, insI_mem x r z, List.mem_cons]
        constructor
        · rintro (h | h | h)
          · exact .inr (.inl h)
          · exact .inl h
          · exact .inr (.inr h)
        · rintro (h | h | h)
          · exact .inr (.inl h)
          · exact .inl h
          · exact .inr (.inr h)
theorem insI_rise (x : Int) : ∀ (l : List Int), l.Pairwise (· < ·) → (insI x l).Pairwise (· < ·)
  | [], _ => by simp [insI]
  | y :: r, h => by
    unfold insI
    obtain ⟨h1, h2⟩ := List.pairwise_cons.mp h
    split
    · exact h
    · split
      · rename_i hne hlt
        refine List.pairwise_cons.mpr ⟨fun z hz => ?_, h⟩
        rcases List.mem_cons.mp hz with rfl | hz
        · exact hlt
        · exact Int.lt_trans hlt (h1 z hz)
      · rename_i hne hlt
        refine List.pairwise_cons.mpr ⟨fun z hz => ?_, insI_rise x r h2⟩
        rcases (insI_mem x r z).mp hz with rfl | hz
        · omega
        · exact h1 z hz
theorem sortI_mem : ∀ (l : List Int) (z : Int), z ∈ sortI l ↔ z ∈ l
  | [], z => by simp [sortI]
  | x :: l, z => by
    show z ∈ insI x (sortI l) ↔ _
    rw [insI_mem, sortI_mem l z, List.mem_cons]
theorem sortI_rise : ∀ (l : List Int), (sortI l).Pairwise (· < ·)
  | [] => List.Pairwise.nil
  | x :: l => insI_rise x _ (sortI_rise l)
theorem rise_unique : ∀ (a b : List Int), a.Pairwise (· < ·) → b.Pairwise (· < ·) → (∀ z, z ∈ a ↔ z ∈ b) → a = b
  | [], [], _, _, _ => rfl
  | [], y :: b, _, _, h => absurd ((h y).mpr List.mem_cons_self) (by simp)
  | x :: a, [], _, _, h => absurd ((h x).mp List.mem_cons_self) (by simp)
  | x :: a, y :: b, ha, hb, h => by
    obtain ⟨a1, a2⟩ := List.pairwise_cons.mp ha
    obtain ⟨b1, b2⟩ := List.pairwise_cons.mp hb
    have e : x = y := by
      rcases List.mem_cons.mp ((h x).mp List.mem_cons_self) with e | e
      · exact e
      · rcases List.mem_cons.mp ((h y).mpr List.mem_cons_self) with e' | e'
        · exact e'.symm
        · have := a1 y e'
          have := b1 x e
          omega
    subst e
    rw [rise_unique a b a2 b2 fun z => ?_]
    constructor
    · intro hz
      rcases List.mem_cons.mp ((h z).mp (List.mem_cons_of_mem _ hz)) with e | e
      · have := a1 z hz; omega
      · exact e
    · intro hz
      rcases List.mem_cons.mp ((h z).mpr (List.mem_cons_of_mem _ hz)) with e | e
      · have := b1 z hz; omega
      · exact e
/-! tuples: the order of two ints -/
theorem lexLt_irrefl : ∀ l : List Int, lexLt l l = false
  | [] => rfl
  | x :: l => by unfold lexLt; rw [if_pos rfl, lexLt_irrefl l]
theorem lexLt_trans : ∀ {a b d : List Int}, lexLt a b = true → lexLt b d = true → lexLt a d = true
  | [], [], d, h, _ => by cases h
  | [], y :: b, [], _, h => by cases h
  | [], y :: b, z :: d, _, _ => rfl
  | x :: a, [], d, h, _ => by cases h
  | x :: a, y :: b, [], _, h => by cases h
  | x :: a, y :: b, z :: d, h, k => by
    unfold lexLt at h k ⊢
    by_cases hxy : x = y
    · subst hxy
      rw [if_pos rfl] at h
      by_cases hxz : x = z
      · subst hxz
        rw [if_pos rfl] at k ⊢
        exact lexLt_trans h k
      · rw [if_neg hxz] at k ⊢
        exact k
    · rw [if_neg hxy] at h
      have h1 : x < y := of_decide_eq_true h
      by_cases hyz : y = z
      · subst hyz
        rw [if_neg hxy]
        exact h
      · rw [if_neg hyz] at k
        have h2 : y < z := of_decide_eq_true k
        rw [if_neg (by omega)]
        exact decide_eq_true (by omega)
theorem lexLt_tri : ∀ (a b : List Int), a ≠ b → lexLt a b = false → lexLt b a = true
  | [], [], h, _ => absurd rfl h
  | [], y :: b, _, h => by cases h
  | x :: a, [], _, _ => rfl
  | x :: a, y :: b, hne, h => by
    unfold lexLt at h ⊢
    by_cases hxy : x = y
    · subst hxy
      rw [if_pos rfl] at h ⊢
      exact lexLt_tri a b (fun e => hne (by rw [e])) h
    · rw [if_neg hxy] at h
      rw [if_neg (fun e => hxy e.symm)]
      have := of_decide_eq_false h
      exact decide_eq_true (by omega)
theorem insT_mem (x : List Int) : ∀ (l : List (List Int)) (z : List Int), z ∈ insT x l ↔ z = x ∨ z ∈ l
  | [], z => by simp [insT]
  | y :: r, z => by
    unfold insT
    split
    · rename_i h; subst h; simp
    · split
      · simp
      · rw [List.mem_cons, insT_mem x r z, List.mem_cons]
        constructor
        · rintro (h | h | h)
          · exact .inr (.inl h)
          · exact .inl h
          · exact .inr (.inr h)
        · rintro (h | h | h)
          · exact .inr (.inl h)
          · exact .inl h
          · exact .inr (.inr h)
abbrev RiseT (l : List (List Int)) : Prop := l.Pairwise fun a b => lexLt a b = true
theorem insT_rise (x : List Int) : ∀ (l : List (List Int)), RiseT l → RiseT (insT x l)
  | [], _ => by simp [insT]
  | y :: r, h => by
    unfold insT
    obtain ⟨h1, h2⟩ := List.pairwise_cons.mp h
    split
    · exact h
    · split
      · rename_i hne hlt
        refine List.pairwise_cons.mpr ⟨fun z hz => ?_, h⟩
        rcases List.mem_cons.mp hz with rfl | hz
        · exact hlt
        · exact lexLt_trans hlt (h1 z hz)
      · rename_i hne hlt
        refine List.pairwise_cons.mpr ⟨fun z hz => ?_, insT_rise x r h2⟩
        rcases (insT_mem x r z).mp hz with rfl | hz
        · exact lexLt_tri _ _ hne (by simpa using hlt)
        · exact h1 z hz
theorem sortT_mem : ∀ (l : List (List Int)) (z : List Int), z ∈ sortT l ↔ z ∈ l
  | [], z => by simp [sortT]
  | x :: l, z => by
    show z ∈ insT x (sortT l) ↔ _
    rw [insT_mem, sortT_mem l z, List.mem_cons]
theorem sortT_rise : ∀ (l : List (List Int)), RiseT (sortT l)
  | [] => List.Pairwise.nil
  | x :: l => insT_rise x _ (sortT_rise l)
theorem riseT_unique : ∀ (a b : List (List Int)), RiseT a → RiseT b → (∀ z, z ∈ a ↔ z ∈ b) → a = b
  | [], [], _, _, _ => rfl
  | [], y :: b, _, _, h => absurd ((h y).mpr List.mem_cons_self) (by simp)
  | x :: a, [], _, _, h => absurd ((h x).mp List.mem_cons_self) (by simp)
  | x :: a, y :: b, ha, hb, h => by
    obtain ⟨a1, a2⟩ := List.pairwise_cons.mp ha
    obtain ⟨b1, b2⟩ := List.pairwise_cons.mp hb
    have no : ∀ {u v : List Int}, lexLt u v = true → lexLt v u = true → False := fun p q => by
      have := lexLt_trans p q
      rw [lexLt_irrefl] at this
      cases this
    have e : x = y := by
      rcases List.mem_cons.mp ((h x).mp List.mem_cons_self) with e | e
      · exact e
      · rcases List.mem_cons.mp ((h y).mpr List.mem_cons_self) with e' | e'
        · exact e'.symm
        · exact (no (a1 y e') (b1 x e)).elim
    subst e
    rw [riseT_unique a b a2 b2 fun z => ?_]
    constructor
    · intro hz
      rcases List.mem_cons.mp ((h z).mp (List.mem_cons_of_mem _ hz)) with e | e
      · have q := a1 z hz
        rw [e, lexLt_irrefl] at q; cases q
      · exact e
    · intro hz
      rcases List.mem_cons.mp ((h z).mpr (List.mem_cons_of_mem _ hz)) with e | e
      · have q := b1 z hz
        rw [e, lexLt_irrefl] at q; cases q
      · exact e
end Fe
set_option Elab.async false
set_option linter.all false
set_option maxRecDepth 100000
set_option maxHeartbeats 4000000
/-! sorted(set(x)), len(set(x)) as expressions. -/
namespace Fe
open PySem PySem.Spec PyProof.Rows L2
theorem tups_keys {K : PySem.W.Frag} {G : Hp} : ∀ {l : List D} {ts : List (List Int)} {vs : List V}, tupsOf l = some ts → Reps K G l vs →
    ∃ ks : List (Addr × List Int), vs = ks.map (fun p => V.ref p.1) ∧ ts = ks.map (·.2) ∧ ∀ p ∈ ks, SqT K G p.1 (p.2.map V.int)
  | [], ts, vs, h, r => by
    cases h
    rw [reps_nil.mp r]
    exact ⟨[], rfl, rfl, fun p hp => by cases hp⟩
  | .tup x :: l, ts, vs, h, r => by
    obtain ⟨v, q, rfl, h2, h3⟩ := reps_cons.mp r
    obtain ⟨ns, e1, h⟩ := Option.bind_eq_some_iff.mp (show ((intsOf x).bind fun ns => (tupsOf l).map (ns :: ·)) = some ts from h)
    obtain ⟨ms, e2, rfl⟩ := Option.map_eq_some_iff.mp h
    obtain ⟨a, ws, rfl, h4, h5⟩ := rep_tup.mp h2
    obtain ⟨ks, rfl, rfl, h6⟩ := tups_keys e2 h3
    rw [h5.ints e1] at h4
    refine ⟨(a, ns) :: ks, rfl, rfl, fun p hp => ?_⟩
    rcases List.mem_cons.mp hp with rfl | hp
    · exact h4
    · exact h6 p hp
  | .non :: _, _, _, h, _ => by cases h
  | .bl _ :: _, _, _, h, _ => by cases h
  | .int _ :: _, _, _, h, _ => by cases h
  | .str _ :: _, _, _, h, _ => by cases h
  | .lst _ :: _, _, _, h, _ => by cases h
theorem keys_reps {K : PySem.W.Frag} {G : Hp} : ∀ (ks : List (Addr × List Int)), (∀ p ∈ ks, SqT K G p.1 (p.2.map V.int)) → Reps K G ((ks.map (·.2)).map ofTup) (ks.map fun p => V.ref p.1)
  | [], _ => reps_nil.mpr rfl
  | p :: ks, h => reps_cons.mpr ⟨_, _, rfl, rep_tup.mpr ⟨p.1, _, rfl, h p List.mem_cons_self, reps_ints p.2⟩, keys_reps ks fun q hq => h q (List.mem_cons_of_mem _ hq)⟩
theorem bdd_of {d : Nat} {ts : List (List Int)} (h : bdd d ts = true) {ns : List Int} (hn : ns ∈ ts) : ns.length = d ∧ TS.Bd 64 ns := by
  have q := List.all_eq_true.mp h ns hn
  obtain ⟨q1, q2⟩ := Bool.and_eq_true_iff.mp q
  exact ⟨of_decide_eq_true q1, fun m hm => of_decide_eq_true (List.all_eq_true.mp q2 m hm)⟩
/-- by the code, two different pairs stand in the order of tuples -/
theorem code_lex {a b : List Int} (ha : a.length = 2 ∧ TS.Bd 64 a) (hb : b.length = 2 ∧ TS.Bd 64 b) (h : TS.code 64 a ≤ TS.code 64 b) (ne : a ≠ b) : lexLt a b = true := by
  obtain ⟨x, y, rfl⟩ : ∃ x y, a = [x, y] := by
    match a, ha.1 with
    | [x, y], _ => exact ⟨x, y, rfl⟩
  obtain ⟨u, v, rfl⟩ : ∃ x y, b = [x, y] := by
    match b, hb.1 with
    | [x, y], _ => exact ⟨x, y, rfl⟩
  have := pair_lt h ne (ha.2 x (by simp)) (ha.2 y (by simp)) (hb.2 u (by simp)) (hb.2 v (by simp))
  unfold lexLt lexLt
  rcases this with hh | ⟨rfl, hh⟩
  · rw [if_neg (by omega)]; exact decide_eq_true hh
  · rw [if_pos rfl, if_neg (by omega)]; exact decide_eq_true hh
theorem sorted_keys {ks L L' : List (Addr × List Int)} {d : Nat} (hb : bdd 2 (ks.map (·.2)) = true) (h1 : ∀ p ∈ L, p ∈ ks) (h2 : ∀ p ∈ ks, p.2 ∈ L.map (·.2)) (pm : L'.Perm L) (nd : (L'.map (·.2)).Nodup) (pw : L'.Pairwise fun q r => TS.code 64 q.2 ≤ TS.code 64 r.2) :
    sortT (ks.map (·.2)) = L'.map (·.2) := by
  have inb : ∀ p ∈ L', p.2.length = 2 ∧ TS.Bd 64 p.2 := fun p hp => bdd_of hb (List.mem_map.mpr ⟨p, h1 p (pm.mem_iff.mp hp), rfl⟩)
  have rise : RiseT (L'.map (·.2)) := by
    have nd' : L'.Pairwise fun q r => q.2 ≠ r.2 := List.pairwise_map.mp nd
    refine List.pairwise_map.mpr ?_
    have both := pw.and nd'
    refine both.imp_of_mem fun {a b} ha hb ⟨q1, q2⟩ => code_lex (inb a ha) (inb b hb) q1 q2
  refine riseT_unique _ _ (sortT_rise _) rise fun z => ?_
  rw [sortT_mem]
  constructor
  · intro hz
    obtain ⟨p, hp, rfl⟩ := List.mem_map.mp hz
    obtain ⟨q, hq, e⟩ := List.mem_map.mp (h2 p hp)
    exact List.mem_map.mpr ⟨q, pm.mem_iff.mpr hq, e⟩
  · intro hz
    obtain ⟨p, hp, rfl⟩ := List.mem_map.mp hz
    exact List.mem_map.mpr ⟨p, h1 p (pm.mem_iff.mp hp), rfl⟩
section
variable {X : Cx} {B : Bs} {c : Ct B} {W : WX} {e : Expr} {fe : M D} {pos p p2 q : Pos}
theorem rc_sortT {G H : Hp} {l : List D} {z : D} {vs : List V} {Q : VK} {H1 : Hp} {a : Addr} {L ks : List (Addr × List Int)} (s : Same G H) (n : NT G) (hz : dSortT l = some z) (r : Reps B.K G l vs) (ev : vs = ks.map fun p => V.ref p.1) (ek : tupsOf l = some (ks.map (·.2)))
    (hk : ∀ p ∈ ks, SqT B.K G p.1 (p.2.map V.int)) (ha : H a = none) (h1 : ∀ p ∈ L, p ∈ ks) (h2 : ∀ p ∈ ks, p.2 ∈ L.map (·.2)) (k : ∀ v H' G', New G H G' H' → Rep B.K G' z v → Q v H') :
    rSortedT B.K X.prog X.w [.ref a] (upd H a (SetTO X.prog X.w a L)) Q := by
  have su : Same G (upd H a (SetTO X.prog X.w a L)) := s.trans (same_upd ha)
  have hz' : (if bdd 2 (ks.map (·.2)) then some (D.lst ((sortT (ks.map (·.2))).map ofTup)) else none) = some z := by
    unfold dSortT at hz
    rw [ek] at hz
    exact hz
  split at hz'
  · rename_i hb
    cases hz'
    refine ⟨a, L, 2, 64, rfl, upd_same, fun p hp => sqT_up su (hk p (h1 p hp)), by decide, fun p hp => bdd_of hb (List.mem_map.mpr ⟨p, h1 p hp, rfl⟩), fun L' p pm nd _ pw hp => ?_⟩
    have e := sorted_keys (d := 2) hb h1 h2 pm nd pw
    have hpa : p ≠ a := fun z => by subst z; rw [upd_same] at hp; cases hp
    have hpH : H p = none := by rw [upd_ne hpa] at hp; exact hp
    have N : New G H (upd G p (.lst (L'.map fun q => V.ref q.1))) (upd (upd H a (SetTO X.prog X.w a L)) p (.lst (L'.map fun q => V.ref q.1))) :=
      ⟨same_upd (s.free hpH), same_upds su, (same_upd ha).trans (same_upd hp), fun b ps e => by
        by_cases hb : b = p
        · subst hb; rw [upd_same] at e; cases e
        · rw [upd_ne hb] at e; exact n b ps e, fun b hb => by
        by_cases hbp : b = p
        · subst hbp; exact .inr hpH
        · rw [upd_ne hbp] at hb; exact .inl hb⟩
    refine k _ _ _ N (rep_lst.mpr ⟨p, _, rfl, .inl (.inl upd_same), Reps.mono N.gg ?_⟩)
    rw [e]
    exact keys_reps L' fun q hq => hk q (h1 q (pm.mem_iff.mp hq))
  · cases hz'
theorem new_two {G H : Hp} {a p : Addr} {o u : HO} (s : Same G H) (n : NT G) (ha : H a = none) (hp : upd H a o p = none) (hu : ∀ ps, u ≠ .tbl ps) : New G H (upd G p u) (upd (upd H a o) p u) := by
  have hpa : p ≠ a := fun z => by subst z; rw [upd_same] at hp; cases hp
  have hpH : H p = none := by rw [upd_ne hpa] at hp; exact hp
  exact ⟨same_upd (s.free hpH), same_upds (s.trans (same_upd ha)), (same_upd ha).trans (same_upd hp), fun b ps e => by
    by_cases hb : b = p
    · subst hb; rw [upd_same] at e; exact hu ps (Option.some.inj e)
    · rw [upd_ne hb] at e; exact n b ps e, fun b hb => by
    by_cases hbp : b = p
    · subst hbp; exact .inr hpH
    · rw [upd_ne hbp] at hb; exact .inl hb⟩
theorem e_sortSet {k : Nat} (hc : X.calm = true) (hr : Room k X.A) (hm : X.mg "sorted" = none) (hm2 : X.mg "set" = none) (h : PE X e (dE c W fe)) (hK : B.K = X.K := by rfl) (hg : Gl X "sorted" := by rfl) (hg2 : Gl X "set" := by rfl)
    (hse : starEach [e] X.env = (false, eval e X.env) :: starEach [] X.env := by rfl) (hs2 : starEach [.Call (.Name "set" p2) [e] [] q] X.env = (false, eval (.Call (.Name "set" p2) [e] [] q) X.env) :: starEach [] X.env := by rfl) :
    PE X (.Call (.Name "sorted" p) [.Call (.Name "set" p2) [e] [] q] [] pos) (dE c W (op1 dSortSet fe)) :=
  peI (pe_callB ((cr_sortedSet hc).or (cr_sortedT hc)) hg hm (by decide +kernel) (pa_cons (pe_callTy ((cr_setTI hc).or ((cr_setTT hc hr.units).or (cr_setOfT hc hr.units))) hg2 hm2 (by decide +kernel) (pa_cons h pa_nil hse) (he := hse)) pa_nil hs2) (he := hs2)) fun σ H Q h => (den_bnd h).imp fun v H1 ⟨G1, ρ1, d, g1, rx, p1⟩ => by
    obtain ⟨z, hz, p3⟩ := post_lft p1
    have fin : ∀ v H' G', New G1 H1 G' H' → Rep B.K G' z v → Q v H' := fun u H' G' n rz => p3 u H' G' n.gg (g1.ext n) rz
    cases d <;> first | (cases hz; done) | skip
    · rename_i l
      obtain ⟨a, vs, rfl, h1, h2⟩ := rep_lst.mp rx
      simp only [dSortSet] at hz
      split at hz
      · rename_i hlen
        have ⟨ts, ht, _⟩ := Option.bind_eq_some_iff.mp hz
        obtain ⟨ks, ek, et, hk⟩ := tups_keys ht h2
        subst et
        rw [ek] at h1
        have hlk : ks.length < 64 := by
          have := h2.len
          rw [ek, List.length_map] at this
          omega
        refine .inr (.inr ⟨a, ks, rfl, by rw [← hK]; exact sqL_up g1.gh h1, fun p hp => by rw [← hK]; exact sqT_up g1.gh (hk p hp), hlk, fun b L hb q1 q2 => .inr ?_⟩)
        rw [← hK]
        exact rc_sortT (X := X) (H1 := H1) g1.gh g1.nt hz h2 ek ht hk hb q1 q2 fin
      · cases hz
    · rename_i l
      obtain ⟨a, vs, rfl, h1, h2⟩ := rep_tup.mp rx
      simp only [dSortSet] at hz
      split at hz
      · rename_i hlen
        cases hi : intsOf l with
        | some ns =>
          rw [hi] at hz
          cases hz
          have ev := h2.ints hi
          rw [ev] at h1
          have hln : ns.length < 64 := by
            have := h2.len
            rw [ev, List.length_map] at this
            omega
          refine .inl ⟨a, ns, rfl, by rw [← hK]; exact sqT_up g1.gh h1, hln, fun b n hb hn => .inl ⟨b, _, n, rfl, upd_same, by omega, fun ms p pw hm hl hp => ?_⟩⟩
          have e : ms = sortI ns := rise_unique _ _ pw (sortI_rise _) fun z => by
            rw [hm z, sortI_mem]
            simp
          have N := new_two (u := .lst (ms.map V.int)) g1.gh g1.nt hb hp (fun ps z => by cases z)
          refine fin _ _ _ N (rep_lst.mpr ⟨p, _, rfl, .inl (.inl upd_same), ?_⟩)
          rw [e]
          exact reps_ints _
        | none =>
          rw [hi] at hz
          have ⟨ts, ht, _⟩ := Option.bind_eq_some_iff.mp hz
          obtain ⟨ks, ek, et, hk⟩ := tups_keys ht h2
          subst et
          rw [ek] at h1
          have hlk : ks.length < 64 := by
            have := h2.len
            rw [ek, List.length_map] at this
            omega
          refine .inr (.inl ⟨a, ks, rfl, by rw [← hK]; exact sqT_up g1.gh h1, fun p hp => by rw [← hK]; exact sqT_up g1.gh (hk p hp), hlk, fun b L hb q1 q2 => .inr ?_⟩)
          rw [← hK]
          exact rc_sortT (X := X) (H1 := H1) g1.gh g1.nt hz h2 ek ht hk hb q1 q2 fin
      · cases hz
theorem firstMet_ok (ns : List Int) : ∀ i, i ≤ ns.length → (firstMet (fun i => ns.getD i 0) i).Nodup ∧ ∀ z, z ∈ firstMet (fun i => ns.getD i 0) i ↔ z ∈ ns.take i
  | 0, _ => ⟨by rw [firstMet_zero]; exact List.nodup_nil, fun z => by rw [firstMet_zero]; simp⟩
  | i + 1, h => by
    obtain ⟨h1, h2⟩ := firstMet_ok ns i (by omega)
    have hg : ns[i]? = some (ns.getD i 0) := by
      rw [List.getElem?_eq_getElem (by omega), List.getD_eq_getElem?_getD, List.getElem?_eq_getElem (by omega)]
      rfl
    have ht : ns.take (i + 1) = ns.take i ++ [ns.getD i 0] := by
      rw [List.take_add_one, hg]; rfl
    rw [firstMet_succ]
    unfold step_dedup
    by_cases hc : (firstMet (fun i => ns.getD i 0) i).any (· == ns.getD i 0) = true
    · rw [if_pos hc]
      refine ⟨h1, fun z => ?_⟩
      rw [h2 z, ht, List.mem_append]
      constructor
      · exact .inl
      · rintro (h | h)
        · exact h
        · obtain ⟨y, hy, e⟩ := List.any_eq_true.mp hc
          have e' : y = ns.getD i 0 := by simpa using e
          rw [List.mem_singleton.mp h, ← e']
          exact (h2 y).mp hy
    · rw [if_neg hc]
      have hn : ns.getD i 0 ∉ firstMet (fun i => ns.getD i 0) i := fun hm => hc (List.any_eq_true.mpr ⟨_, hm, by simp⟩)
      refine ⟨?_, fun z => ?_⟩
      · refine List.nodup_append.mpr ⟨h1, List.nodup_cons.mpr ⟨by simp, List.nodup_nil⟩, fun a ha b hb e => ?_⟩
        rw [List.mem_singleton.mp hb] at e
        exact hn (e ▸ ha)
      · rw [List.mem_append, h2 z, ht, List.mem_append]
theorem rise_nodup {l : List Int} (h : l.Pairwise (· < ·)) : l.Nodup := h.imp fun h => by omega
theorem e_lenSet (hc : X.calm = true) (hm : X.mg "len" = none) (hm2 : X.mg "set" = none) (h : PE X e (dE c W fe)) (hK : B.K = X.K := by rfl) (hg : Gl X "len" := by rfl) (hg2 : Gl X "set" := by rfl) (na : starEach [e] X.env = (false, eval e X.env) :: starEach [] X.env := by rfl) :
    PE X (.Call (.Name "len" p) [.Call (.Name "set" p2) [e] [] q] [] pos) (dE c W (op1 dLenSet fe)) := by
  refine ⟨fun pins s σ H Q I w0 => ?_⟩
  refine Call_ (ld_blt I hg hm PySem.boot_len (callWith_builtin1 (args_cons (Call_ (ld_blt I hg2 hm2 boot_set ?_)) rfl) rfl rfl))
  refine callWith_type1 (args_cons (thn (h.run pins s σ H _ I (den_bnd w0)) fun v s1 ⟨x, H1, I1, r1, G1, ρ1, d, g1, rx, p1⟩ => args_nil ?_) na) na rfl
  obtain ⟨z, hz, p3⟩ := post_lft p1
  cases d <;> first | (cases hz; done) | skip
  rename_i l
  simp only [dLenSet] at hz
  split at hz
  · rename_i hlen
    obtain ⟨ns, hi, rfl⟩ := Option.map_eq_some_iff.mp hz
    obtain ⟨a, vs, rfl, h1, h2⟩ := rep_lst.mp rx
    have ev := h2.ints hi
    rw [ev, hK] at h1
    obtain rfl : v = Value.ref a := r1
    obtain ⟨its, rv, pl, hz⟩ := I1.list (sqL_up g1.gh h1)
    have hl : its.toArray.size = ns.length := by rw [List.size_toArray, ← rv.length, List.length_map]
    have hln : ns.length = l.length := by
      have := h2.len
      rw [ev, List.length_map] at this
      exact this
    refine call_set_list (I1.ok.hd hc) pl.isList (ns := ns) (by simpa using rv.ints) (by unfold scanBound; omega) fun h2 t2 hS hk => args_nil ?_
    rw [hl] at hS
    obtain ⟨f1, f2⟩ := firstMet_ok ns ns.length (Nat.le_refl _)
    have e : (firstMet (fun i => ns.getD i 0) ns.length).length = (sortI ns).length := by
      refine List.Perm.length_eq ((List.perm_ext_iff_of_nodup f1 (rise_nodup (sortI_rise ns))).mpr fun z => ?_)
      rw [f2 z, List.take_length, sortI_mem]
    rw [e] at hS
    have le : (sortI ns).length ≤ ns.length := by rw [← e]; exact firstMet_length_le _ _
    obtain ⟨o, es, ep, t, ho, hex, hd, _, _, _, hf, hn⟩ := hS
    have I2 : Inv X pins σ H1 { s1 with heap := h2, toks := t2 } := I1.kept fun b o e => hk b o (Heap.lt_size e) e
    exact call_len_set ho hex hd hf (by rw [hn]; omega) ⟨.int (sortI ns).length, H1, I2.tok _, ⟨_, by rw [hn]⟩, g1.keep p3 (rep_int.mpr rfl)⟩
  · cases hz
end
end Fe
set_option Elab.async false
set_option linter.all false
set_option maxRecDepth 100000
set_option maxHeartbeats 4000000
/-! Errors: raised, refused. -/
namespace Fe
open PySem PySem.Spec PyProof.Rows L2
/-- what __init__ of an error's class does -/
def spInit (C : Addr) (fs : List Str) : Sp := fun vs H Q _ => ∃ (a : Addr) (ys : List V), vs = .ref a :: ys ∧ ys.length = fs.length ∧ H a = some (exo a C none) ∧
  ∀ d : Addr, H d = none → d ≠ a → Q .non (upd (upd H d (exd d (fs.zip ys).reverse)) a (exo a C (some d)))
/-- an error's class of the program -/
structure XCls (P : Program) (w : World) (B : Bs) (mg : Str → Option Value) (base : Heap) (k : Nat) (x : Str) (fs : List Str) (C : Addr) : Prop where
  ox : OexC B.K C
  xf : XfC B.K C
  no : ∀ f ∈ fs, PySem.W.findIn B.K (.ref C) f = some none
  gm : mg x = some (.ref C)
  bx : B.X x = some C
  em : PySem.W.exmOne B.K (.ref C) (.ref C) = some true
  ini : ∃ fI fd ps, PySem.W.findIn B.K (.ref C) "__init__" = some (some (.ref fI)) ∧ PySem.W.typeIn B.K (.ref fI) = some (.type "function") ∧ FnOk P w B.K mg base (L2.CX P w) k fI fd ps (spInit C fs) ∧ Binds B.K fd ps []
section
variable {P : Program} {w : World} {B : Bs} {mg : Str → Option Value} {base : Heap} {st : Stmt} {qual : Str} {f : Addr} {fd : FuncData} {C : Addr} {k : Nat}
/-- def __init__(self, name): self.name = name -/
theorem init1 {n1 : Str} {p1 p2 p3 p4 : Pos} (F0 : Fun B.K "__init__" qual st f fd) (S : FnScope [("self" : Str), n1] [("self" : Str), n1] (defScope st)) (T : OexC B.K C) (hno : PySem.W.findIn B.K (.ref C) n1 = some none)
    (hb : defBody st = [.Assign [.Attribute (.Name "self" p1) n1 p2] (.Name n1 p3) p4])
    (hb1 : ∀ (X : Cx), X.N = [("self" : Str), n1] → X.env.scope = defScope st → PE X (.Name n1 p3) (tVar 1)) (hb0 : ∀ (X : Cx), X.N = [("self" : Str), n1] → X.env.scope = defScope st → PE X (.Name "self" p1) (tVar 0)) (hsw : ∀ X : Cx, X.env.scope = defScope st → swapsWith (.Name n1 p3) (some (.Attribute (.Name "self" p1) n1 p2)) p4.line X.env = pure false) :
    FnOk P w B.K mg base (L2.CX P w) (k + 1) f fd [("self" : Str), n1] (spInit C [n1]) := by
  refine F0.okX S (fun vs H Q E ⟨a, ys, ev, hl, _⟩ => by rw [ev, List.length_cons, hl]; rfl) (fun cdv A outer s H vs Q E hr ⟨a, ys, ev, hl, ha, q⟩ => ?_)
  subst ev
  obtain ⟨y, rfl⟩ : ∃ y, ys = [y] := by
    match ys, hl with
    | [y], _ => exact ⟨y, rfl⟩
  rw [hb]
  refine ⟨_, pss_one (ps_ost (hb0 _ rfl rfl) (hb1 _ rfl rfl) (hsw _ rfl)), ?_⟩
  exact ⟨y, rfl, .ref a, rfl, a, C, rfl, T, hno, .inl ⟨ha, fun dx hd hne => q dx hd hne⟩⟩
end
section
variable {X : Cx} {B : Bs} {c : Ct B} {W : WX} {e : Expr} {es : List Expr} {fe : M D} {fa : M (List D)} {pos p p2 q : Pos} {x : Str} {fs : List Str} {C : Addr}
theorem s_raise {j k : Nat} (Z : XCls X.prog X.w B X.mg X.base j x fs C) (hK : B.K = X.K) (hc : X.calm = true) (tk : Takes X W) (hr : Room k X.A) (hj : j + 1 ≤ k) (ha : PA X (e :: es) (dA c W fa)) (hn : (e :: es).length = fs.length) (hlen : fs.length ≤ 1000) (hg : Gl X x := by rfl)
    (hdb : (x == ("__debug__" : Str)) = false := by decide) (he : starEach (e :: es) X.env = (false, eval e X.env) :: starEach es X.env := by rfl) (hpl : (backTo p2 (starEach es X.env)).any (·.1) = false := by rfl) :
    PS X (.Raise (some (.Call (.Name x p) (e :: es) [] p2)) none pos) (dS c W (rse x fs fa)) := by
  obtain ⟨fI, fd, ps, iC, tI, F1, hb⟩ := Z.ini
  have ox := Z.ox
  rw [hK] at ox iC tI F1 hb
  refine psI (ps_raise hc tk (pmk_oex ox iC tI F1 (hr.mono hj) hb .nil passL hg Z.gm ha hdb he hpl)) fun E σ H ⟨G, ρ, gd, h⟩ => ?_
  refine (posts_bnd gd h).imp fun vs H1 ⟨G1, ρ1, l, s1, g1, r1, h1⟩ => ?_
  by_cases hl : l.length = fs.length
  case neg => rw [if_neg hl] at h1; exact False.elim h1
  rw [if_pos hl] at h1
  have hvl : vs.length = fs.length := by rw [Reps.len r1, hl]
  refine ⟨by omega, fun a ha => ⟨a, vs, by rw [List.append_nil], hvl, upd_same, fun d hd hne => ⟨rfl, d, (fs.zip vs).reverse, upd_same, ?_, ?_, ?_⟩⟩⟩
  · rw [upd_ne hne, upd_same]
  · rw [upd_ne hne] at hd; exact hd
  · have hdH : H1 d = none := by rw [upd_ne hne] at hd; exact hd
    have eq : upd (L2.del (upd (upd (upd H1 a (exo a C none)) d (exd d (fs.zip vs).reverse)) a (exo a C (some d))) a) d (.xd (fs.zip vs).reverse) = upd H1 d (.xd (fs.zip vs).reverse) := by
      funext b
      by_cases hbd : b = d
      · rw [hbd, upd_same, upd_same]
      · rw [upd_ne hbd, upd_ne hbd]
        by_cases hba : b = a
        · rw [hba, L2.del_same, ha]
        · rw [L2.del_ne hba, upd_ne hba, upd_ne hbd, upd_ne hba]
    rw [eq]
    have N : New G1 H1 G1 (upd H1 d (.xd (fs.zip vs).reverse)) := ⟨Same.refl _, g1.gh.trans (same_upd hdH), same_upd hdH, g1.nt, fun _ h => .inl h⟩
    refine h1 σ (.ref C) (some d) _ G1 (Same.refl _) (g1.ext N) ⟨C, d, (fs.zip vs).reverse, Z.bx, rfl, rfl, upd_same, ?_, ?_⟩
    · rw [List.map_reverse, List.map_reverse, List.map_fst_zip (by omega), List.map_fst_zip (by omega)]
    · rw [List.map_reverse, List.map_reverse, List.map_snd_zip (by omega), List.map_snd_zip (by omega)]
      have rev : ∀ {l : List D} {vs : List V}, Reps B.K G1 l vs → Reps B.K G1 l.reverse vs.reverse := by
        intro l
        induction l with
        | nil => intro vs h; rw [reps_nil.mp h]; exact reps_nil.mpr rfl
        | cons d l ih =>
          intro vs h
          obtain ⟨v, r, rfl, h2, h3⟩ := reps_cons.mp h
          rw [List.reverse_cons, List.reverse_cons]
          exact (ih h3).append (reps_cons.mpr ⟨_, _, rfl, h2, reps_nil.mpr rfl⟩)
      exact rev r1
end
end Fe
set_option Elab.async false
set_option linter.all false
set_option maxRecDepth 100000
set_option maxHeartbeats 4000000
/-! _law_refused(lambda: e): the field of the error that e raises, "" if it raises none. -/
namespace Fe
open PySem PySem.Spec PyProof.Rows L2
/-- what the def makes of what it gets -/
def TRef (C : Addr) (fld : Str) : (XK → Hp → VK → Prop) → Hp → VK → Prop := fun tl H Q =>
  tl (fun cls d H' => cls = .ref C ∧ ∃ dd fs v, d = some dd ∧ H' dd = some (.xd fs) ∧ fs.lookup fld = some v ∧ Q v H') H fun _ H' => Q (.str "") H'
section
variable {X : Cx}
/-- where an error flies, the slots are as many as the names -/
theorem takes_len {W : WX} (tk : Takes X W) : Takes X (fun cls d σ H => σ.length = X.N.length → W cls d σ H) := fun u s' ⟨a, B, sI, pins, σ, H, cls, d, e, I, nb, up, sky, na, os, ag, w⟩ =>
  tk u s' ⟨a, B, sI, pins, σ, H, cls, d, e, I, nb, up, sky, na, os, ag, w I.len⟩
theorem ref_gives {Ng : List Str} {x a n xn q fld : Str} {sg : Scope} {g C : Addr} {cdg : Value} {i j : Nat} {p1 p2 p3 p4 p5 p6 p7 p8 p9 p10 p11 : Pos} (S : FnScope Ng [a] sg) (hge : sg.names.lookup xn = some .globalImplicit) (hme : X.mg xn = some (.ref C)) (hde : (xn == ("__debug__" : Str)) = false)
    (hi : Ng[i]? = some n) (hln : sg.names.lookup n = some .local) (h0 : ∀ f : Addr, (L2.start Ng [V.ref f])[0]? = some (some (V.ref f))) (hni : ∀ f : Addr, i < (L2.start Ng [V.ref f]).length) (T : XfC X.K C) (hno : PySem.W.findIn X.K (.ref C) fld = some none) (em : PySem.W.exmOne X.K (.ref C) (.ref C) = some true)
    (hnd : (n == ("__debug__" : Str)) = false) (hnc : (n == ("__classdict__" : Str)) = false) (hi0 : i ≠ 0)
    (hsw : ∀ env : PySem.Env, swapsWith (.Call (.Name a p1) [] [] p2) none p3.line env = pure false) (hbase : ∀ env : PySem.Env, attributeBase (.Name n p6) fld env (eval (.Name n p6) env) = eval (.Name n p6) env) :
    LamX.GivesTo X Ng x sg g cdg [.Try [.Expr (.Call (.Name a p1) [] [] p2) p3] [.ExceptHandler (some (.Name xn p4)) (some n) [.Return (some (.Attribute (.Name n p6) fld p5)) p7] p8] [] [] p9, .Return (some (.Constant (.str "") j p11)) p10] a q (TRef C fld) := by
  intro f c' s H Q tl act hc h
  have vis : Vis sg n := .inl hln
  refine ⟨_, pss_cons (ps_try_as (X := (cxOf C8.CX0 X.prog X.w X.K X.mg X.base Ng x sg g cdg X.A X.stack s H C8.E0).nox) (c := .ref C) (i := i) (Wout := fun _ _ _ _ => False)
      (tb := fun W D σ H => ∃ Ech : XK, (∀ cls d σ' H', Ech cls d H' → σ'.length = Ng.length → W cls d σ' H') ∧ σ[0]? = some (some (.ref f)) ∧ H c' = some (LamX.CodeO c' q) ∧ tl Ech H fun _ H' => D.nx σ H')
      (ts := fun a0 cls d => tRet (tXf a0 cls d C fld (tVar i))) rfl rfl S.nd hi hln ⟨hge, hde, .inl hme⟩ L2.takes0 (fun W pn xe tk _ => ?_) (fun a0 oe cls d pn hz hf => ?_))
    (pss_one (ps_ret pe_str)), ?_⟩
  · refine ⟨fun pins s' σ H' D I h' => ?_⟩
    obtain ⟨Ech, hW, h1, h2, h3⟩ := h'
    exact (pss_one (ps_expr (pos := p3) (act _ pn xe Ech p1 p2 (takes_len tk) hW) (hsw _))).run pins s' σ H' D I ⟨h1, h2, h3⟩
  · exact pss_one (ps_ret (pe_xf T hno hz hf (pe_var (X := Cx.suite _ a0 ((a0, oe) :: pn)) (i := i) hi vis hnd hnc) (hbase _)))
  · refine ⟨fun cls d H' => cls = .ref C ∧ ∃ dd fs v, d = some dd ∧ H' dd = some (.xd fs) ∧ fs.lookup fld = some v ∧ Q v H', fun cls d σ' H' h1 hl => ⟨true, by rw [h1.1]; exact em, fun _ a0 ha0 => ?_, fun z => by cases z⟩, h0 f, hc, h⟩
    obtain ⟨ec, dd, fs, v, ed, hd, hlk, q⟩ := h1
    have hin : i < σ'.length := by rw [hl]; exact (List.getElem?_eq_some_iff.mp hi).1
    exact ⟨.ref a0, List.getElem?_set_self hin, rfl, ec, dd, fs, v, ed, hd, hlk, q⟩
variable {B : Bs} {c : Ct B} {W : WX}
theorem Good.tables {G H H1 : Hp} {σ : L2.St} {ρ : Env} (g : Good c G H σ ρ) (e : LamX.ExtN H H1) (t : LamX.Tabs B.T H1) : Good c G H1 σ ρ where
  gh := fun a o h => e a o (g.gh a o h) fun ps z => g.nt a ps (z ▸ h)
  nt := g.nt
  g0 := g.g0
  nf := g.nf
  fr := g.fr
  fh := fun a o h => e a o (g.fh a o h) fun ps z => g.nf a ps (z ▸ h)
  tb := t
  len := g.len
  sl := fun i x h => by
    obtain ⟨v, h1, h2⟩ := g.sl i x h
    refine ⟨v, h1, ?_⟩
    cases x with
    | p d => exact h2
    | o d =>
      obtain ⟨a, l, vs, e1, e2, e3, e4, e5, e6⟩ := h2
      exact ⟨a, l, vs, e1, e2, e a _ e3 fun ps z => (by cases z), e4, e5, e6⟩
  sep := g.sep
  fix := g.fix
/-- the def that tells which argument is refused, as it stands behind the top -/
structure RefD (X : Cx) (x a xn fld : Str) (C : Addr) (k : Nat) : Prop where
  ex : ∃ (g : Addr) (pg : Arguments) (bg : List Stmt) (sg : Scope) (dV kV doc pm cdv ct oc : Value) (an od : Option Addr) (osl : Array (Option Value)) (Ng : List Str),
    X.mg x = some (.ref g) ∧ PySem.W.keepIn X.K (.ref g) = true ∧ X.K.lookup g = some ⟨oc, od, .func (PySem.W.fnOf x x pg bg sg dV kV doc pm an cdv ct), osl⟩ ∧ PySem.W.codeIn X.K cdv x = true ∧ L2.Binds X.K (PySem.W.fnOf x x pg bg sg dV kV doc pm an cdv ct) [a] [] ∧
      FnScope Ng [a] sg ∧ Ng[0]? = some a ∧ Vis sg a ∧ LamX.GivesTo X Ng x sg g cdv bg a (X.env.qual ++ "<lambda>") (TRef C fld)
theorem e_ref {x a xn fld : Str} {C cc PP : Addr} {k : Nat} {params : Arguments} {body : Expr} {scope : Scope} {fe : M D} {p lpos pos : Pos} (R0 : RefD X x a xn fld C k) (hK : B.K = X.K) (hXc : B.X xn = some C) (hg : Gl X x := by rfl)
    (TB : LamX.TabB X.base X.mg cc PP) (hcode : X.env.code = .ref cc) (hmT : (PP, X.env.qual ++ "<lambda>") ∈ B.T) (hu : ∀ p ∈ B.T, p.1 = PP → p.2 = X.env.qual ++ "<lambda>") (hr : Room (k + 2) X.A) (L : LamX.LamS X.env.scope scope) (hdef : defaultsOf params X.env = ([], []))
    (hbind : ∀ (q : Str) (cl : List (Str × Addr)) (pm cv ctv : Value), bindArgs (PySem.W.kla_fn "<lambda>" q params body scope cl pm cv ctv) ⟨[], []⟩ = pure [])
    (hbody : ∀ (A : Around) (outer : List PySem.Env) (s : Shared) (H : Hp) (E : XK) (f c' : Addr), Room k (A.deeper (LamX.lamEnv X scope s.heap.objs.size f c')) → PE (LamX.lamCx X A outer s H E scope f c') body (dE c (wD E) fe))
    (hdb : (x == ("__debug__" : Str)) = false := by decide) (hd : (a == ("__debug__" : Str)) = false := by decide) (hcd : (a == ("__classdict__" : Str)) = false := by decide) :
    PE X (.Call (.Name x p) [.Lambda params body scope lpos] [] pos) (dE c W (refused xn fld fe)) := by
  obtain ⟨g, pg, bg, sg, dV, kV, doc, pm, cdv, ct, oc, an, od, osl, Ng, hm, hk, lk, hcg, hb, Sg, hNg, hva, hG⟩ := R0.ex
  refine peI (LamX.pe_lamcall (t := fun E => dE c (wD E) fe) hg hm hk lk hcg hb Sg hNg hva hG TB hcode hmT hu hr L hdef hbind hbody hdb hd hcd) fun σ H Q ⟨G, ρ, gd, p⟩ => ⟨gd.tb, fun H1 eN tT => ⟨G, ρ, gd.tables eN tT, ?_⟩⟩
  unfold refused at p
  revert p
  cases fe ρ with
  | no => exact fun p => p
  | ok d ρ' => exact fun p v H' G' s g' r => p (.str "") H' G' s g' (rep_str.mpr rfl)
  | ex y ρ' =>
    intro p cls dd H' G' s g' ⟨C', d0, fs, e1, e2, e3, e4, e5, e6⟩
    dsimp only at p
    by_cases hy : y.c = xn
    case neg => rw [if_neg hy] at p; exact False.elim p
    rw [if_pos hy] at p
    rw [hy, hXc] at e1
    cases e1
    cases hl : y.fs.lookup fld with
    | none => rw [hl] at p; exact False.elim p
    | some d =>
      rw [hl] at p
      have look : ∀ (l : List (Str × D)) (m : List (Str × V)), m.map (·.1) = l.map (·.1) → Reps B.K G' (l.map (·.2)) (m.map (·.2)) → l.lookup fld = some d → ∃ v, m.lookup fld = some v ∧ Rep B.K G' d v := by
        intro l
        induction l with
        | nil => intro m _ _ h; cases h
        | cons z l ih =>
          intro m h1 h2 h3
          cases m with
          | nil => cases h1
          | cons u m =>
            obtain ⟨z1, z2⟩ := z
            obtain ⟨u1, u2⟩ := u
            simp only [List.map_cons, List.cons.injEq] at h1
            obtain ⟨rfl, h1⟩ := h1
            obtain ⟨v, r, e, r1, r2⟩ := reps_cons.mp h2
            simp only [List.map_cons, List.cons.injEq] at e
            obtain ⟨rfl, rfl⟩ := e
            rw [List.lookup_cons] at h3 ⊢
            split at h3
            · cases h3
              exact ⟨_, rfl, r1⟩
            · exact ih m h1 r2 h3
      obtain ⟨v, hv, rv⟩ := look y.fs fs e5 e6 hl
      exact ⟨e2, d0, fs, v, e3, e4, hv, p v H' G' s g' rv⟩
end
end Fe
set_option Elab.async false
set_option linter.all false
set_option maxRecDepth 100000
set_option maxHeartbeats 4000000
/-! More rules. -/
namespace Fe
open PySem PySem.Spec PyProof.Rows L2
/-- t > u of tuples of ints -/
def rGtT (K : PySem.W.Frag) : R2 := fun x y H Q => ∃ a b ns ms, x = .ref a ∧ y = .ref b ∧ SqT K H a (ns.map V.int) ∧ SqT K H b (ms.map V.int) ∧ Q (.bl (lexLt ms ns)) H
theorem lexAt_gt : ∀ (k i : Nat) (ns ms : List Int), min ns.length ms.length = i + k → Ob.lexAt (fun j => decide (ns.getD j 0 = ms.getD j 0)) (fun j => decide (ms.getD j 0 < ns.getD j 0)) (decide (ns.length > ms.length)) i k = lexLt (ms.drop i) (ns.drop i)
  | 0, i, ns, ms, h => by
    rw [Ob.lexAt_zero]
    by_cases hl : ns.length > ms.length
    · rw [decide_eq_true hl, List.drop_eq_nil_of_le (show ms.length ≤ i by omega)]
      cases hd : ns.drop i with
      | nil => have := congrArg List.length hd; simp at this; omega
      | cons x r => rfl
    · rw [decide_eq_false hl, List.drop_eq_nil_of_le (show ns.length ≤ i by omega)]
      cases ms.drop i <;> rfl
  | k + 1, i, ns, ms, h => by
    rw [Ob.lexAt_succ]
    have h1 : i < ns.length := by omega
    have h2 : i < ms.length := by omega
    rw [List.drop_eq_getElem_cons h1, List.drop_eq_getElem_cons h2]
    have g1 : ns.getD i 0 = ns[i] := by rw [List.getD_eq_getElem?_getD, List.getElem?_eq_getElem h1]; rfl
    have g2 : ms.getD i 0 = ms[i] := by rw [List.getD_eq_getElem?_getD, List.getElem?_eq_getElem h2]; rfl
    simp only [g1, g2]
    unfold lexLt
    by_cases e : ns[i] = ms[i]
    · rw [if_pos (decide_eq_true e), if_pos e.symm]
      exact lexAt_gt k (i + 1) ns ms (by omega)
    · rw [if_neg (by simpa using e), if_neg fun z => e z.symm]
theorem op_gtT {X : Cx} (hu : X.A.units < cLine) : OpR X (compareOp .Gt) (rGtT X.K) := by
  intro pins s σ H x y v u Q I rx ry ⟨a, b, ns, ms, ex, ey, ha, hb, q⟩
  subst ex ey
  obtain rfl : v = Value.ref a := rx
  obtain rfl : u = Value.ref b := ry
  obtain ⟨i1, r1, p1, _⟩ := I.tuple ha
  obtain ⟨i2, r2, p2, _⟩ := I.tuple hb
  have n1 : IntsAre i1 ns := Vals.ints r1
  have n2 : IntsAre i2 ms := Vals.ints r2
  have z1 : i1.toArray.size = ns.length := by rw [List.size_toArray]; exact n1.length
  have z2 : i2.toArray.size = ms.length := by rw [List.size_toArray]; exact n2.length
  have w1 : ∀ j (h : j < i1.toArray.size), ∃ t, i1.toArray[j] = .int (ns.getD j 0) t := fun j h => IntsAre.int_at n1 _ _ (by simp at h; simp [h])
  have w2 : ∀ j (h : j < i2.toArray.size), ∃ t, i2.toArray[j] = .int (ms.getD j 0) t := fun j h => IntsAre.int_at n2 _ _ (by simp at h; simp [h])
  have key := Ob.RcOp.tuples_gt (A := X.A) (s := s) (e := fun j => decide (ns.getD j 0 = ms.getD j 0)) (r := fun j => decide (ms.getD j 0 < ns.getD j 0)) p1 p2 hu (fun j h1 h2 => by
    obtain ⟨t, e1⟩ := w1 j h1
    obtain ⟨t', e2⟩ := w2 j h2
    rw [e1, e2, ← Bool.beq_eq_decide_eq]
    exact SeqAt.EqAt.int_int _ _ _ _) (fun j h1 h2 _ => by
    obtain ⟨t, e1⟩ := w1 j h1
    obtain ⟨t', e2⟩ := w2 j h2
    rw [e1, e2]
    exact Ob.RcOp.gt_int _ _ _ _)
  rw [z1, z2, lexAt_gt _ 0 ns ms (by omega), List.drop_zero, List.drop_zero] at key
  exact key X.prog X.w X.xe _ ⟨.bl _, H, I, rfl, q⟩
theorem rule_gt {K : PySem.W.Frag} : Rule2 K (fun x y H Q => rI0 (fun i j => .bl (decide (j < i))) x y H Q ∨ rGtT K x y H Q) (mbl dGt) := by
  intro G H d e z x y Q s n rx ry h k
  obtain ⟨b, hb, rfl⟩ := mbl_some h
  cases d <;> cases e <;> first | (cases hb; done) | skip
  · cases hb
    rw [rep_int] at rx ry
    exact .inl ⟨_, _, rx, ry, k _ _ _ (New.refl s n) (rep_bl.mpr rfl)⟩
  · obtain ⟨ns, e1, hb⟩ := Option.bind_eq_some_iff.mp hb
    obtain ⟨ms, e2, hb⟩ := Option.map_eq_some_iff.mp hb
    obtain ⟨a, xs, rfl, h1, h2⟩ := rep_tup.mp rx
    obtain ⟨b', ys, rfl, h3, h4⟩ := rep_tup.mp ry
    rw [h2.ints e1] at h1
    rw [h4.ints e2] at h3
    refine .inr ⟨a, b', ns, ms, rfl, rfl, sqT_up s h1, sqT_up s h3, ?_⟩
    rw [hb]
    exact k _ _ _ (New.refl s n) (rep_bl.mpr rfl)
section
variable {X : Cx} {B : Bs} {c : Ct B} {W : WX} {a b e : Expr} {fa fb fe : M D} {pos : Pos} {x y : Str}
theorem e_gt {k : Nat} (hr : Room k X.A) (ha : PE X a (dE c W fa)) (hb : PE X b (dE c W fb)) (hK : B.K = X.K := by rfl) : PE X (.Compare a [.Gt] [b] pos) (dE c W (cmp dGt fa fb)) := e_cmp (op_gt.or (op_gtT hr.units0)) (by rw [hK]; exact rule_gt) ha hb (nomark _)
theorem t_gt {k : Nat} (hr : Room k X.A) (ha : PE X a (dE c W fa)) (hb : PE X b (dE c W fb)) (hK : B.K = X.K := by rfl) : PT X (.Compare a [.Gt] [b] pos) (dT c W (tsb (cmp dGt fa fb))) := t_cmp (op_gt.or (op_gtT hr.units0)) (by rw [hK]; exact rule_gt) ha hb (nomark _)
/-- a, b = x, y of plain locals -/
theorem s_par (i j : Nat) {px py pt q2 : Pos} {kt k2 : Nat} (hc : X.calm = true) (hN : X.N.Nodup) (hij : i ≠ j) (ha : PE X a (dE c W fa)) (hb : PE X b (dE c W fb)) (hi : X.N[i]? = some x := by rfl) (hj : X.N[j]? = some y := by rfl)
    (hx : X.env.scope.names.lookup x = some .local := by rfl) (hy : X.env.scope.names.lookup y = some .local := by rfl)
    (hw : swappedStores [.Tuple [.Name x px, .Name y py] kt pt] (.Tuple [a, b] k2 q2) X.env = pure (some [x, y]) := by rfl)
    (hs : swapsWithSole [.Tuple [.Name x px, .Name y py] kt pt] (.Tuple [a, b] k2 q2) pos.line X.env = pure false := by rfl)
    (hs1 : starEach [a, b] X.env = (false, eval a X.env) :: starEach [b] X.env := by rfl) (hs2 : starEach [b] X.env = (false, eval b X.env) :: starEach [] X.env := by rfl) :
    PS X (.Assign [.Tuple [.Name x px, .Name y py] kt pt] (.Tuple [a, b] k2 q2) pos) (dS c W (par i j (consA fa (consA fb nilA)))) := by
  refine ⟨fun pins s σ H E I ⟨G, ρ, gd, p⟩ => ?_⟩
  have hli : i < σ.length := by rw [I.len]; exact (List.getElem?_eq_some_iff.mp hi).1
  have hlj : j < σ.length := by rw [I.len]; exact (List.getElem?_eq_some_iff.mp hj).1
  refine (ps_par hc hN hi hj hij hx hy (a_cons ha (a_cons hb a_nil hs2) hs1) hw hs).run pins s σ H E I ?_
  refine (posts_bnd gd p).imp fun vs H1 ⟨G1, ρ1, l, s1, g1, r1, q⟩ => ?_
  match l with
  | [] => exact False.elim q
  | [_] => exact False.elim q
  | _ :: _ :: _ :: _ => exact False.elim q
  | [d1, d2] =>
    obtain ⟨v, q1, e1, r2, r3⟩ := reps_cons.mp r1
    obtain ⟨w, q2, e2, r4, r5⟩ := reps_cons.mp r3
    rw [reps_nil.mp r5] at e2
    subst e2 e1
    refine ⟨v, w, rfl, ?_⟩
    exact q _ H1 G1 (Same.refl _) ((g1.set r2 hli).set r4 (by rw [List.length_set]; exact hlj))
end
/-- an error passes a def's own frame -/
theorem tk_def {P : Program} {w : World} {K : PySem.W.Frag} {mg : Str → Option Value} {base : Heap} {N : List Str} {qual : Str} {scope : Scope} {f : Addr} {cd : Value} {A : Around} {outer : List PySem.Env} {s : Shared} {H : Hp} {E : XK} :
    Takes (cxOf (L2.CX P w) P w K mg base N qual scope f cd A outer s H E) (wD E) := takes_of rfl rfl rfl rfl
theorem tk_lam {X : Cx} {A : Around} {outer : List PySem.Env} {s : Shared} {H : Hp} {E : XK} {scope : Scope} {f c' : Addr} : Takes (LamX.lamCx X A outer s H E scope f c') (wD E) := takes_of rfl rfl rfl rfl
theorem po_def {P : Program} {w : World} {K : PySem.W.Frag} {mg : Str → Option Value} {base : Heap} {N : List Str} {qual : Str} {scope : Scope} {f : Addr} {cd : Value} {A : Around} {outer : List PySem.Env} {s : Shared} {H : Hp} {E : XK} :
    PassesOwn (model P w) (cxOf (L2.CX P w) P w K mg base N qual scope f cd A outer s H E).A (cxOf (L2.CX P w) P w K mg base N qual scope f cd A outer s H E).env (cxOf (L2.CX P w) P w K mg base N qual scope f cd A outer s H E).xe := passes_of rfl
end Fe
namespace Fe
open PySem PySem.Spec PyProof.Rows L2
theorem rngDown_len (a b : Int) : (rngDown a b).length = (a - b).toNat := by unfold rngDown; rw [List.length_map, List.length_range]
theorem goes_down {K : PySem.W.Frag} {G : Hp} {a b : Int} : Goes K G (Itc a (-1) (a - b).toNat) (rngDown a b) where
  go := fun i H s hi => by rw [rngDown_len] at hi; exact hi
  stop := fun H s => by rw [rngDown_len]; exact Nat.le_refl _
  yld := fun i H x H' s y hi G1 s1 s2 n => by
    obtain ⟨e, y⟩ := y
    subst e y
    rw [rngDown_len] at hi
    refine ⟨G1, .int (a + i * (-1)), New.refl s2 n, ?_, rep_int.mpr rfl⟩
    unfold rngDown
    rw [List.getElem?_map, List.getElem?_range hi]
    show some (D.int (a - i)) = _
    congr 2
    omega
section
variable {X : Cx} {B : Bs} {c : Ct B} {W : WX} {a b tg : Expr} {fa fb : M D} {pos : Pos}
/-- range(a, b, -1) -/
theorem i_rgD (hm : X.mg "range" = none) (ha : PE X a (dE c W fa)) (hb : PE X b (dE c W fb)) {p p1 p2 : Pos} {k : Nat} (hg : Gl X "range" := by rfl)
    (hs : starEach [a, b, .UnaryOp .USub (.Constant (.int 1) k p1) p2] X.env = (false, eval a X.env) :: starEach [b, .UnaryOp .USub (.Constant (.int 1) k p1) p2] X.env := by rfl)
    (hs2 : starEach [b, .UnaryOp .USub (.Constant (.int 1) k p1) p2] X.env = (false, eval b X.env) :: starEach [.UnaryOp .USub (.Constant (.int 1) k p1) p2] X.env := by rfl)
    (hs3 : (backTo pos (starEach [b, .UnaryOp .USub (.Constant (.int 1) k p1) p2] X.env)).any (·.1) = false := by rfl) :
    PI X tg (.Call (.Name "range" p) [a, b, .UnaryOp .USub (.Constant (.int 1) k p1) p2] [] pos) (dI c W (rgD fa fb)) :=
  piI (pi_range3 hg hm (pa_cons ha (pa_cons hb (pa_cons (pe_un un_neg pe_int) pa_nil) hs2) hs) (hs := hs) (hpl := hs3)) fun σ H R h => by
    refine (den_bnd h).imp fun x H1 ⟨G1, ρ1, d, g1, rx, p1⟩ => ?_
    refine (post_bnd g1 p1).imp fun y H2 ⟨G2, ρ2, e, s2, g2, ry, p2⟩ => ?_
    obtain ⟨z, hz, p3⟩ := post_lft p2
    cases d <;> cases e <;> first | (cases hz; done) | skip
    simp only [dRngD] at hz
    split at hz
    · rename_i hj
      cases hz
      obtain ⟨k1, k2⟩ := Bool.and_eq_true_iff.mp hj
      obtain ⟨h1, h2⟩ := bigI_of k1
      obtain ⟨h3, h4⟩ := bigI_of k2
      refine ⟨1, rfl, _, _, -1, _, by rw [rep_int.mp rx, rep_int.mp ry], RgC.neg h1 h2 h3 h4, g2.keep p3 goes_down⟩
    · cases hz
end
end Fe
set_option Elab.async false
set_option linter.all false
set_option maxRecDepth 100000
set_option maxHeartbeats 4000000
/-! The end of a law. -/
namespace Fe
open PySem PySem.Spec PyProof.Rows L2
theorem cx_off {P : Program} {w : World} {H : Hp} {s : Shared} {e : Value} {s' : Shared} (h : L2.CX P w [] H s (fun _ _ _ => False) e s') : False := by
  obtain ⟨_, _, _, _, _, _, _, _, _, _, _, _, z⟩ := h
  exact z
theorem tabs_of {H : Hp} {PP : Addr} {q : Str} (h : H PP = some (.tbl #[])) : LamX.Tabs [(PP, q)] H := fun p hp => by
  rw [List.mem_singleton] at hp
  subst hp
  exact ⟨#[], h, True.intro, fun pos cv hc => by cases (show (none : Option Value) = some cv from hc)⟩
theorem noF {P : Program} {w : World} {B : Bs} {mg : Str → Option Value} {base : Heap} {k : Nat} {f : Addr} {fd : FuncData} {ps : List Str} : FnOk P w B.K mg base (L2.CX P w) k f fd ps (spF B fun _ => .no) :=
  ⟨fun vs H Q E ⟨_, _, _, _, _, _, z⟩ => z.elim, fun A outer s H args us vs Q E _ _ _ _ ⟨_, _, _, _, _, _, z⟩ => z.elim⟩
theorem ints_rep {K : PySem.W.Frag} {G : Hp} : ∀ ns : List Int, Reps K G (ns.map .int) (ns.map V.int)
  | [] => reps_nil.mpr rfl
  | i :: r => reps_cons.mpr ⟨.int i, r.map V.int, rfl, rep_int.mpr rfl, ints_rep r⟩
theorem sp_law {B : Bs} {f : List D → F} {H : Hp} {a : Addr} {ns : List Int} (t : LamX.Tabs B.T H) (hS : SqL B.K H a (ns.map V.int)) (h : f [.lst (ns.map .int)] = .ok (.bl true)) : spF B f [.ref a] H (fun v _ => v = .bl true) fun _ _ _ => False := by
  refine ⟨noT H, [.lst (ns.map .int)], noT_same, noT_nt, t, reps_cons.mpr ⟨.ref a, [], rfl, ?_, reps_nil.mpr rfl⟩, ?_⟩
  · unfold Rep
    refine ⟨a, ns.map V.int, rfl, ?_, ints_rep ns⟩
    rcases hS with (h | ⟨o, h⟩) | h
    · exact .inl (.inl (noT_of h fun ps e => by cases e))
    · exact .inl (.inr ⟨o, noT_of h fun ps e => by cases e⟩)
    · exact .inr h
  · rw [h]
    exact fun v H' G' _ r => rep_bl.mp r
theorem kb_of {K : PySem.W.Frag} {x qual : Str} {st : Stmt} {f : Addr} {fd : FuncData} {ps ks : List Str} (F : Fun K x qual st f fd) (n : Nat) (hn : n + ks.length = ps.length) (hp : n ≠ 0)
    (h : ∀ (kV doc pm : Value) (an : Option Addr) (cdv ct : Value) (us ws : List Value), us.length = n → ws.length = ks.length → bindArgs (PySem.W.fnOf x qual (defArgs st) (defBody st) (defScope st) .none kV doc pm an cdv ct) ⟨us, ks.zip ws⟩ = pure (ps.zip (us ++ ws))) :
    KBinds K fd ps ks (fun us ws => if us.length = n ∧ ws.length = ks.length then us ++ ws else []) (fun us ws => if us.length = n ∧ ws.length = ks.length then us ++ ws else []) := by
  obtain ⟨oc, od, kV, doc, pm, an, cdv, ct, osl, rfl, lk, hcd⟩ := F.ex
  refine ⟨fun s us ws _ hl => ?_, fun {vs us zs ws} r rz => ?_⟩
  · by_cases q : us.length = n ∧ ws.length = ks.length
    · simp only [if_pos q]
      exact .of_eq (h kV doc pm an cdv ct us ws q.1 q.2)
    · simp only [if_neg q, List.length_nil] at hl
      omega
  · have e1 := r.length
    have e2 := rz.length
    by_cases q : vs.length = n ∧ zs.length = ks.length
    · have q' : us.length = n ∧ ws.length = ks.length := by omega
      simp only [if_pos q, if_pos q']
      exact r.append rz
    · have q' : ¬ (us.length = n ∧ ws.length = ks.length) := by omega
      simp only [if_neg q, if_neg q']
      exact .nil
end Fe
set_option linter.all false
set_option maxRecDepth 100000
namespace K05
open PySem (Str)
open Fe
/-- names: value 0, low 1, high 2 -/
def b_is_whole : S :=
    (rtn (andV (cmp1 (dIsi "int") (vr 0)) (andV (notV (cmp1 (dIsi "bool") (vr 0))) (chn dLe dLe (vr 1) (vr 0) (vr 2)))))
def f_is_whole : List D → F := run 3 3 b_is_whole
/-- names: value 0, low 1, high 2, own 3 -/
def b_are_whole : S :=
    (rtn (andV (cmp1 (dIsi "tuple") (vr 0)) (op1 dAll (lc [3] (itm (vr 0)) (gN 3) (Fe.ret true) (cl f_is_whole (consA (vr 3) (consA (vr 1) (consA (vr 2) nilA))))))))
def f_are_whole : List D → F := run 3 4 b_are_whole
/-- names: value 0, low 1, high 2 -/
def b_is_rising : S :=
    (rtn (andV (cl f_are_whole (consA (vr 0) (consA (vr 1) (consA (vr 2) nilA)))) (cmp dEq (op1 dList (vr 0)) (op1 dSortSet (vr 0)))))
def f_is_rising : List D → F := run 3 3 b_is_rising
/-- names: is_right 0, name 1 -/
def b_need : S :=
    (iff (notT (tst (vr 0))) (rse "BadArgument" ["name"] (consA (vr 1) nilA)) sNx)
def f_need : List D → F := run 2 2 b_need
/-- names: value 0, many 1, own 2, one 3 -/
def b_are_edges : S :=
    (seq (iff (notT (tst (cmp1 (dIsi "tuple") (vr 0)))) (rtn (Fe.ret (.bl false))) sNx)
    (seq (forS (itm (vr 0)) (gN 2)
      (seq (iff (orT (notT (tst (cmp1 (dIsi "tuple") (vr 2)))) (orT (tsb (cmp dNe (op1 dLen (vr 2)) (Fe.ret (.int 2)))) (notT (tst (op1 dAll (lc [3] (itm (vr 2)) (gN 3) (Fe.ret true) (cl f_is_whole (consA (vr 3) (consA (Fe.ret (.int 0)) (consA (op2 dSub (vr 1) (Fe.ret (.int 1))) nilA)))))))))) (rtn (Fe.ret (.bl false))) sNx)
    (iff (tsb (cmp dGe (op2 dIx (vr 2) (Fe.ret (.int 0))) (op2 dIx (vr 2) (Fe.ret (.int 1))))) (rtn (Fe.ret (.bl false))) sNx)))
    (rtn (cmp dEq (op1 dList (vr 0)) (op1 dSortSet (vr 0))))))
def f_are_edges : List D → F := run 2 4 b_are_edges
/-- names: many 0, edges 1, most 2 -/
def b_need_graph : S :=
    (seq (drp (cl f_need (consA (cl f_is_whole (consA (vr 0) (consA (Fe.ret (.int 1)) (consA (vr 2) nilA)))) (consA (Fe.ret (.str "many")) nilA))))
    (drp (cl f_need (consA (cl f_are_edges (consA (vr 1) (consA (vr 0) nilA))) (consA (Fe.ret (.str "edges")) nilA)))))
def f_need_graph : List D → F := run 3 3 b_need_graph
/-- names: edges 0, some 1, one 2, other 3 -/
def b_is_stable_in : S :=
    (rtn (notV (op1 dAny (lc [2, 3] (itm (vr 0)) (gT 2 (gCons (gN 2) (gCons (gN 3) gNil))) (Fe.ret true) (andV (cmp dIn (vr 2) (vr 1)) (cmp dIn (vr 3) (vr 1)))))))
def f_is_stable_in : List D → F := run 2 4 b_is_stable_in
/-- names: many 0, edges 1, value 2 -/
def b_is_stable : S :=
    (seq (drp (cl f_need_graph (consA (vr 0) (consA (vr 1) (consA (Fe.ret (.int 12)) nilA)))))
    (rtn (andV (cl f_is_rising (consA (vr 2) (consA (Fe.ret (.int 0)) (consA (op2 dSub (vr 0) (Fe.ret (.int 1))) nilA)))) (cl f_is_stable_in (consA (vr 1) (consA (vr 2) nilA))))))
def f_is_stable : List D → F := run 3 3 b_is_stable
/-- names: many 0, edges 1, value 2, one 3, other 4 -/
def b_is_cover : S :=
    (seq (drp (cl f_need_graph (consA (vr 0) (consA (vr 1) (consA (Fe.ret (.int 12)) nilA)))))
    (seq (iff (notT (tst (cl f_is_rising (consA (vr 2) (consA (Fe.ret (.int 0)) (consA (op2 dSub (vr 0) (Fe.ret (.int 1))) nilA)))))) (rtn (Fe.ret (.bl false))) sNx)
    (rtn (op1 dAll (lc [3, 4] (itm (vr 1)) (gT 2 (gCons (gN 3) (gCons (gN 4) gNil))) (Fe.ret true) (orV (cmp dIn (vr 3) (vr 2)) (cmp dIn (vr 4) (vr 2))))))))
def f_is_cover : List D → F := run 3 5 b_is_cover
/-- names: many 0, size 1, found 2, turn 3, longer 4, own 5, one 6 -/
def b_rows_of_size : S :=
    (seq (asg (lstE (consA (tupE nilA) nilA)) (gN 2))
    (seq (forS (rg1 (vr 1)) (gN 3)
      (seq (asgO 4 (lstE nilA))
    (seq (forS (itm (vr 2)) (gN 5)
      (ext 4 (lc [6] (rg2 (ifE (tst (vr 5)) (op2 dAdd (op2 dIx (vr 5) (op1 dNeg (Fe.ret (.int 1)))) (Fe.ret (.int 1))) (Fe.ret (.int 0))) (vr 0)) (gN 6) (Fe.ret true) (op2 dAdd (vr 5) (tupE (consA (vr 6) nilA))))))
    (gho (Fe.frz 4) (asg (vr 4) (gN 2))))))
    (rtn (vr 2))))
def f_rows_of_size : List D → F := run 2 7 b_rows_of_size
/-- names: many 0, edges 1, size 2, own 3, one 4, other 5 -/
def b_first_cover : S :=
    (seq (drp (cl f_need_graph (consA (vr 0) (consA (vr 1) (consA (Fe.ret (.int 12)) nilA)))))
    (seq (forS (rg1 (op2 dAdd (vr 0) (Fe.ret (.int 1)))) (gN 2)
      (forS (itm (cl f_rows_of_size (consA (vr 0) (consA (vr 2) nilA)))) (gN 3)
      (iff (tst (op1 dAll (lc [4, 5] (itm (vr 1)) (gT 2 (gCons (gN 4) (gCons (gN 5) gNil))) (Fe.ret true) (orV (cmp dIn (vr 4) (vr 3)) (cmp dIn (vr 5) (vr 3)))))) (rtn (vr 3)) sNx)))
    (rtn (tupE nilA))))
def f_first_cover : List D → F := run 2 6 b_first_cover
/-- names: many 0, edges 1 -/
def b_cover_number : S :=
    (rtn (op1 dLen (cl f_first_cover (consA (vr 0) (consA (vr 1) nilA)))))
def f_cover_number : List D → F := run 2 2 b_cover_number
/-- names: many 0, edges 1, best 2, line 3, own 4, at 5, used 6, place 7, one 8, other 9 -/
def b_most_apart : S :=
    (seq (drp (cl f_need_graph (consA (vr 0) (consA (vr 1) (consA (Fe.ret (.int 12)) nilA)))))
    (seq (parO 2 3 (tupE nilA) (consA (tupE (consA (tupE nilA) (consA (Fe.ret (.int 0)) (consA (tupE nilA) nilA)))) nilA))
    (seq (whl (tstO 3)
      (seq (asg (popO 3) (gT 3 (gCons (gN 4) (gCons (gN 5) (gCons (gN 6) gNil)))))
    (seq (iff (tsb (cmp dGt (op1 dLen (vr 4)) (op1 dLen (vr 2)))) (asg (vr 4) (gN 2)) sNx)
    (seq (iff (tsb (cmp dLe (op2 dSub (op2 dAdd (op1 dLen (vr 4)) (op1 dLen (vr 1))) (vr 5)) (op1 dLen (vr 2)))) cnt sNx)
    (forS (rgD (op2 dSub (op1 dLen (vr 1)) (Fe.ret (.int 1))) (op2 dSub (vr 5) (Fe.ret (.int 1)))) (gN 7)
      (seq (asg (op2 dIx (vr 1) (vr 7)) (gT 2 (gCons (gN 8) (gCons (gN 9) gNil))))
    (iff (andT (tsb (cmp dNotIn (vr 8) (vr 6))) (tsb (cmp dNotIn (vr 9) (vr 6)))) (app 3 (tupE (consA (op2 dAdd (vr 4) (tupE (consA (op2 dIx (vr 1) (vr 7)) nilA))) (consA (op2 dAdd (vr 7) (Fe.ret (.int 1))) (consA (op2 dAdd (vr 6) (tupE (consA (vr 8) (consA (vr 9) nilA)))) nilA))))) sNx)))))))
    (rtn (vr 2)))))
def f_most_apart : List D → F := run 2 10 b_most_apart
/-- names: row 0, many 1, found 2, cell 3 -/
def b__law_taken : S :=
    (seq (iff (tsb (cmp dGt (ixO 0 (Fe.ret (.int 3))) (Fe.ret (.int 0)))) (seq (asg (op2 dMod (op1 dInt (ixO 0 (Fe.ret (.int 3)))) (vr 1)) (gN 2))
    (seq (setO 0 (Fe.ret (.int 3)) (op2 dDiv (ixO 0 (Fe.ret (.int 3))) (vr 1)))
    (rtn (vr 2)))) sNx)
    (seq (setO 0 (Fe.ret (.int 1)) (op2 dAdd (ixO 0 (Fe.ret (.int 1))) (Fe.ret (.int 1))))
    (seq (iff (tsb (cmp dGt (ixO 0 (Fe.ret (.int 1))) (op1 dLen (ixO 0 (Fe.ret (.int 0)))))) (seq (setO 0 (Fe.ret (.int 2)) (op2 dMod (op1 dInt (op2 dAdd (op2 dMul (ixO 0 (Fe.ret (.int 2))) (Fe.ret (.int 48271))) (Fe.ret (.int 11)))) (Fe.ret (.int 2147483647))))
    (rtn (op2 dMod (op1 dInt (op2 dDiv (ixO 0 (Fe.ret (.int 2))) (Fe.ret (.int 7)))) (vr 1)))) sNx)
    (seq (asg (op2 dIx (ixO 0 (Fe.ret (.int 0))) (op2 dSub (ixO 0 (Fe.ret (.int 1))) (Fe.ret (.int 1)))) (gN 3))
    (seq (setO 0 (Fe.ret (.int 2)) (op2 dMod (op1 dInt (op2 dAdd (op2 dAdd (op2 dMul (ixO 0 (Fe.ret (.int 2))) (Fe.ret (.int 48271))) (op1 dInt (vr 3))) (Fe.ret (.int 11)))) (Fe.ret (.int 2147483647))))
    (seq (iff (tsb (cmp dGe (vr 3) (op2 dPow (Fe.ret (.int 10)) (Fe.ret (.int 18))))) (setO 0 (Fe.ret (.int 3)) (op2 dDiv (op1 dInt (op2 dMod (op1 dInt (vr 3)) (op2 dPow (Fe.ret (.int 10)) (Fe.ret (.int 90))))) (vr 1))) sNx)
    (rtn (op2 dMod (op1 dInt (vr 3)) (vr 1)))))))))
def f__law_taken : D → List D → FO := runO 2 4 b__law_taken
/-- names: row 0, some 1 -/
def b__law_pick : S :=
    (rtn (op2 dIx (vr 1) (clo f__law_taken 0 (consA (op1 dLen (vr 1)) nilA))))
def f__law_pick : D → List D → FO := runO 2 2 b__law_pick
/-- names: found 0, due 1, at 2 -/
def b__law_alike (rec : List D → F) : S :=
    (seq (iff (tst (cmp1 (dIsi "tuple") (vr 1))) (seq (iff (orT (notT (tst (cmp1 (dIsi "tuple") (vr 0)))) (tsb (cmp dNe (op1 dLen (vr 0)) (op1 dLen (vr 1))))) (rtn (Fe.ret (.bl false))) sNx)
    (rtn (cmp dEq (lc [2] (rg1 (op1 dLen (vr 1))) (gN 2) (notT (tst (cl rec (consA (op2 dIx (vr 0) (vr 2)) (consA (op2 dIx (vr 1) (vr 2)) nilA))))) (vr 2)) (lstE nilA)))) sNx)
    (seq (iff (orT (tsb (cmp dIs (vr 1) (Fe.ret .non))) (tst (cmp1 (dIsi "str") (vr 1)))) (rtn (andV (cmp dEq (vr 0) (vr 1)) (cmp dEq (cmp1 (dIsi "str") (vr 0)) (cmp1 (dIsi "str") (vr 1))))) sNx)
    (rtn (andV (cmp1 (dIsi "int") (vr 0)) (andV (cmp dEq (cmp1 (dIsi "bool") (vr 0)) (cmp1 (dIsi "bool") (vr 1))) (cmp dEq (vr 0) (vr 1)))))))
def f__law_alike : Nat → List D → F
  | 0 => fun _ => .no
  | k + 1 => run 2 3 (b__law_alike (f__law_alike k))
/-- names: row 0, things 1, pairs 2, many 3, every 4, one 5, other 6, turn 7 -/
def b__law_graph : S :=
    (seq (asg (op2 dAdd (Fe.ret (.int 1)) (clo f__law_taken 0 (consA (vr 1) nilA))) (gN 3))
    (seq (asg (lc2 [5, 6] [6] (rg1 (vr 3)) (gN 5) (Fe.ret true) (rg2 (op2 dAdd (vr 5) (Fe.ret (.int 1))) (vr 3)) (gN 6) (Fe.ret true) (tupE (consA (vr 5) (consA (vr 6) nilA)))) (gN 4))
    (rtn (tupE (consA (vr 3) (consA (ifE (tsb (cmp dNe (vr 4) (lstE nilA))) (op1 dTuple (op1 dSortSet (lc [7] (rg1 (clo f__law_taken 0 (consA (op2 dAdd (vr 2) (Fe.ret (.int 1))) nilA))) (gN 7) (Fe.ret true) (clo f__law_pick 0 (consA (vr 4) nilA))))) (tupE nilA)) nilA))))))
def f__law_graph : D → List D → FO := runO 3 8 b__law_graph
/-- names: some 0, size 1, found 2, turn 3, own 4, one 5 -/
def b__law_rows : S :=
    (seq (asg (lstE (consA (tupE nilA) nilA)) (gN 2))
    (seq (forS (rg1 (vr 1)) (gN 3)
      (asg (lc2 [4, 5] [5] (itm (vr 2)) (gN 4) (Fe.ret true) (itm (vr 0)) (gN 5) (orT (tsb (cmp dEq (vr 4) (tupE nilA))) (tsb (cmp dGt (vr 5) (op2 dIx (vr 4) (op1 dNeg (Fe.ret (.int 1))))))) (op2 dAdd (vr 4) (tupE (consA (vr 5) nilA)))) (gN 2)))
    (rtn (vr 2))))
def f__law_rows : List D → F := run 2 6 b__law_rows
/-- names: script 0, row 1, turn 2, many 3, edges 4, every 5, size 6, own 7, covers 8, one 9, other 10, rows 11, fine 12, pair 13, best 14, count 15, value 16, odd 17, bad 18, told 19 -/
def b_law : S :=
    (seq (asgO 1 (lstE (consA (vr 0) (consA (Fe.ret (.int 0)) (consA (Fe.ret (.int 108011)) (consA (Fe.ret (.int 0)) nilA))))))
    (seq (forS (rg1 (Fe.ret (.int 5))) (gN 2)
      (seq (asg (clo f__law_graph 1 (consA (Fe.ret (.int 6)) (consA (Fe.ret (.int 8)) nilA))) (gT 2 (gCons (gN 3) (gCons (gN 4) gNil))))
    (seq (asg (lc2 [6, 7] [7] (rg1 (op2 dAdd (vr 3) (Fe.ret (.int 1)))) (gN 6) (Fe.ret true) (itm (cl f__law_rows (consA (op1 dLRng1 (vr 3)) (consA (vr 6) nilA)))) (gN 7) (Fe.ret true) (vr 7)) (gN 5))
    (seq (asg (lc [7] (itm (vr 5)) (gN 7) (tsb (cmp dEq (lc [9, 10] (itm (vr 4)) (gT 2 (gCons (gN 9) (gCons (gN 10) gNil))) (andT (tsb (cmp dNotIn (vr 9) (vr 7))) (tsb (cmp dNotIn (vr 10) (vr 7)))) (Fe.ret (.int 1))) (lstE nilA))) (vr 7)) (gN 8))
    (seq (iff (orT (notT (tst (cl (f__law_alike 4) (consA (clk f_first_cover 1 1 (consA (vr 3) nilA) (consA (vr 4) nilA)) (consA (op2 dIx (vr 8) (Fe.ret (.int 0))) nilA))))) (notT (tst (cl (f__law_alike 4) (consA (cl f_cover_number (consA (vr 3) (consA (vr 4) nilA))) (consA (op1 dLen (op2 dIx (vr 8) (Fe.ret (.int 0)))) nilA)))))) (rtn (Fe.ret (.bl false))) sNx)
    (seq (asg (lc2 [6, 7] [7] (rg1 (Fe.ret (.int 4))) (gN 6) (Fe.ret true) (itm (cl f__law_rows (consA (op1 dList (vr 4)) (consA (vr 6) nilA)))) (gN 7) (Fe.ret true) (vr 7)) (gN 11))
    (seq (asg (lc [7] (itm (vr 11)) (gN 7) (tsb (cmp dEq (op1 dLenSet (lc2 [13, 9] [9] (itm (vr 7)) (gN 13) (Fe.ret true) (itm (vr 13)) (gN 9) (Fe.ret true) (vr 9))) (op2 dMul (Fe.ret (.int 2)) (op1 dLen (vr 7))))) (vr 7)) (gN 12))
    (seq (asg (op1 dMax (lc [7] (itm (vr 12)) (gN 7) (Fe.ret true) (op1 dLen (vr 7)))) (gN 14))
    (seq (iff (notT (tst (cl (f__law_alike 4) (consA (cl f_most_apart (consA (vr 3) (consA (vr 4) nilA))) (consA (op2 dIx (lc [7] (itm (vr 12)) (gN 7) (tsb (cmp dEq (op1 dLen (vr 7)) (vr 14))) (vr 7)) (Fe.ret (.int 0))) nilA))))) (rtn (Fe.ret (.bl false))) sNx)
    (seq (forS (rg1 (Fe.ret (.int 4))) (gN 15)
      (seq (asg (clo f__law_pick 1 (consA (vr 5) nilA)) (gN 16))
    (seq (iff (tsb (cmp dIsNot (clk f_is_cover 2 1 (consA (vr 3) (consA (vr 4) nilA)) (consA (vr 16) nilA)) (cmp dIn (vr 16) (vr 8)))) (rtn (Fe.ret (.bl false))) sNx)
    (iff (tsb (cmp dIsNot (clk f_is_stable 2 1 (consA (vr 3) (consA (vr 4) nilA)) (consA (vr 16) nilA)) (cmp dEq (lc [9, 10] (itm (vr 4)) (gT 2 (gCons (gN 9) (gCons (gN 10) gNil))) (andT (tsb (cmp dIn (vr 9) (vr 16))) (tsb (cmp dIn (vr 10) (vr 16)))) (Fe.ret (.int 1))) (lstE nilA)))) (rtn (Fe.ret (.bl false))) sNx))))
    (seq (asg (lstE (consA (Fe.ret .non) (consA (lstE nilA) (consA (tupE (consA (vr 3) nilA)) (consA (tupE (consA (Fe.ret (.int 0)) (consA (Fe.ret (.int 0)) nilA))) (consA (tupE (consA (Fe.ret (.bl true)) nilA)) (consA (tupE (consA (op1 dNeg (Fe.ret (.int 1))) nilA)) nilA))))))) (gN 17))
    (seq (iff (tsb (cmp dNe (lc [7] (itm (vr 17)) (gN 7) (orT (tst (cl f_is_cover (consA (vr 3) (consA (vr 4) (consA (vr 7) nilA))))) (tst (cl f_is_stable (consA (vr 3) (consA (vr 4) (consA (vr 7) nilA)))))) (vr 7)) (lstE nilA))) (rtn (Fe.ret (.bl false))) sNx)
    (seq (asg (clo f__law_pick 1 (consA (lstE (consA (Fe.ret .non) (consA (lstE (consA (tupE (consA (Fe.ret (.int 0)) (consA (Fe.ret (.int 1)) nilA))) nilA)) (consA (tupE (consA (tupE (consA (Fe.ret (.int 1)) (consA (Fe.ret (.int 0)) nilA))) nilA)) (consA (tupE (consA (tupE (consA (Fe.ret (.int 0)) (consA (vr 3) nilA))) nilA)) (consA (tupE (consA (tupE (consA (Fe.ret (.int 0)) (consA (Fe.ret (.int 0)) nilA))) nilA)) (consA (tupE (consA (tupE (consA (Fe.ret (.int 0)) (consA (Fe.ret (.int 1)) (consA (Fe.ret (.int 2)) nilA)))) nilA)) (consA (tupE (consA (tupE (consA (Fe.ret (.bl true)) (consA (Fe.ret (.int 1)) nilA))) nilA)) nilA)))))))) nilA)) (gN 18))
    (seq (asg (lstE (consA (refused "BadArgument" "name" (cl f_first_cover (consA (vr 3) (consA (vr 18) nilA)))) (consA (refused "BadArgument" "name" (cl f_cover_number (consA (Fe.ret (.int 13)) (consA (tupE nilA) nilA)))) (consA (refused "BadArgument" "name" (cl f_is_cover (consA (Fe.ret (.int 0)) (consA (tupE nilA) (consA (tupE nilA) nilA))))) (consA (refused "BadArgument" "name" (cl f_most_apart (consA (vr 3) (consA (vr 18) nilA)))) nilA))))) (gN 19))
    (iff (tsb (cmp dNe (vr 19) (lstE (consA (Fe.ret (.str "edges")) (consA (Fe.ret (.str "many")) (consA (Fe.ret (.str "many")) (consA (Fe.ret (.str "edges")) nilA))))))) (rtn (Fe.ret (.bl false))) sNx)))))))))))))))
    (rtn (Fe.ret (.bl true)))))
def f_law : List D → F := run 1 20 b_law
end K05
set_option Elab.async false
set_option linter.all false
set_option maxRecDepth 100000
set_option maxHeartbeats 1000000
/-! How the meaning of a text is reckoned: plain Lean. -/
namespace Fe
open PySem (Str)
section
variable {α β : Type} {ρ ρ1 ρ2 : Env} {i : Nat} {d x y z : D}
@[simp] theorem ret_ap {a : α} : (Fe.ret a : M α) ρ = .ok a ρ := rfl
@[simp] theorem bnd_ap {f : M α} {k : α → M β} : bnd f k ρ = match f ρ with
  | .ok a ρ' => k a ρ'
  | .ex x ρ' => .ex x ρ'
  | .no => .no := rfl
@[simp] theorem lft_some {a : α} : lft (some a) ρ = .ok a ρ := rfl
@[simp] theorem lft_none : (lft none : M α) ρ = .no := rfl
@[simp] theorem raise_ap {e : Ex} : (raise e : M α) ρ = .ex e ρ := rfl
@[simp] theorem get_ap : get ρ i = (ρ[i]?).getD none := rfl
theorem vr_ap : vr i ρ = match get ρ i with
  | some (.p d) => .ok d ρ
  | _ => .no := rfl
theorem own_ap : own i ρ = match get ρ i with
  | some (.o d) => .ok d ρ
  | _ => .no := rfl
@[simp] theorem st_ap : st i d ρ = .ok () (ρ.set i (some (.p d))) := rfl
@[simp] theorem sto_ap : sto i d ρ = .ok () (ρ.set i (some (.o d))) := rfl
@[simp] theorem gN_ap : gN i d ρ = .ok () (ρ.set i (some (.p d))) := rfl
@[simp] theorem frz_ap : frz i ρ = bnd (own i) (st i) ρ := rfl
/-- names whose place is known -/
@[simp] theorem vr_zero {r : Env} : vr 0 (some (.p d) :: r) = .ok d (some (.p d) :: r) := rfl
@[simp] theorem own_zero {r : Env} : own 0 (some (.o d) :: r) = .ok d (some (.o d) :: r) := rfl
theorem vr_at (h : ρ[i]? = some (some (.p d))) : vr i ρ = .ok d ρ := by rw [vr_ap, get_ap, h]; rfl
theorem own_at' (h : ρ[i]? = some (some (.o d))) : own i ρ = .ok d ρ := by rw [own_ap, get_ap, h]; rfl

theorem ok_bnd {f : M α} {k : α → M β} {a : α} (h : f ρ = .ok a ρ1) : bnd f k ρ = k a ρ1 := by rw [bnd_ap, h]
theorem ex_bnd {f : M α} {k : α → M β} {e : Ex} (h : f ρ = .ex e ρ1) : bnd f k ρ = .ex e ρ1 := by rw [bnd_ap, h]

@[simp] theorem op1_ap {g : D → Option D} {a : M D} : op1 g a ρ = bnd a (fun x => lft (g x)) ρ := rfl
@[simp] theorem op2_ap {g : D → D → Option D} {a b : M D} : op2 g a b ρ = bnd a (fun x => bnd b fun y => lft (g x y)) ρ := rfl
@[simp] theorem cmp_ap {g : D → D → Option Bool} {a b : M D} : cmp g a b ρ = bnd a (fun x => bnd b fun y => lft ((g x y).map .bl)) ρ := rfl
@[simp] theorem cmp1_ap {g : D → Option Bool} {a : M D} : cmp1 g a ρ = bnd a (fun x => lft ((g x).map .bl)) ρ := rfl
@[simp] theorem tb_ap {g : Option Bool} : tb g ρ = bnd (lft g) (fun b => Fe.ret (.bl b)) ρ := rfl
@[simp] theorem chn_ap {g h : D → D → Option Bool} {a b c : M D} : chn g h a b c ρ = bnd a (fun x => bnd b fun y => bnd (lft (g x y)) fun k => if k = true then bnd c fun z => tb (h y z) else Fe.ret (.bl false)) ρ := rfl
@[simp] theorem tst_ap {a : M D} : tst a ρ = bnd a (fun x => lft (truth x)) ρ := rfl
@[simp] theorem tsb_ap {a : M D} : tsb a ρ = bnd a (fun x => lft (asBool x)) ρ := rfl
@[simp] theorem andT_ap {a b : M Bool} : andT a b ρ = bnd a (fun k => if k = true then b else Fe.ret false) ρ := rfl
@[simp] theorem orT_ap {a b : M Bool} : orT a b ρ = bnd a (fun k => if k = true then Fe.ret true else b) ρ := rfl
@[simp] theorem notT_ap {a : M Bool} : notT a ρ = bnd a (fun k => Fe.ret (!k)) ρ := rfl
@[simp] theorem andV_ap {a b : M D} : andV a b ρ = bnd a (fun x => bnd (lft (asBool x)) fun k => if k = true then b else Fe.ret (.bl false)) ρ := rfl
@[simp] theorem orV_ap {a b : M D} : orV a b ρ = bnd a (fun x => bnd (lft (asBool x)) fun k => if k = true then Fe.ret (.bl true) else b) ρ := rfl
@[simp] theorem notV_ap {a : M D} : notV a ρ = bnd a (fun x => bnd (lft (asBool x)) fun k => Fe.ret (.bl (!k))) ρ := rfl
@[simp] theorem ifE_ap {t : M Bool} {a b : M D} : ifE t a b ρ = bnd t (fun k => if k = true then a else b) ρ := rfl
@[simp] theorem nilA_ap : nilA ρ = .ok [] ρ := rfl
@[simp] theorem consA_ap {a : M D} {r : M (List D)} : consA a r ρ = bnd a (fun x => bnd r fun l => Fe.ret (x :: l)) ρ := rfl
@[simp] theorem tupE_ap {a : M (List D)} : tupE a ρ = bnd a (fun l => lft (fewT l)) ρ := rfl
@[simp] theorem lstE_ap {a : M (List D)} : lstE a ρ = bnd a (fun l => lft (fewL l)) ρ := rfl
@[simp] theorem clF_ok : clF (.ok d) ρ = .ok d ρ := rfl
@[simp] theorem clF_ex {e : Ex} : clF (.ex e) ρ = .ex e ρ := rfl
@[simp] theorem cl_ap {f : List D → F} {a : M (List D)} : cl f a ρ = bnd a (fun l => clF (f l)) ρ := rfl
@[simp] theorem clo_ap {f : D → List D → FO} {a : M (List D)} : clo f i a ρ = bnd (own i) (fun _ => bnd a fun l => bnd (own i) fun o => match f o l with
  | .ok d o' => bnd (sto i o') fun _ => Fe.ret d
  | .no => fun _ => .no) ρ := rfl
@[simp] theorem clk_ap {f : List D → F} {n k : Nat} {a b : M (List D)} : clk f n k a b ρ = clN f (bnd a fun l => bnd b fun m => if l.length = n ∧ m.length = k then Fe.ret (l ++ m) else fun _ => .no) ρ := rfl
@[simp] theorem clN_ap {f : List D → F} {a : M (List D)} : clN f a ρ = bnd a (fun l => match f l with
  | .ok d => Fe.ret d
  | _ => fun _ => .no) ρ := rfl
@[simp] theorem itm_ap {a : M D} : itm a ρ = bnd a (fun x => lft (items x)) ρ := rfl
@[simp] theorem rg1_ap {a : M D} : rg1 a ρ = bnd a (fun x => lft (dRng1 x)) ρ := rfl
@[simp] theorem rg2_ap {a b : M D} : rg2 a b ρ = bnd a (fun x => bnd b fun y => lft (dRng2 x y)) ρ := rfl
@[simp] theorem rgD_ap {a b : M D} : rgD a b ρ = bnd a (fun x => bnd b fun y => lft (dRngD x y)) ρ := rfl
@[simp] theorem gNil_ap : gNil [] ρ = .ok () ρ := rfl
@[simp] theorem gCons_ap {g : G} {r : List D → M Unit} {l : List D} : gCons g r (x :: l) ρ = bnd (g x) (fun _ => r l) ρ := rfl
@[simp] theorem gT_ap {n : Nat} {g : List D → M Unit} {l : List D} : gT n g (.tup l) ρ = (if l.length = n then g l else fun _ => .no) ρ := rfl
@[simp] theorem sNx_ap : sNx ρ = .ok .nx ρ := rfl
@[simp] theorem brk_ap : brk ρ = .ok .bk ρ := rfl
@[simp] theorem cnt_ap : cnt ρ = .ok .ct ρ := rfl
@[simp] theorem seq_ap {a b : S} : seq a b ρ = bnd a (fun f => match f with
  | .nx => b
  | f => Fe.ret f) ρ := rfl
@[simp] theorem asg_ap {e : M D} {g : G} : asg e g ρ = bnd e (fun x => bnd (g x) fun _ => Fe.ret .nx) ρ := rfl
@[simp] theorem drp_ap {e : M D} : drp e ρ = bnd e (fun _ => Fe.ret .nx) ρ := rfl
@[simp] theorem rtn_ap {e : M D} : rtn e ρ = bnd e (fun x => Fe.ret (.rt x)) ρ := rfl
@[simp] theorem iff_ap {t : M Bool} {a b : S} : iff t a b ρ = bnd t (fun k => if k = true then a else b) ρ := rfl
@[simp] theorem gho_ap {a : M Unit} {r : S} : gho a r ρ = bnd a (fun _ => r) ρ := rfl
@[simp] theorem asgO_ap {e : M D} : asgO i e ρ = bnd e (fun x => bnd (sto i x) fun _ => Fe.ret .nx) ρ := rfl
@[simp] theorem wr_ap {l : List D} : wr i l ρ = bnd (sto i (.lst l)) (fun _ => Fe.ret .nx) ρ := rfl
@[simp] theorem app_ap {e : M D} : app i e ρ = bnd (own i) (fun _ => bnd e fun x => bnd (own i) fun o => match o with
  | .lst l => if l.length < lim then wr i (l ++ [x]) else fun _ => .no
  | _ => fun _ => .no) ρ := rfl
@[simp] theorem ext_ap {e : M D} : ext i e ρ = bnd (own i) (fun _ => bnd e fun x => bnd (own i) fun o => match o, x with
  | .lst l, .lst m => if l.length + m.length ≤ lim then wr i (l ++ m) else fun _ => .no
  | _, _ => fun _ => .no) ρ := rfl
@[simp] theorem popO_ap : popO i ρ = bnd (own i) (fun o => match o with
  | .lst l => (match l[l.length - 1]? with
    | some x => bnd (sto i (.lst l.dropLast)) fun _ => Fe.ret x
    | none => fun _ => .no)
  | _ => fun _ => .no) ρ := rfl
@[simp] theorem tstO_ap : tstO i ρ = bnd (own i) (fun o => lft (truth o)) ρ := rfl
@[simp] theorem ixO_ap {a : M D} : ixO i a ρ = bnd (own i) (fun _ => bnd a fun k => bnd (own i) fun o => lft (dIx o k)) ρ := rfl
@[simp] theorem setO_ap {a e : M D} : setO i a e ρ = bnd e (fun x => bnd (own i) fun _ => bnd a fun k => bnd (own i) fun o => match o, k with
  | .lst l, .int k => (match ixN l.length k with
    | some j => wr i (l.set j x)
    | none => fun _ => .no)
  | _, _ => fun _ => .no) ρ := rfl
@[simp] theorem parO_ap {j : Nat} {a : M D} {es : M (List D)} : parO i j a es ρ = bnd a (fun x => bnd (lstE es) fun l => bnd (st i x) fun _ => bnd (sto j l) fun _ => Fe.ret .nx) ρ := rfl
@[simp] theorem forS_ap {it : M (List D)} {g : G} {b : S} : forS it g b ρ = bnd it (fun l => forL (fun x => bnd (g x) fun _ => b) l) ρ := rfl
@[simp] theorem forL_nil {f : D → S} : forL f [] ρ = .ok .nx ρ := rfl
theorem forL_cons {f : D → S} {l : List D} : forL f (x :: l) ρ = bnd (f x) (fun r => match r with
    | .nx => forL f l
    | .ct => forL f l
    | .bk => Fe.ret .nx
    | .rt d => Fe.ret (.rt d)) ρ := rfl
@[simp] theorem rse_ap {c : Str} {fs : List Str} {a : M (List D)} : rse c fs a ρ = bnd a (fun l => if l.length = fs.length then raise ⟨c, (fs.zip l).reverse⟩ else fun _ => .no) ρ := rfl
end
section
variable {ρ ρ1 : Env} {a b : S} {d : D}
theorem seq_nx (h : a ρ = .ok .nx ρ1) : seq a b ρ = b ρ1 := by rw [seq_ap, ok_bnd h]
theorem seq_rt (h : a ρ = .ok (.rt d) ρ1) : seq a b ρ = .ok (.rt d) ρ1 := by rw [seq_ap, ok_bnd h]; rfl
theorem seq_ex {x : Ex} (h : a ρ = .ex x ρ1) : seq a b ρ = .ex x ρ1 := by rw [seq_ap, ex_bnd h]
theorem for_ok {it : M (List D)} {g : G} {l : List D} {r : R Fl} (hi : it ρ = .ok l ρ1) (h : forL (fun x => bnd (g x) fun _ => b) l ρ1 = r) : forS it g b ρ = r := by rw [forS_ap, ok_bnd hi]; exact h
theorem forL_nx {f : D → S} {x : D} {l : List D} (h : f x ρ = .ok .nx ρ1) : forL f (x :: l) ρ = forL f l ρ1 := by rw [forL_cons, ok_bnd h]
theorem forL_rt {f : D → S} {x : D} {l : List D} (h : f x ρ = .ok (.rt d) ρ1) : forL f (x :: l) ρ = .ok (.rt d) ρ1 := by rw [forL_cons, ok_bnd h]; rfl
theorem run_rt {n m : Nat} {ds : List D} (h1 : ds.length = n) (h : b (start m ds) = .ok (.rt d) ρ1) : run n m b ds = .ok d := by unfold run; rw [if_pos h1, h]
theorem run_nx {n m : Nat} {ds : List D} (h1 : ds.length = n) (h : b (start m ds) = .ok .nx ρ1) : run n m b ds = .ok .non := by unfold run; rw [if_pos h1, h]
theorem run_ex {n m : Nat} {ds : List D} {x : Ex} (h1 : ds.length = n) (h : b (start m ds) = .ex x ρ1) : run n m b ds = .ex x := by unfold run; rw [if_pos h1, h]
theorem iff_ok {t : M Bool} {k : Bool} (h : t ρ = .ok k ρ1) : iff t a b ρ = (if k = true then a else b) ρ1 := by rw [iff_ap, ok_bnd h]
theorem asg_ok {e : M D} {i : Nat} (h : e ρ = .ok d ρ1) : asg e (gN i) ρ = .ok .nx (ρ1.set i (some (.p d))) := by rw [asg_ap, ok_bnd h]; rfl
end
/-! ### comprehensions -/
theorem wipe_length : ∀ (vs : List Nat) (ρ : Env), (wipe ρ vs).length = ρ.length
  | [], _ => rfl
  | v :: vs, ρ => by simp [wipe, wipe_length vs ρ]
theorem wipe_getE : ∀ (vs : List Nat) (ρ : Env) (i : Nat), i ∉ vs → (wipe ρ vs)[i]? = ρ[i]?
  | [], _, _, _ => rfl
  | v :: vs, ρ, i, h => by
    simp only [List.mem_cons, not_or] at h
    unfold wipe
    rw [List.getElem?_set_ne (fun z => h.1 z.symm), wipe_getE vs ρ i h.2]
theorem back_length : ∀ (vs : List Nat) (ρ0 ρ : Env), (back ρ0 vs ρ).length = ρ.length
  | [], _, _ => rfl
  | v :: vs, ρ0, ρ => by simp [back, back_length vs ρ0 ρ]
theorem back_getE : ∀ (vs : List Nat) (ρ0 ρ : Env) (i : Nat), i ∉ vs → (back ρ0 vs ρ)[i]? = ρ[i]?
  | [], _, _, _, _ => rfl
  | v :: vs, ρ0, ρ, i, h => by
    simp only [List.mem_cons, not_or] at h
    unfold back
    rw [List.getElem?_set_ne (fun z => h.1 z.symm), back_getE vs ρ0 ρ i h.2]
theorem back_in : ∀ (vs : List Nat) (ρ0 ρ : Env) (i : Nat), i ∈ vs → i < ρ.length → (back ρ0 vs ρ)[i]? = some (get ρ0 i)
  | v :: vs, ρ0, ρ, i, h, hi => by
    unfold back
    by_cases e : v = i
    · subst e
      rw [List.getElem?_set_self (by rw [back_length]; exact hi)]
    · rw [List.getElem?_set_ne e]
      exact back_in vs ρ0 ρ i ((List.mem_cons.mp h).elim (fun z => absurd z.symm e) id) hi
/-- what two states share that differ in vs alone -/
theorem back_of {ρ0 ρ : Env} {vs : List Nat} (h : wipe ρ vs = wipe ρ0 vs) (hv : ∀ v ∈ vs, v < ρ0.length) : back ρ0 vs ρ = ρ0 := by
  have hl : ρ.length = ρ0.length := by rw [← wipe_length vs ρ, h, wipe_length]
  apply List.ext_getElem?
  intro i
  by_cases hi : i ∈ vs
  · rw [back_in vs ρ0 ρ i hi (by rw [hl]; exact hv i hi), get_ap, List.getElem?_eq_getElem (hv i hi)]
    rfl
  · rw [back_getE vs ρ0 ρ i hi, ← wipe_getE vs ρ i hi, h, wipe_getE vs ρ0 i hi]
theorem cmpT_wipe {vs : List Nat} {g : G} {t : M Bool} {e : M D} {x : D} {ρ ρ' : Env} (h : wipe ρ vs = wipe ρ' vs) : cmpT vs g t e x ρ = cmpT vs g t e x ρ' := by
  unfold cmpT
  rw [h]
theorem cmpT2_wipe {vs vs1 : List Nat} {g g1 : G} {t t1 : M Bool} {it1 : M (List D)} {e : M D} {x : D} {ρ ρ' : Env} (h : wipe ρ vs = wipe ρ' vs) : cmpT2 vs vs1 g t it1 g1 t1 e x ρ = cmpT2 vs vs1 g t it1 g1 t1 e x ρ' := by
  unfold cmpT2
  rw [h]
/-- a walk whose turns look at what is behind wipe alone -/
theorem cmpL_eq {f : D → M (List D)} {vs : List Nat} {h : D → List D} {ρ0 : Env} (hw : ∀ x ρ ρ', wipe ρ vs = wipe ρ' vs → f x ρ = f x ρ') : ∀ (l : List D), (∀ x ∈ l, ∃ ρ', f x ρ0 = .ok (h x) ρ' ∧ wipe ρ' vs = wipe ρ0 vs) →
    ∀ ρ, wipe ρ vs = wipe ρ0 vs → ∃ ρ', cmpL f l ρ = .ok (l.flatMap h) ρ' ∧ wipe ρ' vs = wipe ρ0 vs
  | [], _, ρ, e => ⟨ρ, rfl, e⟩
  | x :: l, hb, ρ, e => by
    obtain ⟨ρ1, e1, w1⟩ := hb x (.head _)
    obtain ⟨ρ2, e2, w2⟩ := cmpL_eq hw l (fun y hy => hb y (.tail _ hy)) ρ1 w1
    refine ⟨ρ2, ?_, w2⟩
    unfold cmpL
    rw [ok_bnd ((hw x ρ ρ0 e).trans e1), ok_bnd e2]
    rfl
theorem lc_eq {vs : List Nat} {it : M (List D)} {g : G} {t : M Bool} {e : M D} {ρ0 : Env} {l : List D} (h : D → List D) (hi : it ρ0 = .ok l ρ0) (hb : ∀ x ∈ l, ∃ ρ', cmpT vs g t e x ρ0 = .ok (h x) ρ' ∧ wipe ρ' vs = wipe ρ0 vs)
    (hl : (l.flatMap h).length ≤ lim) (hp : pur ρ0 vs = true) (hv : ∀ v ∈ vs, v < ρ0.length) : lc vs it g t e ρ0 = .ok (.lst (l.flatMap h)) ρ0 := by
  obtain ⟨ρ', e1, w1⟩ := cmpL_eq (f := cmpT vs g t e) (vs := vs) (h := h) (fun x ρ ρ' => cmpT_wipe) l hb ρ0 rfl
  unfold lc
  rw [if_neg (by rw [hp]; exact Bool.noConfusion), hi]
  dsimp only
  rw [e1]
  dsimp only
  rw [if_pos hl, back_of w1 hv]
theorem lc2_eq {vs vs1 : List Nat} {it it1 : M (List D)} {g g1 : G} {t t1 : M Bool} {e : M D} {ρ0 : Env} {l : List D} (h : D → List D) (hi : it ρ0 = .ok l ρ0)
    (hb : ∀ x ∈ l, ∃ ρ', cmpT2 vs vs1 g t it1 g1 t1 e x ρ0 = .ok (h x) ρ' ∧ wipe ρ' vs = wipe ρ0 vs)
    (hl : (l.flatMap h).length ≤ lim) (hp : pur ρ0 vs = true) (hv : ∀ v ∈ vs, v < ρ0.length) : lc2 vs vs1 it g t it1 g1 t1 e ρ0 = .ok (.lst (l.flatMap h)) ρ0 := by
  obtain ⟨ρ', e1, w1⟩ := cmpL_eq (f := cmpT2 vs vs1 g t it1 g1 t1 e) (vs := vs) (h := h) (fun x ρ ρ' => cmpT2_wipe) l hb ρ0 rfl
  unfold lc2
  rw [if_neg (by rw [hp]; exact Bool.noConfusion), hi]
  dsimp only
  rw [e1]
  dsimp only
  rw [if_pos hl, back_of w1 hv]
theorem pur_one {ρ : Env} {v : Nat} (h : isO (get ρ v) = false) : pur ρ [v] = true := by
  unfold pur
  simp only [List.all_cons, List.all_nil, h]
  rfl
theorem pur_two {ρ : Env} {v w : Nat} (h : isO (get ρ v) = false) (h2 : isO (get ρ w) = false) : pur ρ [v, w] = true := by
  unfold pur
  simp only [List.all_cons, List.all_nil, h, h2]
  rfl
theorem wipe_set : ∀ {vs : List Nat} {ρ : Env} {v : Nat} {c : Option C}, v ∈ vs → wipe (ρ.set v c) vs = wipe ρ vs
  | u :: vs, ρ, v, c, h => by
    unfold wipe
    by_cases e : u = v
    · subst e
      by_cases h2 : u ∈ vs
      · rw [wipe_set h2]
      · have : ∀ (vs : List Nat) (ρ : Env), u ∉ vs → wipe (ρ.set u c) vs = (wipe ρ vs).set u c := by
          intro vs
          induction vs with
          | nil => intro ρ _; rfl
          | cons w vs ih =>
            intro ρ hn
            simp only [List.mem_cons, not_or] at hn
            unfold wipe
            rw [ih ρ hn.2, List.set_comm _ _ hn.1]
        rw [this vs ρ h2, List.set_set]
    · rw [wipe_set ((List.mem_cons.mp h).elim (fun z => absurd z.symm e) id)]
theorem wipe_wipeE : ∀ {ws vs : List Nat} {ρ : Env}, (∀ v ∈ ws, v ∈ vs) → wipe (wipe ρ ws) vs = wipe ρ vs
  | [], _, _, _ => rfl
  | w :: ws, vs, ρ, h => by
    show wipe ((wipe ρ ws).set w none) vs = _
    rw [wipe_set (h w (.head _)), wipe_wipeE fun v hv => h v (.tail _ hv)]
theorem flatMap_if {q : D → Bool} {r : D → D} : ∀ l : List D, (l.flatMap fun x => if q x = true then [r x] else []) = (l.filter q).map r
  | [] => rfl
  | x :: l => by
    rw [List.flatMap_cons, flatMap_if l]
    by_cases h : q x = true
    · rw [if_pos h, List.filter_cons_of_pos h]; rfl
    · rw [if_neg h, List.filter_cons_of_neg h]; rfl
/-- [e for v in it if t] -/
theorem lc1 {v : Nat} {it : M (List D)} {t : M Bool} {e : M D} {ρ : Env} {l : List D} (q : D → Bool) (r : D → D) (hi : it ρ = .ok l ρ) (hp : isO (get ρ v) = false) (hv : v < ρ.length)
    (ht : ∀ x ∈ l, t (ρ.set v (some (.p x))) = .ok (q x) (ρ.set v (some (.p x)))) (he : ∀ x ∈ l, q x = true → e (ρ.set v (some (.p x))) = .ok (r x) (ρ.set v (some (.p x)))) (hl : l.length ≤ lim) :
    lc [v] it (gN v) t e ρ = .ok (.lst ((l.filter q).map r)) ρ := by
  rw [← flatMap_if]
  refine lc_eq (fun x => if q x = true then [r x] else []) hi (fun x hx => ?_) (by rw [flatMap_if, List.length_map]; exact Nat.le_trans (List.length_filter_le _ _) hl) (pur_one hp) (fun u hu => by rw [List.mem_singleton.mp hu]; exact hv)
  refine ⟨ρ.set v (some (.p x)), ?_, wipe_set (.head _)⟩
  unfold cmpT
  show bnd (gN v x) _ ((ρ.set v none)) = _
  rw [bnd_ap, gN_ap, List.set_set]
  dsimp only
  rw [ok_bnd (ht x hx)]
  by_cases h : q x = true
  · rw [if_pos h, if_pos h, ok_bnd (he x hx h)]; rfl
  · rw [if_neg h, if_neg h]; rfl
theorem lc1T {v : Nat} {it : M (List D)} {e : M D} {ρ : Env} {l : List D} (r : D → D) (hi : it ρ = .ok l ρ) (hp : isO (get ρ v) = false) (hv : v < ρ.length)
    (he : ∀ x ∈ l, e (ρ.set v (some (.p x))) = .ok (r x) (ρ.set v (some (.p x)))) (hl : l.length ≤ lim) : lc [v] it (gN v) (Fe.ret true) e ρ = .ok (.lst (l.map r)) ρ := by
  have z := lc1 (t := Fe.ret true) (e := e) (fun _ => true) r hi hp hv (fun _ _ => rfl) (fun x hx _ => he x hx) hl
  rw [List.filter_eq_self.mpr fun _ _ => rfl] at z
  exact z
/-- [e for v, w in it if t] -/
theorem lcP {v w : Nat} {it : M (List D)} {t : M Bool} {e : M D} {ρ : Env} {l : List D} (q : D → Bool) (r : D → D) (hi : it ρ = .ok l ρ) (hp : isO (get ρ v) = false) (hp2 : isO (get ρ w) = false) (hv : v < ρ.length) (hw : w < ρ.length) (hvw : v ≠ w)
    (hb : ∀ x ∈ l, ∃ a b, x = .tup [a, b] ∧ t ((ρ.set v (some (.p a))).set w (some (.p b))) = .ok (q x) ((ρ.set v (some (.p a))).set w (some (.p b))) ∧
      (q x = true → e ((ρ.set v (some (.p a))).set w (some (.p b))) = .ok (r x) ((ρ.set v (some (.p a))).set w (some (.p b))))) (hl : l.length ≤ lim) :
    lc [v, w] it (gT 2 (gCons (gN v) (gCons (gN w) gNil))) t e ρ = .ok (.lst ((l.filter q).map r)) ρ := by
  rw [← flatMap_if]
  refine lc_eq (fun x => if q x = true then [r x] else []) hi (fun x hx => ?_) (by rw [flatMap_if, List.length_map]; exact Nat.le_trans (List.length_filter_le _ _) hl) (pur_two hp hp2) (fun u hu => by
    rcases List.mem_cons.mp hu with rfl | hu
    · exact hv
    · rw [List.mem_singleton.mp hu]; exact hw)
  obtain ⟨a, b, rfl, h1, h2⟩ := hb x hx
  refine ⟨(ρ.set v (some (.p a))).set w (some (.p b)), ?_, by rw [wipe_set (.tail _ (.head _)), wipe_set (.head _)]⟩
  unfold cmpT
  show bnd (gT 2 (gCons (gN v) (gCons (gN w) gNil)) (.tup [a, b])) _ ((ρ.set w none).set v none) = _
  have eg : gT 2 (gCons (gN v) (gCons (gN w) gNil)) (.tup [a, b]) ((ρ.set w none).set v none) = .ok () ((ρ.set v (some (.p a))).set w (some (.p b))) := by
    show R.ok () _ = _
    rw [List.set_set, List.set_comm _ _ (Ne.symm hvw), List.set_set]
  rw [ok_bnd eg, ok_bnd h1]
  by_cases h : q (.tup [a, b]) = true
  · rw [if_pos h, if_pos h, ok_bnd (h2 h)]; rfl
  · rw [if_neg h, if_neg h]; rfl
/-- [e for v in it for w in it1 if t] -/
theorem lc21 {v w : Nat} {it it1 : M (List D)} {t : M Bool} {e : M D} {ρ : Env} {l : List D} (k : D → List D) (q : D → D → Bool) (r : D → D → D) (hi : it ρ = .ok l ρ) (hp : isO (get ρ v) = false) (hp2 : isO (get ρ w) = false) (hv : v < ρ.length) (hw : w < ρ.length) (hvw : v ≠ w)
    (hk : ∀ x ∈ l, it1 ((ρ.set w none).set v (some (.p x))) = .ok (k x) ((ρ.set w none).set v (some (.p x))))
    (ht : ∀ x ∈ l, ∀ y ∈ k x, t ((ρ.set v (some (.p x))).set w (some (.p y))) = .ok (q x y) ((ρ.set v (some (.p x))).set w (some (.p y))))
    (he : ∀ x ∈ l, ∀ y ∈ k x, q x y = true → e ((ρ.set v (some (.p x))).set w (some (.p y))) = .ok (r x y) ((ρ.set v (some (.p x))).set w (some (.p y))))
    (hl : (l.flatMap fun x => ((k x).filter (q x)).map (r x)).length ≤ lim) :
    lc2 [v, w] [w] it (gN v) (Fe.ret true) it1 (gN w) t e ρ = .ok (.lst (l.flatMap fun x => ((k x).filter (q x)).map (r x))) ρ := by
  refine lc2_eq (fun x => ((k x).filter (q x)).map (r x)) hi (fun x hx => ?_) hl (pur_two hp hp2) (fun u hu => by
    rcases List.mem_cons.mp hu with rfl | hu
    · exact hv
    · rw [List.mem_singleton.mp hu]; exact hw)
  unfold cmpT2
  show ∃ ρ', bnd (gN v x) _ ((ρ.set w none).set v none) = _ ∧ _
  rw [bnd_ap, gN_ap, List.set_set]
  dsimp only
  rw [ok_bnd (ret_ap (a := true)), if_pos rfl, ok_bnd (hk x hx)]
  obtain ⟨ρ', e1, w1⟩ := cmpL_eq (f := cmpT [w] (gN w) t e) (vs := [w]) (h := fun y => if q x y = true then [r x y] else []) (ρ0 := (ρ.set w none).set v (some (.p x))) (fun x ρ ρ' => cmpT_wipe) (k x) (fun y hy => by
    refine ⟨(ρ.set v (some (.p x))).set w (some (.p y)), ?_, ?_⟩
    · unfold cmpT
      show bnd (gN w y) _ ((((ρ.set w none).set v (some (.p x))).set w none)) = _
      rw [bnd_ap, gN_ap, List.set_set]
      dsimp only
      rw [List.set_comm _ _ hvw.symm, List.set_set, ok_bnd (ht x hx y hy)]
      by_cases h : q x y = true
      · rw [if_pos h, if_pos h, ok_bnd (he x hx y hy h)]; rfl
      · rw [if_neg h, if_neg h]; rfl
    · rw [wipe_set (.head _)]
      show (ρ.set v _).set w none = ((ρ.set w none).set v _).set w none
      rw [List.set_comm _ _ hvw.symm, List.set_set]) _ rfl
  refine ⟨ρ', by rw [e1, flatMap_if], ?_⟩
  have w2 : wipe ρ' [v, w] = wipe ((ρ.set w none).set v (some (.p x))) [v, w] := by
    show (wipe ρ' [w]).set v none = (wipe _ [w]).set v none
    rw [w1]
  rw [w2, wipe_set (.head _), wipe_set (.tail _ (.head _))]
end Fe
set_option Elab.async false
set_option linter.all false
set_option maxRecDepth 100000
set_option maxHeartbeats 1000000
/-! Rising rows, sorted sets, equality: plain Lean. -/
namespace Fe
open PySem (Str)
/-! ### equality -/
mutual
theorem eqv_refl : ∀ d : D, eqv d d = true
  | .non => rfl
  | .bl b => by simp [eqv]
  | .int i => by simp [eqv]
  | .str s => by simp [eqv]
  | .lst l => by unfold eqv; exact eqvs_refl l
  | .tup l => by unfold eqv; exact eqvs_refl l
theorem eqvs_refl : ∀ l : List D, eqvs l l = true
  | [] => rfl
  | d :: l => by unfold eqvs; rw [eqv_refl d, eqvs_refl l]; rfl
end
theorem eqvs_map {α : Type} {c : α → D} {q : α → α → Bool} (h : ∀ x y, eqv (c x) (c y) = q x y) (hq : ∀ x y, q x y = true ↔ x = y) : ∀ l m : List α, eqvs (l.map c) (m.map c) = true ↔ l = m
  | [], [] => by simp [eqvs]
  | [], _ :: _ => by simp [eqvs]
  | _ :: _, [] => by simp [eqvs]
  | x :: l, y :: m => by
    show (eqv (c x) (c y) && eqvs (l.map c) (m.map c)) = true ↔ _
    rw [Bool.and_eq_true, h, hq, eqvs_map h hq l m, List.cons.injEq]
theorem eqv_int (x y : Int) : eqv (.int x) (.int y) = (x == y) := rfl
theorem eqvs_int (l m : List Int) : eqvs (l.map .int) (m.map .int) = true ↔ l = m := eqvs_map (c := D.int) eqv_int (fun _ _ => beq_iff_eq) l m
def eD (p : Int × Int) : D := .tup [.int p.1, .int p.2]
theorem eqv_eD (p q : Int × Int) : eqv (eD p) (eD q) = (p == q) := by
  show ((p.1 == q.1) && ((p.2 == q.2) && true)) = _
  rw [Bool.and_true]; rfl
theorem eqvs_eD (l m : List (Int × Int)) : eqvs (l.map eD) (m.map eD) = true ↔ l = m := eqvs_map (c := eD) eqv_eD (fun _ _ => beq_iff_eq) l m
theorem deps_le {n : Nat} : ∀ {l : List D}, (∀ d ∈ l, dep d ≤ n) → deps l ≤ n
  | [], _ => Nat.zero_le _
  | d :: l, h => by
    unfold deps
    exact Nat.max_le.mpr ⟨h d (.head _), deps_le fun x hx => h x (.tail _ hx)⟩
theorem lays_of : ∀ {l : List D}, (∀ d ∈ l, lay d = true) → lays l = true
  | [], _ => rfl
  | d :: l, h => by
    unfold lays
    rw [h d (.head _), lays_of fun x hx => h x (.tail _ hx)]; rfl
theorem deps_int (l : List Int) : deps (l.map .int) = 0 := Nat.le_zero.mp (deps_le fun d hd => by obtain ⟨i, _, rfl⟩ := List.mem_map.mp hd; exact Nat.le_refl 0)
theorem lays_int (l : List Int) : lays (l.map .int) = true := lays_of fun d hd => by obtain ⟨i, _, rfl⟩ := List.mem_map.mp hd; rfl
theorem deps_eD (l : List (Int × Int)) : deps (l.map eD) ≤ 1 := deps_le fun d hd => by obtain ⟨i, _, rfl⟩ := List.mem_map.mp hd; exact Nat.le_refl 1
theorem lays_eD (l : List (Int × Int)) : lays (l.map eD) = true := lays_of fun d hd => by obtain ⟨i, _, rfl⟩ := List.mem_map.mp hd; rfl
/-- data of numbers, nested a little -/
def nice (n : Nat) (d : D) : Prop := dep d ≤ n ∧ lay d = true
theorem nice_lst {n : Nat} {l : List D} (h : ∀ d ∈ l, nice n d) : nice (n + 1) (.lst l) := ⟨Nat.succ_le_succ (deps_le fun d hd => (h d hd).1), lays_of fun d hd => (h d hd).2⟩
theorem nice_tup {n : Nat} {l : List D} (h : ∀ d ∈ l, nice n d) : nice (n + 1) (.tup l) := ⟨Nat.succ_le_succ (deps_le fun d hd => (h d hd).1), lays_of fun d hd => (h d hd).2⟩
theorem nice_int {n : Nat} {i : Int} : nice n (.int i) := ⟨Nat.zero_le _, rfl⟩
theorem nice_ints {n : Nat} {l : List Int} : nice (n + 1) (.tup (l.map .int)) := nice_tup fun d hd => by obtain ⟨i, _, rfl⟩ := List.mem_map.mp hd; exact nice_int
theorem nice_eD {n : Nat} {p : Int × Int} : nice (n + 1) (eD p) := nice_ints (l := [p.1, p.2])
theorem nice_edges {n : Nat} {l : List (Int × Int)} : nice (n + 2) (.tup (l.map eD)) := nice_tup fun d hd => by obtain ⟨i, _, rfl⟩ := List.mem_map.mp hd; exact nice_eD
theorem dEq_nice {n m : Nat} {x y : D} (hx : nice n x) (hy : nice m y) (hn : n ≤ 64) (hm : m ≤ 64) : dEq x y = some (eqv x y) := by
  unfold dEq
  rw [if_pos ⟨Nat.le_trans hx.1 hn, Nat.le_trans hy.1 hm, hx.2, hy.2⟩]
@[simp] theorem dEq_int (a b : Int) : dEq (.int a) (.int b) = some (a == b) := rfl
@[simp] theorem dNe_int (a b : Int) : dNe (.int a) (.int b) = some (!(a == b)) := rfl
@[simp] theorem dEq_bl (a b : Bool) : dEq (.bl a) (.bl b) = some (a == b) := rfl
/-! ### sorted sets of ints -/
theorem intsOf_mapE : ∀ l : List Int, intsOf (l.map .int) = some l
  | [] => rfl
  | i :: l => by
    show (intsOf (l.map .int)).map (i :: ·) = _
    rw [intsOf_mapE l]; rfl
theorem insI_low {x : Int} : ∀ {l : List Int}, (∀ y ∈ l, x < y) → insI x l = x :: l
  | [], _ => rfl
  | y :: l, h => by
    have := h y (.head _)
    unfold insI
    rw [if_neg (by omega), if_pos this]
theorem sortI_id : ∀ {l : List Int}, l.Pairwise (· < ·) → sortI l = l
  | [], _ => rfl
  | x :: l, h => by
    rw [List.pairwise_cons] at h
    show insI x (sortI l) = _
    rw [sortI_id h.2, insI_low h.1]
/-! ### sorted sets of pairs -/
def p2 (p : Int × Int) : List Int := [p.1, p.2]
def eLt (p q : Int × Int) : Prop := p.1 < q.1 ∨ p.1 = q.1 ∧ p.2 < q.2
instance (p q : Int × Int) : Decidable (eLt p q) := by unfold eLt; exact inferInstance
theorem lexLt_p2 (p q : Int × Int) : lexLt (p2 p) (p2 q) = decide (eLt p q) := by
  obtain ⟨a, b⟩ := p
  obtain ⟨c, d⟩ := q
  unfold eLt p2 lexLt
  by_cases h : a = c
  · subst h
    rw [if_pos rfl]
    unfold lexLt
    by_cases h2 : b = d
    · subst h2
      rw [if_pos rfl]
      unfold lexLt
      simp
    · rw [if_neg h2]; simp
  · rw [if_neg h]
    simp [h]
theorem eLt_trans {p q r : Int × Int} (h1 : eLt p q) (h2 : eLt q r) : eLt p r := by
  unfold eLt at *
  omega
theorem eLt_or {p q : Int × Int} (h : p ≠ q) : eLt p q ∨ eLt q p := by
  obtain ⟨a, b⟩ := p
  obtain ⟨c, d⟩ := q
  unfold eLt
  have : ¬ (a = c ∧ b = d) := fun ⟨h1, h2⟩ => h (by rw [h1, h2])
  simp only
  omega
theorem eLt_irr {p : Int × Int} : ¬ eLt p p := by unfold eLt; omega
def insE (x : Int × Int) : List (Int × Int) → List (Int × Int)
  | [] => [x]
  | y :: r => if x = y then y :: r else if eLt x y then x :: y :: r else y :: insE x r
def sortE (l : List (Int × Int)) : List (Int × Int) := l.foldr insE []
theorem insT_p2 (x : Int × Int) : ∀ l : List (Int × Int), insT (p2 x) (l.map p2) = (insE x l).map p2
  | [] => rfl
  | y :: l => by
    show (if p2 x = p2 y then p2 y :: l.map p2 else if lexLt (p2 x) (p2 y) = true then p2 x :: p2 y :: l.map p2 else p2 y :: insT (p2 x) (l.map p2)) = (if x = y then y :: l else if eLt x y then x :: y :: l else y :: insE x l).map p2
    have e : p2 x = p2 y ↔ x = y := by
      obtain ⟨a, b⟩ := x
      obtain ⟨c, d⟩ := y
      simp [p2]
    rw [lexLt_p2, insT_p2 x l]
    by_cases h : x = y
    · rw [if_pos (e.mpr h), if_pos h]; rfl
    · rw [if_neg (fun z => h (e.mp z)), if_neg h]
      by_cases h2 : eLt x y
      · rw [if_pos (decide_eq_true h2), if_pos h2]; rfl
      · rw [if_neg (by simpa using h2), if_neg h2]; rfl
theorem sortT_p2 : ∀ l : List (Int × Int), sortT (l.map p2) = (sortE l).map p2
  | [] => rfl
  | x :: l => by
    show insT (p2 x) (sortT (l.map p2)) = (insE x (sortE l)).map p2
    rw [sortT_p2 l, insT_p2]
theorem mem_insE {x z : Int × Int} : ∀ {l : List (Int × Int)}, z ∈ insE x l → z = x ∨ z ∈ l
  | [], h => .inl (List.mem_singleton.mp h)
  | y :: l, h => by
    unfold insE at h
    split at h
    · exact .inr h
    · split at h
      · exact List.mem_cons.mp h
      · rcases List.mem_cons.mp h with e | h
        · exact .inr (e ▸ .head _)
        · exact (mem_insE h).imp id fun h => .tail _ h
theorem insE_rises {x : Int × Int} : ∀ {l : List (Int × Int)}, l.Pairwise eLt → (insE x l).Pairwise eLt
  | [], _ => List.pairwise_cons.mpr ⟨fun z hz => absurd hz List.not_mem_nil, List.Pairwise.nil⟩
  | y :: l, h => by
    unfold insE
    split
    · exact h
    · rename_i hne
      rw [List.pairwise_cons] at h
      split
      · rename_i hlt
        exact List.pairwise_cons.mpr ⟨fun z hz => by
          rcases List.mem_cons.mp hz with rfl | hz
          · exact hlt
          · exact eLt_trans hlt (h.1 z hz), List.pairwise_cons.mpr h⟩
      · rename_i hnl
        refine List.pairwise_cons.mpr ⟨fun z hz => ?_, insE_rises h.2⟩
        rcases mem_insE hz with rfl | hz
        · exact (eLt_or hne).resolve_left hnl
        · exact h.1 z hz
theorem insE_len {x : Int × Int} : ∀ {l : List (Int × Int)}, (insE x l).length ≤ l.length + 1
  | [] => Nat.le_refl _
  | y :: l => by
    unfold insE
    split
    · exact Nat.le_succ _
    · split
      · exact Nat.le_refl _
      · exact Nat.succ_le_succ insE_len
theorem sortE_rises : ∀ {l : List (Int × Int)}, (sortE l).Pairwise eLt
  | [] => .nil
  | x :: l => insE_rises (sortE_rises (l := l))
theorem sortE_mem {z : Int × Int} : ∀ {l : List (Int × Int)}, z ∈ sortE l → z ∈ l
  | x :: l, h => (mem_insE (l := sortE l) h).elim (fun e => e ▸ .head _) fun h => .tail _ (sortE_mem h)
theorem sortE_len : ∀ {l : List (Int × Int)}, (sortE l).length ≤ l.length
  | [] => Nat.le_refl _
  | x :: l => Nat.le_trans insE_len (Nat.succ_le_succ (sortE_len (l := l)))
theorem insE_low {x : Int × Int} : ∀ {l : List (Int × Int)}, (∀ y ∈ l, eLt x y) → insE x l = x :: l
  | [], _ => rfl
  | y :: l, h => by
    have := h y (.head _)
    unfold insE
    rw [if_neg (fun z => by rw [z] at this; exact eLt_irr this), if_pos this]
theorem sortE_id : ∀ {l : List (Int × Int)}, l.Pairwise eLt → sortE l = l
  | [], _ => rfl
  | x :: l, h => by
    rw [List.pairwise_cons] at h
    show insE x (sortE l) = _
    rw [sortE_id h.2, insE_low h.1]
theorem tupsOf_eD : ∀ l : List (Int × Int), tupsOf (l.map eD) = some (l.map p2)
  | [] => rfl
  | p :: l => by
    show (some [p.1, p.2]).bind (fun ns => (tupsOf (l.map eD)).map (ns :: ·)) = _
    rw [tupsOf_eD l]; rfl
theorem dSortT_eD {l : List (Int × Int)} (h : ∀ p ∈ l, 0 ≤ p.1 ∧ p.1 < 64 ∧ 0 ≤ p.2 ∧ p.2 < 64) : dSortT (l.map eD) = some (.lst ((sortE l).map eD)) := by
  unfold dSortT
  rw [tupsOf_eD]
  show (if bdd 2 (l.map p2) = true then some (D.lst ((sortT (l.map p2)).map ofTup)) else none) = _
  have hb : bdd 2 (l.map p2) = true := by
    unfold bdd
    rw [List.all_eq_true]
    intro ns hns
    obtain ⟨p, hp, rfl⟩ := List.mem_map.mp hns
    have := h p hp
    unfold p2
    simp only [List.length_cons, List.length_nil, List.all_cons, List.all_nil, Bool.and_true, Bool.and_eq_true, decide_eq_true_eq]
    exact ⟨trivial, ⟨this.1, this.2.1⟩, this.2.2⟩
  rw [if_pos hb, sortT_p2, List.map_map]
  rfl
theorem intsOf_eD : ∀ {l : List (Int × Int)}, l ≠ [] → intsOf (l.map eD) = none
  | p :: l, _ => rfl
theorem dSort_tupE {l : List (Int × Int)} (hn : l.length < 64) (h : ∀ p ∈ l, 0 ≤ p.1 ∧ p.1 < 64 ∧ 0 ≤ p.2 ∧ p.2 < 64) : dSortSet (.tup (l.map eD)) = some (.lst ((sortE l).map eD)) := by
  unfold dSortSet
  dsimp only
  rw [if_pos (by rw [List.length_map]; exact hn)]
  by_cases e : l = []
  · subst e; rfl
  · rw [intsOf_eD e]
    exact dSortT_eD h
theorem dSort_lstE {l : List (Int × Int)} (hn : l.length < 64) (h : ∀ p ∈ l, 0 ≤ p.1 ∧ p.1 < 64 ∧ 0 ≤ p.2 ∧ p.2 < 64) : dSortSet (.lst (l.map eD)) = some (.lst ((sortE l).map eD)) := by
  unfold dSortSet
  dsimp only
  rw [if_pos (by rw [List.length_map]; exact hn)]
  exact dSortT_eD h
theorem dSort_ints {l : List Int} (hn : l.length < 64) : dSortSet (.tup (l.map .int)) = some (.lst ((sortI l).map .int)) := by
  unfold dSortSet
  dsimp only
  rw [if_pos (by rw [List.length_map]; exact hn), intsOf_mapE]
/-! ### bools -/
theorem boolsOf_mapE {α : Type} {q : α → Bool} : ∀ l : List α, boolsOf (l.map fun x => .bl (q x)) = some (l.map q)
  | [] => rfl
  | x :: l => by
    show (boolsOf (l.map fun x => .bl (q x))).map (q x :: ·) = _
    rw [boolsOf_mapE l]; rfl
theorem dAll_map {α : Type} {q : α → Bool} (l : List α) : dAll (.lst (l.map fun x => .bl (q x))) = some (.bl (l.all q)) := by
  show (boolsOf _).map _ = _
  rw [boolsOf_mapE]
  simp [List.all_map]
theorem dAny_map {α : Type} {q : α → Bool} (l : List α) : dAny (.lst (l.map fun x => .bl (q x))) = some (.bl (l.any q)) := by
  show (boolsOf _).map _ = _
  rw [boolsOf_mapE]
  simp [List.any_map]
theorem dIn_ints (x : Int) (l : List Int) : dIn (.int x) (.tup (l.map .int)) = some (decide (x ∈ l)) := by
  unfold dIn
  dsimp only
  rw [if_pos ⟨rfl, deps_int l⟩, List.any_map]
  congr 1
  rw [Bool.eq_iff_iff, List.any_eq_true, decide_eq_true_eq]
  constructor
  · rintro ⟨y, hy, e⟩
    have : y = x := beq_iff_eq.mp e
    exact this ▸ hy
  · intro h
    exact ⟨x, h, beq_iff_eq.mpr rfl⟩
end Fe
set_option Elab.async false
set_option linter.all false
set_option maxRecDepth 100000
set_option maxHeartbeats 1000000
namespace K05
open PySem (Str)
open Fe
/-! ### whole, rising -/
def whole (v : D) (lo hi : Int) : Bool := match v with
  | .int i => decide (lo ≤ i) && decide (i ≤ hi)
  | _ => false
theorem is_whole (v : D) (lo hi : Int) : f_is_whole [v, .int lo, .int hi] = .ok (.bl (whole v lo hi)) := by
  cases v with
  | int i => by_cases h : lo ≤ i <;> simp [f_is_whole, run, b_is_whole, start, vr_ap, dIsi, asBool, dLe, h, whole]
  | bl b => simp [f_is_whole, run, b_is_whole, start, vr_ap, dIsi, asBool, dLe, whole]
  | _ => simp [f_is_whole, run, b_is_whole, start, vr_ap, dIsi, asBool, dLe, whole]
def wholes (v : D) (lo hi : Int) : Bool := match v with
  | .tup l => l.all fun x => whole x lo hi
  | _ => false
theorem are_whole (v : D) (lo hi : Int) (hl : ∀ l, v = .tup l → l.length ≤ lim) : f_are_whole [v, .int lo, .int hi] = .ok (.bl (wholes v lo hi)) := by
  cases v with
  | tup l =>
    have e := lc1T (v := 3) (it := itm (vr 0)) (e := cl f_is_whole (consA (vr 3) (consA (vr 1) (consA (vr 2) nilA)))) (ρ := [some (.p (.tup l)), some (.p (.int lo)), some (.p (.int hi)), none]) (l := l) (fun x => .bl (whole x lo hi))
      (by simp [vr_ap, items]) rfl (by simp) (fun x _ => by simp [vr_ap, is_whole]) (hl l rfl)
    simp [f_are_whole, run, b_are_whole, start, vr_ap, dIsi, asBool, e, dAll_map, wholes]
  | _ => simp [f_are_whole, run, b_are_whole, start, vr_ap, dIsi, asBool, wholes]
theorem whole_ints {l : List Int} {lo hi : Int} (h : ∀ i ∈ l, lo ≤ i ∧ i ≤ hi) : wholes (.tup (l.map .int)) lo hi = true := by
  show ((l.map D.int).all fun x => whole x lo hi) = true
  rw [List.all_map, List.all_eq_true]
  intro i hi
  have := h i hi
  show (decide _ && decide _) = true
  rw [decide_eq_true this.1, decide_eq_true this.2]; rfl
theorem lim64 {n : Nat} (h : n < 64) : n ≤ lim := by unfold lim; omega
theorem is_rising {l : List Int} {lo hi : Int} (hl : l.length < 64) (h : ∀ i ∈ l, lo ≤ i ∧ i ≤ hi) (hr : l.Pairwise (· < ·)) : f_is_rising [.tup (l.map .int), .int lo, .int hi] = .ok (.bl true) := by
  have e1 := are_whole (.tup (l.map .int)) lo hi (fun m hm => by cases hm; rw [List.length_map]; exact lim64 hl)
  rw [whole_ints h] at e1
  have e2 := dSort_ints hl
  rw [sortI_id hr] at e2
  have e3 : dEq (.lst (l.map .int)) (.lst (l.map .int)) = some true := by
    rw [dEq_nice (n := 1) (m := 1) (nice_lst fun d hd => by obtain ⟨i, _, rfl⟩ := List.mem_map.mp hd; exact nice_int) (nice_lst fun d hd => by obtain ⟨i, _, rfl⟩ := List.mem_map.mp hd; exact nice_int) (by decide) (by decide), eqv_refl]
  simp [f_is_rising, run, b_is_rising, start, vr_ap, e1, asBool, dList, e2, e3]
theorem not_rising {v : D} {lo hi : Int} (hl : ∀ l, v = .tup l → l.length ≤ lim) (h : wholes v lo hi = false) : f_is_rising [v, .int lo, .int hi] = .ok (.bl false) := by
  have e1 := are_whole v lo hi hl
  rw [h] at e1
  simp [f_is_rising, run, b_is_rising, start, vr_ap, e1, asBool]
theorem not_rising00 {lo hi : Int} (h1 : lo ≤ 0) (h2 : 0 ≤ hi) : f_is_rising [.tup [.int 0, .int 0], .int lo, .int hi] = .ok (.bl false) := by
  have e1 := are_whole (.tup [.int 0, .int 0]) lo hi (fun m hm => by cases hm; decide)
  have e2 : wholes (.tup [.int 0, .int 0]) lo hi = true := whole_ints (l := [0, 0]) fun i hi => by simp at hi; omega
  rw [e2] at e1
  have e3 : dSortSet (.tup [.int 0, .int 0]) = some (.lst [.int 0]) := rfl
  have e4 : dEq (.lst [.int 0, .int 0]) (.lst [.int 0]) = some false := rfl
  simp [f_is_rising, run, b_is_rising, start, vr_ap, e1, asBool, dList, e3, e4]
theorem need_ok (s : Str) : f_need [.bl true, .str s] = .ok .non := by
  simp [f_need, run, b_need, start, vr_ap, truth]
theorem need_ex (s : Str) : f_need [.bl false, .str s] = .ex ⟨"BadArgument", [("name", .str s)]⟩ := by
  simp [f_need, run, b_need, start, vr_ap, truth]
/-! ### graphs -/
structure Graph (n : Nat) (E : List (Int × Int)) : Prop where
  lo : 1 ≤ n
  hi : n ≤ 6
  ri : E.Pairwise eLt
  bd : ∀ p ∈ E, 0 ≤ p.1 ∧ p.1 < p.2 ∧ p.2 < n
  sz : E.length ≤ 8
variable {n : Nat} {E : List (Int × Int)}
def tE (E : List (Int × Int)) : D := .tup (E.map eD)
/-- one turn of the loop of are_edges -/
def loopE : D → S := fun x => bnd (gN 2 x) fun _ => (seq (iff (orT (notT (tst (cmp1 (dIsi "tuple") (vr 2)))) (orT (tsb (cmp dNe (op1 dLen (vr 2)) (Fe.ret (.int 2)))) (notT (tst (op1 dAll (lc [3] (itm (vr 2)) (gN 3) (Fe.ret true) (cl f_is_whole (consA (vr 3) (consA (Fe.ret (.int 0)) (consA (op2 dSub (vr 1) (Fe.ret (.int 1))) nilA)))))))))) (rtn (Fe.ret (.bl false))) sNx)
    (iff (tsb (cmp dGe (op2 dIx (vr 2) (Fe.ret (.int 0))) (op2 dIx (vr 2) (Fe.ret (.int 1))))) (rtn (Fe.ret (.bl false))) sNx))
theorem loop_two (a b : D) (m : Int) (u : D) : (lc [3] (itm (vr 2)) (gN 3) (Fe.ret true) (cl f_is_whole (consA (vr 3) (consA (Fe.ret (.int 0)) (consA (op2 dSub (vr 1) (Fe.ret (.int 1))) nilA))))) [some (.p u), some (.p (.int m)), some (.p (.tup [a, b])), none] = .ok (.lst ([a, b].map fun x => .bl (whole x 0 (m - 1)))) [some (.p u), some (.p (.int m)), some (.p (.tup [a, b])), none] :=
  lc1T (v := 3) (l := [a, b]) (fun x => .bl (whole x 0 (m - 1))) (by simp [vr_ap, items]) rfl (by simp) (fun x _ => by simp [vr_ap, is_whole, dSub]) (by simp [lim])
theorem loop_two' (a b : D) (m : Int) (u : D) : ∃ L, (lc [3] (itm (vr 2)) (gN 3) (Fe.ret true) (cl f_is_whole (consA (vr 3) (consA (Fe.ret (.int 0)) (consA (op2 dSub (vr 1) (Fe.ret (.int 1))) nilA))))) [some (.p u), some (.p (.int m)), some (.p (.tup [a, b])), none] = .ok (.lst L) [some (.p u), some (.p (.int m)), some (.p (.tup [a, b])), none] ∧
    dAll (.lst L) = some (.bl (whole a 0 (m - 1) && whole b 0 (m - 1))) := ⟨_, loop_two a b m u, by rw [dAll_map]; simp⟩
theorem loop_edge {p : Int × Int} {m : Int} {u : D} {z : Option C} (h1 : 0 ≤ p.1) (h2 : p.1 < p.2) (h3 : p.2 < m) : loopE (eD p) [some (.p u), some (.p (.int m)), z, none] = .ok .nx [some (.p u), some (.p (.int m)), some (.p (eD p)), none] := by
  obtain ⟨L, e, e2⟩ := loop_two' (.int p.1) (.int p.2) m u
  have a1 : whole (.int p.1) 0 (m - 1) = true := by unfold whole; simp; omega
  have a2 : whole (.int p.2) 0 (m - 1) = true := by unfold whole; simp; omega
  rw [a1, a2] at e2
  have e3 : dGe (.int p.1) (.int p.2) = some false := by unfold dGe; simp; omega
  unfold loopE eD
  simp [vr_ap, dIsi, truth, dLen, asBool, e, e2, dIx, ixN, e3]
theorem loop_run {m : Int} {u : D} : ∀ {l : List (Int × Int)} {z : Option C}, (∀ p ∈ l, 0 ≤ p.1 ∧ p.1 < p.2 ∧ p.2 < m) → ∃ z', forL loopE (l.map eD) [some (.p u), some (.p (.int m)), z, none] = .ok .nx [some (.p u), some (.p (.int m)), z', none]
  | [], z, _ => ⟨z, rfl⟩
  | p :: l, z, h => by
    obtain ⟨z', e⟩ := loop_run (l := l) (z := some (.p (eD p))) fun q hq => h q (.tail _ hq)
    refine ⟨z', ?_⟩
    have := h p (.head _)
    show forL loopE (eD p :: l.map eD) _ = _
    rw [forL_cons, ok_bnd (loop_edge this.1 this.2.1 this.2.2)]
    exact e
theorem are_edges (g : Graph n E) : f_are_edges [tE E, .int n] = .ok (.bl true) := by
  obtain ⟨z', e⟩ := loop_run (u := tE E) (z := none) g.bd
  have hs : dSortSet (tE E) = some (.lst (E.map eD)) := by
    have := dSort_tupE (l := E) (by have := g.sz; omega) fun p hp => by have := g.bd p hp; have := g.hi; omega
    rw [sortE_id g.ri] at this
    exact this
  have e3 : dEq (.lst (E.map eD)) (.lst (E.map eD)) = some true := by
    rw [dEq_nice (n := 2) (m := 2) (nice_lst fun d hd => by obtain ⟨i, _, rfl⟩ := List.mem_map.mp hd; exact nice_eD) (nice_lst fun d hd => by obtain ⟨i, _, rfl⟩ := List.mem_map.mp hd; exact nice_eD) (by decide) (by decide), eqv_refl]
  have ed : dList (tE E) = some (.lst (E.map eD)) := rfl
  have eh : forL (fun x => bnd (gN 2 x) fun _ => (seq (iff (orT (notT (tst (cmp1 (dIsi "tuple") (vr 2)))) (orT (tsb (cmp dNe (op1 dLen (vr 2)) (Fe.ret (.int 2)))) (notT (tst (op1 dAll (lc [3] (itm (vr 2)) (gN 3) (Fe.ret true) (cl f_is_whole (consA (vr 3) (consA (Fe.ret (.int 0)) (consA (op2 dSub (vr 1) (Fe.ret (.int 1))) nilA)))))))))) (rtn (Fe.ret (.bl false))) sNx)
    (iff (tsb (cmp dGe (op2 dIx (vr 2) (Fe.ret (.int 0))) (op2 dIx (vr 2) (Fe.ret (.int 1))))) (rtn (Fe.ret (.bl false))) sNx))) (E.map eD) [some (.p (tE E)), some (.p (.int n)), none, none] = .ok .nx [some (.p (tE E)), some (.p (.int n)), z', none] := e
  have ei : items (tE E) = some (E.map eD) := rfl
  have et : dIsi "tuple" (tE E) = some true := rfl
  simp [f_are_edges, run, b_are_edges, start, vr_ap, et, truth, ei, eh, ed, hs, e3]
/-! edges that are none -/
theorem edges_no {v : D} {m : Int} (h : dIsi "tuple" v = some false) : f_are_edges [v, .int m] = .ok (.bl false) := by
  simp [f_are_edges, run, b_are_edges, start, vr_ap, h, truth]
theorem loop_bad {a b : D} {m : Int} {u : D} {z : Option C} (h : (whole a 0 (m - 1) && whole b 0 (m - 1)) = false) : loopE (.tup [a, b]) [some (.p u), some (.p (.int m)), z, none] = .ok (.rt (.bl false)) [some (.p u), some (.p (.int m)), some (.p (.tup [a, b])), none] := by
  obtain ⟨L, e, e2⟩ := loop_two' a b m u
  rw [h] at e2
  unfold loopE
  simp [vr_ap, dIsi, truth, dLen, asBool, e, e2, dIx, ixN]
theorem loop_ge {a b : Int} {m : Int} {u : D} {z : Option C} (h : b ≤ a) : loopE (.tup [.int a, .int b]) [some (.p u), some (.p (.int m)), z, none] = .ok (.rt (.bl false)) [some (.p u), some (.p (.int m)), some (.p (.tup [.int a, .int b])), none] := by
  obtain ⟨L, e, e2⟩ := loop_two' (.int a) (.int b) m u
  have e3 : dGe (.int a) (.int b) = some true := by unfold dGe; simp; omega
  unfold loopE
  cases h2 : (whole (.int a) 0 (m - 1) && whole (.int b) 0 (m - 1)) <;> rw [h2] at e2 <;> simp [vr_ap, dIsi, truth, dLen, asBool, e, e2, dIx, ixN, e3]
theorem loop_3 {a b c : D} {m : Int} {u : D} {z : Option C} : loopE (.tup [a, b, c]) [some (.p u), some (.p (.int m)), z, none] = .ok (.rt (.bl false)) [some (.p u), some (.p (.int m)), some (.p (.tup [a, b, c])), none] := by
  unfold loopE
  simp [vr_ap, dIsi, truth, dLen, asBool]
theorem edges_one {e : D} {m : Int} {ρ : Env} (h : loopE e [some (.p (.tup [e])), some (.p (.int m)), none, none] = .ok (.rt (.bl false)) ρ) : f_are_edges [.tup [e], .int m] = .ok (.bl false) := by
  have h2 : forL loopE [e] [some (.p (.tup [e])), some (.p (.int m)), none, none] = .ok (.rt (.bl false)) ρ := by
    rw [forL_cons, ok_bnd h]; rfl
  unfold loopE at h2
  simp [f_are_edges, run, b_are_edges, start, vr_ap, dIsi, truth, items, h2]
/-- what the law hands in that are no edges -/
def bads (n : Int) : List D := [.non, .lst [.tup [.int 0, .int 1]], .tup [.tup [.int 1, .int 0]], .tup [.tup [.int 0, .int n]], .tup [.tup [.int 0, .int 0]], .tup [.tup [.int 0, .int 1, .int 2]], .tup [.tup [.bl true, .int 1]]]
theorem bad_edges {n : Int} {v : D} (h : v ∈ bads n) : f_are_edges [v, .int n] = .ok (.bl false) := by
  simp only [bads, List.mem_cons, List.not_mem_nil, or_false] at h
  rcases h with rfl | rfl | rfl | rfl | rfl | rfl | rfl
  · exact edges_no rfl
  · exact edges_no rfl
  · exact edges_one (loop_ge (by decide))
  · exact edges_one (loop_bad (by
      have : whole (.int n) 0 (n - 1) = false := by unfold whole; simp; omega
      rw [this, Bool.and_false]))
  · exact edges_one (loop_ge (by decide))
  · exact edges_one loop_3
  · exact edges_one (loop_bad rfl)
/-! ### need_graph -/
theorem whole_n (g : Graph n E) : whole (.int n) 1 12 = true := by
  have := g.lo
  have := g.hi
  unfold whole; simp; omega
theorem need_graph (g : Graph n E) : f_need_graph [.int n, tE E, .int 12] = .ok .non := by
  simp [f_need_graph, run, b_need_graph, start, vr_ap, is_whole, whole_n g, need_ok, are_edges g]
theorem need_graph_e {v : D} (g : Graph n E) (h : v ∈ bads n) : f_need_graph [.int n, v, .int 12] = .ex ⟨"BadArgument", [("name", .str "edges")]⟩ := by
  simp [f_need_graph, run, b_need_graph, start, vr_ap, is_whole, whole_n g, need_ok, bad_edges h, need_ex]
theorem need_graph_m {v : D} {m : Int} (h : whole (.int m) 1 12 = false) : f_need_graph [.int m, v, .int 12] = .ex ⟨"BadArgument", [("name", .str "many")]⟩ := by
  simp [f_need_graph, run, b_need_graph, start, vr_ap, is_whole, h, need_ex]
/-! ### covers, stable rows -/
def rt (s : List Int) : D := .tup (s.map .int)
/-- rows of things as the law draws them -/
structure Rise (n : Nat) (s : List Int) : Prop where
  ri : s.Pairwise (· < ·)
  bd : ∀ i ∈ s, 0 ≤ i ∧ i < n
  sz : s.length < 64
def cov (E : List (Int × Int)) (s : List Int) : Bool := E.all fun p => decide (p.1 ∈ s) || decide (p.2 ∈ s)
def both (E : List (Int × Int)) (s : List Int) : Bool := E.any fun p => decide (p.1 ∈ s) && decide (p.2 ∈ s)
theorem rising_ok {s : List Int} (r : Rise n s) : f_is_rising [rt s, .int 0, .int (n - 1)] = .ok (.bl true) := is_rising r.sz (fun i hi => by have := r.bd i hi; omega) r.ri
theorem stable_in {s : List Int} (hl : E.length ≤ lim) : f_is_stable_in [tE E, rt s] = .ok (.bl (!both E s)) := by
  have e := lcP (v := 2) (w := 3) (it := itm (vr 0)) (t := Fe.ret true) (e := andV (cmp dIn (vr 2) (vr 1)) (cmp dIn (vr 3) (vr 1))) (ρ := [some (.p (tE E)), some (.p (rt s)), none, none]) (l := E.map eD) (fun _ => true)
    (fun d => match d with | .tup [.int a, .int b] => .bl (decide (a ∈ s) && decide (b ∈ s)) | _ => .non) (by simp [vr_ap, tE, items]) rfl rfl (by simp) (by simp) (by decide)
    (fun x hx => by
      obtain ⟨p, _, rfl⟩ := List.mem_map.mp hx
      refine ⟨.int p.1, .int p.2, rfl, rfl, fun _ => ?_⟩
      by_cases h : p.1 ∈ s <;> simp [vr_ap, rt, dIn_ints, asBool, h, eD]) (by rw [List.length_map]; exact hl)
  rw [List.filter_eq_self.mpr fun _ _ => rfl, List.map_map] at e
  have e2 : dAny (.lst (E.map ((fun d => match d with | .tup [.int a, .int b] => .bl (decide (a ∈ s) && decide (b ∈ s)) | _ => .non) ∘ eD))) = some (.bl (both E s)) := dAny_map E
  simp [f_is_stable_in, run, b_is_stable_in, start, e, e2, asBool]
theorem is_stable {s : List Int} (g : Graph n E) (r : Rise n s) : f_is_stable [.int n, tE E, rt s] = .ok (.bl (!both E s)) := by
  simp [f_is_stable, run, b_is_stable, start, vr_ap, need_graph g, dSub, rising_ok r, asBool, stable_in (E := E) (s := s) (by have := g.sz; unfold lim; omega)]
theorem not_stable {v : D} (g : Graph n E) (h : f_is_rising [v, .int 0, .int (n - 1)] = .ok (.bl false)) : f_is_stable [.int n, tE E, v] = .ok (.bl false) := by
  simp [f_is_stable, run, b_is_stable, start, vr_ap, need_graph g, dSub, h, asBool]
theorem not_cover {v : D} (g : Graph n E) (h : f_is_rising [v, .int 0, .int (n - 1)] = .ok (.bl false)) : f_is_cover [.int n, tE E, v] = .ok (.bl false) := by
  simp [f_is_cover, run, b_is_cover, start, vr_ap, need_graph g, dSub, h, truth]
/-- [one in s or other in s for one, other in edges] -/
theorem all_cov {v w i : Nat} {ρ : Env} {s : List Int} (hi : itm (vr i) ρ = .ok (E.map eD) ρ) {e : M D} (hp : isO (get ρ v) = false) (hp2 : isO (get ρ w) = false) (hv : v < ρ.length) (hw : w < ρ.length) (hvw : v ≠ w) (hl : E.length ≤ lim)
    (he : ∀ p ∈ E, e ((ρ.set v (some (.p (.int p.1)))).set w (some (.p (.int p.2)))) = .ok (.bl (decide (p.1 ∈ s) || decide (p.2 ∈ s))) ((ρ.set v (some (.p (.int p.1)))).set w (some (.p (.int p.2))))) :
    op1 dAll (lc [v, w] (itm (vr i)) (gT 2 (gCons (gN v) (gCons (gN w) gNil))) (Fe.ret true) e) ρ = .ok (.bl (cov E s)) ρ := by
  have e := lcP (it := itm (vr i)) (t := Fe.ret true) (e := e) (ρ := ρ) (l := E.map eD) (fun _ => true)
    (fun d => match d with | .tup [.int a, .int b] => .bl (decide (a ∈ s) || decide (b ∈ s)) | _ => .non) hi hp hp2 hv hw hvw
    (fun x hx => by
      obtain ⟨p, hp, rfl⟩ := List.mem_map.mp hx
      exact ⟨.int p.1, .int p.2, rfl, rfl, fun _ => he p hp⟩) (by rw [List.length_map]; exact hl)
  rw [List.filter_eq_self.mpr fun _ _ => rfl, List.map_map] at e
  have e2 : dAll (.lst (E.map ((fun d => match d with | .tup [.int a, .int b] => .bl (decide (a ∈ s) || decide (b ∈ s)) | _ => .non) ∘ eD))) = some (.bl (cov E s)) := dAll_map E
  rw [op1_ap, ok_bnd e, e2]; rfl
theorem is_cover {s : List Int} (g : Graph n E) (r : Rise n s) : f_is_cover [.int n, tE E, rt s] = .ok (.bl (cov E s)) := by
  have e := all_cov (E := E) (s := s) (v := 3) (w := 4) (i := 1) (ρ := [some (.p (.int n)), some (.p (tE E)), some (.p (rt s)), none, none]) (e := orV (cmp dIn (vr 3) (vr 2)) (cmp dIn (vr 4) (vr 2))) (by simp [vr_ap, tE, items]) rfl rfl (by simp) (by simp) (by decide) (by have := g.sz; unfold lim; omega)
    (fun p _ => by by_cases h : p.1 ∈ s <;> simp [vr_ap, rt, dIn_ints, asBool, h])
  simp [-op1_ap, f_is_cover, run, b_is_cover, start, vr_ap, need_graph g, dSub, rising_ok r, truth, e]
end K05
set_option Elab.async false
set_option linter.all false
set_option maxRecDepth 100000
set_option maxHeartbeats 1000000
namespace K05
open PySem (Str)
open Fe
/-! ### rising rows of some things -/
def lastOk (own : List D) (y : D) : Bool := match own.getLast? with
  | none => true
  | some z => (dGt y z).getD false
def kidsD (xs : List D) (x : D) : List D := match x with
  | .tup own => (xs.filter (lastOk own)).map fun y => .tup (own ++ [y])
  | _ => []
def rowsD (xs : List D) : Nat → List D
  | 0 => [.tup []]
  | k + 1 => (rowsD xs k).flatMap (kidsD xs)
/-- things that the text can compare -/
structure Th (xs : List D) : Prop where
  ni : ∀ y ∈ xs, nice 2 y
  gt : ∀ y ∈ xs, ∀ z ∈ xs, ∃ b, dGt y z = some b
  len : xs.length ≤ 63
/-- a row of k of them -/
def IsRow (xs : List D) (k : Nat) (x : D) : Prop := ∃ own, x = .tup own ∧ own.length = k ∧ ∀ y ∈ own, y ∈ xs
theorem kids_row {xs : List D} {k : Nat} {x z : D} (h : IsRow xs k x) (hz : z ∈ kidsD xs x) : IsRow xs (k + 1) z := by
  obtain ⟨own, rfl, hl, hm⟩ := h
  obtain ⟨y, hy, rfl⟩ := List.mem_map.mp hz
  refine ⟨own ++ [y], rfl, by rw [List.length_append, hl]; rfl, fun u hu => ?_⟩
  rcases List.mem_append.mp hu with h | h
  · exact hm u h
  · rw [List.mem_singleton.mp h]
    exact (List.mem_filter.mp hy).1
theorem rows_row {xs : List D} : ∀ {k : Nat} {x : D}, x ∈ rowsD xs k → IsRow xs k x
  | 0, x, h => by
    rw [List.mem_singleton.mp h]
    exact ⟨[], rfl, rfl, fun _ h => absurd h List.not_mem_nil⟩
  | k + 1, x, h => by
    obtain ⟨y, hy, hx⟩ := List.mem_flatMap.mp h
    exact kids_row (rows_row hy) hx
theorem flat_len {f : D → List D} {m : Nat} : ∀ {l : List D}, (∀ x ∈ l, (f x).length ≤ m) → (l.flatMap f).length ≤ l.length * m
  | [], _ => Nat.zero_le _
  | x :: l, h => by
    rw [List.flatMap_cons, List.length_append, List.length_cons, Nat.add_mul, Nat.one_mul, Nat.add_comm]
    exact Nat.add_le_add (flat_len fun y hy => h y (.tail _ hy)) (h x (.head _))
theorem flat_congr {f g : D → List D} : ∀ {l : List D}, (∀ x ∈ l, f x = g x) → l.flatMap f = l.flatMap g
  | [], _ => rfl
  | x :: l, h => by rw [List.flatMap_cons, List.flatMap_cons, h x (.head _), flat_congr fun y hy => h y (.tail _ hy)]
theorem kids_len {xs : List D} {x : D} : (kidsD xs x).length ≤ xs.length := by
  unfold kidsD
  split
  · rw [List.length_map]; exact List.length_filter_le _ _
  · exact Nat.zero_le _
theorem rows_len {xs : List D} : ∀ {k : Nat}, (rowsD xs k).length ≤ xs.length ^ k
  | 0 => Nat.le_refl 1
  | k + 1 => by
    rw [Nat.pow_succ]
    exact Nat.le_trans (flat_len fun x _ => kids_len) (Nat.mul_le_mul_right _ rows_len)
theorem last_ix {own : List D} {z : D} (h : own.getLast? = some z) : dIx (.tup own) (.int (-1)) = some z := by
  have hne : own ≠ [] := fun e => by rw [e] at h; cases h
  have hp : 0 < own.length := List.length_pos_iff.mpr hne
  unfold dIx ixN
  dsimp only
  rw [if_neg (by decide), if_pos (by omega)]
  show own[((-1) + (own.length : Int)).toNat]? = _
  rw [show ((-1) + (own.length : Int)).toNat = own.length - 1 by omega, ← List.getLast?_eq_getElem?]
  exact h
theorem nice_own {xs own : List D} (T : Th xs) (h : ∀ y ∈ own, y ∈ xs) : nice 3 (.tup own) := nice_tup fun d hd => T.ni d (h d hd)
theorem eq_nil {own : List D} (h : nice 3 (.tup own)) : dEq (.tup own) (.tup []) = some own.isEmpty := by
  rw [dEq_nice (m := 1) h (nice_tup fun d hd => absurd hd List.not_mem_nil) (by decide) (by decide)]
  cases own <;> rfl
/-- the comprehension in _law_rows, at slots that are free -/
theorem grow_lc {xs rows : List D} {k : Nat} {s0 s1 s3 : Option C} (T : Th xs) (hr : ∀ x ∈ rows, IsRow xs k x) (hk : k ≤ 1000) (hl : rows.length * xs.length ≤ lim) :
    lc2 [4, 5] [5] (itm (vr 2)) (gN 4) (Fe.ret true) (itm (vr 0)) (gN 5) (orT (tsb (cmp dEq (vr 4) (tupE nilA))) (tsb (cmp dGt (vr 5) (op2 dIx (vr 4) (op1 dNeg (Fe.ret (.int 1))))))) (op2 dAdd (vr 4) (tupE (consA (vr 5) nilA))) [some (.p (.lst xs)), s1, some (.p (.lst rows)), s3, none, none] =
      .ok (.lst (rows.flatMap (kidsD xs))) [some (.p (.lst xs)), s1, some (.p (.lst rows)), s3, none, none] := by
  have ek : rows.flatMap (kidsD xs) = rows.flatMap fun x => ((xs).filter ((fun x y => match x with | .tup own => lastOk own y | _ => true) x)).map ((fun x y => match x with | .tup own => .tup (own ++ [y]) | _ => D.non) x) := by
    refine flat_congr fun x hx => ?_
    obtain ⟨own, rfl, _, _⟩ := hr x hx
    rfl
  have hlen : (rows.flatMap (kidsD xs)).length ≤ lim := Nat.le_trans (flat_len fun x _ => kids_len) hl
  rw [ek] at hlen ⊢
  refine lc21 (fun _ => xs) (fun x y => match x with | .tup own => lastOk own y | _ => true) (fun x y => match x with | .tup own => .tup (own ++ [y]) | _ => D.non) (by simp [vr_ap, items]) rfl rfl (by simp) (by simp) (by decide) (fun x hx => by simp [vr_ap, items]) (fun x hx y hy => ?_) (fun x hx y hy _ => ?_) hlen
  · obtain ⟨own, rfl, hlo, hm⟩ := hr x hx
    have e := eq_nil (nice_own T hm)
    cases hg : own.getLast? with
    | none =>
      have : own = [] := List.getLast?_eq_none_iff.mp hg
      subst this
      simp [vr_ap, fewT, e, asBool, lastOk, lim]
    | some z =>
      have hne : own ≠ [] := fun q => by rw [q] at hg; cases hg
      have hz : z ∈ own := List.mem_of_getLast? hg
      obtain ⟨b, hb⟩ := T.gt y hy z (hm z hz)
      have e' : dEq (.tup own) (.tup []) = some false := by
        rw [e]
        cases own with
        | nil => exact absurd rfl hne
        | cons a r => rfl
      simp [vr_ap, fewT, e', asBool, lastOk, hg, dNeg, last_ix hg, hb, lim]
  · obtain ⟨own, rfl, hlo, hm⟩ := hr x hx
    have : own.length + 1 ≤ lim := by unfold lim; omega
    have l1 : (1 : Nat) ≤ lim := by unfold lim; omega
    simp [vr_ap, fewT, dAdd, this, l1]
theorem pow_le {a b k : Nat} (h : k ≤ b) (ha : 0 < a) : a ^ k ≤ a ^ b := Nat.pow_le_pow_right ha h
theorem grow_run {xs : List D} {K : Nat} {s1 : Option C} (T : Th xs) (hK : K ≤ 1000) (hl : ∀ j, j < K → xs.length ^ j * xs.length ≤ lim) : ∀ (l : List D) (k : Nat) (z : Option C), k + l.length ≤ K →
    ∃ z', forL (fun x => bnd (gN 3 x) fun _ => (asg (lc2 [4, 5] [5] (itm (vr 2)) (gN 4) (Fe.ret true) (itm (vr 0)) (gN 5) (orT (tsb (cmp dEq (vr 4) (tupE nilA))) (tsb (cmp dGt (vr 5) (op2 dIx (vr 4) (op1 dNeg (Fe.ret (.int 1))))))) (op2 dAdd (vr 4) (tupE (consA (vr 5) nilA)))) (gN 2))) l [some (.p (.lst xs)), s1, some (.p (.lst (rowsD xs k))), z, none, none] =
      .ok .nx [some (.p (.lst xs)), s1, some (.p (.lst (rowsD xs (k + l.length)))), z', none, none]
  | [], k, z, _ => ⟨z, rfl⟩
  | x :: l, k, z, h => by
    rw [List.length_cons] at h
    obtain ⟨z', e⟩ := grow_run T hK hl l (k + 1) (some (.p x)) (by omega)
    refine ⟨z', ?_⟩
    have g := grow_lc (s0 := none) (s1 := s1) (s3 := some (.p x)) T (fun x hx => rows_row (xs := xs) (k := k) hx) (by omega) (Nat.le_trans (Nat.mul_le_mul_right _ rows_len) (hl k (by omega)))
    rw [forL_cons]
    have e1 : (bnd (gN 3 x) fun _ => (asg (lc2 [4, 5] [5] (itm (vr 2)) (gN 4) (Fe.ret true) (itm (vr 0)) (gN 5) (orT (tsb (cmp dEq (vr 4) (tupE nilA))) (tsb (cmp dGt (vr 5) (op2 dIx (vr 4) (op1 dNeg (Fe.ret (.int 1))))))) (op2 dAdd (vr 4) (tupE (consA (vr 5) nilA)))) (gN 2))) [some (.p (.lst xs)), s1, some (.p (.lst (rowsD xs k))), z, none, none] =
        .ok .nx [some (.p (.lst xs)), s1, some (.p (.lst (rowsD xs (k + 1)))), some (.p x), none, none] := by
      simp [g, rowsD]
    rw [ok_bnd e1]
    dsimp only
    rw [e, List.length_cons, show k + 1 + l.length = k + (l.length + 1) by omega]
theorem rng_len (k : Nat) : (rng 0 k).length = k := by simp [rng]
theorem big_nat {k : Nat} (h : k ≤ 1000) : bigI (k : Int) = true := by
  unfold bigI
  rw [decide_eq_true_eq]
  omega
theorem law_rows {xs : List D} {k : Nat} (T : Th xs) (hk : k ≤ 62) (hl : ∀ j, j < k → xs.length ^ j * xs.length ≤ lim) : f__law_rows [.lst xs, .int k] = .ok (.lst (rowsD xs k)) := by
  obtain ⟨z', e⟩ := grow_run (K := k) (s1 := some (.p (.int k))) T (by omega) hl (rng 0 k) 0 none (by rw [rng_len]; omega)
  rw [rng_len, Nat.zero_add] at e
  have hb : bigI (k : Int) = true := big_nat (by omega)
  have e0 : rowsD xs 0 = [.tup []] := rfl
  rw [e0] at e
  have e1 : dRng1 (.int k) = some (rng 0 k) := by unfold dRng1; dsimp only; rw [if_pos hb]
  have l0 : fewT [] = some (.tup []) := if_pos (Nat.zero_le _)
  have l1 : fewL [.tup []] = some (.lst [.tup []]) := if_pos (show 1 ≤ lim by unfold lim; omega)
  have s1 : (asg (lstE (consA (tupE nilA) nilA)) (gN 2)) [some (.p (.lst xs)), some (.p (.int k)), none, none, none, none] = .ok .nx [some (.p (.lst xs)), some (.p (.int k)), some (.p (.lst [.tup []])), none, none, none] := by
    simp [l0, l1]
  have s2 : rg1 (vr 1) [some (.p (.lst xs)), some (.p (.int k)), some (.p (.lst [.tup []])), none, none, none] = .ok (rng 0 k) [some (.p (.lst xs)), some (.p (.int k)), some (.p (.lst [.tup []])), none, none, none] := by
    rw [rg1_ap, ok_bnd (vr_at rfl), e1]; rfl
  have eb : b__law_rows [some (.p (.lst xs)), some (.p (.int k)), none, none, none, none] = .ok (.rt (.lst (rowsD xs k))) [some (.p (.lst xs)), some (.p (.int k)), some (.p (.lst (rowsD xs k))), z', none, none] := by
    unfold b__law_rows
    rw [seq_nx s1, seq_nx (for_ok s2 e)]
    rfl
  exact run_rt rfl eb
/-! ### of ints -/
def rngI (a b : Int) : List Int := (List.range (b - a).toNat).map fun (k : Nat) => a + k
theorem rng_map (a b : Int) : rng a b = (rngI a b).map .int := by simp [rng, rngI]
theorem rngI_cons {a b : Int} (h : a < b) : rngI a b = a :: rngI (a + 1) b := by
  unfold rngI
  rw [show (b - a).toNat = (b - (a + 1)).toNat + 1 by omega, List.range_succ_eq_map, List.map_cons, List.map_map]
  congr 1
  · simp
  · refine List.map_congr_left fun k _ => ?_
    simp only [Function.comp_apply]
    omega
theorem rngI_nil {a b : Int} (h : b ≤ a) : rngI a b = [] := by
  unfold rngI
  rw [show (b - a).toNat = 0 by omega]
  rfl
theorem rngI_filter {m b : Int} : ∀ {j : Nat} {a : Int}, (b - a).toNat = j → a ≤ m + 1 → (rngI a b).filter (fun i => decide (m < i)) = rngI (m + 1) b
  | 0, a, h, ha => by rw [rngI_nil (by omega), rngI_nil (by omega)]; rfl
  | j + 1, a, h, ha => by
    by_cases e : a = m + 1
    · subst e
      rw [List.filter_eq_self]
      intro i hi
      obtain ⟨k, _, rfl⟩ := List.mem_map.mp hi
      simp; omega
    · rw [rngI_cons (by omega), List.filter_cons_of_neg (by simp; omega)]
      exact rngI_filter (j := j) (by omega) (by omega)
theorem th_ints {l : List Int} (h : l.length ≤ 63) : Th (l.map .int) where
  ni := fun y hy => by obtain ⟨i, _, rfl⟩ := List.mem_map.mp hy; exact nice_int
  gt := fun y hy z hz => by
    obtain ⟨i, _, rfl⟩ := List.mem_map.mp hy
    obtain ⟨j, _, rfl⟩ := List.mem_map.mp hz
    exact ⟨_, rfl⟩
  len := by rw [List.length_map]; exact h
theorem kids_ints {n : Nat} {own : List D} {m : Int} (h : own.getLast? = some (.int m)) (hm : 0 ≤ m) : kidsD (rng 0 n) (.tup own) = (rng (m + 1) n).map fun y => .tup (own ++ [y]) := by
  unfold kidsD
  dsimp only
  rw [rng_map, rng_map, ← rngI_filter (m := m) (b := n) (a := 0) rfl (by omega), List.filter_map]
  congr 3
  funext i
  show lastOk own (.int i) = _
  unfold lastOk
  rw [h]
  rfl
theorem kids_nil {xs : List D} : kidsD xs (.tup []) = xs.map fun y => .tup [y] := by
  unfold kidsD
  dsimp only
  have e : xs.filter (lastOk []) = xs := List.filter_eq_self.mpr fun _ _ => rfl
  rw [e]
  rfl
end K05
set_option Elab.async false
set_option linter.all false
set_option maxRecDepth 100000
set_option maxHeartbeats 1000000
namespace K05
open PySem (Str)
open Fe
theorem dRng1_nat {k : Nat} (h : k ≤ 1000) : dRng1 (.int k) = some (rng 0 k) := by unfold dRng1; dsimp only; rw [if_pos (big_nat h)]
/-! ### rows_of_size -/
/-- the comprehension of rows_of_size -/
abbrev lcS : M D := lc [6] (rg2 (ifE (tst (vr 5)) (op2 dAdd (op2 dIx (vr 5) (op1 dNeg (Fe.ret (.int 1)))) (Fe.ret (.int 1))) (Fe.ret (.int 0))) (vr 0)) (gN 6) (Fe.ret true) (op2 dAdd (vr 5) (tupE (consA (vr 6) nilA)))
def IsRowI (n k : Nat) (x : D) : Prop := ∃ s : List Int, x = rt s ∧ s.length = k ∧ ∀ i ∈ s, 0 ≤ i ∧ i < n
theorem row_ints {n k : Nat} {x : D} (h : IsRow (rng 0 n) k x) : IsRowI n k x := by
  obtain ⟨own, rfl, hl, hm⟩ := h
  have : ∀ own : List D, (∀ y ∈ own, y ∈ rng 0 n) → ∃ s : List Int, own = s.map .int ∧ ∀ i ∈ s, 0 ≤ i ∧ i < n := by
    intro own
    induction own with
    | nil => exact fun _ => ⟨[], rfl, fun _ h => absurd h List.not_mem_nil⟩
    | cons d own ih =>
      intro hm
      obtain ⟨s, rfl, hs⟩ := ih fun y hy => hm y (.tail _ hy)
      have hd := hm d (.head _)
      rw [rng_map] at hd
      obtain ⟨i, hi, rfl⟩ := List.mem_map.mp hd
      obtain ⟨k, hk, rfl⟩ := List.mem_map.mp hi
      have := List.mem_range.mp hk
      refine ⟨(0 + (k : Int)) :: s, rfl, fun j hj => ?_⟩
      rcases List.mem_cons.mp hj with rfl | hj
      · omega
      · exact hs j hj
  obtain ⟨s, rfl, hs⟩ := this own hm
  exact ⟨s, rfl, by simpa using hl, hs⟩
theorem kids_rng {n : Nat} {s : List Int} (h : ∀ i ∈ s, 0 ≤ i ∧ i < n) : kidsD (rng 0 n) (rt s) = (rng (match s.getLast? with | none => 0 | some m => m + 1) n).map fun y => .tup (s.map .int ++ [y]) := by
  cases e : s.getLast? with
  | none =>
    have : s = [] := List.getLast?_eq_none_iff.mp e
    subst this
    exact kids_nil
  | some m =>
    have hm := h m (List.mem_of_getLast? e)
    exact kids_ints (own := s.map .int) (by rw [List.getLast?_map, e]; rfl) hm.1
theorem lcS_eq {n k : Nat} {s : List Int} {s1 s2 s3 s4 : Option C} (hn : n ≤ 63) (hk : k ≤ 1000) (hs : s.length = k) (h : ∀ i ∈ s, 0 ≤ i ∧ i < n) :
    lcS [some (.p (.int n)), s1, s2, s3, s4, some (.p (rt s)), none] = .ok (.lst (kidsD (rng 0 n) (rt s))) [some (.p (.int n)), s1, s2, s3, s4, some (.p (rt s)), none] := by
  rw [kids_rng h]
  have e2 : ∀ a : Int, 0 ≤ a → a ≤ n → dRng2 (.int a) (.int n) = some (rng a n) := fun a h1 h2 => by
    unfold dRng2
    dsimp only
    have b1 : bigI a = true := by unfold bigI; rw [decide_eq_true_eq]; omega
    have b2 : bigI n = true := big_nat (by omega)
    rw [b1, b2]; rfl
  have hlen : ∀ a : Int, 0 ≤ a → (rng a n).length ≤ lim := fun a ha => by
    unfold rng lim
    rw [List.length_map, List.length_range]
    omega
  have hsl : s.length + 1 ≤ lim := by unfold lim; omega
  have hadd : ∀ y : D, dAdd (rt s) (.tup [y]) = some (.tup (s.map .int ++ [y])) := fun y => by
    unfold dAdd rt
    dsimp only
    rw [if_pos (by rw [List.length_map]; exact hsl)]
  have l1 : ∀ y : D, fewT [y] = some (.tup [y]) := fun y => if_pos (show 1 ≤ lim by unfold lim; omega)
  unfold lcS
  refine lc1T (v := 6) (ρ := [some (.p (.int n)), s1, s2, s3, s4, some (.p (rt s)), none]) (fun y => .tup (s.map .int ++ [y])) ?_ rfl (by simp) (fun y hy => ?_) ?_
  · have ea : ifE (tst (vr 5)) (op2 dAdd (op2 dIx (vr 5) (op1 dNeg (Fe.ret (.int 1)))) (Fe.ret (.int 1))) (Fe.ret (.int 0)) [some (.p (.int n)), s1, s2, s3, s4, some (.p (rt s)), none] =
        .ok (.int (match s.getLast? with | none => 0 | some m => m + 1)) [some (.p (.int n)), s1, s2, s3, s4, some (.p (rt s)), none] := by
      cases e : s.getLast? with
      | none =>
        have : s = [] := List.getLast?_eq_none_iff.mp e
        subst this
        rfl
      | some m =>
        have hne : s ≠ [] := fun q => by rw [q] at e; cases e
        have t : truth (rt s) = some true := by cases s with
          | nil => exact absurd rfl hne
          | cons a r => rfl
        have e4 : dIx (rt s) (.int (-1)) = some (.int m) := last_ix (own := s.map .int) (by rw [List.getLast?_map, e]; rfl)
        have et : tst (vr 5) [some (.p (.int n)), s1, s2, s3, s4, some (.p (rt s)), none] = .ok true [some (.p (.int n)), s1, s2, s3, s4, some (.p (rt s)), none] := by
          rw [tst_ap, ok_bnd (vr_at rfl), t]; rfl
        have ei : op2 dIx (vr 5) (op1 dNeg (Fe.ret (.int 1))) [some (.p (.int n)), s1, s2, s3, s4, some (.p (rt s)), none] = .ok (.int m) [some (.p (.int n)), s1, s2, s3, s4, some (.p (rt s)), none] := by
          have en : op1 dNeg (Fe.ret (.int 1)) [some (.p (.int n)), s1, s2, s3, s4, some (.p (rt s)), none] = .ok (.int (-1)) [some (.p (.int n)), s1, s2, s3, s4, some (.p (rt s)), none] := rfl
          rw [op2_ap, ok_bnd (vr_at rfl), ok_bnd en, e4]; rfl
        rw [ifE_ap, ok_bnd et, if_pos rfl, op2_ap, ok_bnd ei]
        rfl
    have hb : (0 : Int) ≤ (match s.getLast? with | none => (0 : Int) | some m => (m : Int) + 1) ∧ (match s.getLast? with | none => (0 : Int) | some m => (m : Int) + 1) ≤ (n : Int) := by
      split
      · omega
      · rename_i m e
        have := h m (List.mem_of_getLast? e)
        omega
    rw [rg2_ap, ok_bnd ea, ok_bnd (vr_at rfl), e2 _ hb.1 hb.2]
    rfl
  · show bnd (vr 5) _ [some (.p (.int n)), s1, s2, s3, s4, some (.p (rt s)), some (.p y)] = _
    rw [ok_bnd (vr_at rfl)]
    have e8 : tupE (consA (vr 6) nilA) [some (.p (.int n)), s1, s2, s3, s4, some (.p (rt s)), some (.p y)] = .ok (.tup [y]) [some (.p (.int n)), s1, s2, s3, s4, some (.p (rt s)), some (.p y)] := by
      have e7 : consA (vr 6) nilA [some (.p (.int n)), s1, s2, s3, s4, some (.p (rt s)), some (.p y)] = .ok [y] [some (.p (.int n)), s1, s2, s3, s4, some (.p (rt s)), some (.p y)] := rfl
      rw [tupE_ap, ok_bnd e7, l1]; rfl
    rw [ok_bnd e8, hadd]; rfl
  · split
    · exact hlen 0 (by omega)
    · rename_i m e
      exact hlen _ (by have := h m (List.mem_of_getLast? e); omega)
/-- the inner loop of rows_of_size -/
theorem ext_run {n k : Nat} {s1 s2 s3 : Option C} (hn : n ≤ 63) (hk : k ≤ 1000) : ∀ (l : List D) (acc : List D) (z : Option C), (∀ x ∈ l, IsRowI n k x) → acc.length + (l.flatMap (kidsD (rng 0 n))).length ≤ lim →
    ∃ z', forL (fun x => bnd (gN 5 x) fun _ => ext 4 lcS) l [some (.p (.int n)), s1, s2, s3, some (.o (.lst acc)), z, none] = .ok .nx [some (.p (.int n)), s1, s2, s3, some (.o (.lst (acc ++ l.flatMap (kidsD (rng 0 n))))), z', none]
  | [], acc, z, _, _ => ⟨z, by rw [List.flatMap_nil, List.append_nil]; rfl⟩
  | x :: l, acc, z, h, hl => by
    obtain ⟨s, rfl, hs1, hs2⟩ := h x (.head _)
    rw [List.flatMap_cons, List.length_append] at hl
    obtain ⟨z', e⟩ := ext_run (s1 := s1) (s2 := s2) (s3 := s3) hn hk l (acc ++ kidsD (rng 0 n) (rt s)) (some (.p (rt s))) (fun y hy => h y (.tail _ hy)) (by rw [List.length_append]; omega)
    refine ⟨z', ?_⟩
    have e1 : (bnd (gN 5 (rt s)) fun _ => ext 4 lcS) [some (.p (.int n)), s1, s2, s3, some (.o (.lst acc)), z, none] = .ok .nx [some (.p (.int n)), s1, s2, s3, some (.o (.lst (acc ++ kidsD (rng 0 n) (rt s)))), some (.p (rt s)), none] := by
      rw [ok_bnd (gN_ap)]
      show ext 4 lcS [some (.p (.int n)), s1, s2, s3, some (.o (.lst acc)), some (.p (rt s)), none] = _
      rw [ext_ap, ok_bnd (own_at' rfl), ok_bnd (lcS_eq hn hk hs1 hs2), ok_bnd (own_at' rfl)]
      dsimp only
      rw [if_pos (by omega)]
      rfl
    rw [forL_nx e1, e, List.flatMap_cons, List.append_assoc]
theorem size_run {n K : Nat} {s1 : Option C} (hn : n ≤ 63) (hK : K ≤ 1000) (hl : ∀ j, j < K → n ^ j * n ≤ lim) : ∀ (l : List D) (k : Nat) (z z4 z5 : Option C), k + l.length ≤ K → isO z4 = false →
    ∃ ρ', forL (fun x => bnd (gN 3 x) fun _ => (seq (asgO 4 (lstE nilA)) (seq (forS (itm (vr 2)) (gN 5) (ext 4 lcS)) (gho (Fe.frz 4) (asg (vr 4) (gN 2)))))) l [some (.p (.int n)), s1, some (.p (.lst (rowsD (rng 0 n) k))), z, z4, z5, none] = .ok .nx ρ' ∧ ρ'[2]? = some (some (.p (.lst (rowsD (rng 0 n) (k + l.length)))))
  | [], k, z, z4, z5, _, _ => ⟨_, rfl, rfl⟩
  | x :: l, k, z, z4, z5, h, h4 => by
    rw [List.length_cons] at h
    have hlen : ((rowsD (rng 0 n) k).flatMap (kidsD (rng 0 n))).length ≤ lim := by
      have := rows_len (xs := rng 0 n) (k := k + 1)
      rw [rng_len, Nat.pow_succ] at this
      exact Nat.le_trans this (hl k (by omega))
    obtain ⟨z5', e⟩ := ext_run (s1 := s1) (s2 := some (.p (.lst (rowsD (rng 0 n) k)))) (s3 := some (.p x)) (k := k) hn (by omega) (rowsD (rng 0 n) k) [] z5 (fun y hy => row_ints (rows_row hy)) (by rw [List.length_nil, Nat.zero_add]; exact hlen)
    rw [List.nil_append] at e
    obtain ⟨ρ', e', h'⟩ := size_run (s1 := s1) hn hK hl l (k + 1) (some (.p x)) (some (.p (.lst (rowsD (rng 0 n) (k + 1))))) z5' (by omega) rfl
    refine ⟨ρ', ?_, by rw [h', List.length_cons, show k + 1 + l.length = k + (l.length + 1) by omega]⟩
    have l0 : fewL [] = some (.lst []) := if_pos (Nat.zero_le _)
    have e1 : (bnd (gN 3 x) fun _ => (seq (asgO 4 (lstE nilA)) (seq (forS (itm (vr 2)) (gN 5) (ext 4 lcS)) (gho (Fe.frz 4) (asg (vr 4) (gN 2)))))) [some (.p (.int n)), s1, some (.p (.lst (rowsD (rng 0 n) k))), z, z4, z5, none] =
        .ok .nx [some (.p (.int n)), s1, some (.p (.lst (rowsD (rng 0 n) (k + 1)))), some (.p x), some (.p (.lst (rowsD (rng 0 n) (k + 1)))), z5', none] := by
      show (seq (asgO 4 (lstE nilA)) (seq (forS (itm (vr 2)) (gN 5) (ext 4 lcS)) (gho (Fe.frz 4) (asg (vr 4) (gN 2))))) [some (.p (.int n)), s1, some (.p (.lst (rowsD (rng 0 n) k))), some (.p x), z4, z5, none] = _
      have a1 : asgO 4 (lstE nilA) [some (.p (.int n)), s1, some (.p (.lst (rowsD (rng 0 n) k))), some (.p x), z4, z5, none] = .ok .nx [some (.p (.int n)), s1, some (.p (.lst (rowsD (rng 0 n) k))), some (.p x), some (.o (.lst [])), z5, none] := by
        show bnd (lstE nilA) _ _ = _
        rw [bnd_ap, lstE_ap, ok_bnd (nilA_ap), l0]; rfl
      rw [seq_nx a1, seq_nx (for_ok (it := itm (vr 2)) (l := rowsD (rng 0 n) k) rfl e)]
      rfl
    rw [forL_nx e1, e']
theorem rows_of_size {n k : Nat} (hn : n ≤ 63) (hk : k ≤ 1000) (hl : ∀ j, j < k → n ^ j * n ≤ lim) : f_rows_of_size [.int n, .int k] = .ok (.lst (rowsD (rng 0 n) k)) := by
  obtain ⟨ρ', e, h⟩ := size_run (s1 := some (.p (.int k))) hn hk hl (rng 0 k) 0 none none none (by rw [rng_len]; omega) rfl
  rw [rng_len, Nat.zero_add] at h
  have l0 : fewT [] = some (.tup []) := if_pos (Nat.zero_le _)
  have l1 : fewL [.tup []] = some (.lst [.tup []]) := if_pos (show 1 ≤ lim by unfold lim; omega)
  have s1 : (asg (lstE (consA (tupE nilA) nilA)) (gN 2)) [some (.p (.int n)), some (.p (.int k)), none, none, none, none, none] = .ok .nx [some (.p (.int n)), some (.p (.int k)), some (.p (.lst [.tup []])), none, none, none, none] := by
    simp [l0, l1]
  have s2 : rg1 (vr 1) [some (.p (.int n)), some (.p (.int k)), some (.p (.lst [.tup []])), none, none, none, none] = .ok (rng 0 k) [some (.p (.int n)), some (.p (.int k)), some (.p (.lst [.tup []])), none, none, none, none] := by
    rw [rg1_ap, ok_bnd (vr_at rfl), dRng1_nat hk]; rfl
  unfold lcS at e
  refine run_rt (d := .lst (rowsD (rng 0 n) k)) (ρ1 := ρ') rfl ?_
  show b_rows_of_size [some (.p (.int n)), some (.p (.int k)), none, none, none, none, none] = _
  unfold b_rows_of_size
  rw [seq_nx s1, seq_nx (for_ok s2 e), rtn_ap, ok_bnd (vr_at h)]
  rfl
/-! ### the first cover -/
def covD (E : List (Int × Int)) (x : D) : Bool := match x with
  | .tup own => E.all fun p => (own.any fun z => eqv z (.int p.1)) || own.any fun z => eqv z (.int p.2)
  | _ => false
theorem any_int (s : List Int) (a : Int) : ((s.map D.int).any fun z => eqv z (.int a)) = decide (a ∈ s) := by
  have := dIn_ints a s
  unfold dIn at this
  dsimp only at this
  rw [if_pos ⟨rfl, deps_int s⟩] at this
  exact Option.some.inj this
theorem covD_rt {E : List (Int × Int)} {s : List Int} : covD E (rt s) = cov E s := by
  unfold covD cov rt
  dsimp only
  simp only [any_int]
theorem find_run {n : Nat} {E : List (Int × Int)} {s2 : Option C} (hE : E.length ≤ lim) : ∀ (l : List D) (z : Option C), (∀ x ∈ l, ∃ s : List Int, x = rt s) →
    ∃ z', forL (fun x => bnd (gN 3 x) fun _ => (iff (tst (op1 dAll (lc [4, 5] (itm (vr 1)) (gT 2 (gCons (gN 4) (gCons (gN 5) gNil))) (Fe.ret true) (orV (cmp dIn (vr 4) (vr 3)) (cmp dIn (vr 5) (vr 3)))))) (rtn (vr 3)) sNx)) l [some (.p (.int n)), some (.p (tE E)), s2, z, none, none] =
      .ok (match l.find? (covD E) with | some d => .rt d | none => .nx) [some (.p (.int n)), some (.p (tE E)), s2, z', none, none]
  | [], z, _ => ⟨z, rfl⟩
  | x :: l, z, h => by
    obtain ⟨s, rfl⟩ := h x (.head _)
    have e := all_cov (E := E) (s := s) (v := 4) (w := 5) (i := 1) (ρ := [some (.p (.int n)), some (.p (tE E)), s2, some (.p (rt s)), none, none]) (e := orV (cmp dIn (vr 4) (vr 3)) (cmp dIn (vr 5) (vr 3))) rfl rfl rfl (by simp) (by simp) (by decide) hE
      (fun p _ => by by_cases h : p.1 ∈ s <;> simp [vr_ap, rt, dIn_ints, asBool, h])
    have e1 : (bnd (gN 3 (rt s)) fun _ => (iff (tst (op1 dAll (lc [4, 5] (itm (vr 1)) (gT 2 (gCons (gN 4) (gCons (gN 5) gNil))) (Fe.ret true) (orV (cmp dIn (vr 4) (vr 3)) (cmp dIn (vr 5) (vr 3)))))) (rtn (vr 3)) sNx)) [some (.p (.int n)), some (.p (tE E)), s2, z, none, none] =
        (if cov E s = true then rtn (vr 3) else sNx) [some (.p (.int n)), some (.p (tE E)), s2, some (.p (rt s)), none, none] := by
      show iff _ _ _ [some (.p (.int n)), some (.p (tE E)), s2, some (.p (rt s)), none, none] = _
      exact iff_ok ((ok_bnd e).trans rfl)
    by_cases hc : cov E s = true
    · rw [if_pos hc] at e1
      refine ⟨some (.p (rt s)), ?_⟩
      rw [List.find?_cons_of_pos (by rw [covD_rt]; exact hc), forL_rt (e1.trans rfl)]
    · rw [if_neg hc] at e1
      obtain ⟨z', e'⟩ := find_run (n := n) (s2 := s2) hE l (some (.p (rt s))) fun y hy => h y (.tail _ hy)
      refine ⟨z', ?_⟩
      rw [List.find?_cons_of_neg (by rw [covD_rt]; exact hc), forL_nx (e1.trans rfl), e']
/-- every rising row of the things, the small ones first -/
def everyD (n : Nat) : List D := (List.range (n + 1)).flatMap fun k => rowsD (rng 0 n) k
theorem first_run {n : Nat} {E : List (Int × Int)} (hE : E.length ≤ lim) (hn : n ≤ 63) (hl : ∀ j, j ≤ n → n ^ j * n ≤ lim) : ∀ (l : List Nat) (z z3 : Option C), (∀ k ∈ l, k ≤ n) →
    ∃ ρ', forL (fun x => bnd (gN 2 x) fun _ => (forS (itm (cl f_rows_of_size (consA (vr 0) (consA (vr 2) nilA)))) (gN 3) (iff (tst (op1 dAll (lc [4, 5] (itm (vr 1)) (gT 2 (gCons (gN 4) (gCons (gN 5) gNil))) (Fe.ret true) (orV (cmp dIn (vr 4) (vr 3)) (cmp dIn (vr 5) (vr 3)))))) (rtn (vr 3)) sNx))) (l.map fun (k : Nat) => D.int (k : Int)) [some (.p (.int n)), some (.p (tE E)), z, z3, none, none] =
      .ok (match (l.flatMap fun k => rowsD (rng 0 n) k).find? (covD E) with | some d => .rt d | none => .nx) ρ'
  | [], z, z3, _ => ⟨_, rfl⟩
  | k :: l, z, z3, h => by
    have hk := h k (.head _)
    obtain ⟨z', e⟩ := find_run (n := n) (s2 := some (.p (.int k))) hE (rowsD (rng 0 n) k) z3 fun x hx => by
      obtain ⟨s, rfl, _⟩ := row_ints (rows_row hx)
      exact ⟨s, rfl⟩
    have er : itm (cl f_rows_of_size (consA (vr 0) (consA (vr 2) nilA))) [some (.p (.int n)), some (.p (tE E)), some (.p (.int k)), z3, none, none] = .ok (rowsD (rng 0 n) k) [some (.p (.int n)), some (.p (tE E)), some (.p (.int k)), z3, none, none] := by
      have ea : consA (vr 0) (consA (vr 2) nilA) [some (.p (.int n)), some (.p (tE E)), some (.p (.int k)), z3, none, none] = .ok [.int n, .int k] [some (.p (.int n)), some (.p (tE E)), some (.p (.int k)), z3, none, none] := rfl
      have ec : cl f_rows_of_size (consA (vr 0) (consA (vr 2) nilA)) [some (.p (.int n)), some (.p (tE E)), some (.p (.int k)), z3, none, none] = .ok (.lst (rowsD (rng 0 n) k)) [some (.p (.int n)), some (.p (tE E)), some (.p (.int k)), z3, none, none] := by
        rw [cl_ap, ok_bnd ea, rows_of_size hn (by omega) fun j hj => hl j (by omega)]; rfl
      rw [itm_ap, ok_bnd ec]; rfl
    have e1 := for_ok er e
    rw [List.flatMap_cons, List.find?_append]
    cases hf : (rowsD (rng 0 n) k).find? (covD E) with
    | some d =>
      rw [hf] at e1
      refine ⟨[some (.p (.int n)), some (.p (tE E)), some (.p (.int k)), z', none, none], ?_⟩
      rw [List.map_cons, Option.some_or]
      refine forL_rt (ρ1 := [some (.p (.int n)), some (.p (tE E)), some (.p (.int k)), z', none, none]) ?_
      rw [ok_bnd gN_ap]
      exact e1
    | none =>
      rw [hf] at e1
      obtain ⟨ρ', e'⟩ := first_run (E := E) hE hn hl l (some (.p (.int k))) z' fun j hj => h j (.tail _ hj)
      refine ⟨ρ', ?_⟩
      rw [List.map_cons, Option.none_or, ← e']
      refine forL_nx (ρ1 := [some (.p (.int n)), some (.p (tE E)), some (.p (.int k)), z', none, none]) ?_
      rw [ok_bnd gN_ap]
      exact e1
theorem pow_lim {n j : Nat} (hn : n ≤ 6) (hj : j ≤ 6) : n ^ j * n ≤ lim := by
  have : ∀ n : Fin 7, ∀ j : Fin 7, n.val ^ j.val * n.val ≤ lim := by decide +kernel
  exact this ⟨n, by omega⟩ ⟨j, by omega⟩
theorem first_cover {n : Nat} {E : List (Int × Int)} (g : Graph n E) {d : D} (h : (everyD n).find? (covD E) = some d) : f_first_cover [.int n, tE E] = .ok d := by
  have h1 := g.hi
  have hE : E.length ≤ lim := by have := g.sz; unfold lim; omega
  obtain ⟨ρ', e⟩ := first_run (n := n) (E := E) hE (by omega) (fun j hj => pow_lim h1 (by omega)) (List.range (n + 1)) none none fun k hk => by have := List.mem_range.mp hk; omega
  have h' : ((List.range (n + 1)).flatMap fun k => rowsD (rng 0 n) k).find? (covD E) = some d := h
  rw [h'] at e
  have er : rng 0 ((n : Int) + 1) = (List.range (n + 1)).map fun (k : Nat) => D.int (k : Int) := by
    unfold rng
    rw [show ((n : Int) + 1 - 0).toNat = n + 1 by omega]
    exact List.map_congr_left fun k _ => by rw [Int.zero_add]
  have e0 : (drp (cl f_need_graph (consA (vr 0) (consA (vr 1) (consA (Fe.ret (.int 12)) nilA))))) [some (.p (.int n)), some (.p (tE E)), none, none, none, none] = .ok .nx [some (.p (.int n)), some (.p (tE E)), none, none, none, none] := by
    have ea : consA (vr 0) (consA (vr 1) (consA (Fe.ret (.int 12)) nilA)) [some (.p (.int n)), some (.p (tE E)), none, none, none, none] = .ok [.int n, tE E, .int 12] [some (.p (.int n)), some (.p (tE E)), none, none, none, none] := rfl
    have ec : cl f_need_graph (consA (vr 0) (consA (vr 1) (consA (Fe.ret (.int 12)) nilA))) [some (.p (.int n)), some (.p (tE E)), none, none, none, none] = .ok .non [some (.p (.int n)), some (.p (tE E)), none, none, none, none] := by
      rw [cl_ap, ok_bnd ea, need_graph g]; rfl
    rw [drp_ap, ok_bnd ec]; rfl
  have e1 : rg1 (op2 dAdd (vr 0) (Fe.ret (.int 1))) [some (.p (.int n)), some (.p (tE E)), none, none, none, none] = .ok (rng 0 ((n : Int) + 1)) [some (.p (.int n)), some (.p (tE E)), none, none, none, none] := by
    have ea : op2 dAdd (vr 0) (Fe.ret (.int 1)) [some (.p (.int n)), some (.p (tE E)), none, none, none, none] = .ok (.int ((n : Int) + 1)) [some (.p (.int n)), some (.p (tE E)), none, none, none, none] := rfl
    have eb := dRng1_nat (k := n + 1) (by omega)
    rw [rg1_ap, ok_bnd ea]
    show lft (dRng1 (.int ((n + 1 : Nat) : Int))) _ = _
    rw [eb]; rfl
  rw [← er] at e
  refine run_rt (d := d) (ρ1 := ρ') rfl ?_
  show b_first_cover [some (.p (.int n)), some (.p (tE E)), none, none, none, none] = _
  unfold b_first_cover
  rw [seq_nx e0, seq_rt (for_ok e1 e)]
theorem cover_number {n : Nat} {E : List (Int × Int)} (g : Graph n E) {s : List Int} (h : (everyD n).find? (covD E) = some (rt s)) : f_cover_number [.int n, tE E] = .ok (.int s.length) := by
  have e := first_cover g h
  have el : dLen (rt s) = some (.int s.length) := by
    show some (D.int ((s.map D.int).length : Nat)) = _
    rw [List.length_map]
  refine run_rt (ρ1 := [some (.p (.int n)), some (.p (tE E))]) rfl ?_
  show b_cover_number [some (.p (.int n)), some (.p (tE E))] = _
  have ea : consA (vr 0) (consA (vr 1) nilA) [some (.p (.int n)), some (.p (tE E))] = .ok [.int n, tE E] [some (.p (.int n)), some (.p (tE E))] := rfl
  have ec : cl f_first_cover (consA (vr 0) (consA (vr 1) nilA)) [some (.p (.int n)), some (.p (tE E))] = .ok (rt s) [some (.p (.int n)), some (.p (tE E))] := by
    rw [cl_ap, ok_bnd ea, e]; rfl
  have ed : op1 dLen (cl f_first_cover (consA (vr 0) (consA (vr 1) nilA))) [some (.p (.int n)), some (.p (tE E))] = .ok (.int s.length) [some (.p (.int n)), some (.p (tE E))] := by
    rw [op1_ap, ok_bnd ec, el]; rfl
  unfold b_cover_number
  rw [rtn_ap, ok_bnd ed]; rfl
/-! ### every row, told by numbers -/
theorem every_rt {n : Nat} {x : D} (h : x ∈ everyD n) : ∃ s : List Int, x = rt s ∧ s.length ≤ n ∧ ∀ i ∈ s, 0 ≤ i ∧ i < n := by
  obtain ⟨k, hk, hx⟩ := List.mem_flatMap.mp h
  obtain ⟨s, rfl, hl, hb⟩ := row_ints (rows_row hx)
  exact ⟨s, rfl, by have := List.mem_range.mp hk; omega, hb⟩
end K05
set_option Elab.async false
set_option linter.all false
set_option maxRecDepth 100000
set_option maxHeartbeats 1000000
namespace K05
open PySem (Str)
open Fe
abbrev Ed := Int × Int
def usedI (own : List Ed) : List Int := own.flatMap fun p => [p.1, p.2]
def disj (e : Ed) (own : List Ed) : Bool := decide (e.1 ∉ usedI own) && decide (e.2 ∉ usedI own)
/-- the nodes under a node: a row, the edges that may still come -/
def kids (own : List Ed) : List Ed → List (List Ed × List Ed)
  | [] => []
  | e :: r => (if disj e own = true then [(own ++ [e], r)] else []) ++ kids own r
def sub (own : List Ed) : List Ed → List (List Ed)
  | [] => []
  | e :: r => (if disj e own = true then (own ++ [e]) :: sub (own ++ [e]) r else []) ++ sub own r
def pre (x : List Ed × List Ed) : List (List Ed) := x.1 :: sub x.1 x.2
theorem sub_kids : ∀ (own r : List Ed), sub own r = (kids own r).flatMap pre
  | own, [] => rfl
  | own, e :: r => by
    unfold sub kids
    rw [List.flatMap_append, ← sub_kids own r]
    by_cases h : disj e own = true
    · rw [if_pos h, if_pos h, List.flatMap_singleton]; rfl
    · rw [if_neg h, if_neg h]; rfl
theorem pre_kids (x : List Ed × List Ed) : pre x = x.1 :: (kids x.1 x.2).flatMap pre := by unfold pre; rw [sub_kids]; rfl
theorem sub_size : ∀ (own r : List Ed), (sub own r).length + 1 ≤ 2 ^ r.length
  | own, [] => Nat.le_refl 1
  | own, e :: r => by
    have h1 := sub_size own r
    have h2 := sub_size (own ++ [e]) r
    unfold sub
    rw [List.length_append, List.length_cons, Nat.pow_succ]
    split
    · rw [List.length_cons]; omega
    · rw [List.length_nil]; omega
theorem kids_size : ∀ {own r : List Ed} {y : List Ed × List Ed}, y ∈ kids own r → y.1.length = own.length + 1 ∧ y.1.length + y.2.length ≤ own.length + r.length
  | own, e :: r, y, h => by
    unfold kids at h
    rcases List.mem_append.mp h with h | h
    · split at h
      · obtain rfl := List.mem_singleton.mp h
        show (own ++ [e]).length = own.length + 1 ∧ (own ++ [e]).length + r.length ≤ own.length + (e :: r).length
        rw [List.length_append, List.length_cons, List.length_cons, List.length_nil]
        omega
      · exact absurd h List.not_mem_nil
    · have := kids_size h
      rw [List.length_cons]
      omega
theorem sub_len : ∀ {own r x : List Ed}, x ∈ sub own r → own.length + 1 ≤ x.length ∧ x.length ≤ own.length + r.length
  | own, e :: r, x, h => by
    unfold sub at h
    rcases List.mem_append.mp h with h | h
    · split at h
      · rcases List.mem_cons.mp h with rfl | h
        · simp only [List.length_append, List.length_cons, List.length_nil]; omega
        · have := sub_len h
          simp only [List.length_append, List.length_cons, List.length_nil] at this ⊢
          omega
      · exact absurd h List.not_mem_nil
    · have := sub_len h
      rw [List.length_cons]
      omega
/-- what the search keeps -/
def better (b x : List Ed) : List Ed := if x.length > b.length then x else b
theorem better_prune : ∀ {l : List (List Ed)} {b : List Ed}, (∀ x ∈ l, x.length ≤ b.length) → l.foldl better b = b
  | [], _, _ => rfl
  | x :: l, b, h => by
    have := h x (.head _)
    show l.foldl better (better b x) = b
    rw [show better b x = b from if_neg (Nat.not_lt.mpr this)]
    exact better_prune fun y hy => h y (.tail _ hy)
/-! ### the loop -/
def nd (L : Nat) (x : List Ed × List Ed) : D := .tup [tE x.1, .int ((L : Int) - x.2.length), .tup ((usedI x.1).map .int)]
def stk (L : Nat) (S : List (List Ed × List Ed)) : D := .lst (S.map (nd L)).reverse
/-- one turn of the inner loop -/
abbrev inB : S := (seq (asg (op2 dIx (vr 1) (vr 7)) (gT 2 (gCons (gN 8) (gCons (gN 9) gNil))))
    (iff (andT (tsb (cmp dNotIn (vr 8) (vr 6))) (tsb (cmp dNotIn (vr 9) (vr 6)))) (app 3 (tupE (consA (op2 dAdd (vr 4) (tupE (consA (op2 dIx (vr 1) (vr 7)) nilA))) (consA (op2 dAdd (vr 7) (Fe.ret (.int 1))) (consA (op2 dAdd (vr 6) (tupE (consA (vr 8) (consA (vr 9) nilA)))) nilA))))) sNx))
theorem dNotIn_ints (x : Int) (l : List Int) : dNotIn (.int x) (.tup (l.map .int)) = some (!decide (x ∈ l)) := by
  unfold dNotIn
  rw [dIn_ints]; rfl
theorem dIx_at {E : List Ed} {i : Nat} {e : Ed} (h : E[i]? = some e) : dIx (tE E) (.int i) = some (eD e) := by
  have hi : i < E.length := (List.getElem?_eq_some_iff.mp h).1
  show (ixN (E.map eD).length (i : Int)).bind (fun j => (E.map eD)[j]?) = _
  have e1 : ixN (E.map eD).length (i : Int) = some i := by
    unfold ixN
    rw [if_pos (by omega), if_pos (by rw [List.length_map]; omega)]
    simp
  rw [e1]
  show (E.map eD)[i]? = _
  rw [List.getElem?_map, h]; rfl
theorem in_turn {E own : List Ed} {i : Nat} {e : Ed} {S : List (List Ed × List Ed)} {r : List Ed} {z0 z2 z5 z7 z8 z9 : Option C} (h : E[i]? = some e) (hr : i + 1 + r.length = E.length) (ho : own.length ≤ 100) (hS : S.length ≤ 1000) :
    (bnd (gN 7 (.int i)) fun _ => inB) [z0, some (.p (tE E)), z2, some (.o (stk E.length S)), some (.p (tE own)), z5, some (.p (.tup ((usedI own).map .int))), z7, z8, z9] =
      .ok .nx [z0, some (.p (tE E)), z2, some (.o (stk E.length ((if disj e own = true then [(own ++ [e], r)] else []) ++ S))), some (.p (tE own)), z5, some (.p (.tup ((usedI own).map .int))), some (.p (.int i)), some (.p (.int e.1)), some (.p (.int e.2))] := by
  have hx := dIx_at h
  rw [ok_bnd gN_ap]
  show inB [z0, some (.p (tE E)), z2, some (.o (stk E.length S)), some (.p (tE own)), z5, some (.p (.tup ((usedI own).map .int))), some (.p (.int i)), z8, z9] = _
  have ex : ∀ z8 z9 : Option C, op2 dIx (vr 1) (vr 7) [z0, some (.p (tE E)), z2, some (.o (stk E.length S)), some (.p (tE own)), z5, some (.p (.tup ((usedI own).map .int))), some (.p (.int i)), z8, z9] = .ok (eD e) [z0, some (.p (tE E)), z2, some (.o (stk E.length S)), some (.p (tE own)), z5, some (.p (.tup ((usedI own).map .int))), some (.p (.int i)), z8, z9] := fun z8 z9 => by
    rw [op2_ap, ok_bnd (vr_at rfl), ok_bnd (vr_at rfl), hx]; rfl
  have e1 : asg (op2 dIx (vr 1) (vr 7)) (gT 2 (gCons (gN 8) (gCons (gN 9) gNil))) [z0, some (.p (tE E)), z2, some (.o (stk E.length S)), some (.p (tE own)), z5, some (.p (.tup ((usedI own).map .int))), some (.p (.int i)), z8, z9] =
      .ok .nx [z0, some (.p (tE E)), z2, some (.o (stk E.length S)), some (.p (tE own)), z5, some (.p (.tup ((usedI own).map .int))), some (.p (.int i)), some (.p (.int e.1)), some (.p (.int e.2))] := by
    rw [asg_ap, ok_bnd (ex _ _)]; rfl
  unfold inB
  rw [seq_nx e1]
  have n1 := dNotIn_ints e.1 (usedI own)
  have n2 := dNotIn_ints e.2 (usedI own)
  have et : andT (tsb (cmp dNotIn (vr 8) (vr 6))) (tsb (cmp dNotIn (vr 9) (vr 6))) [z0, some (.p (tE E)), z2, some (.o (stk E.length S)), some (.p (tE own)), z5, some (.p (.tup ((usedI own).map .int))), some (.p (.int i)), some (.p (.int e.1)), some (.p (.int e.2))] = .ok (disj e own) [z0, some (.p (tE E)), z2, some (.o (stk E.length S)), some (.p (tE own)), z5, some (.p (.tup ((usedI own).map .int))), some (.p (.int i)), some (.p (.int e.1)), some (.p (.int e.2))] := by
    have t1 : tsb (cmp dNotIn (vr 8) (vr 6)) [z0, some (.p (tE E)), z2, some (.o (stk E.length S)), some (.p (tE own)), z5, some (.p (.tup ((usedI own).map .int))), some (.p (.int i)), some (.p (.int e.1)), some (.p (.int e.2))] = .ok (!decide (e.1 ∈ usedI own)) [z0, some (.p (tE E)), z2, some (.o (stk E.length S)), some (.p (tE own)), z5, some (.p (.tup ((usedI own).map .int))), some (.p (.int i)), some (.p (.int e.1)), some (.p (.int e.2))] := by
      have q : cmp dNotIn (vr 8) (vr 6) [z0, some (.p (tE E)), z2, some (.o (stk E.length S)), some (.p (tE own)), z5, some (.p (.tup ((usedI own).map .int))), some (.p (.int i)), some (.p (.int e.1)), some (.p (.int e.2))] = .ok (.bl (!decide (e.1 ∈ usedI own))) [z0, some (.p (tE E)), z2, some (.o (stk E.length S)), some (.p (tE own)), z5, some (.p (.tup ((usedI own).map .int))), some (.p (.int i)), some (.p (.int e.1)), some (.p (.int e.2))] := by
        rw [cmp_ap, ok_bnd (vr_at rfl), ok_bnd (vr_at rfl), n1]; rfl
      rw [tsb_ap, ok_bnd q]; rfl
    have t2 : tsb (cmp dNotIn (vr 9) (vr 6)) [z0, some (.p (tE E)), z2, some (.o (stk E.length S)), some (.p (tE own)), z5, some (.p (.tup ((usedI own).map .int))), some (.p (.int i)), some (.p (.int e.1)), some (.p (.int e.2))] = .ok (!decide (e.2 ∈ usedI own)) [z0, some (.p (tE E)), z2, some (.o (stk E.length S)), some (.p (tE own)), z5, some (.p (.tup ((usedI own).map .int))), some (.p (.int i)), some (.p (.int e.1)), some (.p (.int e.2))] := by
      have q : cmp dNotIn (vr 9) (vr 6) [z0, some (.p (tE E)), z2, some (.o (stk E.length S)), some (.p (tE own)), z5, some (.p (.tup ((usedI own).map .int))), some (.p (.int i)), some (.p (.int e.1)), some (.p (.int e.2))] = .ok (.bl (!decide (e.2 ∈ usedI own))) [z0, some (.p (tE E)), z2, some (.o (stk E.length S)), some (.p (tE own)), z5, some (.p (.tup ((usedI own).map .int))), some (.p (.int i)), some (.p (.int e.1)), some (.p (.int e.2))] := by
        rw [cmp_ap, ok_bnd (vr_at rfl), ok_bnd (vr_at rfl), n2]; rfl
      rw [tsb_ap, ok_bnd q]; rfl
    rw [andT_ap, ok_bnd t1]
    unfold disj
    by_cases h1 : e.1 ∈ usedI own
    · simp [h1]
    · simp only [h1, decide_false, Bool.not_false, if_true, not_false_eq_true, decide_true, Bool.true_and]
      rw [t2]
      simp
  rw [iff_ok et]
  by_cases hd : disj e own = true
  · rw [if_pos hd, if_pos hd]
    have hul : (usedI own).length ≤ 200 := by
      have : ∀ o : List Ed, (usedI o).length = 2 * o.length := by
        intro o
        induction o with
        | nil => rfl
        | cons a o ih =>
          unfold usedI at ih ⊢
          rw [List.flatMap_cons, List.length_append, ih]
          simp only [List.length_cons, List.length_nil]
          omega
      rw [this]; omega
    have a1 : dAdd (tE own) (.tup [eD e]) = some (tE (own ++ [e])) := by
      show (if (own.map eD).length + 1 ≤ lim then some (D.tup (own.map eD ++ [eD e])) else none) = _
      rw [if_pos (by rw [List.length_map]; unfold lim; omega)]
      unfold tE
      rw [List.map_append]; rfl
    have a2 : dAdd (.tup ((usedI own).map .int)) (.tup [.int e.1, .int e.2]) = some (.tup ((usedI (own ++ [e])).map .int)) := by
      show (if ((usedI own).map D.int).length + 2 ≤ lim then some (D.tup ((usedI own).map D.int ++ [.int e.1, .int e.2])) else none) = _
      rw [if_pos (by rw [List.length_map]; unfold lim; omega)]
      unfold usedI
      rw [List.flatMap_append, List.map_append]; rfl
    have f1 : ∀ y : D, fewT [y] = some (.tup [y]) := fun y => if_pos (show 1 ≤ lim by unfold lim; omega)
    have f2 : ∀ y z : D, fewT [y, z] = some (.tup [y, z]) := fun y z => if_pos (show 2 ≤ lim by unfold lim; omega)
    have f3 : ∀ y z u : D, fewT [y, z, u] = some (.tup [y, z, u]) := fun y z u => if_pos (show 3 ≤ lim by unfold lim; omega)
    obtain ⟨ρ, hρ⟩ : ∃ ρ : Env, ρ = [z0, some (.p (tE E)), z2, some (.o (stk E.length S)), some (.p (tE own)), z5, some (.p (.tup ((usedI own).map .int))), some (.p (.int i)), some (.p (.int e.1)), some (.p (.int e.2))] := ⟨_, rfl⟩
    have r3 : ρ[3]? = some (some (.o (stk E.length S))) := by rw [hρ]; rfl
    have r4 : ρ[4]? = some (some (.p (tE own))) := by rw [hρ]; rfl
    have r6 : ρ[6]? = some (some (.p (.tup ((usedI own).map .int)))) := by rw [hρ]; rfl
    have r7 : ρ[7]? = some (some (.p (.int i))) := by rw [hρ]; rfl
    have r8 : ρ[8]? = some (some (.p (.int e.1))) := by rw [hρ]; rfl
    have r9 : ρ[9]? = some (some (.p (.int e.2))) := by rw [hρ]; rfl
    have exρ : op2 dIx (vr 1) (vr 7) ρ = .ok (eD e) ρ := by rw [hρ]; exact ex _ _
    rw [← hρ]
    have b1 : op2 dAdd (vr 4) (tupE (consA (op2 dIx (vr 1) (vr 7)) nilA)) ρ = .ok (tE (own ++ [e])) ρ := by
      have q1 : tupE (consA (op2 dIx (vr 1) (vr 7)) nilA) ρ = .ok (.tup [eD e]) ρ := by
        have q0 : consA (op2 dIx (vr 1) (vr 7)) nilA ρ = .ok [eD e] ρ := by rw [consA_ap, ok_bnd exρ]; rfl
        rw [tupE_ap, ok_bnd q0, f1]; rfl
      rw [op2_ap, ok_bnd (vr_at r4), ok_bnd q1, a1]; rfl
    have b2 : op2 dAdd (vr 7) (Fe.ret (.int 1)) ρ = .ok (.int ((i : Int) + 1)) ρ := by rw [op2_ap, ok_bnd (vr_at r7)]; rfl
    have b3 : op2 dAdd (vr 6) (tupE (consA (vr 8) (consA (vr 9) nilA))) ρ = .ok (.tup ((usedI (own ++ [e])).map .int)) ρ := by
      have q1 : tupE (consA (vr 8) (consA (vr 9) nilA)) ρ = .ok (.tup [.int e.1, .int e.2]) ρ := by
        have q2 : consA (vr 9) nilA ρ = .ok [.int e.2] ρ := by rw [consA_ap, ok_bnd (vr_at r9)]; rfl
        have q0 : consA (vr 8) (consA (vr 9) nilA) ρ = .ok [.int e.1, .int e.2] ρ := by rw [consA_ap, ok_bnd (vr_at r8), ok_bnd q2]; rfl
        rw [tupE_ap, ok_bnd q0, f2]; rfl
      rw [op2_ap, ok_bnd (vr_at r6), ok_bnd q1, a2]; rfl
    have b4 : tupE (consA (op2 dAdd (vr 4) (tupE (consA (op2 dIx (vr 1) (vr 7)) nilA))) (consA (op2 dAdd (vr 7) (Fe.ret (.int 1))) (consA (op2 dAdd (vr 6) (tupE (consA (vr 8) (consA (vr 9) nilA)))) nilA))) ρ = .ok (nd E.length (own ++ [e], r)) ρ := by
      have q3 : consA (op2 dAdd (vr 6) (tupE (consA (vr 8) (consA (vr 9) nilA)))) nilA ρ = .ok [.tup ((usedI (own ++ [e])).map .int)] ρ := by rw [consA_ap, ok_bnd b3]; rfl
      have q2 : consA (op2 dAdd (vr 7) (Fe.ret (.int 1))) (consA (op2 dAdd (vr 6) (tupE (consA (vr 8) (consA (vr 9) nilA)))) nilA) ρ = .ok [.int ((i : Int) + 1), .tup ((usedI (own ++ [e])).map .int)] ρ := by rw [consA_ap, ok_bnd b2, ok_bnd q3]; rfl
      have q1 : consA (op2 dAdd (vr 4) (tupE (consA (op2 dIx (vr 1) (vr 7)) nilA))) (consA (op2 dAdd (vr 7) (Fe.ret (.int 1))) (consA (op2 dAdd (vr 6) (tupE (consA (vr 8) (consA (vr 9) nilA)))) nilA)) ρ = .ok [tE (own ++ [e]), .int ((i : Int) + 1), .tup ((usedI (own ++ [e])).map .int)] ρ := by rw [consA_ap, ok_bnd b1, ok_bnd q2]; rfl
      have q0 : (E.length : Int) - r.length = (i : Int) + 1 := by omega
      rw [tupE_ap, ok_bnd q1, f3]
      unfold nd
      dsimp only
      rw [q0]; rfl
    rw [app_ap, ok_bnd (own_at' r3), ok_bnd b4, ok_bnd (own_at' r3)]
    unfold stk
    dsimp only
    rw [if_pos (by rw [List.length_reverse, List.length_map]; unfold lim; omega), hρ]
    show R.ok Fl.nx _ = _
    rw [List.cons_append, List.nil_append, List.map_cons, List.reverse_cons]
    rfl
  · rw [if_neg hd, if_neg hd]
    rfl
/-- all places from the last one down -/
def downs (L : Nat) : Nat → List D
  | 0 => []
  | m + 1 => downs L m ++ [.int ((L - 1 - m : Nat) : Int)]
theorem in_run {E own : List Ed} {S : List (List Ed × List Ed)} {z0 z2 z5 z7 z8 z9 : Option C} (ho : own.length ≤ 100) : ∀ {r pr : List Ed} , pr ++ r = E → (kids own r ++ S).length ≤ 1000 →
    ∃ z7' z8' z9', ∀ l : List D, forL (fun x => bnd (gN 7 x) fun _ => inB) (downs E.length r.length ++ l) [z0, some (.p (tE E)), z2, some (.o (stk E.length S)), some (.p (tE own)), z5, some (.p (.tup ((usedI own).map .int))), z7, z8, z9] =
      forL (fun x => bnd (gN 7 x) fun _ => inB) l [z0, some (.p (tE E)), z2, some (.o (stk E.length (kids own r ++ S))), some (.p (tE own)), z5, some (.p (.tup ((usedI own).map .int))), z7', z8', z9']
  | [], pr, h, hS => ⟨z7, z8, z9, fun l => rfl⟩
  | e :: r, pr, h, hS => by
    have hk : kids own (e :: r) = (if disj e own = true then [(own ++ [e], r)] else []) ++ kids own r := rfl
    rw [hk, List.append_assoc, List.length_append] at hS
    obtain ⟨z7', z8', z9', ih⟩ := in_run (E := E) (z0 := z0) (z2 := z2) (z5 := z5) (z7 := z7) (z8 := z8) (z9 := z9) (S := S) ho (r := r) (pr := pr ++ [e]) (by rw [List.append_assoc]; exact h) (by omega)
    have hl : E.length = pr.length + (r.length + 1) := by rw [← h, List.length_append, List.length_cons]
    have hi : E[pr.length]? = some e := by rw [← h, List.getElem?_append_right (Nat.le_refl _), Nat.sub_self]; rfl
    refine ⟨some (.p (.int (pr.length : Nat))), some (.p (.int e.1)), some (.p (.int e.2)), fun l => ?_⟩
    rw [List.length_cons]
    unfold downs
    rw [List.append_assoc, ih, hk, List.append_assoc, show E.length - 1 - r.length = pr.length by omega]
    exact forL_nx (in_turn (r := r) hi (by omega) ho (by omega))
end K05
set_option Elab.async false
set_option linter.all false
set_option maxRecDepth 100000
set_option maxHeartbeats 1000000
namespace K05
open PySem (Str)
open Fe
theorem downs_eq {L : Nat} : ∀ {m : Nat}, m ≤ L → (List.range m).map (fun (k : Nat) => D.int ((L : Int) - 1 - k)) = downs L m
  | 0, _ => rfl
  | m + 1, h => by
    rw [List.range_succ, List.map_append, downs_eq (by omega)]
    show downs L m ++ [D.int ((L : Int) - 1 - m)] = downs L m ++ [.int ((L - 1 - m : Nat) : Int)]
    rw [show ((L - 1 - m : Nat) : Int) = (L : Int) - 1 - m by omega]
abbrev outB : S := (seq (asg (popO 3) (gT 3 (gCons (gN 4) (gCons (gN 5) (gCons (gN 6) gNil)))))
    (seq (iff (tsb (cmp dGt (op1 dLen (vr 4)) (op1 dLen (vr 2)))) (asg (vr 4) (gN 2)) sNx)
    (seq (iff (tsb (cmp dLe (op2 dSub (op2 dAdd (op1 dLen (vr 4)) (op1 dLen (vr 1))) (vr 5)) (op1 dLen (vr 2)))) cnt sNx)
    (forS (rgD (op2 dSub (op1 dLen (vr 1)) (Fe.ret (.int 1))) (op2 dSub (vr 5) (Fe.ret (.int 1)))) (gN 7) inB))))
theorem dLen_tE {E : List Ed} : dLen (tE E) = some (.int E.length) := by
  show some (D.int ((E.map eD).length : Nat)) = _
  rw [List.length_map]
theorem len_at {i : Nat} {ρ : Env} {E : List Ed} (h : ρ[i]? = some (some (.p (tE E)))) : op1 dLen (vr i) ρ = .ok (.int E.length) ρ := by rw [op1_ap, ok_bnd (vr_at h), dLen_tE]; rfl
theorem ok_cmp {g : D → D → Option Bool} {a b : M D} {x y : D} {k : Bool} {ρ : Env} (ha : a ρ = .ok x ρ) (hb : b ρ = .ok y ρ) (h : g x y = some k) : tsb (cmp g a b) ρ = .ok k ρ := by
  have e : cmp g a b ρ = .ok (.bl k) ρ := by rw [cmp_ap, ok_bnd ha, ok_bnd hb, h]; rfl
  rw [tsb_ap, ok_bnd e]; rfl
theorem ok_op2 {g : D → D → Option D} {a b : M D} {x y z : D} {ρ : Env} (ha : a ρ = .ok x ρ) (hb : b ρ = .ok y ρ) (h : g x y = some z) : op2 g a b ρ = .ok z ρ := by rw [op2_ap, ok_bnd ha, ok_bnd hb, h]; rfl
theorem big_int {i : Int} (h : -1000 ≤ i ∧ i ≤ 1000) : bigI i = true := by
  unfold bigI
  rw [decide_eq_true_eq]
  omega
theorem turn {E : List Ed} {own r best : List Ed} {S : List (List Ed × List Ed)} {z0 z4 z5 z6 z7 z8 z9 : Option C} (hE : E.length ≤ 100) (ho : own.length ≤ 100) (hr : ∃ p, p ++ r = E) (hS : (kids own r ++ S).length ≤ 1000) :
    (own.length + r.length ≤ (better best own).length ∧ ∃ y4 y5 y6 y7 y8 y9, outB [z0, some (.p (tE E)), some (.p (tE best)), some (.o (stk E.length ((own, r) :: S))), z4, z5, z6, z7, z8, z9] = .ok .ct [z0, some (.p (tE E)), some (.p (tE (better best own))), some (.o (stk E.length S)), y4, y5, y6, y7, y8, y9]) ∨
    ∃ y4 y5 y6 y7 y8 y9, outB [z0, some (.p (tE E)), some (.p (tE best)), some (.o (stk E.length ((own, r) :: S))), z4, z5, z6, z7, z8, z9] = .ok .nx [z0, some (.p (tE E)), some (.p (tE (better best own))), some (.o (stk E.length (kids own r ++ S))), y4, y5, y6, y7, y8, y9] := by
  have hrl : r.length ≤ E.length := by obtain ⟨p, rfl⟩ := hr; rw [List.length_append]; omega
  have e1 : asg (popO 3) (gT 3 (gCons (gN 4) (gCons (gN 5) (gCons (gN 6) gNil)))) [z0, some (.p (tE E)), some (.p (tE best)), some (.o (stk E.length ((own, r) :: S))), z4, z5, z6, z7, z8, z9] =
      .ok .nx [z0, some (.p (tE E)), some (.p (tE best)), some (.o (stk E.length S)), some (.p (tE own)), some (.p (.int ((E.length : Int) - r.length))), some (.p (.tup ((usedI own).map .int))), z7, z8, z9] := by
    have ep : popO 3 [z0, some (.p (tE E)), some (.p (tE best)), some (.o (stk E.length ((own, r) :: S))), z4, z5, z6, z7, z8, z9] = .ok (nd E.length (own, r)) [z0, some (.p (tE E)), some (.p (tE best)), some (.o (stk E.length S)), z4, z5, z6, z7, z8, z9] := by
      have es : stk E.length ((own, r) :: S) = .lst ((S.map (nd E.length)).reverse ++ [nd E.length (own, r)]) := by
        unfold stk
        rw [List.map_cons, List.reverse_cons]
      rw [es, popO_ap, ok_bnd (own_at' rfl)]
      dsimp only
      rw [List.length_append, List.length_singleton, Nat.add_sub_cancel, List.getElem?_append_right (Nat.le_refl _), Nat.sub_self, List.dropLast_concat]
      rfl
    rw [asg_ap, ok_bnd ep]
    rfl
  have e2 : iff (tsb (cmp dGt (op1 dLen (vr 4)) (op1 dLen (vr 2)))) (asg (vr 4) (gN 2)) sNx [z0, some (.p (tE E)), some (.p (tE best)), some (.o (stk E.length S)), some (.p (tE own)), some (.p (.int ((E.length : Int) - r.length))), some (.p (.tup ((usedI own).map .int))), z7, z8, z9] =
      .ok .nx [z0, some (.p (tE E)), some (.p (tE (better best own))), some (.o (stk E.length S)), some (.p (tE own)), some (.p (.int ((E.length : Int) - r.length))), some (.p (.tup ((usedI own).map .int))), z7, z8, z9] := by
    rw [iff_ok (ok_cmp (k := decide (best.length < own.length)) (len_at rfl) (len_at rfl) (by show some (decide _) = _; congr 1; simp))]
    unfold better
    by_cases h : best.length < own.length
    · rw [if_pos (decide_eq_true h), if_pos h]; rfl
    · rw [if_neg (by simpa using h), if_neg h]; rfl
  obtain ⟨b1, hb1⟩ : ∃ b, b = better best own := ⟨_, rfl⟩
  rw [← hb1] at e2 ⊢
  obtain ⟨ρ, hρ⟩ : ∃ ρ : Env, ρ = [z0, some (.p (tE E)), some (.p (tE b1)), some (.o (stk E.length S)), some (.p (tE own)), some (.p (.int ((E.length : Int) - r.length))), some (.p (.tup ((usedI own).map .int))), z7, z8, z9] := ⟨_, rfl⟩
  have r1 : ρ[1]? = some (some (.p (tE E))) := by rw [hρ]; rfl
  have r2 : ρ[2]? = some (some (.p (tE b1))) := by rw [hρ]; rfl
  have r4 : ρ[4]? = some (some (.p (tE own))) := by rw [hρ]; rfl
  have r5 : ρ[5]? = some (some (.p (.int ((E.length : Int) - r.length)))) := by rw [hρ]; rfl
  have q1 : op2 dSub (op2 dAdd (op1 dLen (vr 4)) (op1 dLen (vr 1))) (vr 5) ρ = .ok (.int ((own.length : Int) + E.length - (E.length - r.length))) ρ := ok_op2 (ok_op2 (len_at r4) (len_at r1) rfl) (vr_at r5) rfl
  have e3 := iff_ok (a := cnt) (b := sNx) (ok_cmp (g := dLe) (k := decide (own.length + r.length ≤ b1.length)) q1 (len_at r2) (by
    show some (decide _) = _
    congr 1
    rw [decide_eq_decide]
    omega))
  rw [hρ] at e3
  by_cases hp : own.length + r.length ≤ b1.length
  · rw [if_pos (decide_eq_true hp)] at e3
    refine .inl ⟨hp, some (.p (tE own)), some (.p (.int ((E.length : Int) - r.length))), some (.p (.tup ((usedI own).map .int))), z7, z8, z9, ?_⟩
    unfold outB
    rw [seq_nx e1, seq_nx e2, seq_ap, ok_bnd (e3.trans cnt_ap)]
    rfl
  · rw [if_neg (by simpa using hp)] at e3
    obtain ⟨pr, hpr⟩ := hr
    obtain ⟨z7', z8', z9', ih⟩ := in_run (E := E) (z0 := z0) (z2 := some (.p (tE b1))) (z5 := some (.p (.int ((E.length : Int) - r.length)))) (z7 := z7) (z8 := z8) (z9 := z9) (S := S) ho hpr hS
    refine .inr ⟨some (.p (tE own)), some (.p (.int ((E.length : Int) - r.length))), some (.p (.tup ((usedI own).map .int))), z7', z8', z9', ?_⟩
    unfold outB
    rw [seq_nx e1, seq_nx e2, seq_nx (e3.trans sNx_ap)]
    have i0 := ih []
    rw [List.append_nil] at i0
    have er : rgD (op2 dSub (op1 dLen (vr 1)) (Fe.ret (.int 1))) (op2 dSub (vr 5) (Fe.ret (.int 1))) ρ = .ok (downs E.length r.length) ρ := by
      have a1 : op2 dSub (op1 dLen (vr 1)) (Fe.ret (.int 1)) ρ = .ok (.int ((E.length : Int) - 1)) ρ := ok_op2 (len_at r1) ret_ap rfl
      have a2 : op2 dSub (vr 5) (Fe.ret (.int 1)) ρ = .ok (.int ((E.length : Int) - r.length - 1)) ρ := ok_op2 (vr_at r5) ret_ap rfl
      have a3 : dRngD (.int ((E.length : Int) - 1)) (.int ((E.length : Int) - r.length - 1)) = some (downs E.length r.length) := by
        unfold dRngD
        dsimp only
        rw [big_int (by omega), big_int (by omega), ← downs_eq hrl]
        show some (rngDown _ _) = _
        unfold rngDown
        rw [show ((E.length : Int) - 1 - ((E.length : Int) - r.length - 1)).toNat = r.length by omega]
      rw [rgD_ap, ok_bnd a1, ok_bnd a2, a3]; rfl
    rw [hρ] at er
    exact for_ok er i0
theorem search {E : List Ed} {z0 : Option C} (hE : E.length ≤ 100) : ∀ (m : Nat) (S : List (List Ed × List Ed)) (best : List Ed) (f : Nat) (z4 z5 z6 z7 z8 z9 : Option C), (S.flatMap pre).length ≤ m → m < f → m ≤ 1000 → (∀ x ∈ S, (∃ p, p ++ x.2 = E) ∧ x.1.length + x.2.length ≤ 100) →
    ∃ ρ', whlN (tstO 3) outB f [z0, some (.p (tE E)), some (.p (tE best)), some (.o (stk E.length S)), z4, z5, z6, z7, z8, z9] = .ok .nx ρ' ∧ ρ'[2]? = some (some (.p (tE ((S.flatMap pre).foldl better best)))) := by
  intro m
  induction m with
  | zero =>
    intro S best f z4 z5 z6 z7 z8 z9 hm hf _ _
    obtain ⟨f, rfl⟩ : ∃ g, f = g + 1 := ⟨f - 1, by omega⟩
    cases S with
    | nil =>
      refine ⟨[z0, some (.p (tE E)), some (.p (tE best)), some (.o (stk E.length [])), z4, z5, z6, z7, z8, z9], ?_, rfl⟩
      unfold whlN
      have et : tstO 3 [z0, some (.p (tE E)), some (.p (tE best)), some (.o (stk E.length [])), z4, z5, z6, z7, z8, z9] = .ok false [z0, some (.p (tE E)), some (.p (tE best)), some (.o (stk E.length [])), z4, z5, z6, z7, z8, z9] := rfl
      rw [ok_bnd et]; rfl
    | cons x S =>
      rw [List.flatMap_cons, List.length_append, pre_kids, List.length_cons] at hm
      omega
  | succ m ih =>
    intro S best f z4 z5 z6 z7 z8 z9 hm hf hm2 hS
    obtain ⟨f, rfl⟩ : ∃ g, f = g + 1 := ⟨f - 1, by omega⟩
    cases S with
    | nil =>
      refine ⟨[z0, some (.p (tE E)), some (.p (tE best)), some (.o (stk E.length [])), z4, z5, z6, z7, z8, z9], ?_, rfl⟩
      unfold whlN
      have et : tstO 3 [z0, some (.p (tE E)), some (.p (tE best)), some (.o (stk E.length [])), z4, z5, z6, z7, z8, z9] = .ok false [z0, some (.p (tE E)), some (.p (tE best)), some (.o (stk E.length [])), z4, z5, z6, z7, z8, z9] := rfl
      rw [ok_bnd et]; rfl
    | cons x S =>
      obtain ⟨own, r⟩ := x
      have hx : (∃ p, p ++ r = E) ∧ own.length + r.length ≤ 100 := hS (own, r) (.head _)
      have hlen : ∀ T : List (List Ed × List Ed), T.length ≤ (T.flatMap pre).length := by
        intro T
        induction T with
        | nil => exact Nat.le_refl 0
        | cons y T ih =>
          rw [List.flatMap_cons, List.length_append, pre_kids, List.length_cons, List.length_cons]
          omega
      have hk : (kids own r ++ S).flatMap pre = (kids own r).flatMap pre ++ S.flatMap pre := List.flatMap_append
      have hm' : ((kids own r ++ S).flatMap pre).length ≤ m := by
        rw [List.flatMap_cons, pre_kids, List.cons_append, List.length_cons] at hm
        rw [hk]
        exact Nat.le_of_succ_le_succ hm
      have et : tstO 3 [z0, some (.p (tE E)), some (.p (tE best)), some (.o (stk E.length ((own, r) :: S))), z4, z5, z6, z7, z8, z9] = .ok true [z0, some (.p (tE E)), some (.p (tE best)), some (.o (stk E.length ((own, r) :: S))), z4, z5, z6, z7, z8, z9] := by
        have : truth (stk E.length ((own, r) :: S)) = some true := by
          unfold stk
          rw [List.map_cons, List.reverse_cons]
          show some (!(_ ++ [_]).isEmpty) = _
          rw [show ∀ (l : List D) (y : D), (l ++ [y]).isEmpty = false from fun l y => by cases l <;> rfl]
          rfl
        rw [tstO_ap, ok_bnd (own_at' rfl), this]; rfl
      have fold : (((own, r) :: S).flatMap pre).foldl better best = ((kids own r).flatMap pre ++ S.flatMap pre).foldl better (better best own) := by
        rw [List.flatMap_cons, pre_kids, List.cons_append]; rfl
      have hks : ∀ y ∈ kids own r, (∃ p, p ++ y.2 = E) ∧ y.1.length + y.2.length ≤ 100 := by
        intro y hy
        refine ⟨?_, by have := (kids_size hy).2; omega⟩
        obtain ⟨p, hp⟩ := hx.1
        have : ∀ (r p : List Ed), p ++ r = E → y ∈ kids own r → ∃ p, p ++ y.2 = E := by
          intro r
          induction r with
          | nil => intro p _ h; exact absurd h List.not_mem_nil
          | cons e r ih2 =>
            intro p hp h
            have hp2 : (p ++ [e]) ++ r = E := by rw [List.append_assoc]; exact hp
            unfold kids at h
            rcases List.mem_append.mp h with h | h
            · split at h
              · rw [List.mem_singleton.mp h]; exact ⟨p ++ [e], hp2⟩
              · exact absurd h List.not_mem_nil
            · exact ih2 _ hp2 h
        exact this r p hp hy
      rcases turn (z0 := z0) (z4 := z4) (z5 := z5) (z6 := z6) (z7 := z7) (z8 := z8) (z9 := z9) (best := best) (S := S) (own := own) (r := r) hE (by have := hx.2; omega) hx.1 (Nat.le_trans (hlen _) (by omega)) with ⟨hp, z4', z5', z6', z7', z8', z9', e⟩ | ⟨z4', z5', z6', z7', z8', z9', e⟩
      · have h2 : (S.flatMap pre).length ≤ m := by rw [hk, List.length_append] at hm'; omega
        obtain ⟨ρ', e', h'⟩ := ih S (better best own) f z4' z5' z6' z7' z8' z9' h2 (by omega) (by omega) fun y hy => hS y (.tail _ hy)
        refine ⟨ρ', ?_, ?_⟩
        · unfold whlN
          rw [ok_bnd et, if_pos rfl, ok_bnd e]
          exact e'
        · have hpr : ((kids own r).flatMap pre).foldl better (better best own) = better best own := better_prune fun y hy => by
            rw [← sub_kids] at hy
            have := (sub_len hy).2
            omega
          rw [h', fold, List.foldl_append, hpr]
      · obtain ⟨ρ', e', h'⟩ := ih (kids own r ++ S) (better best own) f z4' z5' z6' z7' z8' z9' hm' (by omega) (by omega) fun y hy => (List.mem_append.mp hy).elim (hks y) fun h => hS y (.tail _ h)
        refine ⟨ρ', ?_, ?_⟩
        · unfold whlN
          rw [ok_bnd et, if_pos rfl, ok_bnd e]
          exact e'
        · rw [h', fold, hk]
theorem most_apart {n : Nat} {E : List Ed} (g : Graph n E) : f_most_apart [.int n, tE E] = .ok (tE ((pre ([], E)).foldl better [])) := by
  have hs := g.sz
  have hz : ((([], E) : List Ed × List Ed) :: []).flatMap pre = pre ([], E) := by rw [List.flatMap_singleton]
  have hl : (pre ([], E)).length ≤ 256 := by
    have h1 := sub_size [] E
    have h2 : 2 ^ E.length ≤ 2 ^ 8 := Nat.pow_le_pow_right (by decide) hs
    show (sub [] E).length + 1 ≤ 256
    omega
  obtain ⟨ρ', e, h⟩ := search (z0 := some (.p (.int n))) (E := E) (by omega) 256 [([], E)] [] fuel none none none none none none (by rw [hz]; exact hl) (by unfold fuel; omega) (by omega) fun x hx => by
    rw [List.mem_singleton.mp hx]
    exact ⟨⟨[], rfl⟩, by simp; omega⟩
  rw [hz] at h
  refine run_rt (d := tE ((pre ([], E)).foldl better [])) (ρ1 := ρ') rfl ?_
  show b_most_apart [some (.p (.int n)), some (.p (tE E)), none, none, none, none, none, none, none, none] = _
  obtain ⟨ρ0, hρ0⟩ : ∃ ρ : Env, ρ = [some (.p (.int n)), some (.p (tE E)), none, none, none, none, none, none, none, none] := ⟨_, rfl⟩
  have r0 : ρ0[0]? = some (some (.p (.int n))) := by rw [hρ0]; rfl
  have r1 : ρ0[1]? = some (some (.p (tE E))) := by rw [hρ0]; rfl
  have e0 : (drp (cl f_need_graph (consA (vr 0) (consA (vr 1) (consA (Fe.ret (.int 12)) nilA))))) ρ0 = .ok .nx ρ0 := by
    have ea : consA (vr 0) (consA (vr 1) (consA (Fe.ret (.int 12)) nilA)) ρ0 = .ok [.int n, tE E, .int 12] ρ0 := by rw [hρ0]; rfl
    have ec : cl f_need_graph (consA (vr 0) (consA (vr 1) (consA (Fe.ret (.int 12)) nilA))) ρ0 = .ok .non ρ0 := by
      rw [cl_ap, ok_bnd ea, need_graph g]; rfl
    rw [drp_ap, ok_bnd ec]; rfl
  have f0 : fewT [] = some (.tup []) := if_pos (Nat.zero_le _)
  have f1 : ∀ y : D, fewL [y] = some (.lst [y]) := fun y => if_pos (show 1 ≤ lim by unfold lim; omega)
  have f3 : ∀ y z u : D, fewT [y, z, u] = some (.tup [y, z, u]) := fun y z u => if_pos (show 3 ≤ lim by unfold lim; omega)
  have t0 : ∀ ρ : Env, tupE nilA ρ = .ok (.tup []) ρ := fun ρ => by rw [tupE_ap, ok_bnd nilA_ap, f0]; rfl
  have e1 : parO 2 3 (tupE nilA) (consA (tupE (consA (tupE nilA) (consA (Fe.ret (.int 0)) (consA (tupE nilA) nilA)))) nilA) ρ0 = .ok .nx [some (.p (.int n)), some (.p (tE E)), some (.p (tE [])), some (.o (stk E.length [([], E)])), none, none, none, none, none, none] := by
    have q3 : consA (tupE nilA) nilA ρ0 = .ok [.tup []] ρ0 := by rw [consA_ap, ok_bnd (t0 _)]; rfl
    have q2 : consA (Fe.ret (.int 0)) (consA (tupE nilA) nilA) ρ0 = .ok [.int 0, .tup []] ρ0 := by rw [consA_ap, ok_bnd ret_ap, ok_bnd q3]; rfl
    have q1 : consA (tupE nilA) (consA (Fe.ret (.int 0)) (consA (tupE nilA) nilA)) ρ0 = .ok [.tup [], .int 0, .tup []] ρ0 := by rw [consA_ap, ok_bnd (t0 _), ok_bnd q2]; rfl
    have q0 : tupE (consA (tupE nilA) (consA (Fe.ret (.int 0)) (consA (tupE nilA) nilA))) ρ0 = .ok (.tup [.tup [], .int 0, .tup []]) ρ0 := by rw [tupE_ap, ok_bnd q1, f3]; rfl
    have q4 : consA (tupE (consA (tupE nilA) (consA (Fe.ret (.int 0)) (consA (tupE nilA) nilA)))) nilA ρ0 = .ok [.tup [.tup [], .int 0, .tup []]] ρ0 := by rw [consA_ap, ok_bnd q0]; rfl
    have q5 : lstE (consA (tupE (consA (tupE nilA) (consA (Fe.ret (.int 0)) (consA (tupE nilA) nilA)))) nilA) ρ0 = .ok (.lst [.tup [.tup [], .int 0, .tup []]]) ρ0 := by rw [lstE_ap, ok_bnd q4, f1]; rfl
    have q6 : nd E.length ([], E) = .tup [.tup [], .int 0, .tup []] := by
      unfold nd
      dsimp only
      rw [Int.sub_self]; rfl
    have q7 : stk E.length [([], E)] = .lst [.tup [.tup [], .int 0, .tup []]] := by
      unfold stk
      rw [List.map_cons, q6]; rfl
    rw [q7, parO_ap, ok_bnd (t0 _), ok_bnd q5, hρ0]
    rfl
  rw [← hρ0]
  have er : rtn (vr 2) ρ' = .ok (.rt (tE ((pre ([], E)).foldl better []))) ρ' := by rw [rtn_ap, ok_bnd (vr_at h)]; rfl
  have ew : whl (tstO 3) outB [some (.p (.int n)), some (.p (tE E)), some (.p (tE [])), some (.o (stk E.length [([], E)])), none, none, none, none, none, none] = .ok .nx ρ' := e
  unfold outB inB at ew
  unfold b_most_apart
  rw [seq_nx e0, seq_nx e1, seq_nx ew, er]
end K05
set_option Elab.async false
set_option linter.all false
set_option maxRecDepth 100000
set_option maxHeartbeats 1000000
namespace K05
open PySem (Str)
open Fe
/-! ### sorted sets and doubles -/
theorem insI_mem {x z : Int} : ∀ {l : List Int}, z ∈ insI x l ↔ z = x ∨ z ∈ l
  | [] => by simp [insI]
  | y :: l => by
    unfold insI
    split
    · rename_i h; subst h; simp
    · split
      · simp
      · rw [List.mem_cons, insI_mem (l := l), List.mem_cons]
        constructor
        · rintro (h | h | h)
          · exact .inr (.inl h)
          · exact .inl h
          · exact .inr (.inr h)
        · rintro (h | h | h)
          · exact .inr (.inl h)
          · exact .inl h
          · exact .inr (.inr h)
theorem insI_rises {x : Int} : ∀ {l : List Int}, l.Pairwise (· < ·) → (insI x l).Pairwise (· < ·)
  | [], _ => List.pairwise_cons.mpr ⟨fun z hz => absurd hz List.not_mem_nil, List.Pairwise.nil⟩
  | y :: l, h => by
    unfold insI
    split
    · exact h
    · rename_i hne
      rw [List.pairwise_cons] at h
      split
      · rename_i hlt
        exact List.pairwise_cons.mpr ⟨fun z hz => by
          rcases List.mem_cons.mp hz with rfl | hz
          · exact hlt
          · exact Int.lt_trans hlt (h.1 z hz), List.pairwise_cons.mpr h⟩
      · rename_i hnl
        refine List.pairwise_cons.mpr ⟨fun z hz => ?_, insI_rises h.2⟩
        rcases insI_mem.mp hz with rfl | hz
        · omega
        · exact h.1 z hz
theorem sortI_rises : ∀ {l : List Int}, (sortI l).Pairwise (· < ·)
  | [] => List.Pairwise.nil
  | x :: l => insI_rises (sortI_rises (l := l))
theorem sortI_mem' {z : Int} : ∀ {l : List Int}, z ∈ sortI l ↔ z ∈ l
  | [] => Iff.rfl
  | x :: l => by
    show z ∈ insI x (sortI l) ↔ _
    rw [insI_mem, sortI_mem', List.mem_cons]
theorem insI_len {x : Int} : ∀ {l : List Int}, l.Pairwise (· < ·) → (insI x l).length = if x ∈ l then l.length else l.length + 1
  | [], _ => rfl
  | y :: l, h => by
    unfold insI
    rw [List.pairwise_cons] at h
    by_cases e : x = y
    · subst e; simp
    · rw [if_neg e]
      by_cases h2 : x < y
      · rw [if_pos h2, if_neg (fun z => by
          rcases List.mem_cons.mp z with z | z
          · exact e z
          · have := h.1 x z; omega)]; rfl
      · rw [if_neg h2, List.length_cons, insI_len h.2, List.length_cons]
        by_cases h3 : x ∈ l
        · rw [if_pos h3, if_pos (List.mem_cons_of_mem _ h3)]
        · rw [if_neg h3, if_neg (fun z => by
            rcases List.mem_cons.mp z with z | z
            · exact e z
            · exact h3 z)]
theorem sortI_nodup : ∀ {l : List Int}, (sortI l).length ≤ l.length ∧ ((sortI l).length = l.length ↔ l.Nodup)
  | [] => ⟨Nat.le_refl 0, fun _ => List.nodup_nil, fun _ => rfl⟩
  | x :: l => by
    obtain ⟨h1, h2⟩ := sortI_nodup (l := l)
    have e : (sortI (x :: l)).length = if x ∈ l then (sortI l).length else (sortI l).length + 1 := by
      show (insI x (sortI l)).length = _
      rw [insI_len sortI_rises]
      by_cases h : x ∈ l
      · rw [if_pos (sortI_mem'.mpr h), if_pos h]
      · rw [if_neg (fun z => h (sortI_mem'.mp z)), if_neg h]
    rw [e, List.nodup_cons, List.length_cons, ← h2]
    by_cases h : x ∈ l
    · rw [if_pos h]
      exact ⟨by omega, fun z => by omega, fun z => absurd h z.1⟩
    · rw [if_neg h]
      exact ⟨by omega, fun z => ⟨h, by omega⟩, fun z => by omega⟩
def okR (own : List Ed) : Bool := (sortI (usedI own)).length == 2 * own.length
theorem used_len : ∀ o : List Ed, (usedI o).length = 2 * o.length
  | [] => rfl
  | a :: o => by
    have := used_len o
    unfold usedI at this ⊢
    rw [List.flatMap_cons, List.length_append, this]
    simp only [List.length_cons, List.length_nil]
    omega
theorem okR_iff {own : List Ed} : okR own = true ↔ (usedI own).Nodup := by
  unfold okR
  rw [beq_iff_eq, ← used_len, (sortI_nodup (l := usedI own)).2]
theorem okR_snoc {own : List Ed} {e : Ed} (he : e.1 ≠ e.2) : okR (own ++ [e]) = (okR own && disj e own) := by
  rw [Bool.eq_iff_iff, Bool.and_eq_true, okR_iff, okR_iff]
  have e1 : usedI (own ++ [e]) = usedI own ++ [e.1, e.2] := by unfold usedI; rw [List.flatMap_append]; rfl
  rw [e1, List.nodup_append]
  unfold disj
  rw [Bool.and_eq_true, decide_eq_true_eq, decide_eq_true_eq]
  constructor
  · rintro ⟨h1, _, h3⟩
    exact ⟨h1, fun z => h3 _ z _ (.head _) rfl, fun z => h3 _ z _ (.tail _ (.head _)) rfl⟩
  · rintro ⟨h1, h2, h3⟩
    refine ⟨h1, ?_, fun a ha b hb => ?_⟩
    · simp [he]
    · rcases List.mem_cons.mp hb with rfl | hb
      · exact fun z => h2 (z ▸ ha)
      · rw [List.mem_singleton.mp hb]
        exact fun z => h3 (z ▸ ha)
/-! ### levels -/
def kidsA (own : List Ed) : List Ed → List (List Ed × List Ed)
  | [] => []
  | e :: r => (own ++ [e], r) :: kidsA own r
def lev : Nat → List Ed × List Ed → List (List Ed × List Ed)
  | 0, x => [x]
  | k + 1, x => (kids x.1 x.2).flatMap (lev k)
def levA : Nat → List Ed × List Ed → List (List Ed × List Ed)
  | 0, x => [x]
  | k + 1, x => (kidsA x.1 x.2).flatMap (levA k)
theorem pre_long {x : List Ed × List Ed} {y : List Ed} (h : y ∈ pre x) : x.1.length ≤ y.length := by
  rcases List.mem_cons.mp h with rfl | h
  · exact Nat.le_refl _
  · have := (sub_len h).1; omega
theorem filter_flat {α β : Type} {q : β → Bool} {f : α → List β} : ∀ l : List α, (l.flatMap f).filter q = l.flatMap fun x => (f x).filter q
  | [] => rfl
  | x :: l => by rw [List.flatMap_cons, List.flatMap_cons, List.filter_append, filter_flat l]
theorem map_flat {α β γ : Type} {q : β → γ} {f : α → List β} : ∀ l : List α, (l.flatMap f).map q = l.flatMap fun x => (f x).map q
  | [] => rfl
  | x :: l => by rw [List.flatMap_cons, List.flatMap_cons, List.map_append, map_flat l]
theorem flat_congr' {α β : Type} {f g : α → List β} : ∀ {l : List α}, (∀ x ∈ l, f x = g x) → l.flatMap f = l.flatMap g
  | [], _ => rfl
  | x :: l, h => by rw [List.flatMap_cons, List.flatMap_cons, h x (.head _), flat_congr' fun y hy => h y (.tail _ hy)]
theorem flat_flat {α β γ : Type} {f : α → List β} {g : β → List γ} : ∀ l : List α, (l.flatMap f).flatMap g = l.flatMap fun x => (f x).flatMap g
  | [] => rfl
  | x :: l => by rw [List.flatMap_cons, List.flatMap_cons, List.flatMap_append, flat_flat l]
theorem pre_lev : ∀ (k : Nat) (x : List Ed × List Ed), (pre x).filter (fun y => y.length == x.1.length + k) = (lev k x).map (·.1)
  | 0, x => by
    rw [pre_kids, List.filter_cons_of_pos (by simp)]
    have : ((kids x.1 x.2).flatMap pre).filter (fun y => y.length == x.1.length + 0) = [] := by
      rw [List.filter_eq_nil_iff]
      intro y hy
      obtain ⟨z, hz, hy⟩ := List.mem_flatMap.mp hy
      have h1 := (kids_size hz).1
      have h2 := pre_long hy
      simp
      omega
    rw [this]; rfl
  | k + 1, x => by
    rw [pre_kids, List.filter_cons_of_neg (by simp), filter_flat]
    show _ = ((kids x.1 x.2).flatMap (lev k)).map (·.1)
    rw [map_flat]
    refine flat_congr' fun y hy => ?_
    have h1 := (kids_size hy).1
    rw [← pre_lev k y]
    congr 1
    funext z
    rw [h1, Nat.add_right_comm, Nat.add_assoc]
theorem levA_pre : ∀ (k : Nat) {x y : List Ed × List Ed}, y ∈ levA k x → okR y.1 = true → okR x.1 = true
  | 0, x, y, h, ho => by rw [← List.mem_singleton.mp h]; exact ho
  | k + 1, x, y, h, ho => by
    obtain ⟨z, hz, hy⟩ := List.mem_flatMap.mp h
    have h1 := levA_pre k hy ho
    have : ∀ (r : List Ed), z ∈ kidsA x.1 r → ∃ e, z.1 = x.1 ++ [e] := by
      intro r
      induction r with
      | nil => exact fun h => absurd h List.not_mem_nil
      | cons e r ih =>
        intro h
        rcases List.mem_cons.mp h with rfl | h
        · exact ⟨e, rfl⟩
        · exact ih h
    obtain ⟨e, he⟩ := this _ hz
    rw [he, okR_iff] at h1
    rw [okR_iff]
    unfold usedI at h1 ⊢
    rw [List.flatMap_append, List.nodup_append] at h1
    exact h1.1
theorem lev_ok : ∀ (k : Nat) {x : List Ed × List Ed}, okR x.1 = true → (∀ e ∈ x.2, e.1 ≠ e.2) → lev k x = (levA k x).filter fun y => okR y.1
  | 0, x, ho, _ => by
    show [x] = [x].filter fun y => okR y.1
    exact (List.filter_cons_of_pos (p := fun y : List Ed × List Ed => okR y.1) (l := []) ho).symm
  | k + 1, x, ho, hne => by
    obtain ⟨own, r⟩ := x
    show (kids own r).flatMap (lev k) = ((kidsA own r).flatMap (levA k)).filter _
    rw [filter_flat]
    have : ∀ r : List Ed, (∀ e ∈ r, e.1 ≠ e.2) → (kids own r).flatMap (lev k) = (kidsA own r).flatMap fun y => (levA k y).filter fun y => okR y.1 := by
      intro r
      induction r with
      | nil => exact fun _ => rfl
      | cons e r ih =>
        intro hr
        unfold kids kidsA
        rw [List.flatMap_append, List.flatMap_cons, ih fun e he => hr e (.tail _ he)]
        congr 1
        have hs := okR_snoc (own := own) (hr e (.head _))
        rw [show okR own = true from ho, Bool.true_and] at hs
        by_cases hd : disj e own = true
        · rw [if_pos hd, List.flatMap_singleton]
          exact lev_ok k (by show okR (own ++ [e]) = true; rw [hs, hd]) fun e' he => hr e' (.tail _ he)
        · rw [if_neg hd, List.flatMap_nil]
          symm
          rw [List.filter_eq_nil_iff]
          intro y hy ho'
          have := levA_pre k hy ho'
          rw [hs] at this
          exact hd this
    exact this r hne
theorem levA_snoc : ∀ (k : Nat) (x : List Ed × List Ed), levA (k + 1) x = (levA k x).flatMap fun y => kidsA y.1 y.2
  | 0, x => by
    show (kidsA x.1 x.2).flatMap (levA 0) = [x].flatMap _
    rw [List.flatMap_singleton]
    have : ∀ l : List (List Ed × List Ed), l.flatMap (levA 0) = l := by
      intro l
      induction l with
      | nil => rfl
      | cons y l ih => rw [List.flatMap_cons, ih]; rfl
    exact this _
  | k + 1, x => by
    show (kidsA x.1 x.2).flatMap (levA (k + 1)) = ((kidsA x.1 x.2).flatMap (levA k)).flatMap _
    rw [flat_flat]
    exact flat_congr' fun y _ => levA_snoc k y
theorem kidsA_fst (own : List Ed) : ∀ r : List Ed, (kidsA own r).map (·.1) = r.map fun e => own ++ [e]
  | [] => rfl
  | e :: r => by unfold kidsA; rw [List.map_cons, kidsA_fst own r]; rfl
/-- what stands before the edges that may come -/
def At (E : List Ed) (x : List Ed × List Ed) : Prop := (x.1 = [] ∧ x.2 = E) ∨ ∃ z p, x.1.getLast? = some z ∧ p ++ z :: x.2 = E
theorem kidsA_at {E own : List Ed} {y : List Ed × List Ed} : ∀ {r p : List Ed}, p ++ r = E → y ∈ kidsA own r → At E y
  | e :: r, p, hp, h => by
    rcases List.mem_cons.mp h with rfl | h
    · exact .inr ⟨e, p, by simp, hp⟩
    · exact kidsA_at (r := r) (p := p ++ [e]) (by rw [List.append_assoc]; exact hp) h
theorem levA_at {E : List Ed} : ∀ {k : Nat} {y : List Ed × List Ed}, y ∈ levA k ([], E) → At E y
  | 0, y, h => by rw [List.mem_singleton.mp h]; exact .inl ⟨rfl, rfl⟩
  | k + 1, y, h => by
    rw [levA_snoc] at h
    obtain ⟨z, hz, hy⟩ := List.mem_flatMap.mp h
    rcases levA_at hz with ⟨_, h2⟩ | ⟨u, p, _, h2⟩
    · exact kidsA_at (p := []) h2 hy
    · exact kidsA_at (p := p ++ [u]) (by rw [List.append_assoc]; exact h2) hy
theorem dGt_eD (p q : Ed) : dGt (eD p) (eD q) = some (decide (eLt q p)) := by
  show (intsOf [.int p.1, .int p.2]).bind (fun ns => (intsOf [.int q.1, .int q.2]).map fun ms => lexLt ms ns) = _
  show some (lexLt (p2 q) (p2 p)) = _
  rw [lexLt_p2]
theorem kidsD_eq {E : List Ed} (hr : E.Pairwise eLt) {y : List Ed × List Ed} (h : At E y) : kidsD (E.map eD) (tE y.1) = (kidsA y.1 y.2).map fun z => tE z.1 := by
  have e0 : (kidsA y.1 y.2).map (fun z => tE z.1) = y.2.map fun e => tE (y.1 ++ [e]) := by
    rw [show (fun z : List Ed × List Ed => tE z.1) = tE ∘ (·.1) from rfl, ← List.map_map, kidsA_fst, List.map_map]; rfl
  rw [e0]
  show ((E.map eD).filter (lastOk (y.1.map eD))).map (fun d => D.tup (y.1.map eD ++ [d])) = _
  rw [List.filter_map, List.map_map]
  have e1 : E.filter (lastOk (y.1.map eD) ∘ eD) = y.2 := by
    rcases h with ⟨h1, h2⟩ | ⟨z, p, h1, h2⟩
    · rw [h1, h2, List.filter_eq_self]
      exact fun _ _ => rfl
    · have ef : (lastOk (y.1.map eD) ∘ eD) = fun e => decide (eLt z e) := by
        funext e
        show lastOk _ _ = _
        unfold lastOk
        rw [List.getLast?_map, h1]
        show (dGt (eD e) (eD z)).getD false = _
        rw [dGt_eD]; rfl
      rw [ef, ← h2]
      rw [← h2, List.pairwise_append] at hr
      obtain ⟨_, h4, h5⟩ := hr
      rw [List.pairwise_cons] at h4
      rw [List.filter_append, List.filter_cons_of_neg (by simpa using eLt_irr), List.filter_eq_nil_iff.mpr (fun a ha => by
        have h6 := h5 a ha z (.head _)
        have : ¬ eLt z a := fun h7 => eLt_irr (eLt_trans h6 h7)
        simpa using this), List.nil_append, List.filter_eq_self]
      exact fun a ha => decide_eq_true (h4.1 a ha)
  rw [e1]
  refine List.map_congr_left fun e _ => ?_
  show D.tup (y.1.map eD ++ [eD e]) = tE (y.1 ++ [e])
  unfold tE
  rw [List.map_append]; rfl
theorem rows_lev {E : List Ed} (hr : E.Pairwise eLt) : ∀ k : Nat, rowsD (E.map eD) k = (levA k ([], E)).map fun y => tE y.1
  | 0 => rfl
  | k + 1 => by
    show (rowsD (E.map eD) k).flatMap _ = _
    rw [rows_lev hr k, levA_snoc, map_flat, List.flatMap_map]
    exact flat_congr' fun y hy => kidsD_eq hr (levA_at hy)
/-! ### the best -/
theorem fold_best : ∀ (P : List (List Ed)) (b : List Ed), (∀ x ∈ P, x.length ≤ (P.foldl better b).length) ∧ b.length ≤ (P.foldl better b).length ∧ (P.foldl better b = b ∨ (b.length < (P.foldl better b).length ∧ P.find? (fun x => x.length == (P.foldl better b).length) = some (P.foldl better b)))
  | [], b => ⟨fun _ h => absurd h List.not_mem_nil, Nat.le_refl _, .inl rfl⟩
  | x :: P, b => by
    show (∀ y ∈ x :: P, y.length ≤ (P.foldl better (better b x)).length) ∧ b.length ≤ (P.foldl better (better b x)).length ∧ (P.foldl better (better b x) = b ∨ (b.length < (P.foldl better (better b x)).length ∧ (x :: P).find? (fun y => y.length == (P.foldl better (better b x)).length) = some (P.foldl better (better b x))))
    obtain ⟨h1, h2, h3⟩ := fold_best P (better b x)
    obtain ⟨r, hr⟩ : ∃ r, r = P.foldl better (better b x) := ⟨_, rfl⟩
    rw [← hr] at h1 h2 h3 ⊢
    by_cases hb : x.length > b.length
    · have eb : better b x = x := if_pos hb
      rw [eb] at h2 h3
      refine ⟨fun y hy => (List.mem_cons.mp hy).elim (fun e => by rw [e]; exact h2) (h1 y), by omega, .inr ⟨by omega, ?_⟩⟩
      rcases h3 with h3 | ⟨h3, h4⟩
      · rw [h3, List.find?_cons_of_pos (by simp)]
      · rw [List.find?_cons_of_neg (by simp; omega)]
        exact h4
    · have eb : better b x = b := if_neg hb
      rw [eb] at h2 h3
      refine ⟨fun y hy => (List.mem_cons.mp hy).elim (fun e => by rw [e]; omega) (h1 y), h2, ?_⟩
      rcases h3 with h3 | ⟨h3, h4⟩
      · exact .inl h3
      · refine .inr ⟨h3, ?_⟩
        rw [List.find?_cons_of_neg (by simp; omega)]
        exact h4
theorem nodup_few : ∀ (n : Nat) (l : List Int), l.Nodup → (∀ i ∈ l, 0 ≤ i ∧ i < n) → l.length ≤ n
  | 0, l, _, h => by
    cases l with
    | nil => exact Nat.le_refl 0
    | cons a l => have := h a (.head _); omega
  | n + 1, l, hn, h => by
    have h1 := nodup_few n (l.filter fun i => decide (i ≠ n)) (hn.filter _) fun i hi => by
      have h2 := List.mem_filter.mp hi
      have h3 := h i h2.1
      have h4 := of_decide_eq_true h2.2
      omega
    have h2 : ∀ l : List Int, l.Nodup → l.length ≤ (l.filter fun i => decide (i ≠ (n : Int))).length + 1 := by
      intro l
      induction l with
      | nil => exact fun _ => Nat.zero_le _
      | cons a l ih =>
        intro hn
        rw [List.nodup_cons] at hn
        by_cases ha : a = n
        · have hself : l.filter (fun i => decide (i ≠ (n : Int))) = l := List.filter_eq_self.mpr fun b hb => decide_eq_true fun e => hn.1 (by rw [ha, ← e]; exact hb)
          rw [List.filter_cons_of_neg (by simp [ha]), hself]
          exact Nat.le_refl _
        · rw [List.filter_cons_of_pos (by simpa using ha), List.length_cons, List.length_cons]
          exact Nat.succ_le_succ (ih hn.2)
    have := h2 l hn
    omega
theorem pre_ok : ∀ {x : List Ed × List Ed} {y : List Ed}, okR x.1 = true → (∀ e ∈ x.2, e.1 ≠ e.2) → y ∈ pre x → okR y = true ∧ ∀ e ∈ y, e ∈ x.1 ∨ e ∈ x.2 := by
  intro x y ho hne h
  obtain ⟨own, r⟩ := x
  have key : ∀ (r own : List Ed), okR own = true → (∀ e ∈ r, e.1 ≠ e.2) → y ∈ sub own r → okR y = true ∧ ∀ e ∈ y, e ∈ own ∨ e ∈ r := by
    intro r
    induction r with
    | nil => exact fun _ _ _ h => absurd h List.not_mem_nil
    | cons e r ih =>
      intro own ho hne h
      unfold sub at h
      rcases List.mem_append.mp h with h | h
      · split at h
        · rename_i hd
          have hs : okR (own ++ [e]) = true := by rw [okR_snoc (hne e (.head _)), ho, hd]; rfl
          rcases List.mem_cons.mp h with rfl | h
          · refine ⟨hs, fun e' he => ?_⟩
            rcases List.mem_append.mp he with h | h
            · exact .inl h
            · rw [List.mem_singleton.mp h]; exact .inr (.head _)
          · obtain ⟨h1, h2⟩ := ih (own ++ [e]) hs (fun e he => hne e (.tail _ he)) h
            refine ⟨h1, fun e' he => ?_⟩
            rcases h2 e' he with h | h
            · rcases List.mem_append.mp h with h | h
              · exact .inl h
              · rw [List.mem_singleton.mp h]; exact .inr (.head _)
            · exact .inr (.tail _ h)
        · exact absurd h List.not_mem_nil
      · obtain ⟨h1, h2⟩ := ih own ho (fun e he => hne e (.tail _ he)) h
        exact ⟨h1, fun e' he => (h2 e' he).imp id fun h => .tail _ h⟩
  rcases List.mem_cons.mp h with rfl | h
  · exact ⟨ho, fun e he => .inl he⟩
  · exact key r own ho hne h
theorem pre_short {n : Nat} {E : List Ed} (g : Graph n E) {y : List Ed} (h : y ∈ pre ([], E)) : y.length ≤ 3 := by
  obtain ⟨h1, h2⟩ := pre_ok (x := ([], E)) rfl (fun e he => by have := g.bd e he; omega) h
  have h3 := nodup_few n (usedI y) (okR_iff.mp h1) fun i hi => by
    obtain ⟨e, he, hi⟩ := List.mem_flatMap.mp hi
    have h4 := g.bd e ((h2 e he).elim (fun h => absurd h List.not_mem_nil) id)
    rcases List.mem_cons.mp hi with rfl | hi
    · omega
    · rw [List.mem_singleton.mp hi]; omega
  rw [used_len] at h3
  have := g.hi
  omega
/-- the rows of pairs that the law looks at, those that are apart -/
def rowsE (E : List Ed) : List (List Ed) := (List.range 4).flatMap fun k => (levA k ([], E)).map (·.1)
def fineE (E : List Ed) : List (List Ed) := (rowsE E).filter okR
theorem rowsE_D {E : List Ed} (hr : E.Pairwise eLt) : ((List.range 4).flatMap fun k => rowsD (E.map eD) k) = (rowsE E).map tE := by
  unfold rowsE
  rw [map_flat]
  refine flat_congr' fun k _ => ?_
  rw [rows_lev hr k, List.map_map]; rfl
theorem fine_eq {n : Nat} {E : List Ed} (g : Graph n E) : fineE E = (List.range 4).flatMap fun k => (pre ([], E)).filter fun y => y.length == k := by
  unfold fineE rowsE
  rw [filter_flat]
  refine flat_congr' fun k _ => ?_
  have h1 := pre_lev k ([], E)
  rw [lev_ok k (x := ([], E)) rfl fun e he => by have := g.bd e he; omega] at h1
  rw [List.filter_map]
  simp only [List.length_nil, Nat.zero_add] at h1
  rw [h1]; rfl
theorem greatest_eq {M : Int} : ∀ {r : List Int} {x : Int}, (∀ y ∈ x :: r, y ≤ M) → M ∈ x :: r → greatest x r = M
  | [], x, _, h => (List.mem_singleton.mp h).symm
  | y :: r, x, h, hm => by
    have hx := h x (.head _)
    have hy := h y (.tail _ (.head _))
    unfold greatest
    refine greatest_eq (fun z hz => ?_) ?_
    · rcases List.mem_cons.mp hz with rfl | hz
      · split <;> assumption
      · exact h z (.tail _ (.tail _ hz))
    · rcases List.mem_cons.mp hm with e | hm
      · rw [if_neg (by omega), e]; exact .head _
      · rcases List.mem_cons.mp hm with e | hm
        · by_cases hc : y > x
          · rw [if_pos hc, e]; exact .head _
          · rw [if_neg hc, show M = x by omega]; exact .head _
        · exact .tail _ hm
/-- the law's best row is the search's -/
theorem best_row {n : Nat} {E : List Ed} (g : Graph n E) : ∃ M : Nat, (∀ y ∈ fineE E, y.length ≤ M) ∧ (∃ y ∈ fineE E, y.length = M) ∧ ((fineE E).filter fun y => y.length == M).head? = some ((pre ([], E)).foldl better []) := by
  obtain ⟨h1, h2, h3⟩ := fold_best (pre ([], E)) []
  obtain ⟨r, hr⟩ : ∃ r, r = (pre ([], E)).foldl better [] := ⟨_, rfl⟩
  rw [← hr] at h1 h2 h3 ⊢
  have hf : (pre ([], E)).find? (fun x => x.length == r.length) = some r := by
    rcases h3 with h3 | ⟨_, h3⟩
    · rw [h3]
      rfl
    · exact h3
  have hm : r ∈ pre ([], E) := List.mem_of_find?_eq_some hf
  have hs := pre_short g hm
  have mem : ∀ y, y ∈ fineE E → y ∈ pre ([], E) := fun y hy => by
    rw [fine_eq g] at hy
    obtain ⟨k, _, hy⟩ := List.mem_flatMap.mp hy
    exact (List.mem_filter.mp hy).1
  refine ⟨r.length, fun y hy => h1 y (mem y hy), ⟨r, ?_, rfl⟩, ?_⟩
  · rw [fine_eq g]
    exact List.mem_flatMap.mpr ⟨r.length, List.mem_range.mpr (by omega), List.mem_filter.mpr ⟨hm, by simp⟩⟩
  · rw [List.head?_filter, fine_eq g, List.find?_flatMap]
    have e : ∀ k, ((pre ([], E)).filter fun y => y.length == k).find? (fun y => y.length == r.length) = if k = r.length then some r else none := fun k => by
      by_cases hk : k = r.length
      · subst hk
        rw [if_pos rfl, ← List.head?_filter, List.filter_filter]
        simp only [Bool.and_self]
        rw [List.head?_filter]
        exact hf
      · rw [if_neg hk, List.find?_eq_none]
        intro y hy hq
        have := (List.mem_filter.mp hy).2
        simp only [beq_iff_eq] at this hq
        omega
    simp only [e]
    have : r.length = 0 ∨ r.length = 1 ∨ r.length = 2 ∨ r.length = 3 := by omega
    rcases this with h | h | h | h <;> rw [h] <;> rfl
end K05
set_option Elab.async false
set_option linter.all false
set_option maxRecDepth 100000
set_option maxHeartbeats 1000000
namespace K05
open PySem (Str)
open Fe
/-! ### draws -/
def rowD (C : List D) (a x l : Int) : D := .lst [.lst C, .int a, .int x, .int l]
def Row (C : List D) (o : D) : Prop := ∃ a x l : Int, 0 ≤ a ∧ o = rowD C a x l
theorem ixO_k {ρ : Env} {o k d : D} (ho : ρ[0]? = some (some (.o o))) (h : dIx o k = some d) : ixO 0 (Fe.ret k) ρ = .ok d ρ := by
  rw [ixO_ap, ok_bnd (own_at' ho), ok_bnd ret_ap, ok_bnd (own_at' ho), h]; rfl
theorem setO_k {ρ : Env} {l : List D} {k : Int} {j : Nat} {e : M D} {d : D} (he : e ρ = .ok d ρ) (ho : ρ[0]? = some (some (.o (.lst l)))) (hk : ixN l.length k = some j) : setO 0 (Fe.ret (.int k)) e ρ = .ok .nx (ρ.set 0 (some (.o (.lst (l.set j d))))) := by
  rw [setO_ap, ok_bnd he, ok_bnd (own_at' ho), ok_bnd ret_ap, ok_bnd (own_at' ho)]
  dsimp only
  rw [hk]; rfl
theorem ok_op1 {g : D → Option D} {a : M D} {x z : D} {ρ : Env} (ha : a ρ = .ok x ρ) (h : g x = some z) : op1 g a ρ = .ok z ρ := by rw [op1_ap, ok_bnd ha, h]; rfl
theorem dMod_ok {i m : Int} (h : 0 < m) : dMod (.int i) (.int m) = some (.int (i % m)) := if_pos (decide_eq_true h)
theorem dDiv_ok {i m : Int} (h : 0 < m) (h2 : m < 1073741824) : dDiv (.int i) (.int m) = some (.int (i / m)) := if_pos (decide_eq_true ⟨h, h2⟩)
theorem dMul_ok {i m : Int} (h : smallI m = true) : dMul (.int i) (.int m) = some (.int (i * m)) := if_pos (by rw [h, Bool.or_true])
theorem small_of {m : Int} (h : -1000000000 < m ∧ m < 1000000000) : smallI m = true := by
  unfold smallI
  rw [decide_eq_true_eq]
  omega
theorem dPow_ok {k : Int} (h : 0 ≤ k ∧ k ≤ 1000) : dPow (.int 10) (.int k) = some (.int (10 ^ k.toNat)) := if_pos (decide_eq_true ⟨h.1, by omega, by decide⟩)
theorem dIx_list {C : List D} {i : Int} {d : D} (h0 : 0 ≤ i) (h : C[i.toNat]? = some d) : dIx (.lst C) (.int i) = some d := by
  have hi : i.toNat < C.length := (List.getElem?_eq_some_iff.mp h).1
  show (ixN C.length i).bind (fun j => C[j]?) = _
  have e1 : ixN C.length i = some i.toNat := by
    unfold ixN
    rw [if_pos h0, if_pos (by omega)]
  rw [e1]; exact h
theorem runO_rt {n m : Nat} {b : S} {o o' d : D} {ds : List D} {ρ1 : Env} (h1 : ds.length + 1 = n) (h : b (startO m o ds) = .ok (.rt d) ρ1) (h2 : ρ1[0]? = some (some (.o o'))) : runO n m b o ds = .ok d o' := by
  unfold runO
  rw [if_pos h1, h]
  dsimp only
  rw [get_ap, h2]; rfl
theorem taken {ns : List Int} {o : D} {m : Int} (hr : Row (ns.map .int) o) (hm : 0 < m) (hm2 : m < 1073741824) : ∃ r o', f__law_taken o [.int m] = .ok (.int r) o' ∧ Row (ns.map .int) o' ∧ 0 ≤ r ∧ r < m := by
  obtain ⟨a, x, l, ha, rfl⟩ := hr
  have mod : ∀ i : Int, 0 ≤ i % m ∧ i % m < m := fun i => ⟨Int.emod_nonneg _ (by omega), Int.emod_lt_of_pos _ hm⟩
  have i0 : ∀ a x l : Int, dIx (rowD (ns.map .int) a x l) (.int 0) = some (.lst (ns.map .int)) := fun _ _ _ => rfl
  have i1 : ∀ a x l : Int, dIx (rowD (ns.map .int) a x l) (.int 1) = some (.int a) := fun _ _ _ => rfl
  have i2 : ∀ a x l : Int, dIx (rowD (ns.map .int) a x l) (.int 2) = some (.int x) := fun _ _ _ => rfl
  have i3 : ∀ a x l : Int, dIx (rowD (ns.map .int) a x l) (.int 3) = some (.int l) := fun _ _ _ => rfl
  by_cases hl : 0 < l
  · refine ⟨l % m, rowD (ns.map .int) a x (l / m), ?_, ⟨a, x, l / m, ha, rfl⟩, mod l⟩
    refine runO_rt (ρ1 := [some (.o (rowD (ns.map .int) a x (l / m))), some (.p (.int m)), some (.p (.int (l % m))), none]) rfl ?_ rfl
    show b__law_taken [some (.o (rowD (ns.map .int) a x l)), some (.p (.int m)), none, none] = _
    unfold b__law_taken
    have e0 := iff_ok (a := (seq (asg (op2 dMod (op1 dInt (ixO 0 (Fe.ret (.int 3)))) (vr 1)) (gN 2)) (seq (setO 0 (Fe.ret (.int 3)) (op2 dDiv (ixO 0 (Fe.ret (.int 3))) (vr 1))) (rtn (vr 2))))) (b := sNx) (ok_cmp (g := dGt) (k := true) (ρ := [some (.o (rowD (ns.map .int) a x l)), some (.p (.int m)), none, none]) (ixO_k rfl (i3 _ _ _)) (ret_ap (a := .int 0)) (by show some (decide _) = _; rw [decide_eq_true hl]))
    rw [if_pos rfl] at e0
    have e1 : asg (op2 dMod (op1 dInt (ixO 0 (Fe.ret (.int 3)))) (vr 1)) (gN 2) [some (.o (rowD (ns.map .int) a x l)), some (.p (.int m)), none, none] = .ok .nx [some (.o (rowD (ns.map .int) a x l)), some (.p (.int m)), some (.p (.int (l % m))), none] :=
      (by
        have q : op2 dMod (op1 dInt (ixO 0 (Fe.ret (.int 3)))) (vr 1) [some (.o (rowD (ns.map .int) a x l)), some (.p (.int m)), none, none] = .ok (.int (l % m)) [some (.o (rowD (ns.map .int) a x l)), some (.p (.int m)), none, none] := ok_op2 (ok_op1 (ixO_k rfl (i3 _ _ _)) rfl) (vr_at rfl) (dMod_ok hm)
        exact asg_ok (i := 2) q)
    have e2 : setO 0 (Fe.ret (.int 3)) (op2 dDiv (ixO 0 (Fe.ret (.int 3))) (vr 1)) [some (.o (rowD (ns.map .int) a x l)), some (.p (.int m)), some (.p (.int (l % m))), none] = .ok .nx [some (.o (rowD (ns.map .int) a x (l / m))), some (.p (.int m)), some (.p (.int (l % m))), none] :=
      (by
        have q : op2 dDiv (ixO 0 (Fe.ret (.int 3))) (vr 1) [some (.o (rowD (ns.map .int) a x l)), some (.p (.int m)), some (.p (.int (l % m))), none] = .ok (.int (l / m)) [some (.o (rowD (ns.map .int) a x l)), some (.p (.int m)), some (.p (.int (l % m))), none] := ok_op2 (ixO_k rfl (i3 _ _ _)) (vr_at rfl) (dDiv_ok hm hm2)
        exact setO_k (j := 3) q rfl rfl)
    rw [seq_nx e1, seq_nx e2] at e0
    rw [seq_rt (e0.trans rfl)]
  · have e0 := iff_ok (a := (seq (asg (op2 dMod (op1 dInt (ixO 0 (Fe.ret (.int 3)))) (vr 1)) (gN 2)) (seq (setO 0 (Fe.ret (.int 3)) (op2 dDiv (ixO 0 (Fe.ret (.int 3))) (vr 1))) (rtn (vr 2))))) (b := sNx) (ok_cmp (g := dGt) (k := false) (ρ := [some (.o (rowD (ns.map .int) a x l)), some (.p (.int m)), none, none]) (ixO_k rfl (i3 _ _ _)) (ret_ap (a := .int 0)) (by show some (decide _) = _; rw [decide_eq_false hl]))
    rw [if_neg Bool.noConfusion] at e0
    have e1 : setO 0 (Fe.ret (.int 1)) (op2 dAdd (ixO 0 (Fe.ret (.int 1))) (Fe.ret (.int 1))) [some (.o (rowD (ns.map .int) a x l)), some (.p (.int m)), none, none] = .ok .nx [some (.o (rowD (ns.map .int) (a + 1) x l)), some (.p (.int m)), none, none] :=
      (by
        have q : op2 dAdd (ixO 0 (Fe.ret (.int 1))) (Fe.ret (.int 1)) [some (.o (rowD (ns.map .int) a x l)), some (.p (.int m)), none, none] = .ok (.int (a + 1)) [some (.o (rowD (ns.map .int) a x l)), some (.p (.int m)), none, none] := ok_op2 (ixO_k rfl (i1 _ _ _)) ret_ap rfl
        exact setO_k (j := 1) q rfl rfl)
    have el : op1 dLen (ixO 0 (Fe.ret (.int 0))) [some (.o (rowD (ns.map .int) (a + 1) x l)), some (.p (.int m)), none, none] = .ok (.int ns.length) [some (.o (rowD (ns.map .int) (a + 1) x l)), some (.p (.int m)), none, none] := by
      refine ok_op1 (ixO_k rfl (i0 _ _ _)) ?_
      show some (D.int ((ns.map D.int).length : Nat)) = _
      rw [List.length_map]
    by_cases hc : (ns.length : Int) < a + 1
    · refine ⟨((x * 48271 + 11) % 2147483647 / 7) % m, rowD (ns.map .int) (a + 1) ((x * 48271 + 11) % 2147483647) l, ?_, ⟨_, _, _, by omega, rfl⟩, mod _⟩
      refine runO_rt (ρ1 := [some (.o (rowD (ns.map .int) (a + 1) ((x * 48271 + 11) % 2147483647) l)), some (.p (.int m)), none, none]) rfl ?_ rfl
      show b__law_taken [some (.o (rowD (ns.map .int) a x l)), some (.p (.int m)), none, none] = _
      unfold b__law_taken
      have e2 := iff_ok (a := seq (setO 0 (Fe.ret (.int 2)) (op2 dMod (op1 dInt (op2 dAdd (op2 dMul (ixO 0 (Fe.ret (.int 2))) (Fe.ret (.int 48271))) (Fe.ret (.int 11)))) (Fe.ret (.int 2147483647)))) (rtn (op2 dMod (op1 dInt (op2 dDiv (ixO 0 (Fe.ret (.int 2))) (Fe.ret (.int 7)))) (vr 1)))) (b := sNx)
        (ok_cmp (g := dGt) (k := true) (ρ := [some (.o (rowD (ns.map .int) (a + 1) x l)), some (.p (.int m)), none, none]) (ixO_k rfl (i1 _ _ _)) el (by show some (decide _) = _; rw [decide_eq_true hc]))
      rw [if_pos rfl] at e2
      have e3 : setO 0 (Fe.ret (.int 2)) (op2 dMod (op1 dInt (op2 dAdd (op2 dMul (ixO 0 (Fe.ret (.int 2))) (Fe.ret (.int 48271))) (Fe.ret (.int 11)))) (Fe.ret (.int 2147483647))) [some (.o (rowD (ns.map .int) (a + 1) x l)), some (.p (.int m)), none, none] = .ok .nx [some (.o (rowD (ns.map .int) (a + 1) ((x * 48271 + 11) % 2147483647) l)), some (.p (.int m)), none, none] :=
        (by
          have q : op2 dMod (op1 dInt (op2 dAdd (op2 dMul (ixO 0 (Fe.ret (.int 2))) (Fe.ret (.int 48271))) (Fe.ret (.int 11)))) (Fe.ret (.int 2147483647)) [some (.o (rowD (ns.map .int) (a + 1) x l)), some (.p (.int m)), none, none] = .ok (.int ((x * 48271 + 11) % 2147483647)) [some (.o (rowD (ns.map .int) (a + 1) x l)), some (.p (.int m)), none, none] := ok_op2 (ok_op1 (ok_op2 (ok_op2 (ixO_k rfl (i2 _ _ _)) ret_ap (dMul_ok (small_of (by omega)))) ret_ap rfl) rfl) ret_ap (dMod_ok (by omega))
          exact setO_k (j := 2) q rfl rfl)
      have e4 : rtn (op2 dMod (op1 dInt (op2 dDiv (ixO 0 (Fe.ret (.int 2))) (Fe.ret (.int 7)))) (vr 1)) [some (.o (rowD (ns.map .int) (a + 1) ((x * 48271 + 11) % 2147483647) l)), some (.p (.int m)), none, none] = .ok (.rt (.int (((x * 48271 + 11) % 2147483647 / 7) % m))) [some (.o (rowD (ns.map .int) (a + 1) ((x * 48271 + 11) % 2147483647) l)), some (.p (.int m)), none, none] := by
        have q : op2 dMod (op1 dInt (op2 dDiv (ixO 0 (Fe.ret (.int 2))) (Fe.ret (.int 7)))) (vr 1) [some (.o (rowD (ns.map .int) (a + 1) ((x * 48271 + 11) % 2147483647) l)), some (.p (.int m)), none, none] = .ok (.int (((x * 48271 + 11) % 2147483647 / 7) % m)) [some (.o (rowD (ns.map .int) (a + 1) ((x * 48271 + 11) % 2147483647) l)), some (.p (.int m)), none, none] :=
          ok_op2 (ok_op1 (ok_op2 (ixO_k rfl (i2 _ _ _)) ret_ap (dDiv_ok (by omega) (by omega))) rfl) (vr_at rfl) (dMod_ok hm)
        rw [rtn_ap, ok_bnd q]; rfl
      rw [seq_nx e3, e4] at e2
      rw [seq_nx (e0.trans sNx_ap), seq_nx e1, seq_rt e2]
    · obtain ⟨c, hcell⟩ : ∃ c, ns[a.toNat]? = some c := ⟨ns[a.toNat]'(by omega), List.getElem?_eq_getElem (by omega)⟩
      have e2 := iff_ok (a := seq (setO 0 (Fe.ret (.int 2)) (op2 dMod (op1 dInt (op2 dAdd (op2 dMul (ixO 0 (Fe.ret (.int 2))) (Fe.ret (.int 48271))) (Fe.ret (.int 11)))) (Fe.ret (.int 2147483647)))) (rtn (op2 dMod (op1 dInt (op2 dDiv (ixO 0 (Fe.ret (.int 2))) (Fe.ret (.int 7)))) (vr 1)))) (b := sNx)
        (ok_cmp (g := dGt) (k := false) (ρ := [some (.o (rowD (ns.map .int) (a + 1) x l)), some (.p (.int m)), none, none]) (ixO_k rfl (i1 _ _ _)) el (by show some (decide _) = _; rw [decide_eq_false hc]))
      rw [if_neg Bool.noConfusion] at e2
      have e3 : asg (op2 dIx (ixO 0 (Fe.ret (.int 0))) (op2 dSub (ixO 0 (Fe.ret (.int 1))) (Fe.ret (.int 1)))) (gN 3) [some (.o (rowD (ns.map .int) (a + 1) x l)), some (.p (.int m)), none, none] = .ok .nx [some (.o (rowD (ns.map .int) (a + 1) x l)), some (.p (.int m)), none, some (.p (.int c))] := by
        have q : op2 dIx (ixO 0 (Fe.ret (.int 0))) (op2 dSub (ixO 0 (Fe.ret (.int 1))) (Fe.ret (.int 1))) [some (.o (rowD (ns.map .int) (a + 1) x l)), some (.p (.int m)), none, none] = .ok (.int c) [some (.o (rowD (ns.map .int) (a + 1) x l)), some (.p (.int m)), none, none] := by
          have q1 : op2 dSub (ixO 0 (Fe.ret (.int 1))) (Fe.ret (.int 1)) [some (.o (rowD (ns.map .int) (a + 1) x l)), some (.p (.int m)), none, none] = .ok (.int (a + 1 - 1)) [some (.o (rowD (ns.map .int) (a + 1) x l)), some (.p (.int m)), none, none] := ok_op2 (ixO_k rfl (i1 _ _ _)) ret_ap rfl
          refine ok_op2 (ixO_k rfl (i0 _ _ _)) q1 (dIx_list (by omega) ?_)
          rw [show (a + 1 - 1).toNat = a.toNat by omega, List.getElem?_map, hcell]; rfl
        exact asg_ok (i := 3) q
      have e4 : setO 0 (Fe.ret (.int 2)) (op2 dMod (op1 dInt (op2 dAdd (op2 dAdd (op2 dMul (ixO 0 (Fe.ret (.int 2))) (Fe.ret (.int 48271))) (op1 dInt (vr 3))) (Fe.ret (.int 11)))) (Fe.ret (.int 2147483647))) [some (.o (rowD (ns.map .int) (a + 1) x l)), some (.p (.int m)), none, some (.p (.int c))] = .ok .nx [some (.o (rowD (ns.map .int) (a + 1) ((x * 48271 + c + 11) % 2147483647) l)), some (.p (.int m)), none, some (.p (.int c))] :=
        (by
          have q : op2 dMod (op1 dInt (op2 dAdd (op2 dAdd (op2 dMul (ixO 0 (Fe.ret (.int 2))) (Fe.ret (.int 48271))) (op1 dInt (vr 3))) (Fe.ret (.int 11)))) (Fe.ret (.int 2147483647)) [some (.o (rowD (ns.map .int) (a + 1) x l)), some (.p (.int m)), none, some (.p (.int c))] = .ok (.int ((x * 48271 + c + 11) % 2147483647)) [some (.o (rowD (ns.map .int) (a + 1) x l)), some (.p (.int m)), none, some (.p (.int c))] := ok_op2 (ok_op1 (ok_op2 (ok_op2 (ok_op2 (ixO_k rfl (i2 _ _ _)) ret_ap (dMul_ok (small_of (by omega)))) (ok_op1 (vr_at rfl) rfl) rfl) ret_ap rfl) rfl) ret_ap (dMod_ok (by omega))
          exact setO_k (j := 2) q rfl rfl)
      obtain ⟨x', hx'⟩ : ∃ y, y = (x * 48271 + c + 11) % 2147483647 := ⟨_, rfl⟩
      rw [← hx'] at e4
      have p18 : op2 dPow (Fe.ret (.int 10)) (Fe.ret (.int 18)) [some (.o (rowD (ns.map .int) (a + 1) x' l)), some (.p (.int m)), none, some (.p (.int c))] = .ok (.int (10 ^ (18 : Int).toNat)) [some (.o (rowD (ns.map .int) (a + 1) x' l)), some (.p (.int m)), none, some (.p (.int c))] := ok_op2 ret_ap ret_ap (dPow_ok (by omega))
      have p90 : op2 dPow (Fe.ret (.int 10)) (Fe.ret (.int 90)) [some (.o (rowD (ns.map .int) (a + 1) x' l)), some (.p (.int m)), none, some (.p (.int c))] = .ok (.int (10 ^ (90 : Int).toNat)) [some (.o (rowD (ns.map .int) (a + 1) x' l)), some (.p (.int m)), none, some (.p (.int c))] := ok_op2 ret_ap ret_ap (dPow_ok (by omega))
      have pos90 : (0 : Int) < 10 ^ (90 : Int).toNat := Int.pow_pos (by omega)
      obtain ⟨t18, h18⟩ : ∃ t : Int, t = 10 ^ (18 : Int).toNat := ⟨_, rfl⟩
      obtain ⟨t90, h90⟩ : ∃ t : Int, t = 10 ^ (90 : Int).toNat := ⟨_, rfl⟩
      rw [← h18] at p18
      rw [← h90] at p90 pos90
      have e5 : ∃ l', iff (tsb (cmp dGe (vr 3) (op2 dPow (Fe.ret (.int 10)) (Fe.ret (.int 18))))) (setO 0 (Fe.ret (.int 3)) (op2 dDiv (op1 dInt (op2 dMod (op1 dInt (vr 3)) (op2 dPow (Fe.ret (.int 10)) (Fe.ret (.int 90))))) (vr 1))) sNx [some (.o (rowD (ns.map .int) (a + 1) x' l)), some (.p (.int m)), none, some (.p (.int c))] =
          .ok .nx [some (.o (rowD (ns.map .int) (a + 1) x' l')), some (.p (.int m)), none, some (.p (.int c))] := by
        rw [iff_ok (ok_cmp (g := dGe) (k := decide (t18 ≤ c)) (vr_at rfl) p18 rfl)]
        by_cases hb : t18 ≤ c
        · refine ⟨c % t90 / m, ?_⟩
          rw [if_pos (decide_eq_true hb)]
          have q : op2 dDiv (op1 dInt (op2 dMod (op1 dInt (vr 3)) (op2 dPow (Fe.ret (.int 10)) (Fe.ret (.int 90))))) (vr 1) [some (.o (rowD (ns.map .int) (a + 1) x' l)), some (.p (.int m)), none, some (.p (.int c))] = .ok (.int (c % t90 / m)) [some (.o (rowD (ns.map .int) (a + 1) x' l)), some (.p (.int m)), none, some (.p (.int c))] := ok_op2 (ok_op1 (ok_op2 (ok_op1 (vr_at rfl) rfl) p90 (dMod_ok pos90)) rfl) (vr_at rfl) (dDiv_ok hm hm2)
          exact setO_k (j := 3) q rfl rfl
        · refine ⟨l, ?_⟩
          rw [if_neg (by simpa using hb)]; rfl
      obtain ⟨l', e5⟩ := e5
      have e6 : rtn (op2 dMod (op1 dInt (vr 3)) (vr 1)) [some (.o (rowD (ns.map .int) (a + 1) x' l')), some (.p (.int m)), none, some (.p (.int c))] = .ok (.rt (.int (c % m))) [some (.o (rowD (ns.map .int) (a + 1) x' l')), some (.p (.int m)), none, some (.p (.int c))] := by
        have q : op2 dMod (op1 dInt (vr 3)) (vr 1) [some (.o (rowD (ns.map .int) (a + 1) x' l')), some (.p (.int m)), none, some (.p (.int c))] = .ok (.int (c % m)) [some (.o (rowD (ns.map .int) (a + 1) x' l')), some (.p (.int m)), none, some (.p (.int c))] := ok_op2 (ok_op1 (vr_at rfl) rfl) (vr_at rfl) (dMod_ok hm)
        rw [rtn_ap, ok_bnd q]; rfl
      refine ⟨c % m, rowD (ns.map .int) (a + 1) x' l', ?_, ⟨_, _, _, by omega, rfl⟩, mod _⟩
      refine runO_rt (ρ1 := [some (.o (rowD (ns.map .int) (a + 1) x' l')), some (.p (.int m)), none, some (.p (.int c))]) rfl ?_ rfl
      show b__law_taken [some (.o (rowD (ns.map .int) a x l)), some (.p (.int m)), none, none] = _
      unfold b__law_taken
      rw [seq_nx (e0.trans sNx_ap), seq_nx e1, seq_nx (e2.trans sNx_ap), seq_nx e3, seq_nx e4, seq_nx e5, e6]
/-- a call of a def that changes the list at slot 0 or 1 -/
theorem clo_ok {f : D → List D → FO} {i : Nat} {a : M (List D)} {ρ : Env} {ds : List D} {o o' d : D} (ho : ρ[i]? = some (some (.o o))) (ha : a ρ = .ok ds ρ) (h : f o ds = .ok d o') : clo f i a ρ = .ok d (ρ.set i (some (.o o'))) := by
  rw [clo_ap, ok_bnd (own_at' ho), ok_bnd ha, ok_bnd (own_at' ho), h]; rfl
theorem pick {ns : List Int} {o : D} {l : List D} (hr : Row (ns.map .int) o) (h0 : l ≠ []) (hl : l.length ≤ 1000) : ∃ d o', f__law_pick o [.lst l] = .ok d o' ∧ Row (ns.map .int) o' ∧ d ∈ l := by
  have hp : 0 < l.length := List.length_pos_iff.mpr h0
  obtain ⟨r, o', e, hr', h1, h2⟩ := taken (m := (l.length : Int)) hr (by omega) (by omega)
  obtain ⟨d, hd⟩ : ∃ d, l[r.toNat]? = some d := ⟨l[r.toNat]'(by omega), List.getElem?_eq_getElem (by omega)⟩
  refine ⟨d, o', ?_, hr', List.mem_of_getElem? hd⟩
  refine runO_rt (ρ1 := [some (.o o'), some (.p (.lst l))]) rfl ?_ rfl
  show b__law_pick [some (.o o), some (.p (.lst l))] = _
  have e1 : consA (op1 dLen (vr 1)) nilA [some (.o o), some (.p (.lst l))] = .ok [.int l.length] [some (.o o), some (.p (.lst l))] := rfl
  have e2 := clo_ok (i := 0) (f := f__law_taken) rfl e1 e
  have e3 : op2 dIx (vr 1) (clo f__law_taken 0 (consA (op1 dLen (vr 1)) nilA)) [some (.o o), some (.p (.lst l))] = .ok d [some (.o o'), some (.p (.lst l))] := by
    rw [op2_ap, ok_bnd (vr_at rfl), ok_bnd e2]
    show lft (dIx (.lst l) (.int r)) _ = _
    rw [dIx_list h1 hd]; rfl
  unfold b__law_pick
  rw [rtn_ap, ok_bnd e3]; rfl
end K05
set_option Elab.async false
set_option linter.all false
set_option maxRecDepth 100000
set_option maxHeartbeats 1000000
namespace K05
open PySem (Str)
open Fe
/-! ### alike -/
theorem alike_int (k : Nat) (i : Int) : f__law_alike (k + 1) [.int i, .int i] = .ok (.bl true) := by
  simp [f__law_alike, run, b__law_alike, start, vr_ap, dIsi, truth, asBool, dIs, isNon]
theorem alike_tup {k : Nat} {l : List D} (hl : l.length ≤ 1000) (h : ∀ x ∈ l, f__law_alike k [x, x] = .ok (.bl true)) : f__law_alike (k + 1) [.tup l, .tup l] = .ok (.bl true) := by
  have el : ∀ z : Option C, op1 dLen (vr 1) [some (.p (.tup l)), some (.p (.tup l)), z] = .ok (.int l.length) [some (.p (.tup l)), some (.p (.tup l)), z] := fun z => ok_op1 (vr_at rfl) rfl
  have el0 : ∀ z : Option C, op1 dLen (vr 0) [some (.p (.tup l)), some (.p (.tup l)), z] = .ok (.int l.length) [some (.p (.tup l)), some (.p (.tup l)), z] := fun z => ok_op1 (vr_at rfl) rfl
  have er : rg1 (op1 dLen (vr 1)) [some (.p (.tup l)), some (.p (.tup l)), none] = .ok (rng 0 l.length) [some (.p (.tup l)), some (.p (.tup l)), none] := by
    rw [rg1_ap, ok_bnd (el none), dRng1_nat hl]; rfl
  have e := lc1 (v := 2) (it := rg1 (op1 dLen (vr 1))) (t := notT (tst (cl (f__law_alike k) (consA (op2 dIx (vr 0) (vr 2)) (consA (op2 dIx (vr 1) (vr 2)) nilA))))) (e := vr 2) (fun _ => false) id er rfl (by simp) (fun x hx => by
    rw [rng_map] at hx
    obtain ⟨i, hi, rfl⟩ := List.mem_map.mp hx
    obtain ⟨j, hj, rfl⟩ := List.mem_map.mp hi
    have hj := List.mem_range.mp hj
    obtain ⟨d, hd⟩ : ∃ d, l[j]? = some d := ⟨l[j]'(by omega), List.getElem?_eq_getElem (by omega)⟩
    have ix : dIx (.tup l) (.int (0 + (j : Int))) = some d := by
      rw [Int.zero_add]
      show (ixN l.length (j : Int)).bind (fun j => l[j]?) = _
      have e1 : ixN l.length (j : Int) = some j := by
        unfold ixN
        rw [if_pos (by omega), if_pos (by omega)]
        simp
      rw [e1]; exact hd
    have hs : ∀ z : Option C, ([some (.p (.tup l)), some (.p (.tup l)), none] : Env).set 2 z = [some (.p (.tup l)), some (.p (.tup l)), z] := fun z => rfl
    rw [hs]
    have a0 : op2 dIx (vr 0) (vr 2) [some (.p (.tup l)), some (.p (.tup l)), some (.p (.int (0 + (j : Int))))] = .ok d [some (.p (.tup l)), some (.p (.tup l)), some (.p (.int (0 + (j : Int))))] := ok_op2 (vr_at rfl) (vr_at rfl) ix
    have a1 : op2 dIx (vr 1) (vr 2) [some (.p (.tup l)), some (.p (.tup l)), some (.p (.int (0 + (j : Int))))] = .ok d [some (.p (.tup l)), some (.p (.tup l)), some (.p (.int (0 + (j : Int))))] := ok_op2 (vr_at rfl) (vr_at rfl) ix
    have a2 : consA (op2 dIx (vr 1) (vr 2)) nilA [some (.p (.tup l)), some (.p (.tup l)), some (.p (.int (0 + (j : Int))))] = .ok [d] [some (.p (.tup l)), some (.p (.tup l)), some (.p (.int (0 + (j : Int))))] := by rw [consA_ap, ok_bnd a1]; rfl
    have a3 : consA (op2 dIx (vr 0) (vr 2)) (consA (op2 dIx (vr 1) (vr 2)) nilA) [some (.p (.tup l)), some (.p (.tup l)), some (.p (.int (0 + (j : Int))))] = .ok [d, d] [some (.p (.tup l)), some (.p (.tup l)), some (.p (.int (0 + (j : Int))))] := by rw [consA_ap, ok_bnd a0, ok_bnd a2]; rfl
    have a4 : cl (f__law_alike k) (consA (op2 dIx (vr 0) (vr 2)) (consA (op2 dIx (vr 1) (vr 2)) nilA)) [some (.p (.tup l)), some (.p (.tup l)), some (.p (.int (0 + (j : Int))))] = .ok (.bl true) [some (.p (.tup l)), some (.p (.tup l)), some (.p (.int (0 + (j : Int))))] := by
      rw [cl_ap, ok_bnd a3, h d (List.mem_of_getElem? hd)]; rfl
    have a5 : tst (cl (f__law_alike k) (consA (op2 dIx (vr 0) (vr 2)) (consA (op2 dIx (vr 1) (vr 2)) nilA))) [some (.p (.tup l)), some (.p (.tup l)), some (.p (.int (0 + (j : Int))))] = .ok true [some (.p (.tup l)), some (.p (.tup l)), some (.p (.int (0 + (j : Int))))] := by rw [tst_ap, ok_bnd a4]; rfl
    rw [notT_ap, ok_bnd a5]; rfl) (fun _ _ h => absurd h Bool.noConfusion) (by rw [rng_len]; unfold lim; omega)
  rw [List.filter_eq_nil_iff.mpr (fun _ _ => Bool.noConfusion), List.map_nil] at e
  have l0 : lstE nilA [some (.p (.tup l)), some (.p (.tup l)), none] = .ok (.lst []) [some (.p (.tup l)), some (.p (.tup l)), none] := by
    rw [lstE_ap, ok_bnd nilA_ap]; rfl
  have eq0 : dEq (.lst []) (.lst []) = some true := rfl
  have ec : cmp dEq (lc [2] (rg1 (op1 dLen (vr 1))) (gN 2) (notT (tst (cl (f__law_alike k) (consA (op2 dIx (vr 0) (vr 2)) (consA (op2 dIx (vr 1) (vr 2)) nilA))))) (vr 2)) (lstE nilA) [some (.p (.tup l)), some (.p (.tup l)), none] = .ok (.bl true) [some (.p (.tup l)), some (.p (.tup l)), none] := by
    rw [cmp_ap, ok_bnd e, ok_bnd l0, eq0]; rfl
  have en : tsb (cmp dNe (op1 dLen (vr 0)) (op1 dLen (vr 1))) [some (.p (.tup l)), some (.p (.tup l)), none] = .ok false [some (.p (.tup l)), some (.p (.tup l)), none] := ok_cmp (el0 none) (el none) (by rw [dNe_int]; simp)
  have i1 : ∀ i, i = 0 ∨ i = 1 → tst (cmp1 (dIsi "tuple") (vr i)) [some (.p (.tup l)), some (.p (.tup l)), none] = .ok true [some (.p (.tup l)), some (.p (.tup l)), none] := by
    rintro i (rfl | rfl) <;> rfl
  have et : orT (notT (tst (cmp1 (dIsi "tuple") (vr 0)))) (tsb (cmp dNe (op1 dLen (vr 0)) (op1 dLen (vr 1)))) [some (.p (.tup l)), some (.p (.tup l)), none] = .ok false [some (.p (.tup l)), some (.p (.tup l)), none] := by
    have en' : notT (tst (cmp1 (dIsi "tuple") (vr 0))) [some (.p (.tup l)), some (.p (.tup l)), none] = .ok false [some (.p (.tup l)), some (.p (.tup l)), none] := by rw [notT_ap, ok_bnd (i1 0 (.inl rfl))]; rfl
    rw [orT_ap, ok_bnd en', if_neg Bool.noConfusion, en]
  refine run_rt (ρ1 := [some (.p (.tup l)), some (.p (.tup l)), none]) rfl ?_
  show b__law_alike (f__law_alike k) [some (.p (.tup l)), some (.p (.tup l)), none] = _
  unfold b__law_alike
  refine seq_rt ?_
  rw [iff_ok (i1 1 (.inr rfl)), if_pos rfl]
  have s1 := iff_ok (a := rtn (Fe.ret (.bl false))) (b := sNx) et
  rw [if_neg Bool.noConfusion] at s1
  rw [seq_nx (s1.trans sNx_ap), rtn_ap, ok_bnd ec]; rfl
theorem alike_rt {s : List Int} (h : s.length ≤ 1000) : f__law_alike 4 [rt s, rt s] = .ok (.bl true) := alike_tup (by rw [List.length_map]; exact h) fun x hx => by
  obtain ⟨i, _, rfl⟩ := List.mem_map.mp hx
  exact alike_int 2 i
theorem alike_tE {E : List Ed} (h : E.length ≤ 1000) : f__law_alike 4 [tE E, tE E] = .ok (.bl true) := alike_tup (by rw [List.length_map]; exact h) fun x hx => by
  obtain ⟨p, _, rfl⟩ := List.mem_map.mp hx
  refine alike_tup (show 2 ≤ 1000 by omega) fun y hy => ?_
  rcases List.mem_cons.mp hy with rfl | hy
  · exact alike_int 1 _
  · rw [List.mem_singleton.mp hy]
    exact alike_int 1 _
/-! ### a drawn graph -/
def pairsI (n : Nat) : List Ed := (rngI 0 n).flatMap fun a => (rngI (a + 1) n).map fun b => (a, b)
theorem rngI_mem {a b i : Int} (h : i ∈ rngI a b) : a ≤ i ∧ i < b := by
  obtain ⟨k, hk, rfl⟩ := List.mem_map.mp h
  have := List.mem_range.mp hk
  omega
theorem pairs_bd {n : Nat} {p : Ed} (h : p ∈ pairsI n) : 0 ≤ p.1 ∧ p.1 < p.2 ∧ p.2 < n := by
  obtain ⟨a, ha, hp⟩ := List.mem_flatMap.mp h
  obtain ⟨b, hb, rfl⟩ := List.mem_map.mp hp
  have h1 := rngI_mem ha
  have h2 := rngI_mem hb
  exact ⟨h1.1, by omega, h2.2⟩
theorem draw_run {ns : List Int} {P : List Ed} {z1 z2 z3 z5 z6 : Option C} (h0 : P ≠ []) (hP : P.length ≤ 1000) : ∀ (l : List D) (o : D) (z7 : Option C), Row (ns.map .int) o →
    ∃ (res : List Ed) (o' : D) (z7' : Option C), cmpL (cmpT [7] (gN 7) (Fe.ret true) (clo f__law_pick 0 (consA (vr 4) nilA))) l [some (.o o), z1, z2, z3, some (.p (.lst (P.map eD))), z5, z6, z7] = .ok (res.map eD) [some (.o o'), z1, z2, z3, some (.p (.lst (P.map eD))), z5, z6, z7'] ∧
      Row (ns.map .int) o' ∧ res.length = l.length ∧ ∀ p ∈ res, p ∈ P
  | [], o, z7, hr => ⟨[], o, z7, rfl, hr, rfl, fun _ h => absurd h List.not_mem_nil⟩
  | x :: l, o, z7, hr => by
    obtain ⟨d, o1, e, hr1, hd⟩ := pick (l := P.map eD) hr (by simpa using h0) (by rw [List.length_map]; exact hP)
    obtain ⟨p, hp, rfl⟩ := List.mem_map.mp hd
    obtain ⟨res, o', z7', e', hr', hl, hm⟩ := draw_run (z1 := z1) (z2 := z2) (z3 := z3) (z5 := z5) (z6 := z6) h0 hP l o1 (some (.p x)) hr1
    refine ⟨p :: res, o', z7', ?_, hr', by rw [List.length_cons, hl, List.length_cons], fun q hq => (List.mem_cons.mp hq).elim (fun e => e ▸ hp) (hm q)⟩
    have e1 : cmpT [7] (gN 7) (Fe.ret true) (clo f__law_pick 0 (consA (vr 4) nilA)) x [some (.o o), z1, z2, z3, some (.p (.lst (P.map eD))), z5, z6, z7] = .ok [eD p] [some (.o o1), z1, z2, z3, some (.p (.lst (P.map eD))), z5, z6, some (.p x)] := by
      have ea : consA (vr 4) nilA [some (.o o), z1, z2, z3, some (.p (.lst (P.map eD))), z5, z6, some (.p x)] = .ok [.lst (P.map eD)] [some (.o o), z1, z2, z3, some (.p (.lst (P.map eD))), z5, z6, some (.p x)] := rfl
      have ec : clo f__law_pick 0 (consA (vr 4) nilA) [some (.o o), z1, z2, z3, some (.p (.lst (P.map eD))), z5, z6, some (.p x)] = .ok (eD p) [some (.o o1), z1, z2, z3, some (.p (.lst (P.map eD))), z5, z6, some (.p x)] := clo_ok (i := 0) rfl ea e
      show bnd (gN 7 x) _ [some (.o o), z1, z2, z3, some (.p (.lst (P.map eD))), z5, z6, none] = _
      rw [ok_bnd gN_ap, ok_bnd ret_ap, if_pos rfl]
      show bnd (clo f__law_pick 0 (consA (vr 4) nilA)) _ [some (.o o), z1, z2, z3, some (.p (.lst (P.map eD))), z5, z6, some (.p x)] = _
      rw [ok_bnd ec]; rfl
    unfold cmpL
    rw [ok_bnd e1, ok_bnd e']; rfl
theorem graph {ns : List Int} {o : D} (hr : Row (ns.map .int) o) : ∃ (n : Nat) (E : List Ed) (o' : D), f__law_graph o [.int 6, .int 8] = .ok (.tup [.int n, tE E]) o' ∧ Row (ns.map .int) o' ∧ Graph n E := by
  obtain ⟨r, o1, e1, hr1, h0, h6⟩ := taken (m := 6) hr (by omega) (by omega)
  obtain ⟨n, hn⟩ : ∃ n : Nat, (n : Int) = 1 + r := ⟨(1 + r).toNat, by omega⟩
  have f2 : ∀ y z : D, fewT [y, z] = some (.tup [y, z]) := fun y z => if_pos (show 2 ≤ lim by unfold lim; omega)
  have s1 : asg (op2 dAdd (Fe.ret (.int 1)) (clo f__law_taken 0 (consA (vr 1) nilA))) (gN 3) [some (.o o), some (.p (.int 6)), some (.p (.int 8)), none, none, none, none, none] = .ok .nx [some (.o o1), some (.p (.int 6)), some (.p (.int 8)), some (.p (.int n)), none, none, none, none] := by
    have ea : consA (vr 1) nilA [some (.o o), some (.p (.int 6)), some (.p (.int 8)), none, none, none, none, none] = .ok [.int 6] [some (.o o), some (.p (.int 6)), some (.p (.int 8)), none, none, none, none, none] := rfl
    have ec := clo_ok (i := 0) (f := f__law_taken) (ρ := [some (.o o), some (.p (.int 6)), some (.p (.int 8)), none, none, none, none, none]) rfl ea e1
    have eo : op2 dAdd (Fe.ret (.int 1)) (clo f__law_taken 0 (consA (vr 1) nilA)) [some (.o o), some (.p (.int 6)), some (.p (.int 8)), none, none, none, none, none] = .ok (.int n) [some (.o o1), some (.p (.int 6)), some (.p (.int 8)), none, none, none, none, none] := by
      rw [op2_ap, ok_bnd ret_ap, ok_bnd ec, hn]; rfl
    exact asg_ok (i := 3) eo
  have s2 : asg (lc2 [5, 6] [6] (rg1 (vr 3)) (gN 5) (Fe.ret true) (rg2 (op2 dAdd (vr 5) (Fe.ret (.int 1))) (vr 3)) (gN 6) (Fe.ret true) (tupE (consA (vr 5) (consA (vr 6) nilA)))) (gN 4) [some (.o o1), some (.p (.int 6)), some (.p (.int 8)), some (.p (.int n)), none, none, none, none] =
      .ok .nx [some (.o o1), some (.p (.int 6)), some (.p (.int 8)), some (.p (.int n)), some (.p (.lst ((pairsI n).map eD))), none, none, none] := by
    have ek : (pairsI n).map eD = (rng 0 n).flatMap fun x => (((fun x => match x with | D.int a => rng (a + 1) n | _ => []) x).filter ((fun _ _ => true) x)).map ((fun (x y : D) => D.tup [x, y]) x) := by
      unfold pairsI
      rw [map_flat, rng_map, List.flatMap_map]
      refine flat_congr' fun a _ => ?_
      show _ = ((rng (a + 1) n).filter fun _ => true).map fun y => D.tup [.int a, y]
      rw [List.filter_eq_self.mpr (fun _ _ => rfl), rng_map, List.map_map, List.map_map]; rfl
    have hlen : ((pairsI n).map eD).length ≤ lim := by
      have : ∀ n : Fin 7, (pairsI n.val).length ≤ 1000 := by decide +kernel
      have h := this ⟨n, by omega⟩
      rw [List.length_map]
      unfold lim
      exact Nat.le_trans h (by omega)
    rw [ek] at hlen
    have e := lc21 (v := 5) (w := 6) (it := rg1 (vr 3)) (it1 := rg2 (op2 dAdd (vr 5) (Fe.ret (.int 1))) (vr 3)) (t := Fe.ret true) (e := tupE (consA (vr 5) (consA (vr 6) nilA))) (ρ := [some (.o o1), some (.p (.int 6)), some (.p (.int 8)), some (.p (.int n)), none, none, none, none]) (l := rng 0 n)
      (fun x => match x with | .int a => rng (a + 1) n | _ => []) (fun _ _ => true) (fun x y => D.tup [x, y]) (by rw [rg1_ap, ok_bnd (vr_at rfl), dRng1_nat (by omega)]; rfl) rfl rfl (by simp) (by simp) (by decide) (fun x hx => by
        rw [rng_map] at hx
        obtain ⟨a, ha, rfl⟩ := List.mem_map.mp hx
        have ha := rngI_mem ha
        have eo : op2 dAdd (vr 5) (Fe.ret (.int 1)) [some (.o o1), some (.p (.int 6)), some (.p (.int 8)), some (.p (.int n)), none, some (.p (.int a)), none, none] = .ok (.int (a + 1)) [some (.o o1), some (.p (.int 6)), some (.p (.int 8)), some (.p (.int n)), none, some (.p (.int a)), none, none] := ok_op2 (vr_at rfl) ret_ap rfl
        have eg : dRng2 (.int (a + 1)) (.int n) = some (rng (a + 1) n) := by
          unfold dRng2
          dsimp only
          rw [big_int (by omega), big_int (by omega)]; rfl
        show rg2 (op2 dAdd (vr 5) (Fe.ret (.int 1))) (vr 3) [some (.o o1), some (.p (.int 6)), some (.p (.int 8)), some (.p (.int n)), none, some (.p (.int a)), none, none] = _
        rw [rg2_ap, ok_bnd eo, ok_bnd (vr_at rfl), eg]; rfl) (fun _ _ _ _ => rfl) (fun x _ y _ _ => by
        have ea : consA (vr 5) (consA (vr 6) nilA) [some (.o o1), some (.p (.int 6)), some (.p (.int 8)), some (.p (.int n)), none, some (.p x), some (.p y), none] = .ok [x, y] [some (.o o1), some (.p (.int 6)), some (.p (.int 8)), some (.p (.int n)), none, some (.p x), some (.p y), none] := rfl
        show tupE (consA (vr 5) (consA (vr 6) nilA)) [some (.o o1), some (.p (.int 6)), some (.p (.int 8)), some (.p (.int n)), none, some (.p x), some (.p y), none] = _
        rw [tupE_ap, ok_bnd ea, f2]; rfl) hlen
    rw [← ek] at e
    exact asg_ok (i := 4) e
  -- the last line
  suffices h : ∃ (E : List Ed) (o' : D) (ρ' : Env), ifE (tsb (cmp dNe (vr 4) (lstE nilA))) (op1 dTuple (op1 dSortSet (lc [7] (rg1 (clo f__law_taken 0 (consA (op2 dAdd (vr 2) (Fe.ret (.int 1))) nilA))) (gN 7) (Fe.ret true) (clo f__law_pick 0 (consA (vr 4) nilA))))) (tupE nilA) [some (.o o1), some (.p (.int 6)), some (.p (.int 8)), some (.p (.int n)), some (.p (.lst ((pairsI n).map eD))), none, none, none] = .ok (tE E) ρ' ∧
      ρ'[0]? = some (some (.o o')) ∧ Row (ns.map .int) o' ∧ Graph n E by
    obtain ⟨E, o', ρ', e3, h3, hr3, g⟩ := h
    refine ⟨n, E, o', ?_, hr3, g⟩
    refine runO_rt (ρ1 := ρ') rfl ?_ h3
    show b__law_graph [some (.o o), some (.p (.int 6)), some (.p (.int 8)), none, none, none, none, none] = _
    unfold b__law_graph
    rw [seq_nx s1, seq_nx s2, rtn_ap]
    have q1 : ∀ ρ : Env, ρ = [some (.o o1), some (.p (.int 6)), some (.p (.int 8)), some (.p (.int n)), some (.p (.lst ((pairsI n).map eD))), none, none, none] → ∀ e : M D, e ρ = .ok (tE E) ρ' → tupE (consA (vr 3) (consA e nilA)) ρ = .ok (.tup [.int n, tE E]) ρ' := fun ρ hρ e he => by
      have q2 : consA e nilA ρ = .ok [tE E] ρ' := by rw [consA_ap, ok_bnd he]; rfl
      have q3 : consA (vr 3) (consA e nilA) ρ = .ok [.int n, tE E] ρ' := by rw [consA_ap, ok_bnd (vr_at (d := .int n) (by rw [hρ]; rfl)), ok_bnd q2]; rfl
      rw [tupE_ap, ok_bnd q3, f2]; rfl
    rw [ok_bnd (q1 _ rfl _ e3)]; rfl
  have l0 : ∀ ρ : Env, lstE nilA ρ = .ok (.lst []) ρ := fun ρ => by rw [lstE_ap, ok_bnd nilA_ap]; rfl
  by_cases hp : pairsI n = []
  · have et : tsb (cmp dNe (vr 4) (lstE nilA)) [some (.o o1), some (.p (.int 6)), some (.p (.int 8)), some (.p (.int n)), some (.p (.lst ((pairsI n).map eD))), none, none, none] = .ok false [some (.o o1), some (.p (.int 6)), some (.p (.int 8)), some (.p (.int n)), some (.p (.lst ((pairsI n).map eD))), none, none, none] :=
      ok_cmp (vr_at rfl) (l0 _) (by rw [hp]; rfl)
    refine ⟨[], o1, [some (.o o1), some (.p (.int 6)), some (.p (.int 8)), some (.p (.int n)), some (.p (.lst ((pairsI n).map eD))), none, none, none], ?_, rfl, hr1, ⟨by omega, by omega, .nil, fun _ h => absurd h List.not_mem_nil, Nat.zero_le _⟩⟩
    rw [ifE_ap, ok_bnd et, if_neg Bool.noConfusion, tupE_ap, ok_bnd nilA_ap]; rfl
  · have et : tsb (cmp dNe (vr 4) (lstE nilA)) [some (.o o1), some (.p (.int 6)), some (.p (.int 8)), some (.p (.int n)), some (.p (.lst ((pairsI n).map eD))), none, none, none] = .ok true [some (.o o1), some (.p (.int 6)), some (.p (.int 8)), some (.p (.int n)), some (.p (.lst ((pairsI n).map eD))), none, none, none] := by
      refine ok_cmp (vr_at rfl) (l0 _) ?_
      have hq : dEq (.lst ((pairsI n).map eD)) (.lst []) = some false := by
        rw [dEq_nice (n := 2) (m := 1) (nice_lst fun d hd => by obtain ⟨i, _, rfl⟩ := List.mem_map.mp hd; exact nice_eD) (nice_lst fun d hd => absurd hd List.not_mem_nil) (by decide) (by decide)]
        cases hc : pairsI n with
        | nil => exact absurd hc hp
        | cons a r => rfl
      unfold dNe
      rw [hq]; rfl
    obtain ⟨r2, o2, e2, hr2, h20, h29⟩ := taken (m := 9) hr1 (by omega) (by omega)
    obtain ⟨k, hk⟩ : ∃ k : Nat, (k : Int) = r2 := ⟨r2.toNat, by omega⟩
    have hpl : (pairsI n).length ≤ 1000 := by
      have : ∀ n : Fin 7, (pairsI n.val).length ≤ 1000 := by decide +kernel
      exact this ⟨n, by omega⟩
    obtain ⟨res, o3, z7, e3, hr3, hl3, hm3⟩ := draw_run (z1 := some (.p (.int 6))) (z2 := some (.p (.int 8))) (z3 := some (.p (.int n))) (z5 := none) (z6 := none) hp hpl (rng 0 k) o2 none hr2
    rw [rng_len] at hl3
    have hb : ∀ p ∈ res, 0 ≤ p.1 ∧ p.1 < p.2 ∧ p.2 < n := fun p h => pairs_bd (hm3 p h)
    have hsort := dSort_lstE (l := res) (by omega) fun p h => by have := hb p h; omega
    have eit : rg1 (clo f__law_taken 0 (consA (op2 dAdd (vr 2) (Fe.ret (.int 1))) nilA)) [some (.o o1), some (.p (.int 6)), some (.p (.int 8)), some (.p (.int n)), some (.p (.lst ((pairsI n).map eD))), none, none, none] = .ok (rng 0 k) [some (.o o2), some (.p (.int 6)), some (.p (.int 8)), some (.p (.int n)), some (.p (.lst ((pairsI n).map eD))), none, none, none] := by
      have ea : consA (op2 dAdd (vr 2) (Fe.ret (.int 1))) nilA [some (.o o1), some (.p (.int 6)), some (.p (.int 8)), some (.p (.int n)), some (.p (.lst ((pairsI n).map eD))), none, none, none] = .ok [.int 9] [some (.o o1), some (.p (.int 6)), some (.p (.int 8)), some (.p (.int n)), some (.p (.lst ((pairsI n).map eD))), none, none, none] := rfl
      have ec := clo_ok (i := 0) (f := f__law_taken) (ρ := [some (.o o1), some (.p (.int 6)), some (.p (.int 8)), some (.p (.int n)), some (.p (.lst ((pairsI n).map eD))), none, none, none]) rfl ea e2
      rw [rg1_ap, ok_bnd ec, ← hk, dRng1_nat (by omega)]; rfl
    have elc : lc [7] (rg1 (clo f__law_taken 0 (consA (op2 dAdd (vr 2) (Fe.ret (.int 1))) nilA))) (gN 7) (Fe.ret true) (clo f__law_pick 0 (consA (vr 4) nilA)) [some (.o o1), some (.p (.int 6)), some (.p (.int 8)), some (.p (.int n)), some (.p (.lst ((pairsI n).map eD))), none, none, none] = .ok (.lst (res.map eD)) [some (.o o3), some (.p (.int 6)), some (.p (.int 8)), some (.p (.int n)), some (.p (.lst ((pairsI n).map eD))), none, none, none] := by
      unfold lc
      rw [if_neg (show ¬ (pur [some (.o o1), some (.p (.int 6)), some (.p (.int 8)), some (.p (.int n)), some (.p (.lst ((pairsI n).map eD))), none, none, none] [7] = false) from Bool.noConfusion), eit]
      dsimp only
      rw [e3]
      dsimp only
      rw [if_pos (by rw [List.length_map, hl3]; unfold lim; omega)]; rfl
    refine ⟨sortE res, o3, [some (.o o3), some (.p (.int 6)), some (.p (.int 8)), some (.p (.int n)), some (.p (.lst ((pairsI n).map eD))), none, none, none], ?_, rfl, hr3, ⟨by omega, by omega, sortE_rises, fun p hp => hb p (sortE_mem hp), by have := sortE_len (l := res); omega⟩⟩
    have q1 : op1 dSortSet (lc [7] (rg1 (clo f__law_taken 0 (consA (op2 dAdd (vr 2) (Fe.ret (.int 1))) nilA))) (gN 7) (Fe.ret true) (clo f__law_pick 0 (consA (vr 4) nilA))) [some (.o o1), some (.p (.int 6)), some (.p (.int 8)), some (.p (.int n)), some (.p (.lst ((pairsI n).map eD))), none, none, none] = .ok (.lst ((sortE res).map eD)) [some (.o o3), some (.p (.int 6)), some (.p (.int 8)), some (.p (.int n)), some (.p (.lst ((pairsI n).map eD))), none, none, none] := by
      rw [op1_ap, ok_bnd elc, hsort]; rfl
    rw [ifE_ap, ok_bnd et, if_pos rfl, op1_ap, ok_bnd q1]; rfl
end K05
set_option Elab.async false
set_option linter.all false
set_option maxRecDepth 100000
set_option maxHeartbeats 1000000
namespace K05
open PySem (Str)
open Fe
abbrev c1 : S := (asg (clo f__law_graph 1 (consA (Fe.ret (.int 6)) (consA (Fe.ret (.int 8)) nilA))) (gT 2 (gCons (gN 3) (gCons (gN 4) gNil))))
abbrev c2 : S := (asg (lc2 [6, 7] [7] (rg1 (op2 dAdd (vr 3) (Fe.ret (.int 1)))) (gN 6) (Fe.ret true) (itm (cl f__law_rows (consA (op1 dLRng1 (vr 3)) (consA (vr 6) nilA)))) (gN 7) (Fe.ret true) (vr 7)) (gN 5))
abbrev c3 : S := (asg (lc [7] (itm (vr 5)) (gN 7) (tsb (cmp dEq (lc [9, 10] (itm (vr 4)) (gT 2 (gCons (gN 9) (gCons (gN 10) gNil))) (andT (tsb (cmp dNotIn (vr 9) (vr 7))) (tsb (cmp dNotIn (vr 10) (vr 7)))) (Fe.ret (.int 1))) (lstE nilA))) (vr 7)) (gN 8))
abbrev c4 : S := (iff (orT (notT (tst (cl (f__law_alike 4) (consA (clk f_first_cover 1 1 (consA (vr 3) nilA) (consA (vr 4) nilA)) (consA (op2 dIx (vr 8) (Fe.ret (.int 0))) nilA))))) (notT (tst (cl (f__law_alike 4) (consA (cl f_cover_number (consA (vr 3) (consA (vr 4) nilA))) (consA (op1 dLen (op2 dIx (vr 8) (Fe.ret (.int 0)))) nilA)))))) (rtn (Fe.ret (.bl false))) sNx)
abbrev c5 : S := (asg (lc2 [6, 7] [7] (rg1 (Fe.ret (.int 4))) (gN 6) (Fe.ret true) (itm (cl f__law_rows (consA (op1 dList (vr 4)) (consA (vr 6) nilA)))) (gN 7) (Fe.ret true) (vr 7)) (gN 11))
abbrev c6 : S := (asg (lc [7] (itm (vr 11)) (gN 7) (tsb (cmp dEq (op1 dLenSet (lc2 [13, 9] [9] (itm (vr 7)) (gN 13) (Fe.ret true) (itm (vr 13)) (gN 9) (Fe.ret true) (vr 9))) (op2 dMul (Fe.ret (.int 2)) (op1 dLen (vr 7))))) (vr 7)) (gN 12))
abbrev c7 : S := (asg (op1 dMax (lc [7] (itm (vr 12)) (gN 7) (Fe.ret true) (op1 dLen (vr 7)))) (gN 14))
abbrev c8 : S := (iff (notT (tst (cl (f__law_alike 4) (consA (cl f_most_apart (consA (vr 3) (consA (vr 4) nilA))) (consA (op2 dIx (lc [7] (itm (vr 12)) (gN 7) (tsb (cmp dEq (op1 dLen (vr 7)) (vr 14))) (vr 7)) (Fe.ret (.int 0))) nilA))))) (rtn (Fe.ret (.bl false))) sNx)
abbrev c9 : S := (forS (rg1 (Fe.ret (.int 4))) (gN 15) (seq (asg (clo f__law_pick 1 (consA (vr 5) nilA)) (gN 16)) (seq (iff (tsb (cmp dIsNot (clk f_is_cover 2 1 (consA (vr 3) (consA (vr 4) nilA)) (consA (vr 16) nilA)) (cmp dIn (vr 16) (vr 8)))) (rtn (Fe.ret (.bl false))) sNx) (iff (tsb (cmp dIsNot (clk f_is_stable 2 1 (consA (vr 3) (consA (vr 4) nilA)) (consA (vr 16) nilA)) (cmp dEq (lc [9, 10] (itm (vr 4)) (gT 2 (gCons (gN 9) (gCons (gN 10) gNil))) (andT (tsb (cmp dIn (vr 9) (vr 16))) (tsb (cmp dIn (vr 10) (vr 16)))) (Fe.ret (.int 1))) (lstE nilA)))) (rtn (Fe.ret (.bl false))) sNx))))
abbrev c10 : S := (asg (lstE (consA (Fe.ret .non) (consA (lstE nilA) (consA (tupE (consA (vr 3) nilA)) (consA (tupE (consA (Fe.ret (.int 0)) (consA (Fe.ret (.int 0)) nilA))) (consA (tupE (consA (Fe.ret (.bl true)) nilA)) (consA (tupE (consA (op1 dNeg (Fe.ret (.int 1))) nilA)) nilA))))))) (gN 17))
abbrev c11 : S := (iff (tsb (cmp dNe (lc [7] (itm (vr 17)) (gN 7) (orT (tst (cl f_is_cover (consA (vr 3) (consA (vr 4) (consA (vr 7) nilA))))) (tst (cl f_is_stable (consA (vr 3) (consA (vr 4) (consA (vr 7) nilA)))))) (vr 7)) (lstE nilA))) (rtn (Fe.ret (.bl false))) sNx)
abbrev c12 : S := (asg (clo f__law_pick 1 (consA (lstE (consA (Fe.ret .non) (consA (lstE (consA (tupE (consA (Fe.ret (.int 0)) (consA (Fe.ret (.int 1)) nilA))) nilA)) (consA (tupE (consA (tupE (consA (Fe.ret (.int 1)) (consA (Fe.ret (.int 0)) nilA))) nilA)) (consA (tupE (consA (tupE (consA (Fe.ret (.int 0)) (consA (vr 3) nilA))) nilA)) (consA (tupE (consA (tupE (consA (Fe.ret (.int 0)) (consA (Fe.ret (.int 0)) nilA))) nilA)) (consA (tupE (consA (tupE (consA (Fe.ret (.int 0)) (consA (Fe.ret (.int 1)) (consA (Fe.ret (.int 2)) nilA)))) nilA)) (consA (tupE (consA (tupE (consA (Fe.ret (.bl true)) (consA (Fe.ret (.int 1)) nilA))) nilA)) nilA)))))))) nilA)) (gN 18))
abbrev c13 : S := (asg (lstE (consA (refused "BadArgument" "name" (cl f_first_cover (consA (vr 3) (consA (vr 18) nilA)))) (consA (refused "BadArgument" "name" (cl f_cover_number (consA (Fe.ret (.int 13)) (consA (tupE nilA) nilA)))) (consA (refused "BadArgument" "name" (cl f_is_cover (consA (Fe.ret (.int 0)) (consA (tupE nilA) (consA (tupE nilA) nilA))))) (consA (refused "BadArgument" "name" (cl f_most_apart (consA (vr 3) (consA (vr 18) nilA)))) nilA))))) (gN 19))
abbrev c14 : S := (iff (tsb (cmp dNe (vr 19) (lstE (consA (Fe.ret (.str "edges")) (consA (Fe.ret (.str "many")) (consA (Fe.ret (.str "many")) (consA (Fe.ret (.str "edges")) nilA))))))) (rtn (Fe.ret (.bl false))) sNx)
abbrev bodyL : S := (seq c1 (seq c2 (seq c3 (seq c4 (seq c5 (seq c6 (seq c7 (seq c8 (seq c9 (seq c10 (seq c11 (seq c12 (seq c13 c14)))))))))))))

/-! ### pieces -/
section
variable {ρ : Env} {x d : D}
theorem ev_cons {a : M D} {r : M (List D)} {l : List D} (h1 : a ρ = .ok x ρ) (h2 : r ρ = .ok l ρ) : consA a r ρ = .ok (x :: l) ρ := by rw [consA_ap, ok_bnd h1, ok_bnd h2]; rfl
theorem ev_cl {f : List D → F} {a : M (List D)} {ds : List D} (h : a ρ = .ok ds ρ) (hf : f ds = .ok d) : cl f a ρ = .ok d ρ := by rw [cl_ap, ok_bnd h, hf]; rfl
theorem ev_clx {f : List D → F} {a : M (List D)} {ds : List D} {e : Ex} (h : a ρ = .ok ds ρ) (hf : f ds = .ex e) : cl f a ρ = .ex e ρ := by rw [cl_ap, ok_bnd h, hf]; rfl
theorem ev_clk {f : List D → F} {n k : Nat} {a b : M (List D)} {l m : List D} (ha : a ρ = .ok l ρ) (hb : b ρ = .ok m ρ) (hl : l.length = n) (hm : m.length = k) (hf : f (l ++ m) = .ok d) : clk f n k a b ρ = .ok d ρ := by
  have q : (bnd a fun l => bnd b fun m => if l.length = n ∧ m.length = k then Fe.ret (l ++ m) else fun _ => .no) ρ = .ok (l ++ m) ρ := by rw [ok_bnd ha, ok_bnd hb, if_pos ⟨hl, hm⟩]; rfl
  rw [clk_ap, clN_ap, ok_bnd q, hf]; rfl
theorem ev_tst {a : M D} {k : Bool} (h : a ρ = .ok d ρ) (ht : truth d = some k) : tst a ρ = .ok k ρ := by rw [tst_ap, ok_bnd h, ht]; rfl
theorem ev_not {a : M Bool} {k : Bool} (h : a ρ = .ok k ρ) : notT a ρ = .ok (!k) ρ := by rw [notT_ap, ok_bnd h]; rfl
theorem ev_or {a b : M Bool} {k : Bool} (ha : a ρ = .ok false ρ) (hb : b ρ = .ok k ρ) : orT a b ρ = .ok k ρ := by rw [orT_ap, ok_bnd ha, if_neg Bool.noConfusion, hb]
theorem ev_itm {a : M D} {l : List D} (h : a ρ = .ok d ρ) (hi : items d = some l) : itm a ρ = .ok l ρ := by rw [itm_ap, ok_bnd h, hi]; rfl
theorem ev_lst {a : M (List D)} {l : List D} (h : a ρ = .ok l ρ) (hl : l.length ≤ 1000) : lstE a ρ = .ok (.lst l) ρ := by
  rw [lstE_ap, ok_bnd h, show fewL l = some (.lst l) from if_pos (by unfold lim; omega)]; rfl
theorem ev_tup {a : M (List D)} {l : List D} (h : a ρ = .ok l ρ) (hl : l.length ≤ 1000) : tupE a ρ = .ok (.tup l) ρ := by
  rw [tupE_ap, ok_bnd h, show fewT l = some (.tup l) from if_pos (by unfold lim; omega)]; rfl
theorem ev_rg1 {a : M D} {k : Nat} (h : a ρ = .ok (.int k) ρ) (hk : k ≤ 1000) : rg1 a ρ = .ok (rng 0 k) ρ := by rw [rg1_ap, ok_bnd h, dRng1_nat hk]; rfl
theorem ev_cmp {g : D → D → Option Bool} {a b : M D} {y : D} {k : Bool} (ha : a ρ = .ok x ρ) (hb : b ρ = .ok y ρ) (h : g x y = some k) : cmp g a b ρ = .ok (.bl k) ρ := by rw [cmp_ap, ok_bnd ha, ok_bnd hb, h]; rfl
end
/-! ### the state of the law -/
def L (ρ : Env) (i : Nat) (d : D) : Prop := ρ[i]? = some (some (.p d))
theorem L.v {ρ : Env} {i : Nat} {d : D} (h : L ρ i d) : vr i ρ = .ok d ρ := vr_at h
theorem L.ne {ρ : Env} {i j : Nat} {d : D} {c : Option C} (h : L ρ i d) (hn : j ≠ i) : L (ρ.set j c) i d := by unfold L; rw [List.getElem?_set_ne hn]; exact h
theorem L.eq {ρ : Env} {i : Nat} {d : D} (h : i < ρ.length) : L (ρ.set i (some (.p d))) i d := List.getElem?_set_self h
structure St (ρ : Env) (o : D) : Prop where
  len : ρ.length = 20
  row : ρ[1]? = some (some (.o o))
  pu : ∀ i, i ≠ 1 → isO (get ρ i) = false
theorem St.set {ρ : Env} {o : D} {i : Nat} {d : D} (s : St ρ o) (h : i ≠ 1) : St (ρ.set i (some (.p d))) o where
  len := by rw [List.length_set, s.len]
  row := by rw [List.getElem?_set_ne h]; exact s.row
  pu := fun j hj => by
    rw [get_ap, List.getElem?_set]
    by_cases e : i = j
    · rw [if_pos e]
      split <;> rfl
    · rw [if_neg e, ← get_ap]; exact s.pu j hj
theorem St.draw {ρ : Env} {o o' : D} (s : St ρ o) : St (ρ.set 1 (some (.o o'))) o' where
  len := by rw [List.length_set, s.len]
  row := List.getElem?_set_self (by rw [s.len]; decide)
  pu := fun j hj => by
    rw [get_ap, List.getElem?_set_ne (Ne.symm hj), ← get_ap]; exact s.pu j hj
/-! decoding -/
def unE : D → Ed
  | .tup [.int a, .int b] => (a, b)
  | _ => (0, 0)
def unT : D → List Ed
  | .tup l => l.map unE
  | _ => []
theorem unT_tE (own : List Ed) : unT (tE own) = own := by
  show (own.map eD).map unE = own
  rw [List.map_map]
  exact (List.map_congr_left fun p _ => (rfl : (unE ∘ eD) p = p)).trans (List.map_id _)
variable {n : Nat} {E : List Ed} {ρ : Env} {o : D}
theorem rng_nat (k : Nat) : rng 0 (k : Int) = (List.range k).map fun (j : Nat) => D.int (j : Int) := by
  unfold rng
  rw [show ((k : Int) - 0).toNat = k by omega]
  exact List.map_congr_left fun j _ => by rw [Int.zero_add]
theorem every_len (hn : n ≤ 6) : (everyD n).length ≤ 1000 := by
  have : ∀ n : Fin 7, (everyD n.val).length ≤ 1000 := by decide +kernel
  exact this ⟨n, by omega⟩
def riseB (n : Nat) (d : D) : Bool := match d with
  | .tup l => match intsOf l with
    | some s => decide (s.Pairwise (· < ·)) && s.all (fun i => decide (0 ≤ i) && decide (i < n)) && decide (s.length < 64)
    | none => false
  | _ => false
theorem every_rise (hn : n ≤ 6) {x : D} (h : x ∈ everyD n) : ∃ s : List Int, x = rt s ∧ Rise n s := by
  have : ∀ n : Fin 7, (everyD n.val).all (riseB n.val) = true := by decide +kernel
  have h1 := List.all_eq_true.mp (this ⟨n, by omega⟩) x h
  obtain ⟨s, rfl, _, _⟩ := every_rt h
  have h2 : (decide (s.Pairwise (· < ·)) && s.all (fun i => decide (0 ≤ i) && decide (i < (n : Int))) && decide (s.length < 64)) = true := by
    have h3 : riseB n (rt s) = true := h1
    unfold riseB rt at h3
    dsimp only at h3
    rw [intsOf_mapE] at h3
    exact h3
  rw [Bool.and_eq_true, Bool.and_eq_true] at h2
  refine ⟨s, rfl, of_decide_eq_true h2.1.1, fun i hi => ?_, of_decide_eq_true h2.2⟩
  have h4 := List.all_eq_true.mp h2.1.2 i hi
  rw [Bool.and_eq_true] at h4
  exact ⟨of_decide_eq_true h4.1, of_decide_eq_true h4.2⟩
def fullB (n : Nat) (d : D) : Bool := match d with
  | .tup l => (rngI 0 n).all fun i => l.any fun z => eqv z (.int i)
  | _ => false
theorem has_cover (g : Graph n E) : ∃ s : List Int, (everyD n).find? (covD E) = some (rt s) := by
  have : ∀ n : Fin 7, (everyD n.val).any (fullB n.val) = true := by decide +kernel
  obtain ⟨x, hx, hf⟩ := List.any_eq_true.mp (this ⟨n, by have := g.hi; omega⟩)
  have hc : covD E x = true := by
    obtain ⟨s, rfl, _, _⟩ := every_rt hx
    have hf' : ((rngI 0 n).all fun i => (s.map D.int).any fun z => eqv z (.int i)) = true := hf
    show (E.all fun p => ((s.map D.int).any fun z => eqv z (.int p.1)) || (s.map D.int).any fun z => eqv z (.int p.2)) = true
    rw [List.all_eq_true] at hf' ⊢
    intro p hp
    have hb := g.bd p hp
    have : p.1 ∈ rngI 0 n := by
      unfold rngI
      exact List.mem_map.mpr ⟨p.1.toNat, List.mem_range.mpr (by omega), by omega⟩
    rw [hf' p.1 this]; rfl
  cases h : (everyD n).find? (covD E) with
  | none => exact absurd hc (by simpa using List.find?_eq_none.mp h x hx)
  | some d =>
    obtain ⟨s, rfl, _, _⟩ := every_rt (List.mem_of_find?_eq_some h)
    exact ⟨s, rfl⟩
/-! ### one line after the other -/
theorem c1_ok {ns : List Int} (s : St ρ o) (hr : Row (ns.map .int) o) : ∃ (n : Nat) (E : List Ed) (o' : D), c1 ρ = .ok .nx (((ρ.set 1 (some (.o o'))).set 3 (some (.p (.int n)))).set 4 (some (.p (tE E)))) ∧ Row (ns.map .int) o' ∧ Graph n E := by
  obtain ⟨n, E, o', e, hr', g⟩ := graph hr
  refine ⟨n, E, o', ?_, hr', g⟩
  have ec := clo_ok (i := 1) (f := f__law_graph) (a := consA (Fe.ret (.int 6)) (consA (Fe.ret (.int 8)) nilA)) (ρ := ρ) s.row rfl e
  unfold c1
  rw [asg_ap, ok_bnd ec]; rfl
theorem c2_ok (s : St ρ o) (h3 : L ρ 3 (.int n)) (hn : n ≤ 6) : c2 ρ = .ok .nx (ρ.set 5 (some (.p (.lst (everyD n))))) := by
  unfold c2
  refine asg_ok (i := 5) (d := .lst (everyD n)) ?_
  have ek : everyD n = (rng 0 ((n + 1 : Nat) : Int)).flatMap fun x => (((fun x => match x with | D.int a => rowsD (rng 0 n) a.toNat | _ => []) x).filter ((fun _ _ => true) x)).map ((fun (_ y : D) => y) x) := by
    unfold everyD
    rw [rng_nat (n + 1), List.flatMap_map]
    refine flat_congr' fun k _ => ?_
    show _ = ((rowsD (rng 0 n) ((k : Int).toNat)).filter fun _ => true).map fun y => y
    rw [List.filter_eq_self.mpr (fun _ _ => rfl), List.map_id', Int.toNat_natCast]
  have hlen := every_len hn
  rw [ek] at hlen ⊢
  have e1 : op2 dAdd (vr 3) (Fe.ret (.int 1)) ρ = .ok (.int ((n + 1 : Nat) : Int)) ρ := ok_op2 h3.v ret_ap rfl
  refine lc21 (l := rng 0 ((n + 1 : Nat) : Int)) (fun x => match x with | D.int a => rowsD (rng 0 n) a.toNat | _ => []) (fun _ _ => true) (fun (_ y : D) => y) (ev_rg1 e1 (by omega)) (s.pu 6 (by decide)) (s.pu 7 (by decide)) (by rw [s.len]; decide) (by rw [s.len]; decide) (by decide) (fun x hx => ?_) (fun _ _ _ _ => rfl) (fun x _ y _ _ => ?_) (Nat.le_trans hlen (by unfold lim; omega))
  · rw [rng_nat] at hx
    obtain ⟨k, hk, rfl⟩ := List.mem_map.mp hx
    have hk := List.mem_range.mp hk
    have l3 : L ((ρ.set 7 none).set 6 (some (.p (.int (k : Int))))) 3 (.int n) := (h3.ne (by decide)).ne (by decide)
    have l6 : L ((ρ.set 7 none).set 6 (some (.p (.int (k : Int))))) 6 (.int k) := .eq (by rw [List.length_set, s.len]; decide)
    have a1 : op1 dLRng1 (vr 3) ((ρ.set 7 none).set 6 (some (.p (.int (k : Int))))) = .ok (.lst (rng 0 n)) ((ρ.set 7 none).set 6 (some (.p (.int (k : Int))))) := ok_op1 l3.v (by
      unfold dLRng1
      rw [dRng1_nat (by omega)]
      exact if_pos (by rw [rng_len]; unfold lim; omega))
    refine ev_itm (ev_cl (ev_cons a1 (ev_cons l6.v nilA_ap)) (law_rows (k := k) (xs := rng 0 n) ?_ (by omega) fun j hj => ?_)) ?_
    · rw [rng_map]
      refine th_ints ?_
      have := rng_len n
      rw [rng_map, List.length_map] at this
      omega
    · rw [rng_len]; exact pow_lim hn (by omega)
    · show some _ = some (rowsD (rng 0 n) ((k : Int).toNat))
      rw [Int.toNat_natCast]
  · exact (L.eq (by rw [List.length_set, s.len]; decide)).v
/-- [1 for one, other in edges if ..] == [] -/
theorem none_lc (hE : E.length ≤ 100) (h4 : L ρ 4 (tE E)) (hl : ρ.length = 20) (hp : isO (get ρ 9) = false) (hp2 : isO (get ρ 10) = false) {T : M Bool} {q : Ed → Bool}
    (hT : ∀ p ∈ E, T ((ρ.set 9 (some (.p (.int p.1)))).set 10 (some (.p (.int p.2)))) = .ok (q p) ((ρ.set 9 (some (.p (.int p.1)))).set 10 (some (.p (.int p.2))))) :
    cmp dEq (lc [9, 10] (itm (vr 4)) (gT 2 (gCons (gN 9) (gCons (gN 10) gNil))) T (Fe.ret (.int 1))) (lstE nilA) ρ = .ok (.bl (!E.any q)) ρ := by
  have e := lcP (v := 9) (w := 10) (it := itm (vr 4)) (t := T) (e := Fe.ret (.int 1)) (l := E.map eD) (fun d => q (unE d)) (fun _ => .int 1) (ev_itm h4.v rfl) hp hp2 (by rw [hl]; decide) (by rw [hl]; decide) (by decide) (fun x hx => by
    obtain ⟨p, hp, rfl⟩ := List.mem_map.mp hx
    exact ⟨.int p.1, .int p.2, rfl, hT p hp, fun _ => rfl⟩) (by rw [List.length_map]; unfold lim; omega)
  refine ev_cmp e (ev_lst nilA_ap (Nat.zero_le _)) ?_
  rw [dEq_nice (n := 1) (m := 1) (nice_lst fun d hd => by obtain ⟨i, _, rfl⟩ := List.mem_map.mp hd; exact nice_int) (nice_lst fun d hd => absurd hd List.not_mem_nil) (by decide) (by decide)]
  congr 1
  have h1 : eqv (.lst (((E.map eD).filter fun d => q (unE d)).map fun _ => D.int 1)) (.lst []) = (((E.map eD).filter fun d => q (unE d)).map fun _ => D.int 1).isEmpty := by
    cases (((E.map eD).filter fun d => q (unE d)).map fun _ => D.int 1) <;> rfl
  rw [h1, List.isEmpty_map, List.filter_map, List.isEmpty_map]
  have h2 : ((fun d => q (unE d)) ∘ eD) = q := rfl
  rw [h2, Bool.eq_iff_iff, List.isEmpty_iff, List.filter_eq_nil_iff, Bool.not_eq_true', List.any_eq_false]
theorem cov_any {E : List Ed} {s : List Int} : cov E s = !E.any fun p => !decide (p.1 ∈ s) && !decide (p.2 ∈ s) := by
  unfold cov
  rw [List.not_any_eq_all_not]
  congr 1
  funext p
  cases decide (p.1 ∈ s) <;> cases decide (p.2 ∈ s) <;> rfl
theorem ev_in {g : D → D → Option Bool} {i j : Nat} {a : Int} {s : List Int} {k : Bool} (h1 : L ρ i (.int a)) (h2 : L ρ j (rt s)) (h : g (.int a) (rt s) = some k) : tsb (cmp g (vr i) (vr j)) ρ = .ok k ρ := ok_cmp h1.v h2.v h
theorem ev_and {a b : M Bool} {k m : Bool} (ha : a ρ = .ok k ρ) (hb : b ρ = .ok m ρ) : andT a b ρ = .ok (k && m) ρ := by
  rw [andT_ap, ok_bnd ha]
  cases k
  · rfl
  · rw [if_pos rfl, hb]; rfl
theorem c3_ok (s : St ρ o) (g : Graph n E) (h4 : L ρ 4 (tE E)) (h5 : L ρ 5 (.lst (everyD n))) : c3 ρ = .ok .nx (ρ.set 8 (some (.p (.lst ((everyD n).filter (covD E)))))) := by
  unfold c3
  refine asg_ok (i := 8) (d := .lst ((everyD n).filter (covD E))) ?_
  have e := lc1 (v := 7) (it := itm (vr 5)) (t := tsb (cmp dEq (lc [9, 10] (itm (vr 4)) (gT 2 (gCons (gN 9) (gCons (gN 10) gNil))) (andT (tsb (cmp dNotIn (vr 9) (vr 7))) (tsb (cmp dNotIn (vr 10) (vr 7)))) (Fe.ret (.int 1))) (lstE nilA))) (e := vr 7) (l := everyD n) (covD E) id (ev_itm h5.v rfl) (s.pu 7 (by decide)) (by rw [s.len]; decide) (fun x hx => ?_) (fun x _ _ => (L.eq (by rw [s.len]; decide)).v) (by have := every_len g.hi; unfold lim; omega)
  · rw [List.map_id] at e
    exact e
  · obtain ⟨w, rfl, _⟩ := every_rise g.hi hx
    have s' := s.set (i := 7) (d := rt w) (by decide)
    have e1 := none_lc (ρ := ρ.set 7 (some (.p (rt w)))) (E := E) (by have := g.sz; omega) (h4.ne (by decide)) s'.len (s'.pu 9 (by decide)) (s'.pu 10 (by decide)) (T := andT (tsb (cmp dNotIn (vr 9) (vr 7))) (tsb (cmp dNotIn (vr 10) (vr 7)))) (q := fun p => !decide (p.1 ∈ w) && !decide (p.2 ∈ w)) (fun p _ => by
      have l7 : L (((ρ.set 7 (some (.p (rt w)))).set 9 (some (.p (.int p.1)))).set 10 (some (.p (.int p.2)))) 7 (rt w) := ((L.eq (by rw [s.len]; decide)).ne (by decide)).ne (by decide)
      have l9 : L (((ρ.set 7 (some (.p (rt w)))).set 9 (some (.p (.int p.1)))).set 10 (some (.p (.int p.2)))) 9 (.int p.1) := (L.eq (by rw [List.length_set, s.len]; decide)).ne (by decide)
      have l10 : L (((ρ.set 7 (some (.p (rt w)))).set 9 (some (.p (.int p.1)))).set 10 (some (.p (.int p.2)))) 10 (.int p.2) := L.eq (by rw [List.length_set, List.length_set, s.len]; decide)
      exact ev_and (ev_in l9 l7 (dNotIn_ints _ _)) (ev_in l10 l7 (dNotIn_ints _ _)))
    rw [covD_rt, cov_any, tsb_ap, ok_bnd e1]; rfl
theorem no_iff {t : M Bool} (h : t ρ = .ok false ρ) : iff t (rtn (Fe.ret (.bl false))) sNx ρ = .ok .nx ρ := by rw [iff_ok h, if_neg Bool.noConfusion]; rfl
theorem head_ix {l : List D} {d : D} (h : l.head? = some d) : dIx (.lst l) (.int 0) = some d := dIx_list (by omega) (by
  rw [show (0 : Int).toNat = 0 from rfl, ← List.head?_eq_getElem?]; exact h)
theorem rt_inj {w w' : List Int} (h : rt w = rt w') : w = w' := (eqvs_int w w').mp (by rw [show w.map D.int = w'.map D.int from D.tup.inj h]; exact eqvs_refl _)
theorem c4_ok (s : St ρ o) (g : Graph n E) (h3 : L ρ 3 (.int n)) (h4 : L ρ 4 (tE E)) (h8 : L ρ 8 (.lst ((everyD n).filter (covD E)))) : c4 ρ = .ok .nx ρ := by
  obtain ⟨w, hw⟩ := has_cover g
  have hwl : w.length ≤ 1000 := by
    obtain ⟨w', e, hl, _⟩ := every_rt (List.mem_of_find?_eq_some hw)
    have := rt_inj e
    have h6 := g.hi
    subst this
    omega
  have ei : op2 dIx (vr 8) (Fe.ret (.int 0)) ρ = .ok (rt w) ρ := ok_op2 h8.v ret_ap (head_ix (by rw [List.head?_filter]; exact hw))
  have el : op1 dLen (op2 dIx (vr 8) (Fe.ret (.int 0))) ρ = .ok (.int w.length) ρ := ok_op1 ei (by
    show some (D.int ((w.map D.int).length : Nat)) = _
    rw [List.length_map])
  have a1 : clk f_first_cover 1 1 (consA (vr 3) nilA) (consA (vr 4) nilA) ρ = .ok (rt w) ρ := ev_clk (ev_cons h3.v nilA_ap) (ev_cons h4.v nilA_ap) rfl rfl (first_cover g hw)
  have a2 : cl f_cover_number (consA (vr 3) (consA (vr 4) nilA)) ρ = .ok (.int w.length) ρ := ev_cl (ev_cons h3.v (ev_cons h4.v nilA_ap)) (cover_number g hw)
  unfold c4
  refine no_iff (ev_or (k := false) ?_ ?_)
  · exact ev_not (k := true) (ev_tst (ev_cl (ev_cons a1 (ev_cons ei nilA_ap)) (alike_rt hwl)) rfl)
  · exact ev_not (k := true) (ev_tst (ev_cl (ev_cons a2 (ev_cons el nilA_ap)) (alike_int 3 _)) rfl)
end K05
set_option Elab.async false
set_option linter.all false
set_option maxRecDepth 100000
set_option maxHeartbeats 1000000
namespace K05
open PySem (Str)
open Fe
variable {n : Nat} {E : List Ed} {ρ : Env} {o : D}
theorem flat_len' {α : Type} {f : α → List D} {m : Nat} : ∀ {l : List α}, (∀ x ∈ l, (f x).length ≤ m) → (l.flatMap f).length ≤ l.length * m
  | [], _ => Nat.zero_le _
  | x :: l, h => by
    rw [List.flatMap_cons, List.length_append, List.length_cons, Nat.add_mul, Nat.one_mul, Nat.add_comm]
    exact Nat.add_le_add (flat_len' fun y hy => h y (.tail _ hy)) (h x (.head _))
theorem th_edges (h : E.length ≤ 63) : Th (E.map eD) where
  ni := fun y hy => by obtain ⟨p, _, rfl⟩ := List.mem_map.mp hy; exact nice_eD
  gt := fun y hy z hz => by
    obtain ⟨p, _, rfl⟩ := List.mem_map.mp hy
    obtain ⟨q, _, rfl⟩ := List.mem_map.mp hz
    exact ⟨_, dGt_eD p q⟩
  len := by rw [List.length_map]; exact h
theorem pow8 (g : Graph n E) {k : Nat} (hk : k ≤ 3) : E.length ^ k ≤ 512 := by
  have : ∀ a : Fin 9, ∀ k : Fin 4, a.val ^ k.val ≤ 512 := by decide +kernel
  exact this ⟨E.length, by have := g.sz; omega⟩ ⟨k, by omega⟩
theorem rows_len4 (g : Graph n E) : ((List.range 4).flatMap fun k => rowsD (E.map eD) k).length ≤ 4 * 512 := flat_len' (l := List.range 4) fun k hk => by
  have h1 := rows_len (xs := E.map eD) (k := k)
  rw [List.length_map] at h1
  exact Nat.le_trans h1 (pow8 g (by have := List.mem_range.mp hk; omega))
theorem c5_ok (s : St ρ o) (g : Graph n E) (h4 : L ρ 4 (tE E)) : c5 ρ = .ok .nx (ρ.set 11 (some (.p (.lst ((rowsE E).map tE))))) := by
  unfold c5
  refine asg_ok (i := 11) (d := .lst ((rowsE E).map tE)) ?_
  have ek : (rowsE E).map tE = (rng 0 ((4 : Nat) : Int)).flatMap fun x => (((fun x => match x with | D.int a => rowsD (E.map eD) a.toNat | _ => []) x).filter ((fun _ _ => true) x)).map ((fun (_ y : D) => y) x) := by
    rw [← rowsE_D g.ri, rng_nat 4, List.flatMap_map]
    refine flat_congr' fun k _ => ?_
    show _ = ((rowsD (E.map eD) ((k : Int).toNat)).filter fun _ => true).map fun y => y
    rw [List.filter_eq_self.mpr (fun _ _ => rfl), List.map_id', Int.toNat_natCast]
  have hlen : ((rowsE E).map tE).length ≤ 4 * 512 := by rw [← rowsE_D g.ri]; exact rows_len4 g
  rw [ek] at hlen ⊢
  refine lc21 (l := rng 0 ((4 : Nat) : Int)) (fun x => match x with | D.int a => rowsD (E.map eD) a.toNat | _ => []) (fun _ _ => true) (fun (_ y : D) => y) (ev_rg1 ret_ap (by omega)) (s.pu 6 (by decide)) (s.pu 7 (by decide)) (by rw [s.len]; decide) (by rw [s.len]; decide) (by decide) (fun x hx => ?_) (fun _ _ _ _ => rfl) (fun x _ y _ _ => ?_) (Nat.le_trans hlen (by unfold lim; omega))
  · rw [rng_nat] at hx
    obtain ⟨k, hk, rfl⟩ := List.mem_map.mp hx
    have hk := List.mem_range.mp hk
    have l4 : L ((ρ.set 7 none).set 6 (some (.p (.int (k : Int))))) 4 (tE E) := (h4.ne (by decide)).ne (by decide)
    have l6 : L ((ρ.set 7 none).set 6 (some (.p (.int (k : Int))))) 6 (.int k) := .eq (by rw [List.length_set, s.len]; decide)
    have a1 : op1 dList (vr 4) ((ρ.set 7 none).set 6 (some (.p (.int (k : Int))))) = .ok (.lst (E.map eD)) ((ρ.set 7 none).set 6 (some (.p (.int (k : Int))))) := ok_op1 l4.v rfl
    refine ev_itm (ev_cl (ev_cons a1 (ev_cons l6.v nilA_ap)) (law_rows (k := k) (xs := E.map eD) (th_edges (by have := g.sz; omega)) (by omega) fun j hj => ?_)) ?_
    · rw [List.length_map]
      have h1 := pow8 g (k := j) (by omega)
      have h2 := Nat.mul_le_mul h1 g.sz
      exact Nat.le_trans h2 (by unfold lim; omega)
    · show some _ = some (rowsD (E.map eD) ((k : Int).toNat))
      rw [Int.toNat_natCast]
  · exact (L.eq (by rw [List.length_set, s.len]; decide)).v
theorem rowsE_few (g : Graph n E) {y : List Ed} (h : y ∈ rowsE E) : y.length ≤ 3 := by
  have h1 : tE y ∈ (List.range 4).flatMap fun k => rowsD (E.map eD) k := by
    rw [rowsE_D g.ri]
    exact List.mem_map.mpr ⟨y, h, rfl⟩
  obtain ⟨k, hk, hy⟩ := List.mem_flatMap.mp h1
  obtain ⟨own, e, hl, _⟩ := rows_row hy
  have e' : y.map eD = own := D.tup.inj e
  rw [← e', List.length_map] at hl
  have := List.mem_range.mp hk
  omega
theorem rowsE_len (g : Graph n E) : (rowsE E).length ≤ 4 * 512 := by
  have := rows_len4 g
  rw [rowsE_D g.ri, List.length_map] at this
  exact this
theorem dMul_ok2 {i m : Int} (h : smallI i = true) : dMul (.int i) (.int m) = some (.int (i * m)) := if_pos (by rw [h, Bool.true_or])
theorem c6_ok (s : St ρ o) (g : Graph n E) (h11 : L ρ 11 (.lst ((rowsE E).map tE))) : c6 ρ = .ok .nx (ρ.set 12 (some (.p (.lst ((fineE E).map tE))))) := by
  unfold c6
  refine asg_ok (i := 12) (d := .lst ((fineE E).map tE)) ?_
  have ef : ((rowsE E).map tE).filter (fun d => okR (unT d)) = (fineE E).map tE := by
    rw [List.filter_map]
    unfold fineE
    congr 2
    funext y
    show okR (unT (tE y)) = okR y
    rw [unT_tE]
  rw [← ef]
  have e := lc1 (v := 7) (ρ := ρ) (it := itm (vr 11)) (t := tsb (cmp dEq (op1 dLenSet (lc2 [13, 9] [9] (itm (vr 7)) (gN 13) (Fe.ret true) (itm (vr 13)) (gN 9) (Fe.ret true) (vr 9))) (op2 dMul (Fe.ret (.int 2)) (op1 dLen (vr 7))))) (e := vr 7) (l := (rowsE E).map tE) (fun d => okR (unT d)) id (ev_itm h11.v rfl) (s.pu 7 (by decide)) (by rw [s.len]; decide) (fun x hx => ?_) (fun x _ _ => (L.eq (by rw [s.len]; decide)).v) (by rw [List.length_map]; exact Nat.le_trans (rowsE_len g) (by unfold lim; omega))
  · rw [List.map_id] at e
    exact e
  · obtain ⟨y, hy, rfl⟩ := List.mem_map.mp hx
    rw [unT_tE]
    have hyl := rowsE_few g hy
    have s' := s.set (i := 7) (d := tE y) (by decide)
    obtain ⟨ρ', hρ'⟩ : ∃ r, r = ρ.set 7 (some (.p (tE y))) := ⟨_, rfl⟩
    have l7 : L ρ' 7 (tE y) := by rw [hρ']; exact .eq (by rw [s.len]; decide)
    rw [← hρ'] at s' ⊢
    have hul : (usedI y).length ≤ 6 := by rw [used_len]; omega
    have ek : (usedI y).map D.int = (y.map eD).flatMap fun x => (((fun x => match x with | D.tup l => l | _ => []) x).filter ((fun _ _ => true) x)).map ((fun (_ z : D) => z) x) := by
      unfold usedI
      rw [map_flat, List.flatMap_map]
      exact flat_congr' fun p _ => rfl
    have hlen : ((usedI y).map D.int).length ≤ 6 := by rw [List.length_map]; exact hul
    rw [ek] at hlen
    have e2 := lc21 (v := 13) (w := 9) (ρ := ρ') (it := itm (vr 7)) (it1 := itm (vr 13)) (t := Fe.ret true) (e := vr 9) (l := y.map eD) (fun x => match x with | D.tup l => l | _ => []) (fun _ _ => true) (fun (_ z : D) => z) (ev_itm l7.v rfl) (s'.pu 13 (by decide)) (s'.pu 9 (by decide)) (by rw [s'.len]; decide) (by rw [s'.len]; decide) (by decide) (fun x hx => by
      obtain ⟨p, _, rfl⟩ := List.mem_map.mp hx
      exact ev_itm (L.v (L.eq (by rw [List.length_set, s'.len]; decide))) rfl) (fun _ _ _ _ => rfl) (fun x _ z _ _ => L.v (L.eq (by rw [List.length_set, s'.len]; decide))) (Nat.le_trans hlen (by unfold lim; omega))
    rw [← ek] at e2
    have e3 : dLenSet (.lst ((usedI y).map .int)) = some (.int ((sortI (usedI y)).length : Nat)) := by
      unfold dLenSet
      dsimp only
      rw [if_pos (by rw [List.length_map]; omega), intsOf_mapE]; rfl
    have e4 : op1 dLen (vr 7) ρ' = .ok (.int y.length) ρ' := len_at l7
    have e5 : dMul (.int 2) (.int y.length) = some (.int (2 * y.length)) := dMul_ok2 (small_of (m := 2) (by omega))
    refine ok_cmp (ok_op1 e2 e3) (ok_op2 ret_ap e4 e5) ?_
    rw [dEq_int]
    congr 1
    unfold okR
    rw [Bool.eq_iff_iff, beq_iff_eq, beq_iff_eq]
    omega
theorem c7_ok (s : St ρ o) (g : Graph n E) {M : Nat} (hM : ∀ y ∈ fineE E, y.length ≤ M) (hM2 : ∃ y ∈ fineE E, y.length = M) (h12 : L ρ 12 (.lst ((fineE E).map tE))) : c7 ρ = .ok .nx (ρ.set 14 (some (.p (.int M)))) := by
  unfold c7
  refine asg_ok (i := 14) (d := .int M) ?_
  have hfl : (fineE E).length ≤ 4 * 512 := Nat.le_trans (List.length_filter_le _ _) (rowsE_len g)
  have e := lc1T (v := 7) (ρ := ρ) (it := itm (vr 12)) (e := op1 dLen (vr 7)) (l := (fineE E).map tE) (fun d => .int (unT d).length) (ev_itm h12.v rfl) (s.pu 7 (by decide)) (by rw [s.len]; decide) (fun x hx => by
    obtain ⟨y, _, rfl⟩ := List.mem_map.mp hx
    show _ = R.ok (D.int ((unT (tE y)).length : Nat)) _
    rw [unT_tE]
    exact len_at (L.eq (by rw [s.len]; decide))) (by rw [List.length_map]; exact Nat.le_trans hfl (by unfold lim; omega))
  have em : ((fineE E).map tE).map (fun d => D.int (unT d).length) = ((fineE E).map fun y => (y.length : Int)).map .int := by
    rw [List.map_map, List.map_map]
    refine List.map_congr_left fun y _ => ?_
    show D.int ((unT (tE y)).length : Nat) = _
    rw [unT_tE]; rfl
  rw [em] at e
  refine ok_op1 e ?_
  show (intsOf _).bind _ = _
  rw [intsOf_mapE]
  obtain ⟨y, hy, hyM⟩ := hM2
  have m1 : (M : Int) ∈ (fineE E).map fun y => (y.length : Int) := List.mem_map.mpr ⟨y, hy, by rw [hyM]⟩
  have m2 : ∀ z ∈ (fineE E).map fun y => (y.length : Int), z ≤ M := fun z hz => by
    obtain ⟨y, hy, rfl⟩ := List.mem_map.mp hz
    have := hM y hy
    omega
  cases hc : (fineE E).map fun y => (y.length : Int) with
  | nil => rw [hc] at m1; exact absurd m1 List.not_mem_nil
  | cons a r =>
    rw [hc] at m1 m2
    show some (D.int (greatest a r)) = _
    rw [greatest_eq m2 m1]
theorem c8_ok (s : St ρ o) (g : Graph n E) {M : Nat} (hd : ((fineE E).filter fun y => y.length == M).head? = some ((pre ([], E)).foldl better [])) (h3 : L ρ 3 (.int n)) (h4 : L ρ 4 (tE E)) (h12 : L ρ 12 (.lst ((fineE E).map tE))) (h14 : L ρ 14 (.int M)) : c8 ρ = .ok .nx ρ := by
  have hfl : (fineE E).length ≤ 4 * 512 := Nat.le_trans (List.length_filter_le _ _) (rowsE_len g)
  have e := lc1 (v := 7) (ρ := ρ) (it := itm (vr 12)) (t := tsb (cmp dEq (op1 dLen (vr 7)) (vr 14))) (e := vr 7) (l := (fineE E).map tE) (fun d => (unT d).length == M) id (ev_itm h12.v rfl) (s.pu 7 (by decide)) (by rw [s.len]; decide) (fun x hx => by
    obtain ⟨y, _, rfl⟩ := List.mem_map.mp hx
    show _ = R.ok ((unT (tE y)).length == M) _
    rw [unT_tE]
    refine ok_cmp (len_at (L.eq (by rw [s.len]; decide))) (h14.ne (by decide)).v ?_
    rw [dEq_int]
    congr 1
    rw [Bool.eq_iff_iff, beq_iff_eq, beq_iff_eq]
    omega) (fun x _ _ => (L.eq (by rw [s.len]; decide)).v) (by rw [List.length_map]; exact Nat.le_trans hfl (by unfold lim; omega))
  have ef : ((fineE E).map tE).filter (fun d => (unT d).length == M) = ((fineE E).filter fun y => y.length == M).map tE := by
    rw [List.filter_map]
    congr 2
    funext y
    show ((unT (tE y)).length == M) = _
    rw [unT_tE]
  rw [List.map_id, ef] at e
  have hb : ((pre ([], E)).foldl better []).length ≤ 1000 := by
    have h1 := List.mem_of_mem_head? (a := (pre ([], E)).foldl better []) (l := (fineE E).filter fun y => y.length == M) (by rw [hd]; rfl)
    have h2 := rowsE_few g (List.mem_filter.mp (List.mem_filter.mp h1).1).1
    omega
  have ei : op2 dIx (lc [7] (itm (vr 12)) (gN 7) (tsb (cmp dEq (op1 dLen (vr 7)) (vr 14))) (vr 7)) (Fe.ret (.int 0)) ρ = .ok (tE ((pre ([], E)).foldl better [])) ρ := ok_op2 e ret_ap (head_ix (by rw [List.head?_map, hd]; rfl))
  have a1 : cl f_most_apart (consA (vr 3) (consA (vr 4) nilA)) ρ = .ok (tE ((pre ([], E)).foldl better [])) ρ := ev_cl (ev_cons h3.v (ev_cons h4.v nilA_ap)) (most_apart g)
  unfold c8
  exact no_iff (ev_not (k := true) (ev_tst (ev_cl (ev_cons a1 (ev_cons ei nilA_ap)) (alike_tE hb)) rfl))
/-! ### judged values -/
abbrev inV : S := (seq (asg (clo f__law_pick 1 (consA (vr 5) nilA)) (gN 16)) (seq (iff (tsb (cmp dIsNot (clk f_is_cover 2 1 (consA (vr 3) (consA (vr 4) nilA)) (consA (vr 16) nilA)) (cmp dIn (vr 16) (vr 8)))) (rtn (Fe.ret (.bl false))) sNx) (iff (tsb (cmp dIsNot (clk f_is_stable 2 1 (consA (vr 3) (consA (vr 4) nilA)) (consA (vr 16) nilA)) (cmp dEq (lc [9, 10] (itm (vr 4)) (gT 2 (gCons (gN 9) (gCons (gN 10) gNil))) (andT (tsb (cmp dIn (vr 9) (vr 16))) (tsb (cmp dIn (vr 10) (vr 16)))) (Fe.ret (.int 1))) (lstE nilA)))) (rtn (Fe.ret (.bl false))) sNx)))
theorem both_any {s : List Int} : both E s = E.any fun p => decide (p.1 ∈ s) && decide (p.2 ∈ s) := rfl
theorem dIn_covers (g : Graph n E) {w : List Int} (hx : rt w ∈ everyD n) : dIn (rt w) (.lst ((everyD n).filter (covD E))) = some (cov E w) := by
  have nc : ∀ d ∈ (everyD n).filter (covD E), nice 1 d := fun d hd => by
    obtain ⟨s, rfl, _⟩ := every_rt (List.mem_filter.mp hd).1
    exact nice_ints
  have nw : nice 1 (rt w) := nice_ints
  unfold dIn
  dsimp only
  rw [if_pos ⟨Nat.le_trans nw.1 (by decide), Nat.lt_of_le_of_lt (deps_le fun d hd => (nc d hd).1) (by decide), nw.2, lays_of fun d hd => (nc d hd).2⟩]
  congr 1
  rw [Bool.eq_iff_iff, List.any_eq_true, ← covD_rt]
  constructor
  · rintro ⟨d, hd, e⟩
    obtain ⟨h1, h2⟩ := List.mem_filter.mp hd
    obtain ⟨s, rfl, _⟩ := every_rt h1
    have : s = w := (eqvs_int s w).mp e
    rw [← this]; exact h2
  · intro h
    exact ⟨rt w, List.mem_filter.mpr ⟨hx, h⟩, eqv_refl _⟩
theorem value_turn {ns : List Int} (s : St ρ o) (hr : Row (ns.map .int) o) (g : Graph n E) (h3 : L ρ 3 (.int n)) (h4 : L ρ 4 (tE E)) (h5 : L ρ 5 (.lst (everyD n))) (h8 : L ρ 8 (.lst ((everyD n).filter (covD E)))) :
    ∃ ρ' o', inV ρ = .ok .nx ρ' ∧ St ρ' o' ∧ Row (ns.map .int) o' ∧ L ρ' 3 (.int n) ∧ L ρ' 4 (tE E) ∧ L ρ' 5 (.lst (everyD n)) ∧ L ρ' 8 (.lst ((everyD n).filter (covD E))) := by
  obtain ⟨w0, hw0⟩ := has_cover g
  obtain ⟨d, o', e, hr', hd⟩ := pick (l := everyD n) hr (fun z => by rw [z] at hw0; cases hw0) (every_len g.hi)
  obtain ⟨w, rfl, rw'⟩ := every_rise g.hi hd
  have e1 : asg (clo f__law_pick 1 (consA (vr 5) nilA)) (gN 16) ρ = .ok .nx ((ρ.set 1 (some (.o o'))).set 16 (some (.p (rt w)))) := by
    have ec := clo_ok (i := 1) (f := f__law_pick) (a := consA (vr 5) nilA) (ρ := ρ) s.row (ev_cons h5.v nilA_ap) e
    exact asg_ok (i := 16) ec
  have s' := (s.draw (o' := o')).set (i := 16) (d := rt w) (by decide)
  obtain ⟨ρ', hρ'⟩ : ∃ r, r = (ρ.set 1 (some (.o o'))).set 16 (some (.p (rt w))) := ⟨_, rfl⟩
  have l3 : L ρ' 3 (.int n) := by rw [hρ']; exact (h3.ne (by decide)).ne (by decide)
  have l4 : L ρ' 4 (tE E) := by rw [hρ']; exact (h4.ne (by decide)).ne (by decide)
  have l5 : L ρ' 5 (.lst (everyD n)) := by rw [hρ']; exact (h5.ne (by decide)).ne (by decide)
  have l8 : L ρ' 8 (.lst ((everyD n).filter (covD E))) := by rw [hρ']; exact (h8.ne (by decide)).ne (by decide)
  have l16 : L ρ' 16 (rt w) := by rw [hρ']; exact .eq (by rw [List.length_set, s.len]; decide)
  rw [← hρ'] at s' e1
  refine ⟨ρ', o', ?_, s', hr', l3, l4, l5, l8⟩
  have a1 : clk f_is_cover 2 1 (consA (vr 3) (consA (vr 4) nilA)) (consA (vr 16) nilA) ρ' = .ok (.bl (cov E w)) ρ' := ev_clk (ev_cons l3.v (ev_cons l4.v nilA_ap)) (ev_cons l16.v nilA_ap) rfl rfl (is_cover g rw')
  have a2 : clk f_is_stable 2 1 (consA (vr 3) (consA (vr 4) nilA)) (consA (vr 16) nilA) ρ' = .ok (.bl (!both E w)) ρ' := ev_clk (ev_cons l3.v (ev_cons l4.v nilA_ap)) (ev_cons l16.v nilA_ap) rfl rfl (is_stable g rw')
  have b1 : cmp dIn (vr 16) (vr 8) ρ' = .ok (.bl (cov E w)) ρ' := ev_cmp l16.v l8.v (dIn_covers g hd)
  have b2 := none_lc (ρ := ρ') (E := E) (by have := g.sz; omega) l4 s'.len (s'.pu 9 (by decide)) (s'.pu 10 (by decide)) (T := andT (tsb (cmp dIn (vr 9) (vr 16))) (tsb (cmp dIn (vr 10) (vr 16)))) (q := fun p => decide (p.1 ∈ w) && decide (p.2 ∈ w)) (fun p _ => by
    have l7 : L ((ρ'.set 9 (some (.p (.int p.1)))).set 10 (some (.p (.int p.2)))) 16 (rt w) := (l16.ne (by decide)).ne (by decide)
    have l9 : L ((ρ'.set 9 (some (.p (.int p.1)))).set 10 (some (.p (.int p.2)))) 9 (.int p.1) := (L.eq (by rw [s'.len]; decide)).ne (by decide)
    have l10 : L ((ρ'.set 9 (some (.p (.int p.1)))).set 10 (some (.p (.int p.2)))) 10 (.int p.2) := L.eq (by rw [List.length_set, s'.len]; decide)
    exact ev_and (ev_in l9 l7 (dIn_ints _ _)) (ev_in l10 l7 (dIn_ints _ _)))
  rw [← both_any] at b2
  have nn : ∀ k : Bool, dIsNot (.bl k) (.bl k) = some false := fun k => by cases k <;> rfl
  unfold inV
  rw [seq_nx e1, seq_nx (no_iff (ok_cmp a1 b1 (nn _)))]
  exact no_iff (ok_cmp a2 b2 (nn _))
theorem value_run {ns : List Int} (g : Graph n E) : ∀ (l : List D) (ρ : Env) (o : D), St ρ o → Row (ns.map .int) o → L ρ 3 (.int n) → L ρ 4 (tE E) → L ρ 5 (.lst (everyD n)) → L ρ 8 (.lst ((everyD n).filter (covD E))) →
    ∃ ρ' o', forL (fun x => bnd (gN 15 x) fun _ => inV) l ρ = .ok .nx ρ' ∧ St ρ' o' ∧ Row (ns.map .int) o' ∧ L ρ' 3 (.int n) ∧ L ρ' 4 (tE E)
  | [], ρ, o, s, hr, h3, h4, _, _ => ⟨ρ, o, rfl, s, hr, h3, h4⟩
  | x :: l, ρ, o, s, hr, h3, h4, h5, h8 => by
    obtain ⟨ρ1, o1, e1, s1, hr1, k3, k4, k5, k8⟩ := value_turn (s.set (i := 15) (d := x) (by decide)) hr g (h3.ne (by decide)) (h4.ne (by decide)) (h5.ne (by decide)) (h8.ne (by decide))
    obtain ⟨ρ', o', e', r⟩ := value_run g l ρ1 o1 s1 hr1 k3 k4 k5 k8
    refine ⟨ρ', o', ?_, r⟩
    have e2 : (bnd (gN 15 x) fun _ => inV) ρ = .ok .nx ρ1 := by rw [ok_bnd gN_ap]; exact e1
    rw [forL_nx e2, e']
end K05
set_option Elab.async false
set_option linter.all false
set_option maxRecDepth 100000
set_option maxHeartbeats 1000000
namespace K05
open PySem (Str)
open Fe
variable {n : Nat} {E : List Ed} {ρ : Env} {o : D}
theorem c9_ok {ns : List Int} (s : St ρ o) (hr : Row (ns.map .int) o) (g : Graph n E) (h3 : L ρ 3 (.int n)) (h4 : L ρ 4 (tE E)) (h5 : L ρ 5 (.lst (everyD n))) (h8 : L ρ 8 (.lst ((everyD n).filter (covD E)))) :
    ∃ ρ' o', c9 ρ = .ok .nx ρ' ∧ St ρ' o' ∧ Row (ns.map .int) o' ∧ L ρ' 3 (.int n) ∧ L ρ' 4 (tE E) := by
  obtain ⟨ρ', o', e, r⟩ := value_run g (rng 0 ((4 : Nat) : Int)) ρ o s hr h3 h4 h5 h8
  refine ⟨ρ', o', ?_, r⟩
  have ei : rg1 (Fe.ret (.int 4)) ρ = .ok (rng 0 ((4 : Nat) : Int)) ρ := ev_rg1 ret_ap (by omega)
  unfold inV at e
  unfold c9
  exact for_ok ei e
/-! ### values that are no rows -/
def odds (n : Int) : List D := [.non, .lst [], .tup [.int n], .tup [.int 0, .int 0], .tup [.bl true], .tup [.int (-1)]]
theorem c10_ok (h3 : L ρ 3 (.int n)) : c10 ρ = .ok .nx (ρ.set 17 (some (.p (.lst (odds n))))) := by
  unfold c10
  refine asg_ok (i := 17) (d := .lst (odds n)) ?_
  refine ev_lst (ev_cons ret_ap (ev_cons (ev_lst nilA_ap (Nat.zero_le _)) (ev_cons (ev_tup (ev_cons h3.v nilA_ap) (show 1 ≤ 1000 by omega)) (ev_cons (ev_tup (ev_cons ret_ap (ev_cons ret_ap nilA_ap)) (show 2 ≤ 1000 by omega)) (ev_cons (ev_tup (ev_cons ret_ap nilA_ap) (show 1 ≤ 1000 by omega)) (ev_cons (ev_tup (ev_cons (ok_op1 ret_ap rfl) nilA_ap) (show 1 ≤ 1000 by omega)) nilA_ap)))))) (show 6 ≤ 1000 by omega)
theorem odd_rising (g : Graph n E) {v : D} (h : v ∈ odds n) : f_is_rising [v, .int 0, .int (n - 1)] = .ok (.bl false) := by
  have h1 := g.lo
  have one : ∀ (d : D) (l : List D), D.tup [d] = .tup l → l.length ≤ lim := fun d l e => by
    rw [← D.tup.inj e]
    show 1 ≤ lim
    unfold lim
    omega
  simp only [odds, List.mem_cons, List.not_mem_nil, or_false] at h
  rcases h with rfl | rfl | rfl | rfl | rfl | rfl
  · exact not_rising (fun l e => by cases e) rfl
  · exact not_rising (fun l e => by cases e) rfl
  · refine not_rising (one _) ?_
    show (whole (.int n) 0 (n - 1) && true) = false
    have : whole (.int n) 0 (n - 1) = false := by unfold whole; simp; omega
    rw [this]; rfl
  · exact not_rising00 (by omega) (by omega)
  · exact not_rising (one _) rfl
  · refine not_rising (one _) ?_
    show (whole (.int (-1)) 0 (n - 1) && true) = false
    have : whole (.int (-1)) 0 (n - 1) = false := by unfold whole; simp
    rw [this]; rfl
theorem c11_ok (s : St ρ o) (g : Graph n E) (h3 : L ρ 3 (.int n)) (h4 : L ρ 4 (tE E)) (h17 : L ρ 17 (.lst (odds n))) : c11 ρ = .ok .nx ρ := by
  have e := lc1 (v := 7) (ρ := ρ) (it := itm (vr 17)) (t := orT (tst (cl f_is_cover (consA (vr 3) (consA (vr 4) (consA (vr 7) nilA))))) (tst (cl f_is_stable (consA (vr 3) (consA (vr 4) (consA (vr 7) nilA)))))) (e := vr 7) (l := odds n) (fun _ => false) id (ev_itm h17.v rfl) (s.pu 7 (by decide)) (by rw [s.len]; decide) (fun x hx => by
    have k3 : L (ρ.set 7 (some (.p x))) 3 (.int n) := h3.ne (by decide)
    have k4 : L (ρ.set 7 (some (.p x))) 4 (tE E) := h4.ne (by decide)
    have k7 : L (ρ.set 7 (some (.p x))) 7 x := .eq (by rw [s.len]; decide)
    have hr := odd_rising g hx
    exact ev_or (ev_tst (ev_cl (ev_cons k3.v (ev_cons k4.v (ev_cons k7.v nilA_ap))) (not_cover g hr)) rfl) (ev_tst (ev_cl (ev_cons k3.v (ev_cons k4.v (ev_cons k7.v nilA_ap))) (not_stable g hr)) rfl)) (fun _ _ h => absurd h Bool.noConfusion) (by show 6 ≤ lim; unfold lim; omega)
  rw [List.filter_eq_nil_iff.mpr (fun _ _ => Bool.noConfusion), List.map_nil] at e
  unfold c11
  exact no_iff (ok_cmp e (ev_lst nilA_ap (Nat.zero_le _)) rfl)
theorem c12_ok {ns : List Int} (s : St ρ o) (hr : Row (ns.map .int) o) (h3 : L ρ 3 (.int n)) : ∃ (v : D) (o' : D), c12 ρ = .ok .nx ((ρ.set 1 (some (.o o'))).set 18 (some (.p v))) ∧ Row (ns.map .int) o' ∧ v ∈ bads n := by
  obtain ⟨v, o', e, hr', hv⟩ := pick (l := bads n) hr (by unfold bads; exact List.cons_ne_nil _ _) (by show 7 ≤ 1000; omega)
  refine ⟨v, o', ?_, hr', hv⟩
  unfold c12
  have p1 : ∀ {a : M D} {x : D}, a ρ = .ok x ρ → tupE (consA a nilA) ρ = .ok (.tup [x]) ρ := fun h => ev_tup (ev_cons h nilA_ap) (show 1 ≤ 1000 by omega)
  have p2' : ∀ {a b : M D} {x y : D}, a ρ = .ok x ρ → b ρ = .ok y ρ → tupE (consA a (consA b nilA)) ρ = .ok (.tup [x, y]) ρ := fun h k => ev_tup (ev_cons h (ev_cons k nilA_ap)) (show 2 ≤ 1000 by omega)
  have p3 : ∀ {a b c : M D} {x y z : D}, a ρ = .ok x ρ → b ρ = .ok y ρ → c ρ = .ok z ρ → tupE (consA a (consA b (consA c nilA))) ρ = .ok (.tup [x, y, z]) ρ := fun h k m => ev_tup (ev_cons h (ev_cons k (ev_cons m nilA_ap))) (show 3 ≤ 1000 by omega)
  have q1 : ∀ {a : M D} {x : D}, a ρ = .ok x ρ → lstE (consA a nilA) ρ = .ok (.lst [x]) ρ := fun h => ev_lst (ev_cons h nilA_ap) (show 1 ≤ 1000 by omega)
  have el : consA (lstE (consA (Fe.ret .non) (consA (lstE (consA (tupE (consA (Fe.ret (.int 0)) (consA (Fe.ret (.int 1)) nilA))) nilA)) (consA (tupE (consA (tupE (consA (Fe.ret (.int 1)) (consA (Fe.ret (.int 0)) nilA))) nilA)) (consA (tupE (consA (tupE (consA (Fe.ret (.int 0)) (consA (vr 3) nilA))) nilA)) (consA (tupE (consA (tupE (consA (Fe.ret (.int 0)) (consA (Fe.ret (.int 0)) nilA))) nilA)) (consA (tupE (consA (tupE (consA (Fe.ret (.int 0)) (consA (Fe.ret (.int 1)) (consA (Fe.ret (.int 2)) nilA)))) nilA)) (consA (tupE (consA (tupE (consA (Fe.ret (.bl true)) (consA (Fe.ret (.int 1)) nilA))) nilA)) nilA)))))))) nilA ρ = .ok [.lst (bads n)] ρ :=
    ev_cons (ev_lst (ev_cons ret_ap (ev_cons (q1 (p2' ret_ap ret_ap)) (ev_cons (p1 (p2' ret_ap ret_ap)) (ev_cons (p1 (p2' ret_ap h3.v)) (ev_cons (p1 (p2' ret_ap ret_ap)) (ev_cons (p1 (p3 ret_ap ret_ap ret_ap)) (ev_cons (p1 (p2' ret_ap ret_ap)) nilA_ap))))))) (show 7 ≤ 1000 by omega)) nilA_ap
  have ec := clo_ok (i := 1) (f := f__law_pick) (ρ := ρ) s.row el e
  exact asg_ok (i := 18) ec
theorem ev_ref {e : M D} {d : D} (h : e ρ = .ex ⟨"BadArgument", [("name", d)]⟩ ρ) : refused "BadArgument" "name" e ρ = .ok d ρ := by
  unfold refused
  rw [h]
  dsimp only
  rw [if_pos rfl, List.lookup_cons, beq_self_eq_true]
/-- an error in a line goes on -/
theorem ex_drp {e : M D} {x : Ex} (h : e ρ = .ex x ρ) : drp e ρ = .ex x ρ := by rw [drp_ap, ex_bnd h]
theorem cover_ex (g : Graph n E) {v : D} (h : v ∈ bads n) : f_first_cover [.int n, v] = .ex ⟨"BadArgument", [("name", .str "edges")]⟩ := by
  have e := need_graph_e g h
  refine run_ex (ρ1 := [some (.p (.int n)), some (.p v), none, none, none, none]) rfl ?_
  show b_first_cover [some (.p (.int n)), some (.p v), none, none, none, none] = _
  unfold b_first_cover
  exact seq_ex (ex_drp (ev_clx (ds := [.int n, v, .int 12]) rfl e))
theorem apart_ex (g : Graph n E) {v : D} (h : v ∈ bads n) : f_most_apart [.int n, v] = .ex ⟨"BadArgument", [("name", .str "edges")]⟩ := by
  have e := need_graph_e g h
  refine run_ex (ρ1 := [some (.p (.int n)), some (.p v), none, none, none, none, none, none, none, none]) rfl ?_
  show b_most_apart [some (.p (.int n)), some (.p v), none, none, none, none, none, none, none, none] = _
  unfold b_most_apart
  exact seq_ex (ex_drp (ev_clx (ds := [.int n, v, .int 12]) rfl e))
theorem number_ex : f_cover_number [.int 13, .tup []] = .ex ⟨"BadArgument", [("name", .str "many")]⟩ := by
  have e : f_need_graph [.int 13, .tup [], .int 12] = .ex ⟨"BadArgument", [("name", .str "many")]⟩ := need_graph_m rfl
  have e2 : f_first_cover [.int 13, .tup []] = .ex ⟨"BadArgument", [("name", .str "many")]⟩ := by
    refine run_ex (ρ1 := [some (.p (.int 13)), some (.p (.tup [])), none, none, none, none]) rfl ?_
    show b_first_cover [some (.p (.int 13)), some (.p (.tup [])), none, none, none, none] = _
    unfold b_first_cover
    exact seq_ex (ex_drp (ev_clx (ds := [.int 13, .tup [], .int 12]) rfl e))
  refine run_ex (ρ1 := [some (.p (.int 13)), some (.p (.tup []))]) rfl ?_
  show b_cover_number [some (.p (.int 13)), some (.p (.tup []))] = _
  unfold b_cover_number
  have e3 : cl f_first_cover (consA (vr 0) (consA (vr 1) nilA)) [some (.p (.int 13)), some (.p (.tup []))] = .ex ⟨"BadArgument", [("name", .str "many")]⟩ [some (.p (.int 13)), some (.p (.tup []))] := ev_clx (ds := [.int 13, .tup []]) rfl e2
  have e4 : op1 dLen (cl f_first_cover (consA (vr 0) (consA (vr 1) nilA))) [some (.p (.int 13)), some (.p (.tup []))] = .ex ⟨"BadArgument", [("name", .str "many")]⟩ [some (.p (.int 13)), some (.p (.tup []))] := by rw [op1_ap, ex_bnd e3]
  rw [rtn_ap, ex_bnd e4]
theorem is_cover_ex : f_is_cover [.int 0, .tup [], .tup []] = .ex ⟨"BadArgument", [("name", .str "many")]⟩ := by
  have e : f_need_graph [.int 0, .tup [], .int 12] = .ex ⟨"BadArgument", [("name", .str "many")]⟩ := need_graph_m rfl
  refine run_ex (ρ1 := [some (.p (.int 0)), some (.p (.tup [])), some (.p (.tup [])), none, none]) rfl ?_
  show b_is_cover [some (.p (.int 0)), some (.p (.tup [])), some (.p (.tup [])), none, none] = _
  unfold b_is_cover
  exact seq_ex (ex_drp (ev_clx (ds := [.int 0, .tup [], .int 12]) rfl e))
def toldD : D := .lst [.str "edges", .str "many", .str "many", .str "edges"]
theorem c13_ok (s : St ρ o) (g : Graph n E) {v : D} (hv : v ∈ bads n) (h3 : L ρ 3 (.int n)) (h18 : L ρ 18 v) : c13 ρ = .ok .nx (ρ.set 19 (some (.p toldD))) := by
  have t0 : tupE nilA ρ = .ok (.tup []) ρ := ev_tup nilA_ap (Nat.zero_le _)
  unfold c13
  refine asg_ok (i := 19) (d := toldD) ?_
  exact ev_lst (ev_cons (ev_ref (ev_clx (ev_cons h3.v (ev_cons h18.v nilA_ap)) (cover_ex g hv))) (ev_cons (ev_ref (ev_clx (ev_cons ret_ap (ev_cons t0 nilA_ap)) number_ex)) (ev_cons (ev_ref (ev_clx (ev_cons ret_ap (ev_cons t0 (ev_cons t0 nilA_ap))) is_cover_ex)) (ev_cons (ev_ref (ev_clx (ev_cons h3.v (ev_cons h18.v nilA_ap)) (apart_ex g hv))) nilA_ap)))) (show 4 ≤ 1000 by omega)
theorem told_same : dNe toldD toldD = some false := by
  have h : dEq toldD toldD = some true := by
    unfold dEq
    rw [if_pos (by refine ⟨?_, ?_, ?_, ?_⟩ <;> decide +kernel), eqv_refl]
  unfold dNe
  rw [h]; rfl
theorem c14_ok (h19 : L ρ 19 toldD) : c14 ρ = .ok .nx ρ := by
  unfold c14
  refine no_iff (ok_cmp h19.v (ev_lst (l := [.str "edges", .str "many", .str "many", .str "edges"]) ?_ (show 4 ≤ 1000 by omega)) told_same)
  exact ev_cons ret_ap (ev_cons ret_ap (ev_cons ret_ap (ev_cons ret_ap nilA_ap)))
theorem turn_ok {ns : List Int} (s : St ρ o) (hr : Row (ns.map .int) o) : ∃ ρ' o', bodyL ρ = .ok .nx ρ' ∧ St ρ' o' ∧ Row (ns.map .int) o' := by
  obtain ⟨n, E, o1, e1, hr1, g⟩ := c1_ok s hr
  have s1 := ((s.draw (o' := o1)).set (i := 3) (d := .int n) (by decide)).set (i := 4) (d := tE E) (by decide)
  obtain ⟨ρ1, hρ1⟩ : ∃ r, r = (((ρ.set 1 (some (.o o1))).set 3 (some (.p (.int n)))).set 4 (some (.p (tE E)))) := ⟨_, rfl⟩
  have a3 : L ρ1 3 (.int n) := by rw [hρ1]; exact (L.eq (by rw [List.length_set, s.len]; decide)).ne (by decide)
  have a4 : L ρ1 4 (tE E) := by rw [hρ1]; exact L.eq (by rw [List.length_set, List.length_set, s.len]; decide)
  rw [← hρ1] at e1 s1
  have e2 := c2_ok s1 a3 g.hi
  have s2 := s1.set (i := 5) (d := .lst (everyD n)) (by decide)
  obtain ⟨ρ2, hρ2⟩ : ∃ r, r = ρ1.set 5 (some (.p (.lst (everyD n)))) := ⟨_, rfl⟩
  have b3 : L ρ2 3 (.int n) := by rw [hρ2]; exact a3.ne (by decide)
  have b4 : L ρ2 4 (tE E) := by rw [hρ2]; exact a4.ne (by decide)
  have b5 : L ρ2 5 (.lst (everyD n)) := by rw [hρ2]; exact L.eq (by rw [s1.len]; decide)
  rw [← hρ2] at e2 s2
  have e3 := c3_ok s2 g b4 b5
  have s3 := s2.set (i := 8) (d := .lst ((everyD n).filter (covD E))) (by decide)
  obtain ⟨ρ3, hρ3⟩ : ∃ r, r = ρ2.set 8 (some (.p (.lst ((everyD n).filter (covD E))))) := ⟨_, rfl⟩
  have d3 : L ρ3 3 (.int n) := by rw [hρ3]; exact b3.ne (by decide)
  have d4 : L ρ3 4 (tE E) := by rw [hρ3]; exact b4.ne (by decide)
  have d5 : L ρ3 5 (.lst (everyD n)) := by rw [hρ3]; exact b5.ne (by decide)
  have d8 : L ρ3 8 (.lst ((everyD n).filter (covD E))) := by rw [hρ3]; exact L.eq (by rw [s2.len]; decide)
  rw [← hρ3] at e3 s3
  have e4 := c4_ok s3 g d3 d4 d8
  have e5 := c5_ok s3 g d4
  have s5 := s3.set (i := 11) (d := .lst ((rowsE E).map tE)) (by decide)
  obtain ⟨ρ5, hρ5⟩ : ∃ r, r = ρ3.set 11 (some (.p (.lst ((rowsE E).map tE)))) := ⟨_, rfl⟩
  have f3 : L ρ5 3 (.int n) := by rw [hρ5]; exact d3.ne (by decide)
  have f4 : L ρ5 4 (tE E) := by rw [hρ5]; exact d4.ne (by decide)
  have f5 : L ρ5 5 (.lst (everyD n)) := by rw [hρ5]; exact d5.ne (by decide)
  have f8 : L ρ5 8 (.lst ((everyD n).filter (covD E))) := by rw [hρ5]; exact d8.ne (by decide)
  have f11 : L ρ5 11 (.lst ((rowsE E).map tE)) := by rw [hρ5]; exact L.eq (by rw [s3.len]; decide)
  rw [← hρ5] at e5 s5
  have e6 := c6_ok s5 g f11
  have s6 := s5.set (i := 12) (d := .lst ((fineE E).map tE)) (by decide)
  obtain ⟨ρ6, hρ6⟩ : ∃ r, r = ρ5.set 12 (some (.p (.lst ((fineE E).map tE)))) := ⟨_, rfl⟩
  have g3 : L ρ6 3 (.int n) := by rw [hρ6]; exact f3.ne (by decide)
  have g4 : L ρ6 4 (tE E) := by rw [hρ6]; exact f4.ne (by decide)
  have g5 : L ρ6 5 (.lst (everyD n)) := by rw [hρ6]; exact f5.ne (by decide)
  have g8 : L ρ6 8 (.lst ((everyD n).filter (covD E))) := by rw [hρ6]; exact f8.ne (by decide)
  have g12 : L ρ6 12 (.lst ((fineE E).map tE)) := by rw [hρ6]; exact L.eq (by rw [s5.len]; decide)
  rw [← hρ6] at e6 s6
  obtain ⟨M, hM, hM2, hd⟩ := best_row g
  have e7 := c7_ok s6 g hM hM2 g12
  have s7 := s6.set (i := 14) (d := .int M) (by decide)
  obtain ⟨ρ7, hρ7⟩ : ∃ r, r = ρ6.set 14 (some (.p (.int M))) := ⟨_, rfl⟩
  have i3 : L ρ7 3 (.int n) := by rw [hρ7]; exact g3.ne (by decide)
  have i4 : L ρ7 4 (tE E) := by rw [hρ7]; exact g4.ne (by decide)
  have i5 : L ρ7 5 (.lst (everyD n)) := by rw [hρ7]; exact g5.ne (by decide)
  have i8 : L ρ7 8 (.lst ((everyD n).filter (covD E))) := by rw [hρ7]; exact g8.ne (by decide)
  have i12 : L ρ7 12 (.lst ((fineE E).map tE)) := by rw [hρ7]; exact g12.ne (by decide)
  have i14 : L ρ7 14 (.int M) := by rw [hρ7]; exact L.eq (by rw [s6.len]; decide)
  rw [← hρ7] at e7 s7
  have e8 := c8_ok s7 g hd i3 i4 i12 i14
  obtain ⟨ρ9, o9, e9, s9, hr9, j3, j4⟩ := c9_ok s7 hr1 g i3 i4 i5 i8
  have e10 := c10_ok (ρ := ρ9) j3
  have s10 := s9.set (i := 17) (d := .lst (odds n)) (by decide)
  obtain ⟨ρ10, hρ10⟩ : ∃ r, r = ρ9.set 17 (some (.p (.lst (odds n)))) := ⟨_, rfl⟩
  have k3 : L ρ10 3 (.int n) := by rw [hρ10]; exact j3.ne (by decide)
  have k4 : L ρ10 4 (tE E) := by rw [hρ10]; exact j4.ne (by decide)
  have k17 : L ρ10 17 (.lst (odds n)) := by rw [hρ10]; exact L.eq (by rw [s9.len]; decide)
  rw [← hρ10] at e10 s10
  have e11 := c11_ok s10 g k3 k4 k17
  obtain ⟨v, o12, e12, hr12, hv⟩ := c12_ok s10 hr9 k3
  have s12 := (s10.draw (o' := o12)).set (i := 18) (d := v) (by decide)
  obtain ⟨ρ12, hρ12⟩ : ∃ r, r = (ρ10.set 1 (some (.o o12))).set 18 (some (.p v)) := ⟨_, rfl⟩
  have m3 : L ρ12 3 (.int n) := by rw [hρ12]; exact (k3.ne (by decide)).ne (by decide)
  have m18 : L ρ12 18 v := by rw [hρ12]; exact L.eq (by rw [List.length_set, s10.len]; decide)
  rw [← hρ12] at e12 s12
  have e13 := c13_ok s12 g hv m3 m18
  have s13 := s12.set (i := 19) (d := toldD) (by decide)
  have e14 := c14_ok (ρ := ρ12.set 19 (some (.p toldD))) (L.eq (by rw [s12.len]; decide))
  refine ⟨ρ12.set 19 (some (.p toldD)), o12, ?_, s13, hr12⟩
  unfold bodyL
  rw [seq_nx e1, seq_nx e2, seq_nx e3, seq_nx e4, seq_nx e5, seq_nx e6, seq_nx e7, seq_nx e8, seq_nx e9, seq_nx e10, seq_nx e11, seq_nx e12, seq_nx e13, e14]
theorem law_run {ns : List Int} : ∀ (l : List D) (ρ : Env) (o : D), St ρ o → Row (ns.map .int) o → ∃ ρ', forL (fun x => bnd (gN 2 x) fun _ => bodyL) l ρ = .ok .nx ρ'
  | [], ρ, o, _, _ => ⟨ρ, rfl⟩
  | x :: l, ρ, o, s, hr => by
    obtain ⟨ρ1, o1, e1, s1, hr1⟩ := turn_ok (s.set (i := 2) (d := x) (by decide)) hr
    obtain ⟨ρ', e'⟩ := law_run l ρ1 o1 s1 hr1
    refine ⟨ρ', ?_⟩
    have e2 : (bnd (gN 2 x) fun _ => bodyL) ρ = .ok .nx ρ1 := by rw [ok_bnd gN_ap]; exact e1
    rw [forL_nx e2, e']
theorem b_law_eq : b_law = seq (asgO 1 (lstE (consA (vr 0) (consA (Fe.ret (.int 0)) (consA (Fe.ret (.int 108011)) (consA (Fe.ret (.int 0)) nilA)))))) (seq (forS (rg1 (Fe.ret (.int 5))) (gN 2) bodyL) (rtn (Fe.ret (.bl true)))) := rfl
theorem law_true (ns : List Int) (hl : ns.length ≤ 63) (hz : ∀ z ∈ ns, PySem.Builtin.Int.intBits z ≤ 1048576) : f_law [.lst (ns.map .int)] = .ok (.bl true) := by
  have s1 : asgO 1 (lstE (consA (vr 0) (consA (Fe.ret (.int 0)) (consA (Fe.ret (.int 108011)) (consA (Fe.ret (.int 0)) nilA))))) (start 20 [.lst (ns.map .int)]) = .ok .nx ((start 20 [.lst (ns.map .int)]).set 1 (some (.o (rowD (ns.map .int) 0 108011 0)))) := by
    have el : lstE (consA (vr 0) (consA (Fe.ret (.int 0)) (consA (Fe.ret (.int 108011)) (consA (Fe.ret (.int 0)) nilA)))) (start 20 [.lst (ns.map .int)]) = .ok (rowD (ns.map .int) 0 108011 0) (start 20 [.lst (ns.map .int)]) :=
      ev_lst (ev_cons (vr_at rfl) (ev_cons ret_ap (ev_cons ret_ap (ev_cons ret_ap nilA_ap)))) (show 4 ≤ 1000 by omega)
    rw [asgO_ap, ok_bnd el]; rfl
  have st : St ((start 20 [.lst (ns.map .int)]).set 1 (some (.o (rowD (ns.map .int) 0 108011 0)))) (rowD (ns.map .int) 0 108011 0) := by
    refine ⟨rfl, rfl, fun i hi => ?_⟩
    rw [get_ap, List.getElem?_set_ne (Ne.symm hi)]
    by_cases h20 : i < 20
    · have h : i = 0 ∨ i = 1 ∨ i = 2 ∨ i = 3 ∨ i = 4 ∨ i = 5 ∨ i = 6 ∨ i = 7 ∨ i = 8 ∨ i = 9 ∨ i = 10 ∨ i = 11 ∨ i = 12 ∨ i = 13 ∨ i = 14 ∨ i = 15 ∨ i = 16 ∨ i = 17 ∨ i = 18 ∨ i = 19 := by omega
      rcases h with rfl | rfl | rfl | rfl | rfl | rfl | rfl | rfl | rfl | rfl | rfl | rfl | rfl | rfl | rfl | rfl | rfl | rfl | rfl | rfl <;> rfl
    · rw [List.getElem?_eq_none (by show 20 ≤ i; omega)]; rfl
  obtain ⟨ρ', e⟩ := law_run (ns := ns) (rng 0 ((5 : Nat) : Int)) _ _ st ⟨0, 108011, 0, by omega, rfl⟩
  have ei : rg1 (Fe.ret (.int 5)) ((start 20 [.lst (ns.map .int)]).set 1 (some (.o (rowD (ns.map .int) 0 108011 0)))) = .ok (rng 0 ((5 : Nat) : Int)) ((start 20 [.lst (ns.map .int)]).set 1 (some (.o (rowD (ns.map .int) 0 108011 0)))) := ev_rg1 ret_ap (by omega)
  refine run_rt (ρ1 := ρ') rfl ?_
  rw [b_law_eq, seq_nx s1, seq_nx (for_ok ei e)]
  rfl
end K05
set_option Elab.async false
set_option linter.all false
set_option maxRecDepth 100000
set_option maxHeartbeats 4000000
namespace K05
open PySem PySem.Spec PyProof.Rows L2 Fe
/-! ### the text -/
def topS (i : Nat) : Stmt := PySem.Challenge.pw_ferriedover_k05_whole_covers_and_pairs_a.main.body.getD i (.Pass ⟨0, 0, 0, 0⟩)
abbrev s_is_whole : Stmt := topS 3
theorem sc_is_whole : FnScope ["value", "low", "high"] ["value", "low", "high"] (defScope s_is_whole) := ⟨rfl, rfl, rfl, by decide +kernel, rfl, by decide +kernel, by decide +kernel⟩
abbrev s_are_whole : Stmt := topS 4
theorem sc_are_whole : FnScope ["value", "low", "high", "own"] ["value", "low", "high"] (defScope s_are_whole) := ⟨rfl, rfl, rfl, by decide +kernel, rfl, by decide +kernel, by decide +kernel⟩
abbrev s_is_rising : Stmt := topS 5
theorem sc_is_rising : FnScope ["value", "low", "high"] ["value", "low", "high"] (defScope s_is_rising) := ⟨rfl, rfl, rfl, by decide +kernel, rfl, by decide +kernel, by decide +kernel⟩
abbrev s_need : Stmt := topS 6
theorem sc_need : FnScope ["is_right", "name"] ["is_right", "name"] (defScope s_need) := ⟨rfl, rfl, rfl, by decide +kernel, rfl, by decide +kernel, by decide +kernel⟩
abbrev s_are_edges : Stmt := topS 9
theorem sc_are_edges : FnScope ["value", "many", "own", "one"] ["value", "many"] (defScope s_are_edges) := ⟨rfl, rfl, rfl, by decide +kernel, rfl, by decide +kernel, by decide +kernel⟩
abbrev s_need_graph : Stmt := topS 10
theorem sc_need_graph : FnScope ["many", "edges", "most"] ["many", "edges", "most"] (defScope s_need_graph) := ⟨rfl, rfl, rfl, by decide +kernel, rfl, by decide +kernel, by decide +kernel⟩
abbrev s_is_stable_in : Stmt := topS 11
theorem sc_is_stable_in : FnScope ["edges", "some", "one", "other"] ["edges", "some"] (defScope s_is_stable_in) := ⟨rfl, rfl, rfl, by decide +kernel, rfl, by decide +kernel, by decide +kernel⟩
abbrev s_is_stable : Stmt := topS 12
theorem sc_is_stable : FnScope ["many", "edges", "value"] ["many", "edges", "value"] (defScope s_is_stable) := ⟨rfl, rfl, rfl, by decide +kernel, rfl, by decide +kernel, by decide +kernel⟩
abbrev s_is_cover : Stmt := topS 13
theorem sc_is_cover : FnScope ["many", "edges", "value", "one", "other"] ["many", "edges", "value"] (defScope s_is_cover) := ⟨rfl, rfl, rfl, by decide +kernel, rfl, by decide +kernel, by decide +kernel⟩
abbrev s_rows_of_size : Stmt := topS 14
theorem sc_rows_of_size : FnScope ["many", "size", "found", "turn", "longer", "own", "one"] ["many", "size"] (defScope s_rows_of_size) := ⟨rfl, rfl, rfl, by decide +kernel, rfl, by decide +kernel, by decide +kernel⟩
abbrev s_first_cover : Stmt := topS 15
theorem sc_first_cover : FnScope ["many", "edges", "size", "own", "one", "other"] ["many", "edges"] (defScope s_first_cover) := ⟨rfl, rfl, rfl, by decide +kernel, rfl, by decide +kernel, by decide +kernel⟩
abbrev s_cover_number : Stmt := topS 16
theorem sc_cover_number : FnScope ["many", "edges"] ["many", "edges"] (defScope s_cover_number) := ⟨rfl, rfl, rfl, by decide +kernel, rfl, by decide +kernel, by decide +kernel⟩
abbrev s_most_apart : Stmt := topS 17
theorem sc_most_apart : FnScope ["many", "edges", "best", "line", "own", "at", "used", "place", "one", "other"] ["many", "edges"] (defScope s_most_apart) := ⟨rfl, rfl, rfl, by decide +kernel, rfl, by decide +kernel, by decide +kernel⟩
abbrev s__law_taken : Stmt := topS 19
theorem sc__law_taken : FnScope ["row", "many", "found", "cell"] ["row", "many"] (defScope s__law_taken) := ⟨rfl, rfl, rfl, by decide +kernel, rfl, by decide +kernel, by decide +kernel⟩
abbrev s__law_pick : Stmt := topS 20
theorem sc__law_pick : FnScope ["row", "some"] ["row", "some"] (defScope s__law_pick) := ⟨rfl, rfl, rfl, by decide +kernel, rfl, by decide +kernel, by decide +kernel⟩
abbrev s__law_alike : Stmt := topS 22
theorem sc__law_alike : FnScope ["found", "due", "at"] ["found", "due"] (defScope s__law_alike) := ⟨rfl, rfl, rfl, by decide +kernel, rfl, by decide +kernel, by decide +kernel⟩
abbrev s__law_graph : Stmt := topS 23
theorem sc__law_graph : FnScope ["row", "things", "pairs", "many", "every", "one", "other", "turn"] ["row", "things", "pairs"] (defScope s__law_graph) := ⟨rfl, rfl, rfl, by decide +kernel, rfl, by decide +kernel, by decide +kernel⟩
abbrev s__law_rows : Stmt := topS 24
theorem sc__law_rows : FnScope ["some", "size", "found", "turn", "own", "one"] ["some", "size"] (defScope s__law_rows) := ⟨rfl, rfl, rfl, by decide +kernel, rfl, by decide +kernel, by decide +kernel⟩
abbrev s_law : Stmt := topS 25
theorem sc_law : FnScope ["script", "row", "turn", "many", "edges", "every", "size", "own", "covers", "one", "other", "rows", "fine", "pair", "best", "count", "value", "odd", "bad", "told"] ["script"] (defScope s_law) := ⟨rfl, rfl, rfl, by decide +kernel, rfl, by decide +kernel, by decide +kernel⟩
/-- what the module does not shadow, its constants -/
structure Bt (mg : Str → Option Value) : Prop where
  b_all : mg "all" = none
  b_any : mg "any" = none
  b_bool : mg "bool" = none
  b_int : mg "int" = none
  b_isinstance : mg "isinstance" = none
  b_len : mg "len" = none
  b_list : mg "list" = none
  b_max : mg "max" = none
  b_range : mg "range" = none
  b_set : mg "set" = none
  b_sorted : mg "sorted" = none
  b_str : mg "str" = none
  b_tuple : mg "tuple" = none
  c_MOST_NODES : ∃ t, mg "MOST_NODES" = some (.int (12) t)
section
variable {P : Program} {w : World} {B : Bs} {mg : Str → Option Value} {base : Heap} {f : Addr} {fd : FuncData}
theorem d_is_whole (F0 : Fun B.K "is_whole" "is_whole" s_is_whole f fd) (T : Bt mg)  :
    FnOk P w B.K mg base (L2.CX P w) 2 f fd ["value", "low", "high"] (spF B f_is_whole) := by
  have nd := (sc_is_whole).nd
  exact fn_ok (k := 1) (n := 3) (m := 3) F0 sc_is_whole rfl rfl (by decide) fun cdv A outer s H E c hfx hr =>
    (ss_one (s_ret (e_and (e_isi "int" T.b_isinstance T.b_int (e_var 0) (by decide) (by decide +kernel)) (e_and (e_not (e_isi "bool" T.b_isinstance T.b_bool (e_var 0) (by decide) (by decide +kernel))) (e_one (e_chn op_le op_le rule_le rule_le (e_var 1) (e_var 0) (e_var 2)))))))
theorem d_are_whole (F0 : Fun B.K "are_whole" "are_whole" s_are_whole f fd) (T : Bt mg) (h_is_whole : Df P w B mg base 2 "is_whole" f_is_whole) :
    FnOk P w B.K mg base (L2.CX P w) 3 f fd ["value", "low", "high"] (spF B f_are_whole) := by
  have nd := (sc_are_whole).nd
  exact fn_ok (k := 2) (n := 3) (m := 4) F0 sc_are_whole rfl rfl (by decide) fun cdv A outer s H E c hfx hr =>
    (ss_one (s_ret (e_and (e_isi "tuple" T.b_isinstance T.b_tuple (e_var 0) (by decide) (by decide +kernel)) (e_one (e_all rfl T.b_all (e_lc (own := [(("own" : Str), 3)]) rfl nd (blkOk_by rfl) (by decide) nx_name (i_seq (e_var 0)) (fun _ _ _ _ _ _ => (g_name 3 nd)) (fun _ _ _ _ _ => ts_nil) (fun _ _ _ _ _ _ => (e_call h_is_whole rfl hr (by decide) L2.takes0 (a_cons (e_var 3) (a_cons (e_var 1) (a_cons (e_var 2) a_nil)))))))))))
theorem d_is_rising (F0 : Fun B.K "is_rising" "is_rising" s_is_rising f fd) (T : Bt mg) (h_are_whole : Df P w B mg base 3 "are_whole" f_are_whole) :
    FnOk P w B.K mg base (L2.CX P w) 4 f fd ["value", "low", "high"] (spF B f_is_rising) := by
  have nd := (sc_is_rising).nd
  exact fn_ok (k := 3) (n := 3) (m := 3) F0 sc_is_rising rfl rfl (by decide) fun cdv A outer s H E c hfx hr =>
    (ss_one (s_ret (e_and (e_call h_are_whole rfl hr (by decide) tk_def (a_cons (e_var 0) (a_cons (e_var 1) (a_cons (e_var 2) a_nil)))) (e_one (e_eq hr (e_listC T.b_list (e_var 0)) (e_sortSet rfl hr T.b_sorted T.b_set (e_var 0)))))))
theorem d_need (F0 : Fun B.K "need" "need" s_need f fd) (T : Bt mg) {C : Addr} (XC : XCls P w B mg base 1 "BadArgument" ["name"] C) :
    FnOk P w B.K mg base (L2.CX P w) 3 f fd ["is_right", "name"] (spF B f_need) := by
  have nd := (sc_need).nd
  exact fn_ok (k := 2) (n := 2) (m := 2) F0 sc_need rfl rfl (by decide) fun cdv A outer s H E c hfx hr =>
    (ss_one (s_if (t_not (t_tr (e_var 0))) (ss_one (s_raise XC rfl rfl tk_def hr (by decide) (a_cons (e_var 1) a_nil) rfl (by decide))) ss_nil))
theorem d_are_edges (F0 : Fun B.K "are_edges" "are_edges" s_are_edges f fd) (T : Bt mg) (h_is_whole : Df P w B mg base 2 "is_whole" f_is_whole) :
    FnOk P w B.K mg base (L2.CX P w) 3 f fd ["value", "many"] (spF B f_are_edges) := by
  have nd := (sc_are_edges).nd
  exact fn_ok (k := 2) (n := 2) (m := 4) F0 sc_are_edges rfl rfl (by decide) fun cdv A outer s H E c hfx hr =>
    (ss_cons (s_if (t_not (t_tr (e_isi "tuple" T.b_isinstance T.b_tuple (e_var 0) (by decide) (by decide +kernel)))) (ss_one (s_ret e_bl)) ss_nil)
    (ss_cons (s_for po_def rfl (i_seq (e_var 0)) (g_name 2 nd) nx_name
      (ss_cons (s_if (PW.pt (w_or (t_not (t_tr (e_isi "tuple" T.b_isinstance T.b_tuple (e_var 2) (by decide) (by decide +kernel)))) (w_or (t_ne hr (e_len T.b_len (e_var 2)) e_int) (w_or1 (t_not (t_tr (e_all rfl T.b_all (e_lc (own := [(("one" : Str), 3)]) rfl nd (blkOk_by rfl) (by decide) nx_name (i_seq (e_var 2)) (fun _ _ _ _ _ _ => (g_name 3 nd)) (fun _ _ _ _ _ => ts_nil) (fun _ _ _ _ _ _ => (e_call h_is_whole rfl hr (by decide) L2.takes0 (a_cons (e_var 3) (a_cons e_int (a_cons (e_sub (e_var 1) e_int) a_nil))))))))))))) (ss_one (s_ret e_bl)) ss_nil)
    (ss_one (s_if (t_ge (e_ix (e_var 2) e_int) (e_ix (e_var 2) e_int)) (ss_one (s_ret e_bl)) ss_nil))))
    (ss_one (s_ret (e_eq hr (e_listC T.b_list (e_var 0)) (e_sortSet rfl hr T.b_sorted T.b_set (e_var 0)))))))
theorem d_need_graph (F0 : Fun B.K "need_graph" "need_graph" s_need_graph f fd) (T : Bt mg) (h_need : Df P w B mg base 3 "need" f_need) (h_is_whole : Df P w B mg base 2 "is_whole" f_is_whole) (h_are_edges : Df P w B mg base 3 "are_edges" f_are_edges) :
    FnOk P w B.K mg base (L2.CX P w) 4 f fd ["many", "edges", "most"] (spF B f_need_graph) := by
  have nd := (sc_need_graph).nd
  exact fn_ok (k := 3) (n := 3) (m := 3) F0 sc_need_graph rfl rfl (by decide) fun cdv A outer s H E c hfx hr =>
    (ss_cons (s_drp (e_call h_need rfl hr (by decide) tk_def (a_cons (e_call h_is_whole rfl hr (by decide) tk_def (a_cons (e_var 0) (a_cons e_int (a_cons (e_var 2) a_nil)))) (a_cons e_str a_nil))))
    (ss_one (s_drp (e_call h_need rfl hr (by decide) tk_def (a_cons (e_call h_are_edges rfl hr (by decide) tk_def (a_cons (e_var 1) (a_cons (e_var 0) a_nil))) (a_cons e_str a_nil))))))
theorem d_is_stable_in (F0 : Fun B.K "is_stable_in" "is_stable_in" s_is_stable_in f fd) (T : Bt mg)  :
    FnOk P w B.K mg base (L2.CX P w) 2 f fd ["edges", "some"] (spF B f_is_stable_in) := by
  have nd := (sc_is_stable_in).nd
  exact fn_ok (k := 1) (n := 2) (m := 4) F0 sc_is_stable_in rfl rfl (by decide) fun cdv A outer s H E c hfx hr =>
    (ss_one (s_ret (e_not (e_any rfl T.b_any (e_lc (own := [(("one" : Str), 2), (("other" : Str), 3)]) rfl nd (blkOk_by rfl) (by decide) (nx_tup (nx_cons nx_name (nx_cons nx_name nx_nil))) (i_seq (e_var 0)) (fun _ _ _ _ _ _ => (g_tup rfl (gs_cons (g_name 2 nd) (gs_cons (g_name 3 nd) gs_nil)))) (fun _ _ _ _ _ => ts_nil) (fun _ _ _ _ _ _ => (e_and (e_in hr (e_var 2) (e_var 1)) (e_one (e_in hr (e_var 3) (e_var 1))))))))))
theorem d_is_stable (F0 : Fun B.K "is_stable" "is_stable" s_is_stable f fd) (T : Bt mg) (h_need_graph : Df P w B mg base 4 "need_graph" f_need_graph) (h_is_stable_in : Df P w B mg base 2 "is_stable_in" f_is_stable_in) (h_is_rising : Df P w B mg base 4 "is_rising" f_is_rising) :
    FnOk P w B.K mg base (L2.CX P w) 5 f fd ["many", "edges", "value"] (spF B f_is_stable) := by
  have nd := (sc_is_stable).nd
  obtain ⟨_, Tc_MOST_NODES⟩ := T.c_MOST_NODES
  exact fn_ok (k := 4) (n := 3) (m := 3) F0 sc_is_stable rfl rfl (by decide) fun cdv A outer s H E c hfx hr =>
    (ss_cons (s_drp (e_call h_need_graph rfl hr (by decide) tk_def (a_cons (e_var 0) (a_cons (e_var 1) (a_cons (e_gI Tc_MOST_NODES) a_nil)))))
    (ss_one (s_ret (e_and (e_call h_is_rising rfl hr (by decide) tk_def (a_cons (e_var 2) (a_cons e_int (a_cons (e_sub (e_var 0) e_int) a_nil)))) (e_one (e_call h_is_stable_in rfl hr (by decide) tk_def (a_cons (e_var 1) (a_cons (e_var 2) a_nil))))))))
theorem d_is_cover (F0 : Fun B.K "is_cover" "is_cover" s_is_cover f fd) (T : Bt mg) (h_need_graph : Df P w B mg base 4 "need_graph" f_need_graph) (h_is_rising : Df P w B mg base 4 "is_rising" f_is_rising) :
    FnOk P w B.K mg base (L2.CX P w) 5 f fd ["many", "edges", "value"] (spF B f_is_cover) := by
  have nd := (sc_is_cover).nd
  obtain ⟨_, Tc_MOST_NODES⟩ := T.c_MOST_NODES
  exact fn_ok (k := 4) (n := 3) (m := 5) F0 sc_is_cover rfl rfl (by decide) fun cdv A outer s H E c hfx hr =>
    (ss_cons (s_drp (e_call h_need_graph rfl hr (by decide) tk_def (a_cons (e_var 0) (a_cons (e_var 1) (a_cons (e_gI Tc_MOST_NODES) a_nil)))))
    (ss_cons (s_if (t_not (t_tr (e_call h_is_rising rfl hr (by decide) tk_def (a_cons (e_var 2) (a_cons e_int (a_cons (e_sub (e_var 0) e_int) a_nil)))))) (ss_one (s_ret e_bl)) ss_nil)
    (ss_one (s_ret (e_all rfl T.b_all (e_lc (own := [(("one" : Str), 3), (("other" : Str), 4)]) rfl nd (blkOk_by rfl) (by decide) (nx_tup (nx_cons nx_name (nx_cons nx_name nx_nil))) (i_seq (e_var 1)) (fun _ _ _ _ _ _ => (g_tup rfl (gs_cons (g_name 3 nd) (gs_cons (g_name 4 nd) gs_nil)))) (fun _ _ _ _ _ => ts_nil) (fun _ _ _ _ _ _ => (e_or (e_in hr (e_var 3) (e_var 2)) (e_one (e_in hr (e_var 4) (e_var 2)))))))))))
theorem d_rows_of_size (F0 : Fun B.K "rows_of_size" "rows_of_size" s_rows_of_size f fd) (T : Bt mg)  :
    FnOk P w B.K mg base (L2.CX P w) 2 f fd ["many", "size"] (spF B f_rows_of_size) := by
  have nd := (sc_rows_of_size).nd
  exact fn_ok (k := 1) (n := 2) (m := 7) F0 sc_rows_of_size rfl rfl (by decide) fun cdv A outer s H E c hfx hr =>
    (ss_cons (s_set 2 nd (e_lst (k := 0) (a_cons (e_tup a_nil) a_nil)))
    (ss_cons (s_for po_def rfl (i_rg1 T.b_range (e_var 1)) (g_name 3 nd) nx_name
      (ss_cons (s_lstO 4 nd a_nil (Or.inl hfx))
    (ss_cons (s_for po_def rfl (i_seq (e_var 2)) (g_name 5 nd) nx_name
      (ss_one (s_ext 4 (x_lc (own := [(("one" : Str), 6)]) rfl nd (blkOk_by rfl) (by decide) nx_name (i_rg2 T.b_range (e_if (t_tr (e_var 5)) (e_add (e_ix (e_var 5) (e_neg e_int)) e_int) e_int) (e_var 0)) (fun _ _ _ _ _ _ => (g_name 6 nd)) (fun _ _ _ _ _ => ts_nil) (fun _ _ _ _ _ _ => (e_add (e_var 5) (e_tup (a_cons (e_var 6) a_nil))))))))
    (ss_frz 4 (ss_one (s_set 2 nd (e_var 4)))))))
    (ss_one (s_ret (e_var 2)))))
theorem d_first_cover (F0 : Fun B.K "first_cover" "first_cover" s_first_cover f fd) (T : Bt mg) (h_need_graph : Df P w B mg base 4 "need_graph" f_need_graph) (h_rows_of_size : Df P w B mg base 2 "rows_of_size" f_rows_of_size) :
    FnOk P w B.K mg base (L2.CX P w) 5 f fd ["many", "edges"] (spF B f_first_cover) := by
  have nd := (sc_first_cover).nd
  obtain ⟨_, Tc_MOST_NODES⟩ := T.c_MOST_NODES
  exact fn_ok (k := 4) (n := 2) (m := 6) F0 sc_first_cover rfl rfl (by decide) fun cdv A outer s H E c hfx hr =>
    (ss_cons (s_drp (e_call h_need_graph rfl hr (by decide) tk_def (a_cons (e_var 0) (a_cons (e_var 1) (a_cons (e_gI Tc_MOST_NODES) a_nil)))))
    (ss_cons (s_for po_def rfl (i_rg1 T.b_range (e_add (e_var 0) e_int)) (g_name 2 nd) nx_name
      (ss_one (s_for po_def rfl (i_seq (e_call h_rows_of_size rfl hr (by decide) tk_def (a_cons (e_var 0) (a_cons (e_var 2) a_nil)))) (g_name 3 nd) nx_name
      (ss_one (s_if (t_tr (e_all rfl T.b_all (e_lc (own := [(("one" : Str), 4), (("other" : Str), 5)]) rfl nd (blkOk_by rfl) (by decide) (nx_tup (nx_cons nx_name (nx_cons nx_name nx_nil))) (i_seq (e_var 1)) (fun _ _ _ _ _ _ => (g_tup rfl (gs_cons (g_name 4 nd) (gs_cons (g_name 5 nd) gs_nil)))) (fun _ _ _ _ _ => ts_nil) (fun _ _ _ _ _ _ => (e_or (e_in hr (e_var 4) (e_var 3)) (e_one (e_in hr (e_var 5) (e_var 3)))))))) (ss_one (s_ret (e_var 3))) ss_nil)))))
    (ss_one (s_ret (e_tup a_nil)))))
theorem d_cover_number (F0 : Fun B.K "cover_number" "cover_number" s_cover_number f fd) (T : Bt mg) (h_first_cover : Df P w B mg base 5 "first_cover" f_first_cover) :
    FnOk P w B.K mg base (L2.CX P w) 6 f fd ["many", "edges"] (spF B f_cover_number) := by
  have nd := (sc_cover_number).nd
  exact fn_ok (k := 5) (n := 2) (m := 2) F0 sc_cover_number rfl rfl (by decide) fun cdv A outer s H E c hfx hr =>
    (ss_one (s_ret (e_len T.b_len (e_call h_first_cover rfl hr (by decide) tk_def (a_cons (e_var 0) (a_cons (e_var 1) a_nil))))))
theorem d_most_apart (F0 : Fun B.K "most_apart" "most_apart" s_most_apart f fd) (T : Bt mg) (h_need_graph : Df P w B mg base 4 "need_graph" f_need_graph) :
    FnOk P w B.K mg base (L2.CX P w) 5 f fd ["many", "edges"] (spF B f_most_apart) := by
  have nd := (sc_most_apart).nd
  obtain ⟨_, Tc_MOST_NODES⟩ := T.c_MOST_NODES
  exact fn_ok (k := 4) (n := 2) (m := 10) F0 sc_most_apart rfl rfl (by decide) fun cdv A outer s H E c hfx hr =>
    (ss_cons (s_drp (e_call h_need_graph rfl hr (by decide) tk_def (a_cons (e_var 0) (a_cons (e_var 1) (a_cons (e_gI Tc_MOST_NODES) a_nil)))))
    (ss_cons (s_parO 2 3 rfl nd (by decide) (e_tup a_nil) (a_cons (e_tup (a_cons (e_tup a_nil) (a_cons e_int (a_cons (e_tup a_nil) a_nil)))) a_nil) (Or.inl hfx))
    (ss_cons (s_while po_def (t_own 3)
      (ss_cons (s_asg (e_pop 3) (g_tup rfl (gs_cons (g_name 4 nd) (gs_cons (g_name 5 nd) (gs_cons (g_name 6 nd) gs_nil)))) (nx_tup (nx_cons nx_name (nx_cons nx_name (nx_cons nx_name nx_nil)))))
    (ss_cons (s_if (t_gt hr (e_len T.b_len (e_var 4)) (e_len T.b_len (e_var 2))) (ss_one (s_set 2 nd (e_var 4))) ss_nil)
    (ss_cons (s_if (t_le (e_sub (e_add (e_len T.b_len (e_var 4)) (e_len T.b_len (e_var 1))) (e_var 5)) (e_len T.b_len (e_var 2))) (ss_one s_cnt) ss_nil)
    (ss_one (s_for po_def rfl (i_rgD T.b_range (e_sub (e_len T.b_len (e_var 1)) e_int) (e_sub (e_var 5) e_int)) (g_name 7 nd) nx_name
      (ss_cons (s_asg (e_ix (e_var 1) (e_var 7)) (g_tup rfl (gs_cons (g_name 8 nd) (gs_cons (g_name 9 nd) gs_nil))) (nx_tup (nx_cons nx_name (nx_cons nx_name nx_nil))))
    (ss_one (s_if (PW.pt (w_and (t_notIn hr (e_var 8) (e_var 6)) (w_and1 (t_notIn hr (e_var 9) (e_var 6))))) (ss_one (s_app 3 (e_tup (a_cons (e_add (e_var 4) (e_tup (a_cons (e_ix (e_var 1) (e_var 7)) a_nil))) (a_cons (e_add (e_var 7) e_int) (a_cons (e_add (e_var 6) (e_tup (a_cons (e_var 8) (a_cons (e_var 9) a_nil)))) a_nil)))))) ss_nil)))))))))
    (ss_one (s_ret (e_var 2))))))
theorem d__law_taken (F0 : Fun B.K "_law_taken" "_law_taken" s__law_taken f fd) (T : Bt mg)  :
    FnOk P w B.K mg base (L2.CX P w) 2 f fd ["row", "many"] (spO B f__law_taken) := by
  have nd := (sc__law_taken).nd
  exact fn_okO (k := 1) (n := 2) (m := 4) F0 sc__law_taken rfl rfl (by decide) fun cdv A outer s H E c hr =>
    (ss_cons (s_if (t_gt hr (e_ixO 0 e_int) e_int) (ss_cons (s_set 2 nd (e_mod (e_intC T.b_int (e_ixO 0 e_int)) (e_var 1)))
    (ss_cons (s_setO 0 (e_div (e_ixO 0 e_int) (e_var 1)) e_int)
    (ss_one (s_ret (e_var 2))))) ss_nil)
    (ss_cons (s_setO 0 (e_add (e_ixO 0 e_int) e_int) e_int)
    (ss_cons (s_if (t_gt hr (e_ixO 0 e_int) (e_len T.b_len (e_ixO 0 e_int))) (ss_cons (s_setO 0 (e_mod (e_intC T.b_int (e_add (e_mul (e_ixO 0 e_int) e_int) e_int)) e_int) e_int)
    (ss_one (s_ret (e_mod (e_intC T.b_int (e_div (e_ixO 0 e_int) e_int)) (e_var 1))))) ss_nil)
    (ss_cons (s_set 3 nd (e_ix (e_ixO 0 e_int) (e_sub (e_ixO 0 e_int) e_int)))
    (ss_cons (s_setO 0 (e_mod (e_intC T.b_int (e_add (e_add (e_mul (e_ixO 0 e_int) e_int) (e_intC T.b_int (e_var 3))) e_int)) e_int) e_int)
    (ss_cons (s_if (t_ge (e_var 3) (e_pow e_int e_int)) (ss_one (s_setO 0 (e_div (e_intC T.b_int (e_mod (e_intC T.b_int (e_var 3)) (e_pow e_int e_int))) (e_var 1)) e_int)) ss_nil)
    (ss_one (s_ret (e_mod (e_intC T.b_int (e_var 3)) (e_var 1))))))))))
theorem d__law_pick (F0 : Fun B.K "_law_pick" "_law_pick" s__law_pick f fd) (T : Bt mg) (h__law_taken : DfO P w B mg base 2 "_law_taken" f__law_taken) :
    FnOk P w B.K mg base (L2.CX P w) 3 f fd ["row", "some"] (spO B f__law_pick) := by
  have nd := (sc__law_pick).nd
  exact fn_okO (k := 2) (n := 2) (m := 2) F0 sc__law_pick rfl rfl (by decide) fun cdv A outer s H E c hr =>
    (ss_one (s_ret (e_ix (e_var 1) (e_clo 0 h__law_taken rfl hr (by decide) (a_cons (e_len T.b_len (e_var 1)) a_nil)))))
theorem d__law_alike_step {j : Nat} {rec : List D → F} (hj : 1 ≤ j) (F0 : Fun B.K "_law_alike" "_law_alike" s__law_alike f fd) (T : Bt mg)  (h__law_alike : Df P w B mg base j "_law_alike" rec) :
    FnOk P w B.K mg base (L2.CX P w) (j + 1) f fd ["found", "due"] (spF B (run 2 3 (b__law_alike rec))) := by
  have nd := (sc__law_alike).nd
  obtain ⟨j, rfl⟩ : ∃ i, j = i + 1 := ⟨j - 1, by omega⟩
  exact fn_ok F0 sc__law_alike rfl rfl (by decide) fun cdv A outer s H E c hfx hr =>
    (ss_cons (s_if (t_tr (e_isi "tuple" T.b_isinstance T.b_tuple (e_var 1) (by decide) (by decide +kernel))) (ss_cons (s_if (PW.pt (w_or (t_not (t_tr (e_isi "tuple" T.b_isinstance T.b_tuple (e_var 0) (by decide) (by decide +kernel)))) (w_or1 (t_ne hr (e_len T.b_len (e_var 0)) (e_len T.b_len (e_var 1)))))) (ss_one (s_ret e_bl)) ss_nil)
    (ss_one (s_ret (e_eq hr (e_lc (own := [(("at" : Str), 2)]) rfl nd (blkOk_by rfl) (by decide) nx_name (i_rg1 T.b_range (e_len T.b_len (e_var 1))) (fun _ _ _ _ _ _ => (g_name 2 nd)) (fun _ _ _ _ _ => (ts_one fun _ => (t_not (t_tr (e_call h__law_alike rfl hr (Nat.le_refl _) L2.takes0 (a_cons (e_ix (e_var 0) (e_var 2)) (a_cons (e_ix (e_var 1) (e_var 2)) a_nil))))))) (fun _ _ _ _ _ _ => (e_var 2))) (e_lst (k := 0) a_nil))))) ss_nil)
    (ss_cons (s_if (PW.pt (w_or (t_is (e_var 1) e_non) (w_or1 (t_tr (e_isi "str" T.b_isinstance T.b_str (e_var 1) (by decide) (by decide +kernel)))))) (ss_one (s_ret (e_and (e_eq hr (e_var 0) (e_var 1)) (e_one (e_eq hr (e_isi "str" T.b_isinstance T.b_str (e_var 0) (by decide) (by decide +kernel)) (e_isi "str" T.b_isinstance T.b_str (e_var 1) (by decide) (by decide +kernel))))))) ss_nil)
    (ss_one (s_ret (e_and (e_isi "int" T.b_isinstance T.b_int (e_var 0) (by decide) (by decide +kernel)) (e_and (e_eq hr (e_isi "bool" T.b_isinstance T.b_bool (e_var 0) (by decide) (by decide +kernel)) (e_isi "bool" T.b_isinstance T.b_bool (e_var 1) (by decide) (by decide +kernel))) (e_one (e_eq hr (e_var 0) (e_var 1)))))))))
theorem d__law_graph (F0 : Fun B.K "_law_graph" "_law_graph" s__law_graph f fd) (T : Bt mg) (h__law_taken : DfO P w B mg base 2 "_law_taken" f__law_taken) (h__law_pick : DfO P w B mg base 3 "_law_pick" f__law_pick) :
    FnOk P w B.K mg base (L2.CX P w) 4 f fd ["row", "things", "pairs"] (spO B f__law_graph) := by
  have nd := (sc__law_graph).nd
  exact fn_okO (k := 3) (n := 3) (m := 8) F0 sc__law_graph rfl rfl (by decide) fun cdv A outer s H E c hr =>
    (ss_cons (s_set 3 nd (e_add e_int (e_clo 0 h__law_taken rfl hr (by decide) (a_cons (e_var 1) a_nil))))
    (ss_cons (s_set 4 nd (e_lc2 (own := [(("one" : Str), 5), (("other" : Str), 6)]) (vs1 := [6]) rfl nd (blkOk_by rfl) (by decide) (by decide) (by decide) nx_name nx_name (i_rg1 T.b_range (e_var 3)) (fun _ _ _ _ _ _ => (g_name 5 nd)) (fun _ _ _ _ _ => ts_nil) (fun _ _ _ _ _ _ => (i_rg2 T.b_range (e_add (e_var 5) e_int) (e_var 3))) (fun _ _ _ _ _ _ => (g_name 6 nd)) (fun _ _ _ _ _ => ts_nil) (fun _ _ _ _ _ _ => (e_tup (a_cons (e_var 5) (a_cons (e_var 6) a_nil))))))
    (ss_one (s_ret (e_tup (a_cons (e_var 3) (a_cons (e_if (t_ne hr (e_var 4) (e_lst (k := 0) a_nil)) (e_tupleC T.b_tuple (e_sortSet rfl hr T.b_sorted T.b_set (e_lc (own := [(("turn" : Str), 7)]) rfl nd (blkOk_by rfl) (by decide) nx_name (i_rg1 T.b_range (e_clo 0 h__law_taken rfl hr (by decide) (a_cons (e_add (e_var 2) e_int) a_nil))) (fun _ _ _ _ _ _ => (g_name 7 nd)) (fun _ _ _ _ _ => ts_nil) (fun _ _ _ _ _ _ => (e_clo 0 h__law_pick rfl hr (by decide) (a_cons (e_var 4) a_nil)))))) (e_tup a_nil)) a_nil)))))))
theorem d__law_rows (F0 : Fun B.K "_law_rows" "_law_rows" s__law_rows f fd) (T : Bt mg)  :
    FnOk P w B.K mg base (L2.CX P w) 2 f fd ["some", "size"] (spF B f__law_rows) := by
  have nd := (sc__law_rows).nd
  exact fn_ok (k := 1) (n := 2) (m := 6) F0 sc__law_rows rfl rfl (by decide) fun cdv A outer s H E c hfx hr =>
    (ss_cons (s_set 2 nd (e_lst (k := 0) (a_cons (e_tup a_nil) a_nil)))
    (ss_cons (s_for po_def rfl (i_rg1 T.b_range (e_var 1)) (g_name 3 nd) nx_name
      (ss_one (s_lc2 (own := [(("own" : Str), 4), (("one" : Str), 5)]) (vs1 := [5]) rfl nd rfl (sw_true rfl rfl rfl (by decide +kernel)) (blkOk_by rfl) (by decide) (by decide) (by decide) nx_name nx_name (i_seq (e_var 2)) (fun _ _ _ _ _ _ => (g_name 4 nd)) (fun _ _ _ _ _ => ts_nil) (fun _ _ _ _ _ _ => (i_seq (e_var 0))) (fun _ _ _ _ _ _ => (g_name 5 nd)) (fun _ _ _ _ _ => (ts_one fun _ => (PW.pt (w_or (t_eq hr (e_var 4) (e_tup a_nil)) (w_or1 (t_gt hr (e_var 5) (e_ix (e_var 4) (e_neg e_int)))))))) (fun _ _ _ _ _ _ => (e_add (e_var 4) (e_tup (a_cons (e_var 5) a_nil)))))))
    (ss_one (s_ret (e_var 2)))))
/- lambdas: law -/
theorem d_law (T : Bt mg) (h__law_graph : DfO P w B mg base 4 "_law_graph" f__law_graph) (h__law_rows : Df P w B mg base 2 "_law_rows" f__law_rows) (h__law_alike : Df P w B mg base 5 "_law_alike" (f__law_alike 4)) (h_cover_number : Df P w B mg base 6 "cover_number" f_cover_number) (h_first_cover : Df P w B mg base 5 "first_cover" f_first_cover) (h_most_apart : Df P w B mg base 5 "most_apart" f_most_apart) (h__law_pick : DfO P w B mg base 3 "_law_pick" f__law_pick) (h_is_cover : Df P w B mg base 5 "is_cover" f_is_cover) (h_is_stable : Df P w B mg base 5 "is_stable" f_is_stable) (k_first_cover_1_edges : DfK P w B mg base 5 "first_cover" 1 ["edges"] f_first_cover) (k_is_cover_2_value : DfK P w B mg base 5 "is_cover" 2 ["value"] f_is_cover) (k_is_stable_2_value : DfK P w B mg base 5 "is_stable" 2 ["value"] f_is_stable) {oc : Value} {od an : Option Addr} {kV doc pm ct : Value} {osl : Array (Option Value)} {cc PP : Addr} (lk : B.K.lookup f = some ⟨oc, od, .func (PySem.W.fnOf "law" "law" (defArgs s_law) (defBody s_law) (defScope s_law) .none kV doc pm an (.ref cc) ct), osl⟩) (hcd : PySem.W.codeIn B.K (.ref cc) "law" = true)
    {CB : Addr} (XC : XCls P w B mg base 1 "BadArgument" ["name"] CB) (TB : LamX.TabB base mg cc PP) (bT : (PP, ("law" : Str) ++ ".<locals>." ++ "<lambda>") ∈ B.T) (hu : ∀ p ∈ B.T, p.1 = PP → p.2 = ("law" : Str) ++ ".<locals>." ++ "<lambda>")
    (RF0 : ∀ X : Cx, X.K = B.K → X.mg = mg → RefD X "_law_refused" "call" "BadArgument" "name" CB 6) :
    FnOk P w B.K mg base (L2.CX P w) 9 f (PySem.W.fnOf "law" "law" (defArgs s_law) (defBody s_law) (defScope s_law) .none kV doc pm an (.ref cc) ct) ["script"] (spF B f_law) := by
  have nd := (sc_law).nd
  exact fn_okL (k := 8) (n := 1) (m := 20) lk hcd sc_law rfl rfl (by decide) fun A outer s H E c hfx hr =>
    (ss_cons (s_lstO 1 nd (a_cons (e_var 0) (a_cons e_int (a_cons e_int (a_cons e_int a_nil)))) (Or.inl hfx))
    (ss_cons (s_for po_def rfl (i_rg1 T.b_range e_int) (g_name 2 nd) nx_name
      (ss_cons (s_asg (e_clo 1 h__law_graph rfl hr (by decide) (a_cons e_int (a_cons e_int a_nil))) (g_tup rfl (gs_cons (g_name 3 nd) (gs_cons (g_name 4 nd) gs_nil))) (nx_tup (nx_cons nx_name (nx_cons nx_name nx_nil))))
    (ss_cons (s_lc2 (own := [(("size" : Str), 6), (("own" : Str), 7)]) (vs1 := [7]) rfl nd rfl (sw_true rfl rfl rfl (by decide +kernel)) (blkOk_by rfl) (by decide) (by decide) (by decide) nx_name nx_name (i_rg1 T.b_range (e_add (e_var 3) e_int)) (fun _ _ _ _ _ _ => (g_name 6 nd)) (fun _ _ _ _ _ => ts_nil) (fun _ _ _ _ _ _ => (i_seq (e_call h__law_rows rfl hr (by decide) L2.takes0 (a_cons (e_listRg rfl T.b_list T.b_range (e_var 3)) (a_cons (e_var 6) a_nil))))) (fun _ _ _ _ _ _ => (g_name 7 nd)) (fun _ _ _ _ _ => ts_nil) (fun _ _ _ _ _ _ => (e_var 7)))
    (ss_cons (s_lc (own := [(("own" : Str), 7)]) rfl nd rfl (sw_true rfl rfl rfl (by decide +kernel)) (blkOk_by rfl) (by decide) nx_name (i_seq (e_var 5)) (fun _ _ _ _ _ _ => (g_name 7 nd)) (fun _ _ _ _ _ => (ts_one fun _ => (t_eq hr (e_lc (own := [(("one" : Str), 9), (("other" : Str), 10)]) rfl nd (blkOk_by rfl) (by decide) (nx_tup (nx_cons nx_name (nx_cons nx_name nx_nil))) (i_seq (e_var 4)) (fun _ _ _ _ _ _ => (g_tup rfl (gs_cons (g_name 9 nd) (gs_cons (g_name 10 nd) gs_nil)))) (fun _ _ _ _ _ => (ts_one fun _ => (PW.pt (w_and (t_notIn hr (e_var 9) (e_var 7)) (w_and1 (t_notIn hr (e_var 10) (e_var 7))))))) (fun _ _ _ _ _ _ => e_int)) (e_lst (k := 0) a_nil)))) (fun _ _ _ _ _ _ => (e_var 7)))
    (ss_cons (s_if (PW.pt (w_or (t_not (t_tr (e_call h__law_alike rfl hr (by decide) tk_def (a_cons (e_callK k_first_cover_1_edges rfl hr (by decide) (a_cons (e_var 3) a_nil) (k_cons (e_var 4) k_nil) rfl rfl) (a_cons (e_ix (e_var 8) e_int) a_nil))))) (w_or1 (t_not (t_tr (e_call h__law_alike rfl hr (by decide) tk_def (a_cons (e_call h_cover_number rfl hr (by decide) tk_def (a_cons (e_var 3) (a_cons (e_var 4) a_nil))) (a_cons (e_len T.b_len (e_ix (e_var 8) e_int)) a_nil)))))))) (ss_one (s_ret e_bl)) ss_nil)
    (ss_cons (s_lc2 (own := [(("size" : Str), 6), (("own" : Str), 7)]) (vs1 := [7]) rfl nd rfl (sw_true rfl rfl rfl (by decide +kernel)) (blkOk_by rfl) (by decide) (by decide) (by decide) nx_name nx_name (i_rg1 T.b_range e_int) (fun _ _ _ _ _ _ => (g_name 6 nd)) (fun _ _ _ _ _ => ts_nil) (fun _ _ _ _ _ _ => (i_seq (e_call h__law_rows rfl hr (by decide) L2.takes0 (a_cons (e_listC T.b_list (e_var 4)) (a_cons (e_var 6) a_nil))))) (fun _ _ _ _ _ _ => (g_name 7 nd)) (fun _ _ _ _ _ => ts_nil) (fun _ _ _ _ _ _ => (e_var 7)))
    (ss_cons (s_lc (own := [(("own" : Str), 7)]) rfl nd rfl (sw_true rfl rfl rfl (by decide +kernel)) (blkOk_by rfl) (by decide) nx_name (i_seq (e_var 11)) (fun _ _ _ _ _ _ => (g_name 7 nd)) (fun _ _ _ _ _ => (ts_one fun _ => (t_eq hr (e_lenSet rfl T.b_len T.b_set (e_lc2 (own := [(("pair" : Str), 13), (("one" : Str), 9)]) (vs1 := [9]) rfl nd (blkOk_by rfl) (by decide) (by decide) (by decide) nx_name nx_name (i_seq (e_var 7)) (fun _ _ _ _ _ _ => (g_name 13 nd)) (fun _ _ _ _ _ => ts_nil) (fun _ _ _ _ _ _ => (i_seq (e_var 13))) (fun _ _ _ _ _ _ => (g_name 9 nd)) (fun _ _ _ _ _ => ts_nil) (fun _ _ _ _ _ _ => (e_var 9)))) (e_mul e_int (e_len T.b_len (e_var 7)))))) (fun _ _ _ _ _ _ => (e_var 7)))
    (ss_cons (s_set 14 nd (e_max rfl T.b_max (e_lc (own := [(("own" : Str), 7)]) rfl nd (blkOk_by rfl) (by decide) nx_name (i_seq (e_var 12)) (fun _ _ _ _ _ _ => (g_name 7 nd)) (fun _ _ _ _ _ => ts_nil) (fun _ _ _ _ _ _ => (e_len T.b_len (e_var 7))))))
    (ss_cons (s_if (t_not (t_tr (e_call h__law_alike rfl hr (by decide) tk_def (a_cons (e_call h_most_apart rfl hr (by decide) tk_def (a_cons (e_var 3) (a_cons (e_var 4) a_nil))) (a_cons (e_ix (e_lc (own := [(("own" : Str), 7)]) rfl nd (blkOk_by rfl) (by decide) nx_name (i_seq (e_var 12)) (fun _ _ _ _ _ _ => (g_name 7 nd)) (fun _ _ _ _ _ => (ts_one fun _ => (t_eq hr (e_len T.b_len (e_var 7)) (e_var 14)))) (fun _ _ _ _ _ _ => (e_var 7))) e_int) a_nil))))) (ss_one (s_ret e_bl)) ss_nil)
    (ss_cons (s_for po_def rfl (i_rg1 T.b_range e_int) (g_name 15 nd) nx_name
      (ss_cons (s_set 16 nd (e_clo 1 h__law_pick rfl hr (by decide) (a_cons (e_var 5) a_nil)))
    (ss_cons (s_if (t_isNot (e_callK k_is_cover_2_value rfl hr (by decide) (a_cons (e_var 3) (a_cons (e_var 4) a_nil)) (k_cons (e_var 16) k_nil) rfl rfl) (e_in hr (e_var 16) (e_var 8))) (ss_one (s_ret e_bl)) ss_nil)
    (ss_one (s_if (t_isNot (e_callK k_is_stable_2_value rfl hr (by decide) (a_cons (e_var 3) (a_cons (e_var 4) a_nil)) (k_cons (e_var 16) k_nil) rfl rfl) (e_eq hr (e_lc (own := [(("one" : Str), 9), (("other" : Str), 10)]) rfl nd (blkOk_by rfl) (by decide) (nx_tup (nx_cons nx_name (nx_cons nx_name nx_nil))) (i_seq (e_var 4)) (fun _ _ _ _ _ _ => (g_tup rfl (gs_cons (g_name 9 nd) (gs_cons (g_name 10 nd) gs_nil)))) (fun _ _ _ _ _ => (ts_one fun _ => (PW.pt (w_and (t_in hr (e_var 9) (e_var 16)) (w_and1 (t_in hr (e_var 10) (e_var 16))))))) (fun _ _ _ _ _ _ => e_int)) (e_lst (k := 0) a_nil))) (ss_one (s_ret e_bl)) ss_nil)))))
    (ss_cons (s_set 17 nd (e_lst (k := 0) (a_cons e_non (a_cons (e_lst (k := 0) a_nil) (a_cons (e_tup (a_cons (e_var 3) a_nil)) (a_cons (e_tup (a_cons e_int (a_cons e_int a_nil))) (a_cons (e_tup (a_cons e_bl a_nil)) (a_cons (e_tup (a_cons (e_neg e_int) a_nil)) a_nil))))))))
    (ss_cons (s_if (t_ne hr (e_lc (own := [(("own" : Str), 7)]) rfl nd (blkOk_by rfl) (by decide) nx_name (i_seq (e_var 17)) (fun _ _ _ _ _ _ => (g_name 7 nd)) (fun _ _ _ _ _ => (ts_one fun _ => (PW.pt (w_or (t_tr (e_call h_is_cover rfl hr (by decide) L2.takes0 (a_cons (e_var 3) (a_cons (e_var 4) (a_cons (e_var 7) a_nil))))) (w_or1 (t_tr (e_call h_is_stable rfl hr (by decide) L2.takes0 (a_cons (e_var 3) (a_cons (e_var 4) (a_cons (e_var 7) a_nil)))))))))) (fun _ _ _ _ _ _ => (e_var 7))) (e_lst (k := 0) a_nil)) (ss_one (s_ret e_bl)) ss_nil)
    (ss_cons (s_set 18 nd (e_clo 1 h__law_pick rfl hr (by decide) (a_cons (e_lst (k := 0) (a_cons e_non (a_cons (e_lst (k := 0) (a_cons (e_tup (a_cons e_int (a_cons e_int a_nil))) a_nil)) (a_cons (e_tup (a_cons (e_tup (a_cons e_int (a_cons e_int a_nil))) a_nil)) (a_cons (e_tup (a_cons (e_tup (a_cons e_int (a_cons (e_var 3) a_nil))) a_nil)) (a_cons (e_tup (a_cons (e_tup (a_cons e_int (a_cons e_int a_nil))) a_nil)) (a_cons (e_tup (a_cons (e_tup (a_cons e_int (a_cons e_int (a_cons e_int a_nil)))) a_nil)) (a_cons (e_tup (a_cons (e_tup (a_cons e_bl (a_cons e_int a_nil))) a_nil)) a_nil)))))))) a_nil)))
    (ss_cons (s_set 19 nd (e_lst (k := 0) (a_cons (e_ref (k := 6) (RF0 _ rfl rfl) rfl XC.bx rfl TB rfl bT hu hr (LamX.lamS_by rfl) rfl (fun _ _ _ _ _ => rfl) (fun _ _ _ _ _ _ _ hr => (e_call h_first_cover rfl hr (by decide) tk_lam (a_cons (e_var 3) (a_cons (e_var 18) a_nil))))) (a_cons (e_ref (k := 6) (RF0 _ rfl rfl) rfl XC.bx rfl TB rfl bT hu hr (LamX.lamS_by rfl) rfl (fun _ _ _ _ _ => rfl) (fun _ _ _ _ _ _ _ hr => (e_call h_cover_number rfl hr (by decide) tk_lam (a_cons e_int (a_cons (e_tup a_nil) a_nil))))) (a_cons (e_ref (k := 6) (RF0 _ rfl rfl) rfl XC.bx rfl TB rfl bT hu hr (LamX.lamS_by rfl) rfl (fun _ _ _ _ _ => rfl) (fun _ _ _ _ _ _ _ hr => (e_call h_is_cover rfl hr (by decide) tk_lam (a_cons e_int (a_cons (e_tup a_nil) (a_cons (e_tup a_nil) a_nil)))))) (a_cons (e_ref (k := 6) (RF0 _ rfl rfl) rfl XC.bx rfl TB rfl bT hu hr (LamX.lamS_by rfl) rfl (fun _ _ _ _ _ => rfl) (fun _ _ _ _ _ _ _ hr => (e_call h_most_apart rfl hr (by decide) tk_lam (a_cons (e_var 3) (a_cons (e_var 18) a_nil))))) a_nil))))))
    (ss_one (s_if (t_ne hr (e_var 19) (e_lst (k := 0) (a_cons e_str (a_cons e_str (a_cons e_str (a_cons e_str a_nil)))))) (ss_one (s_ret e_bl)) ss_nil))))))))))))))))
    (ss_one (s_ret e_bl))))
end
end K05
set_option Elab.async false
set_option linter.all false
set_option maxRecDepth 100000
set_option maxHeartbeats 4000000
namespace K05
open PySem PySem.Spec PyProof.Rows L2 Fe
abbrev s_init : Stmt := inClass (topS 1) 0
theorem sc_init : FnScope ["self", "name"] ["self", "name"] (defScope s_init) := ⟨rfl, rfl, rfl, by decide +kernel, rfl, by decide +kernel, by decide +kernel⟩
abbrev s__law_refused : Stmt := topS 21
theorem sc__law_refused : FnScope ["call", "e"] ["call"] (defScope s__law_refused) := ⟨rfl, rfl, rfl, by decide +kernel, rfl, by decide +kernel, by decide +kernel⟩
theorem all_mk {l : PySem.W.OpenLaw} {w : World} {K : PySem.W.Frag} {h : Heap} {mg : Str → Option Value} {fa PP : Addr} (X : K.In h) (G : h.Ns mainGlobals mg) (hfa : mg "law" = some (.ref fa)) (hT : ∀ P ∈ [PP], h.get? P = some (PySem.W.tabObj #[]))
    (hlaw : ∀ ns : List Int, ns.length ≤ 63 → (∀ z ∈ ns, Builtin.Int.intBits z ≤ 1048576) → f_law [.lst (ns.map .int)] = .ok (.bl true))
    (z_all : PySem.W.nsIn K mainGlobals "all" = some none)
    (z_any : PySem.W.nsIn K mainGlobals "any" = some none)
    (z_bool : PySem.W.nsIn K mainGlobals "bool" = some none)
    (z_int : PySem.W.nsIn K mainGlobals "int" = some none)
    (z_isinstance : PySem.W.nsIn K mainGlobals "isinstance" = some none)
    (z_len : PySem.W.nsIn K mainGlobals "len" = some none)
    (z_list : PySem.W.nsIn K mainGlobals "list" = some none)
    (z_max : PySem.W.nsIn K mainGlobals "max" = some none)
    (z_range : PySem.W.nsIn K mainGlobals "range" = some none)
    (z_set : PySem.W.nsIn K mainGlobals "set" = some none)
    (z_sorted : PySem.W.nsIn K mainGlobals "sorted" = some none)
    (z_str : PySem.W.nsIn K mainGlobals "str" = some none)
    (z_tuple : PySem.W.nsIn K mainGlobals "tuple" = some none)
    {t_MOST_NODES : Tok}
    (c_MOST_NODES : PySem.W.nsIn K mainGlobals "MOST_NODES" = some (some (.int (12) t_MOST_NODES)))
    {q_is_whole : Addr} {od_is_whole an_is_whole : Option Addr} {sl_is_whole : Array (Option Value)} {oc_is_whole kV_is_whole dc_is_whole pm_is_whole ct_is_whole cd_is_whole : Value}
    (a_is_whole : PySem.W.nsIn K mainGlobals "is_whole" = some (some (.ref q_is_whole)))
    (l_is_whole : K.lookup q_is_whole = some ⟨oc_is_whole, od_is_whole, .func (PySem.W.fnOf "is_whole" "is_whole" (defArgs s_is_whole) (defBody s_is_whole) (defScope s_is_whole) .none kV_is_whole dc_is_whole pm_is_whole an_is_whole cd_is_whole ct_is_whole), sl_is_whole⟩)
    (co_is_whole : PySem.W.codeIn K cd_is_whole "is_whole" = true)
    (k_is_whole : PySem.W.keepIn K (.ref q_is_whole) = true)
    {q_are_whole : Addr} {od_are_whole an_are_whole : Option Addr} {sl_are_whole : Array (Option Value)} {oc_are_whole kV_are_whole dc_are_whole pm_are_whole ct_are_whole cd_are_whole : Value}
    (a_are_whole : PySem.W.nsIn K mainGlobals "are_whole" = some (some (.ref q_are_whole)))
    (l_are_whole : K.lookup q_are_whole = some ⟨oc_are_whole, od_are_whole, .func (PySem.W.fnOf "are_whole" "are_whole" (defArgs s_are_whole) (defBody s_are_whole) (defScope s_are_whole) .none kV_are_whole dc_are_whole pm_are_whole an_are_whole cd_are_whole ct_are_whole), sl_are_whole⟩)
    (co_are_whole : PySem.W.codeIn K cd_are_whole "are_whole" = true)
    (k_are_whole : PySem.W.keepIn K (.ref q_are_whole) = true)
    {q_is_rising : Addr} {od_is_rising an_is_rising : Option Addr} {sl_is_rising : Array (Option Value)} {oc_is_rising kV_is_rising dc_is_rising pm_is_rising ct_is_rising cd_is_rising : Value}
    (a_is_rising : PySem.W.nsIn K mainGlobals "is_rising" = some (some (.ref q_is_rising)))
    (l_is_rising : K.lookup q_is_rising = some ⟨oc_is_rising, od_is_rising, .func (PySem.W.fnOf "is_rising" "is_rising" (defArgs s_is_rising) (defBody s_is_rising) (defScope s_is_rising) .none kV_is_rising dc_is_rising pm_is_rising an_is_rising cd_is_rising ct_is_rising), sl_is_rising⟩)
    (co_is_rising : PySem.W.codeIn K cd_is_rising "is_rising" = true)
    (k_is_rising : PySem.W.keepIn K (.ref q_is_rising) = true)
    {q_need : Addr} {od_need an_need : Option Addr} {sl_need : Array (Option Value)} {oc_need kV_need dc_need pm_need ct_need cd_need : Value}
    (a_need : PySem.W.nsIn K mainGlobals "need" = some (some (.ref q_need)))
    (l_need : K.lookup q_need = some ⟨oc_need, od_need, .func (PySem.W.fnOf "need" "need" (defArgs s_need) (defBody s_need) (defScope s_need) .none kV_need dc_need pm_need an_need cd_need ct_need), sl_need⟩)
    (co_need : PySem.W.codeIn K cd_need "need" = true)
    (k_need : PySem.W.keepIn K (.ref q_need) = true)
    {q_are_edges : Addr} {od_are_edges an_are_edges : Option Addr} {sl_are_edges : Array (Option Value)} {oc_are_edges kV_are_edges dc_are_edges pm_are_edges ct_are_edges cd_are_edges : Value}
    (a_are_edges : PySem.W.nsIn K mainGlobals "are_edges" = some (some (.ref q_are_edges)))
    (l_are_edges : K.lookup q_are_edges = some ⟨oc_are_edges, od_are_edges, .func (PySem.W.fnOf "are_edges" "are_edges" (defArgs s_are_edges) (defBody s_are_edges) (defScope s_are_edges) .none kV_are_edges dc_are_edges pm_are_edges an_are_edges cd_are_edges ct_are_edges), sl_are_edges⟩)
    (co_are_edges : PySem.W.codeIn K cd_are_edges "are_edges" = true)
    (k_are_edges : PySem.W.keepIn K (.ref q_are_edges) = true)
    {q_need_graph : Addr} {od_need_graph an_need_graph : Option Addr} {sl_need_graph : Array (Option Value)} {oc_need_graph kV_need_graph dc_need_graph pm_need_graph ct_need_graph cd_need_graph : Value}
    (a_need_graph : PySem.W.nsIn K mainGlobals "need_graph" = some (some (.ref q_need_graph)))
    (l_need_graph : K.lookup q_need_graph = some ⟨oc_need_graph, od_need_graph, .func (PySem.W.fnOf "need_graph" "need_graph" (defArgs s_need_graph) (defBody s_need_graph) (defScope s_need_graph) .none kV_need_graph dc_need_graph pm_need_graph an_need_graph cd_need_graph ct_need_graph), sl_need_graph⟩)
    (co_need_graph : PySem.W.codeIn K cd_need_graph "need_graph" = true)
    (k_need_graph : PySem.W.keepIn K (.ref q_need_graph) = true)
    {q_is_stable_in : Addr} {od_is_stable_in an_is_stable_in : Option Addr} {sl_is_stable_in : Array (Option Value)} {oc_is_stable_in kV_is_stable_in dc_is_stable_in pm_is_stable_in ct_is_stable_in cd_is_stable_in : Value}
    (a_is_stable_in : PySem.W.nsIn K mainGlobals "is_stable_in" = some (some (.ref q_is_stable_in)))
    (l_is_stable_in : K.lookup q_is_stable_in = some ⟨oc_is_stable_in, od_is_stable_in, .func (PySem.W.fnOf "is_stable_in" "is_stable_in" (defArgs s_is_stable_in) (defBody s_is_stable_in) (defScope s_is_stable_in) .none kV_is_stable_in dc_is_stable_in pm_is_stable_in an_is_stable_in cd_is_stable_in ct_is_stable_in), sl_is_stable_in⟩)
    (co_is_stable_in : PySem.W.codeIn K cd_is_stable_in "is_stable_in" = true)
    (k_is_stable_in : PySem.W.keepIn K (.ref q_is_stable_in) = true)
    {q_is_stable : Addr} {od_is_stable an_is_stable : Option Addr} {sl_is_stable : Array (Option Value)} {oc_is_stable kV_is_stable dc_is_stable pm_is_stable ct_is_stable cd_is_stable : Value}
    (a_is_stable : PySem.W.nsIn K mainGlobals "is_stable" = some (some (.ref q_is_stable)))
    (l_is_stable : K.lookup q_is_stable = some ⟨oc_is_stable, od_is_stable, .func (PySem.W.fnOf "is_stable" "is_stable" (defArgs s_is_stable) (defBody s_is_stable) (defScope s_is_stable) .none kV_is_stable dc_is_stable pm_is_stable an_is_stable cd_is_stable ct_is_stable), sl_is_stable⟩)
    (co_is_stable : PySem.W.codeIn K cd_is_stable "is_stable" = true)
    (k_is_stable : PySem.W.keepIn K (.ref q_is_stable) = true)
    {q_is_cover : Addr} {od_is_cover an_is_cover : Option Addr} {sl_is_cover : Array (Option Value)} {oc_is_cover kV_is_cover dc_is_cover pm_is_cover ct_is_cover cd_is_cover : Value}
    (a_is_cover : PySem.W.nsIn K mainGlobals "is_cover" = some (some (.ref q_is_cover)))
    (l_is_cover : K.lookup q_is_cover = some ⟨oc_is_cover, od_is_cover, .func (PySem.W.fnOf "is_cover" "is_cover" (defArgs s_is_cover) (defBody s_is_cover) (defScope s_is_cover) .none kV_is_cover dc_is_cover pm_is_cover an_is_cover cd_is_cover ct_is_cover), sl_is_cover⟩)
    (co_is_cover : PySem.W.codeIn K cd_is_cover "is_cover" = true)
    (k_is_cover : PySem.W.keepIn K (.ref q_is_cover) = true)
    {q_rows_of_size : Addr} {od_rows_of_size an_rows_of_size : Option Addr} {sl_rows_of_size : Array (Option Value)} {oc_rows_of_size kV_rows_of_size dc_rows_of_size pm_rows_of_size ct_rows_of_size cd_rows_of_size : Value}
    (a_rows_of_size : PySem.W.nsIn K mainGlobals "rows_of_size" = some (some (.ref q_rows_of_size)))
    (l_rows_of_size : K.lookup q_rows_of_size = some ⟨oc_rows_of_size, od_rows_of_size, .func (PySem.W.fnOf "rows_of_size" "rows_of_size" (defArgs s_rows_of_size) (defBody s_rows_of_size) (defScope s_rows_of_size) .none kV_rows_of_size dc_rows_of_size pm_rows_of_size an_rows_of_size cd_rows_of_size ct_rows_of_size), sl_rows_of_size⟩)
    (co_rows_of_size : PySem.W.codeIn K cd_rows_of_size "rows_of_size" = true)
    (k_rows_of_size : PySem.W.keepIn K (.ref q_rows_of_size) = true)
    {q_first_cover : Addr} {od_first_cover an_first_cover : Option Addr} {sl_first_cover : Array (Option Value)} {oc_first_cover kV_first_cover dc_first_cover pm_first_cover ct_first_cover cd_first_cover : Value}
    (a_first_cover : PySem.W.nsIn K mainGlobals "first_cover" = some (some (.ref q_first_cover)))
    (l_first_cover : K.lookup q_first_cover = some ⟨oc_first_cover, od_first_cover, .func (PySem.W.fnOf "first_cover" "first_cover" (defArgs s_first_cover) (defBody s_first_cover) (defScope s_first_cover) .none kV_first_cover dc_first_cover pm_first_cover an_first_cover cd_first_cover ct_first_cover), sl_first_cover⟩)
    (co_first_cover : PySem.W.codeIn K cd_first_cover "first_cover" = true)
    (k_first_cover : PySem.W.keepIn K (.ref q_first_cover) = true)
    {q_cover_number : Addr} {od_cover_number an_cover_number : Option Addr} {sl_cover_number : Array (Option Value)} {oc_cover_number kV_cover_number dc_cover_number pm_cover_number ct_cover_number cd_cover_number : Value}
    (a_cover_number : PySem.W.nsIn K mainGlobals "cover_number" = some (some (.ref q_cover_number)))
    (l_cover_number : K.lookup q_cover_number = some ⟨oc_cover_number, od_cover_number, .func (PySem.W.fnOf "cover_number" "cover_number" (defArgs s_cover_number) (defBody s_cover_number) (defScope s_cover_number) .none kV_cover_number dc_cover_number pm_cover_number an_cover_number cd_cover_number ct_cover_number), sl_cover_number⟩)
    (co_cover_number : PySem.W.codeIn K cd_cover_number "cover_number" = true)
    (k_cover_number : PySem.W.keepIn K (.ref q_cover_number) = true)
    {q_most_apart : Addr} {od_most_apart an_most_apart : Option Addr} {sl_most_apart : Array (Option Value)} {oc_most_apart kV_most_apart dc_most_apart pm_most_apart ct_most_apart cd_most_apart : Value}
    (a_most_apart : PySem.W.nsIn K mainGlobals "most_apart" = some (some (.ref q_most_apart)))
    (l_most_apart : K.lookup q_most_apart = some ⟨oc_most_apart, od_most_apart, .func (PySem.W.fnOf "most_apart" "most_apart" (defArgs s_most_apart) (defBody s_most_apart) (defScope s_most_apart) .none kV_most_apart dc_most_apart pm_most_apart an_most_apart cd_most_apart ct_most_apart), sl_most_apart⟩)
    (co_most_apart : PySem.W.codeIn K cd_most_apart "most_apart" = true)
    (k_most_apart : PySem.W.keepIn K (.ref q_most_apart) = true)
    {q__law_taken : Addr} {od__law_taken an__law_taken : Option Addr} {sl__law_taken : Array (Option Value)} {oc__law_taken kV__law_taken dc__law_taken pm__law_taken ct__law_taken cd__law_taken : Value}
    (a__law_taken : PySem.W.nsIn K mainGlobals "_law_taken" = some (some (.ref q__law_taken)))
    (l__law_taken : K.lookup q__law_taken = some ⟨oc__law_taken, od__law_taken, .func (PySem.W.fnOf "_law_taken" "_law_taken" (defArgs s__law_taken) (defBody s__law_taken) (defScope s__law_taken) .none kV__law_taken dc__law_taken pm__law_taken an__law_taken cd__law_taken ct__law_taken), sl__law_taken⟩)
    (co__law_taken : PySem.W.codeIn K cd__law_taken "_law_taken" = true)
    (k__law_taken : PySem.W.keepIn K (.ref q__law_taken) = true)
    {q__law_pick : Addr} {od__law_pick an__law_pick : Option Addr} {sl__law_pick : Array (Option Value)} {oc__law_pick kV__law_pick dc__law_pick pm__law_pick ct__law_pick cd__law_pick : Value}
    (a__law_pick : PySem.W.nsIn K mainGlobals "_law_pick" = some (some (.ref q__law_pick)))
    (l__law_pick : K.lookup q__law_pick = some ⟨oc__law_pick, od__law_pick, .func (PySem.W.fnOf "_law_pick" "_law_pick" (defArgs s__law_pick) (defBody s__law_pick) (defScope s__law_pick) .none kV__law_pick dc__law_pick pm__law_pick an__law_pick cd__law_pick ct__law_pick), sl__law_pick⟩)
    (co__law_pick : PySem.W.codeIn K cd__law_pick "_law_pick" = true)
    (k__law_pick : PySem.W.keepIn K (.ref q__law_pick) = true)
    {q__law_alike : Addr} {od__law_alike an__law_alike : Option Addr} {sl__law_alike : Array (Option Value)} {oc__law_alike kV__law_alike dc__law_alike pm__law_alike ct__law_alike cd__law_alike : Value}
    (a__law_alike : PySem.W.nsIn K mainGlobals "_law_alike" = some (some (.ref q__law_alike)))
    (l__law_alike : K.lookup q__law_alike = some ⟨oc__law_alike, od__law_alike, .func (PySem.W.fnOf "_law_alike" "_law_alike" (defArgs s__law_alike) (defBody s__law_alike) (defScope s__law_alike) .none kV__law_alike dc__law_alike pm__law_alike an__law_alike cd__law_alike ct__law_alike), sl__law_alike⟩)
    (co__law_alike : PySem.W.codeIn K cd__law_alike "_law_alike" = true)
    (k__law_alike : PySem.W.keepIn K (.ref q__law_alike) = true)
    {q__law_graph : Addr} {od__law_graph an__law_graph : Option Addr} {sl__law_graph : Array (Option Value)} {oc__law_graph kV__law_graph dc__law_graph pm__law_graph ct__law_graph cd__law_graph : Value}
    (a__law_graph : PySem.W.nsIn K mainGlobals "_law_graph" = some (some (.ref q__law_graph)))
    (l__law_graph : K.lookup q__law_graph = some ⟨oc__law_graph, od__law_graph, .func (PySem.W.fnOf "_law_graph" "_law_graph" (defArgs s__law_graph) (defBody s__law_graph) (defScope s__law_graph) .none kV__law_graph dc__law_graph pm__law_graph an__law_graph cd__law_graph ct__law_graph), sl__law_graph⟩)
    (co__law_graph : PySem.W.codeIn K cd__law_graph "_law_graph" = true)
    (k__law_graph : PySem.W.keepIn K (.ref q__law_graph) = true)
    {q__law_rows : Addr} {od__law_rows an__law_rows : Option Addr} {sl__law_rows : Array (Option Value)} {oc__law_rows kV__law_rows dc__law_rows pm__law_rows ct__law_rows cd__law_rows : Value}
    (a__law_rows : PySem.W.nsIn K mainGlobals "_law_rows" = some (some (.ref q__law_rows)))
    (l__law_rows : K.lookup q__law_rows = some ⟨oc__law_rows, od__law_rows, .func (PySem.W.fnOf "_law_rows" "_law_rows" (defArgs s__law_rows) (defBody s__law_rows) (defScope s__law_rows) .none kV__law_rows dc__law_rows pm__law_rows an__law_rows cd__law_rows ct__law_rows), sl__law_rows⟩)
    (co__law_rows : PySem.W.codeIn K cd__law_rows "_law_rows" = true)
    (k__law_rows : PySem.W.keepIn K (.ref q__law_rows) = true)
    {q_law : Addr} {od_law an_law : Option Addr} {sl_law : Array (Option Value)} {oc_law kV_law dc_law pm_law ct_law : Value}
    {cc : Addr}
    (a_law : PySem.W.nsIn K mainGlobals "law" = some (some (.ref q_law)))
    (l_law : K.lookup q_law = some ⟨oc_law, od_law, .func (PySem.W.fnOf "law" "law" (defArgs s_law) (defBody s_law) (defScope s_law) .none kV_law dc_law pm_law an_law (.ref cc) ct_law), sl_law⟩)
    (co_law : PySem.W.codeIn K (.ref cc) "law" = true)
    (k_law : PySem.W.keepIn K (.ref q_law) = true)
    {q__law_refused : Addr} {od__law_refused an__law_refused : Option Addr} {sl__law_refused : Array (Option Value)} {oc__law_refused kV__law_refused dc__law_refused pm__law_refused ct__law_refused cd__law_refused : Value}
    (a__law_refused : PySem.W.nsIn K mainGlobals "_law_refused" = some (some (.ref q__law_refused)))
    (l__law_refused : K.lookup q__law_refused = some ⟨oc__law_refused, od__law_refused, .func (PySem.W.fnOf "_law_refused" "_law_refused" (defArgs s__law_refused) (defBody s__law_refused) (defScope s__law_refused) .none kV__law_refused dc__law_refused pm__law_refused an__law_refused cd__law_refused ct__law_refused), sl__law_refused⟩)
    (co__law_refused : PySem.W.codeIn K cd__law_refused "_law_refused" = true)
    (k__law_refused : PySem.W.keepIn K (.ref q__law_refused) = true)
    (hd_law : PySem.W.codeHdIn K cc PP = true)
    (n_P : K.lookup PP = none)
    {nm q : Str} {C N fI : Addr} {bs : List Value} {sn : List Str} {sub : List Value} {ab : Bool} {col : Option Bool} {dd : Option Addr} {m0 m1 m2 m3 m5 : Option Value} {odI anI : Option Addr} {slI : Array (Option Value)} {ocI kVI dcI pmI cdI ctI : Value}
    (aC : PySem.W.nsIn K mainGlobals "BadArgument" = some (some (.ref C)))
    (xL : K.lookup C = some (excClassObj nm q C N bs [.type "ValueError", .type "Exception", .type "BaseException", .type "object"] true sn sub ab col dd m0 m1 m2 m3 m5 "ValueError.__new__"))
    (sa : PySem.W.findIn K (.ref C) "__setattr__" = some (some (.builtin "object.__setattr__")))
    (ga : PySem.W.findIn K (.ref C) "__getattribute__" = some (some (.builtin "BaseException.__getattribute__")))
    (gg : PySem.W.findIn K (.ref C) "__getattr__" = some none)
    (nb_name : PySem.W.findIn K (.ref C) "name" = some none)
    (a1 : PySem.W.findIn K (.ref C) "__init__" = some (some (.ref fI)))
    (t1 : PySem.W.typeIn K (.ref fI) = some (.type "function"))
    (l1 : K.lookup fI = some ⟨ocI, odI, .func (PySem.W.fnOf "__init__" "BadArgument.__init__" (defArgs s_init) (defBody s_init) (defScope s_init) .none kVI dcI pmI anI cdI ctI), slI⟩)
    (c1 : PySem.W.codeIn K cdI "BadArgument.__init__" = true)
    (kI : PySem.W.keepIn K (.ref fI) = true)
    (kC : PySem.W.keepIn K (.ref C) = true)
    (eC : PySem.W.subIn K (.ref C) (.type "BaseException") = some true)
    (tC : PySem.W.typeIn K (.ref C) = some (.type "type"))
    (hC : PySem.W.hasDictIn K C = true)
    (sC : PySem.W.subIn K (.ref C) (.ref C) = some true) :
    LamX.LawAtS l w K (L2.CX l.prog w) 9 63 "script" mg fa h := by
  have e : q_law = fa := by cases hfa.symm.trans (PySem.W.mg_of X G a_law); rfl
  subst e
  have T : Bt mg := ⟨PySem.W.mg_none_of X G z_all, PySem.W.mg_none_of X G z_any, PySem.W.mg_none_of X G z_bool, PySem.W.mg_none_of X G z_int, PySem.W.mg_none_of X G z_isinstance, PySem.W.mg_none_of X G z_len, PySem.W.mg_none_of X G z_list, PySem.W.mg_none_of X G z_max, PySem.W.mg_none_of X G z_range, PySem.W.mg_none_of X G z_set, PySem.W.mg_none_of X G z_sorted, PySem.W.mg_none_of X G z_str, PySem.W.mg_none_of X G z_tuple, ⟨_, PySem.W.mg_of X G c_MOST_NODES⟩⟩
  let B : Bs := ⟨K, [(PP, ("law" : Str) ++ ".<locals>." ++ "<lambda>")], fun x => if x = ("BadArgument" : Str) then some C else none⟩
  have F_is_whole : Fun K "is_whole" "is_whole" s_is_whole q_is_whole _ := fun_mk l_is_whole co_is_whole k_is_whole
  have b_is_whole := F_is_whole.binds (ps := ["value", "low", "high"]) fun _ _ _ _ _ _ us hl => match us, hl with | [_, _, _], _ => rfl
  have F_are_whole : Fun K "are_whole" "are_whole" s_are_whole q_are_whole _ := fun_mk l_are_whole co_are_whole k_are_whole
  have b_are_whole := F_are_whole.binds (ps := ["value", "low", "high"]) fun _ _ _ _ _ _ us hl => match us, hl with | [_, _, _], _ => rfl
  have F_is_rising : Fun K "is_rising" "is_rising" s_is_rising q_is_rising _ := fun_mk l_is_rising co_is_rising k_is_rising
  have b_is_rising := F_is_rising.binds (ps := ["value", "low", "high"]) fun _ _ _ _ _ _ us hl => match us, hl with | [_, _, _], _ => rfl
  have F_need : Fun K "need" "need" s_need q_need _ := fun_mk l_need co_need k_need
  have b_need := F_need.binds (ps := ["is_right", "name"]) fun _ _ _ _ _ _ us hl => match us, hl with | [_, _], _ => rfl
  have F_are_edges : Fun K "are_edges" "are_edges" s_are_edges q_are_edges _ := fun_mk l_are_edges co_are_edges k_are_edges
  have b_are_edges := F_are_edges.binds (ps := ["value", "many"]) fun _ _ _ _ _ _ us hl => match us, hl with | [_, _], _ => rfl
  have F_need_graph : Fun K "need_graph" "need_graph" s_need_graph q_need_graph _ := fun_mk l_need_graph co_need_graph k_need_graph
  have b_need_graph := F_need_graph.binds (ps := ["many", "edges", "most"]) fun _ _ _ _ _ _ us hl => match us, hl with | [_, _, _], _ => rfl
  have F_is_stable_in : Fun K "is_stable_in" "is_stable_in" s_is_stable_in q_is_stable_in _ := fun_mk l_is_stable_in co_is_stable_in k_is_stable_in
  have b_is_stable_in := F_is_stable_in.binds (ps := ["edges", "some"]) fun _ _ _ _ _ _ us hl => match us, hl with | [_, _], _ => rfl
  have F_is_stable : Fun K "is_stable" "is_stable" s_is_stable q_is_stable _ := fun_mk l_is_stable co_is_stable k_is_stable
  have b_is_stable := F_is_stable.binds (ps := ["many", "edges", "value"]) fun _ _ _ _ _ _ us hl => match us, hl with | [_, _, _], _ => rfl
  have F_is_cover : Fun K "is_cover" "is_cover" s_is_cover q_is_cover _ := fun_mk l_is_cover co_is_cover k_is_cover
  have b_is_cover := F_is_cover.binds (ps := ["many", "edges", "value"]) fun _ _ _ _ _ _ us hl => match us, hl with | [_, _, _], _ => rfl
  have F_rows_of_size : Fun K "rows_of_size" "rows_of_size" s_rows_of_size q_rows_of_size _ := fun_mk l_rows_of_size co_rows_of_size k_rows_of_size
  have b_rows_of_size := F_rows_of_size.binds (ps := ["many", "size"]) fun _ _ _ _ _ _ us hl => match us, hl with | [_, _], _ => rfl
  have F_first_cover : Fun K "first_cover" "first_cover" s_first_cover q_first_cover _ := fun_mk l_first_cover co_first_cover k_first_cover
  have b_first_cover := F_first_cover.binds (ps := ["many", "edges"]) fun _ _ _ _ _ _ us hl => match us, hl with | [_, _], _ => rfl
  have F_cover_number : Fun K "cover_number" "cover_number" s_cover_number q_cover_number _ := fun_mk l_cover_number co_cover_number k_cover_number
  have b_cover_number := F_cover_number.binds (ps := ["many", "edges"]) fun _ _ _ _ _ _ us hl => match us, hl with | [_, _], _ => rfl
  have F_most_apart : Fun K "most_apart" "most_apart" s_most_apart q_most_apart _ := fun_mk l_most_apart co_most_apart k_most_apart
  have b_most_apart := F_most_apart.binds (ps := ["many", "edges"]) fun _ _ _ _ _ _ us hl => match us, hl with | [_, _], _ => rfl
  have F__law_taken : Fun K "_law_taken" "_law_taken" s__law_taken q__law_taken _ := fun_mk l__law_taken co__law_taken k__law_taken
  have b__law_taken := F__law_taken.binds (ps := ["row", "many"]) fun _ _ _ _ _ _ us hl => match us, hl with | [_, _], _ => rfl
  have F__law_pick : Fun K "_law_pick" "_law_pick" s__law_pick q__law_pick _ := fun_mk l__law_pick co__law_pick k__law_pick
  have b__law_pick := F__law_pick.binds (ps := ["row", "some"]) fun _ _ _ _ _ _ us hl => match us, hl with | [_, _], _ => rfl
  have F__law_alike : Fun K "_law_alike" "_law_alike" s__law_alike q__law_alike _ := fun_mk l__law_alike co__law_alike k__law_alike
  have b__law_alike := F__law_alike.binds (ps := ["found", "due"]) fun _ _ _ _ _ _ us hl => match us, hl with | [_, _], _ => rfl
  have F__law_graph : Fun K "_law_graph" "_law_graph" s__law_graph q__law_graph _ := fun_mk l__law_graph co__law_graph k__law_graph
  have b__law_graph := F__law_graph.binds (ps := ["row", "things", "pairs"]) fun _ _ _ _ _ _ us hl => match us, hl with | [_, _, _], _ => rfl
  have F__law_rows : Fun K "_law_rows" "_law_rows" s__law_rows q__law_rows _ := fun_mk l__law_rows co__law_rows k__law_rows
  have b__law_rows := F__law_rows.binds (ps := ["some", "size"]) fun _ _ _ _ _ _ us hl => match us, hl with | [_, _], _ => rfl
  have F_law : Fun K "law" "law" s_law q_law _ := fun_mk l_law co_law k_law
  have b_law := F_law.binds (ps := ["script"]) fun _ _ _ _ _ _ us hl => match us, hl with | [_], _ => rfl
  have F__law_refused : Fun K "_law_refused" "_law_refused" s__law_refused q__law_refused _ := fun_mk l__law_refused co__law_refused k__law_refused
  have b__law_refused := F__law_refused.binds (ps := ["call"]) fun _ _ _ _ _ _ us hl => match us, hl with | [_], _ => rfl
  refine ⟨(PySem.W.fnOf "law" "law" (defArgs s_law) (defBody s_law) (defScope s_law) .none kV_law dc_law pm_law an_law (.ref cc) ct_law), [(cc, PP)], spF B f_law, fun p hp => by rw [List.mem_singleton] at hp; subst hp; exact hT PP (List.mem_singleton.mpr rfl), fun p hp => by rw [List.mem_singleton] at hp; subst hp; exact n_P, fun p hp => by rw [List.mem_singleton] at hp; subst hp; exact PySem.W.codeHd_of_K X hd_law, fun s u => .of_eq rfl, fun H a ns hl hz hH hS => sp_law (tabs_of (hH (cc, PP) (List.mem_singleton.mpr rfl))) hS (hlaw ns hl hz), fun base KB NB TB => ?_⟩
  have FI : Fun K "__init__" "BadArgument.__init__" s_init fI _ := fun_mk l1 c1 kI
  have bI := FI.binds (ps := [("self" : Str), "name"]) fun _ _ _ _ _ _ us hl => match us, hl with | [_, _], _ => rfl
  have ox : OexC K C := ⟨⟨nm, q, N, bs, _, sn, sub, ab, col, dd, m0, m1, m2, m3, m5, xL, by decide +kernel⟩, sa, eC, tC, kC⟩
  have em : PySem.W.exmOne K (.ref C) (.ref C) = some true := PySem.W.exm_ref eC hC tC sC
  have oI : FnOk l.prog w K mg base (L2.CX l.prog w) 1 fI _ [("self" : Str), "name"] (spInit C ["name"]) := init1 (P := l.prog) (w := w) (B := B) (mg := mg) (base := base) (k := 0) FI sc_init ox nb_name rfl (fun X hN hs => by refine pe_var (i := 1) (by rw [hN]; rfl) (by rw [hs]; exact .inl rfl) (by decide) (by decide)) (fun X hN hs => by refine pe_var (i := 0) (by rw [hN]; rfl) (by rw [hs]; exact .inl rfl) (by decide) (by decide)) (fun X hs => rfl)
  have XC : XCls l.prog w B mg base 1 "BadArgument" ["name"] C := ⟨ox, ⟨ga, gg, eC, hC⟩, fun f hf => by simp only [List.mem_cons, List.not_mem_nil, or_false] at hf; rcases hf with rfl; exact nb_name, PySem.W.mg_of X G aC, (show (if ("BadArgument" : Str) = "BadArgument" then some C else none) = some C from if_pos rfl), em, ⟨fI, _, _, a1, t1, oI, bI⟩⟩
  have o_is_whole := d_is_whole (P := l.prog) (w := w) (B := B) (base := base) F_is_whole T 
  have h_is_whole : Df l.prog w B mg base 2 "is_whole" f_is_whole := ⟨⟨_, _, _, o_is_whole, PySem.W.mg_of X G a_is_whole, k_is_whole, b_is_whole⟩⟩
  have o_are_whole := d_are_whole (P := l.prog) (w := w) (B := B) (base := base) F_are_whole T h_is_whole
  have h_are_whole : Df l.prog w B mg base 3 "are_whole" f_are_whole := ⟨⟨_, _, _, o_are_whole, PySem.W.mg_of X G a_are_whole, k_are_whole, b_are_whole⟩⟩
  have o_is_rising := d_is_rising (P := l.prog) (w := w) (B := B) (base := base) F_is_rising T h_are_whole
  have h_is_rising : Df l.prog w B mg base 4 "is_rising" f_is_rising := ⟨⟨_, _, _, o_is_rising, PySem.W.mg_of X G a_is_rising, k_is_rising, b_is_rising⟩⟩
  have o_need := d_need (P := l.prog) (w := w) (B := B) (base := base) F_need T  XC
  have h_need : Df l.prog w B mg base 3 "need" f_need := ⟨⟨_, _, _, o_need, PySem.W.mg_of X G a_need, k_need, b_need⟩⟩
  have o_are_edges := d_are_edges (P := l.prog) (w := w) (B := B) (base := base) F_are_edges T h_is_whole
  have h_are_edges : Df l.prog w B mg base 3 "are_edges" f_are_edges := ⟨⟨_, _, _, o_are_edges, PySem.W.mg_of X G a_are_edges, k_are_edges, b_are_edges⟩⟩
  have o_need_graph := d_need_graph (P := l.prog) (w := w) (B := B) (base := base) F_need_graph T h_need h_is_whole h_are_edges
  have h_need_graph : Df l.prog w B mg base 4 "need_graph" f_need_graph := ⟨⟨_, _, _, o_need_graph, PySem.W.mg_of X G a_need_graph, k_need_graph, b_need_graph⟩⟩
  have o_is_stable_in := d_is_stable_in (P := l.prog) (w := w) (B := B) (base := base) F_is_stable_in T 
  have h_is_stable_in : Df l.prog w B mg base 2 "is_stable_in" f_is_stable_in := ⟨⟨_, _, _, o_is_stable_in, PySem.W.mg_of X G a_is_stable_in, k_is_stable_in, b_is_stable_in⟩⟩
  have o_is_stable := d_is_stable (P := l.prog) (w := w) (B := B) (base := base) F_is_stable T h_need_graph h_is_stable_in h_is_rising
  have h_is_stable : Df l.prog w B mg base 5 "is_stable" f_is_stable := ⟨⟨_, _, _, o_is_stable, PySem.W.mg_of X G a_is_stable, k_is_stable, b_is_stable⟩⟩
  have o_is_cover := d_is_cover (P := l.prog) (w := w) (B := B) (base := base) F_is_cover T h_need_graph h_is_rising
  have h_is_cover : Df l.prog w B mg base 5 "is_cover" f_is_cover := ⟨⟨_, _, _, o_is_cover, PySem.W.mg_of X G a_is_cover, k_is_cover, b_is_cover⟩⟩
  have o_rows_of_size := d_rows_of_size (P := l.prog) (w := w) (B := B) (base := base) F_rows_of_size T 
  have h_rows_of_size : Df l.prog w B mg base 2 "rows_of_size" f_rows_of_size := ⟨⟨_, _, _, o_rows_of_size, PySem.W.mg_of X G a_rows_of_size, k_rows_of_size, b_rows_of_size⟩⟩
  have o_first_cover := d_first_cover (P := l.prog) (w := w) (B := B) (base := base) F_first_cover T h_need_graph h_rows_of_size
  have h_first_cover : Df l.prog w B mg base 5 "first_cover" f_first_cover := ⟨⟨_, _, _, o_first_cover, PySem.W.mg_of X G a_first_cover, k_first_cover, b_first_cover⟩⟩
  have o_cover_number := d_cover_number (P := l.prog) (w := w) (B := B) (base := base) F_cover_number T h_first_cover
  have h_cover_number : Df l.prog w B mg base 6 "cover_number" f_cover_number := ⟨⟨_, _, _, o_cover_number, PySem.W.mg_of X G a_cover_number, k_cover_number, b_cover_number⟩⟩
  have o_most_apart := d_most_apart (P := l.prog) (w := w) (B := B) (base := base) F_most_apart T h_need_graph
  have h_most_apart : Df l.prog w B mg base 5 "most_apart" f_most_apart := ⟨⟨_, _, _, o_most_apart, PySem.W.mg_of X G a_most_apart, k_most_apart, b_most_apart⟩⟩
  have o__law_taken := d__law_taken (P := l.prog) (w := w) (B := B) (base := base) F__law_taken T 
  have h__law_taken : DfO l.prog w B mg base 2 "_law_taken" f__law_taken := ⟨⟨_, _, _, o__law_taken, PySem.W.mg_of X G a__law_taken, k__law_taken, b__law_taken⟩⟩
  have o__law_pick := d__law_pick (P := l.prog) (w := w) (B := B) (base := base) F__law_pick T h__law_taken
  have h__law_pick : DfO l.prog w B mg base 3 "_law_pick" f__law_pick := ⟨⟨_, _, _, o__law_pick, PySem.W.mg_of X G a__law_pick, k__law_pick, b__law_pick⟩⟩
  have r0__law_alike : Df l.prog w B mg base 1 "_law_alike" (f__law_alike 0) := ⟨⟨_, _, _, noF, PySem.W.mg_of X G a__law_alike, k__law_alike, b__law_alike⟩⟩
  have r1__law_alike : Df l.prog w B mg base 2 "_law_alike" (f__law_alike 1) := ⟨⟨_, _, _, d__law_alike_step (by decide) F__law_alike T  r0__law_alike, PySem.W.mg_of X G a__law_alike, k__law_alike, b__law_alike⟩⟩
  have r2__law_alike : Df l.prog w B mg base 3 "_law_alike" (f__law_alike 2) := ⟨⟨_, _, _, d__law_alike_step (by decide) F__law_alike T  r1__law_alike, PySem.W.mg_of X G a__law_alike, k__law_alike, b__law_alike⟩⟩
  have r3__law_alike : Df l.prog w B mg base 4 "_law_alike" (f__law_alike 3) := ⟨⟨_, _, _, d__law_alike_step (by decide) F__law_alike T  r2__law_alike, PySem.W.mg_of X G a__law_alike, k__law_alike, b__law_alike⟩⟩
  have r4__law_alike : Df l.prog w B mg base 5 "_law_alike" (f__law_alike 4) := ⟨⟨_, _, _, d__law_alike_step (by decide) F__law_alike T  r3__law_alike, PySem.W.mg_of X G a__law_alike, k__law_alike, b__law_alike⟩⟩
  have h__law_alike := r4__law_alike
  have o__law_graph := d__law_graph (P := l.prog) (w := w) (B := B) (base := base) F__law_graph T h__law_taken h__law_pick
  have h__law_graph : DfO l.prog w B mg base 4 "_law_graph" f__law_graph := ⟨⟨_, _, _, o__law_graph, PySem.W.mg_of X G a__law_graph, k__law_graph, b__law_graph⟩⟩
  have o__law_rows := d__law_rows (P := l.prog) (w := w) (B := B) (base := base) F__law_rows T 
  have h__law_rows : Df l.prog w B mg base 2 "_law_rows" f__law_rows := ⟨⟨_, _, _, o__law_rows, PySem.W.mg_of X G a__law_rows, k__law_rows, b__law_rows⟩⟩
  have k_first_cover_1_edges : DfK l.prog w B mg base 5 "first_cover" 1 ["edges"] f_first_cover := ⟨⟨_, _, ["many", "edges"], o_first_cover, PySem.W.mg_of X G a_first_cover, k_first_cover, kb_of F_first_cover 1 rfl (by decide) (fun _ _ _ _ _ _ us ws h1 h2 => match us, h1, ws, h2 with | [_], _, [_], _ => rfl)⟩⟩
  have k_is_cover_2_value : DfK l.prog w B mg base 5 "is_cover" 2 ["value"] f_is_cover := ⟨⟨_, _, ["many", "edges", "value"], o_is_cover, PySem.W.mg_of X G a_is_cover, k_is_cover, kb_of F_is_cover 2 rfl (by decide) (fun _ _ _ _ _ _ us ws h1 h2 => match us, h1, ws, h2 with | [_, _], _, [_], _ => rfl)⟩⟩
  have k_is_stable_2_value : DfK l.prog w B mg base 5 "is_stable" 2 ["value"] f_is_stable := ⟨⟨_, _, ["many", "edges", "value"], o_is_stable, PySem.W.mg_of X G a_is_stable, k_is_stable, kb_of F_is_stable 2 rfl (by decide) (fun _ _ _ _ _ _ us ws h1 h2 => match us, h1, ws, h2 with | [_, _], _, [_], _ => rfl)⟩⟩
  have RF0 : ∀ X1 : Cx, X1.K = B.K → X1.mg = mg → RefD X1 "_law_refused" "call" "BadArgument" "name" C 6 := fun X1 hK hm => by
    have aR := PySem.W.mg_of X G a__law_refused
    have lR := l__law_refused
    have cR := co__law_refused
    have kR := k__law_refused
    have bR := b__law_refused
    have mC := PySem.W.mg_of X G aC
    have K0 : X1.K = K := hK
    rw [← hm] at aR mC
    rw [← K0] at lR cR kR bR ga gg eC hC nb_name em
    exact ⟨_, _, _, _, _, _, _, _, _, _, _, _, _, _, _, aR, kR, lR, cR, bR, sc__law_refused, rfl, .inl rfl, ref_gives sc__law_refused (i := 1) (n := "e") rfl mC (by decide) rfl rfl (fun _ => rfl) (fun _ => Nat.lt_succ_self 1) ⟨ga, gg, eC, hC⟩ nb_name em (by decide) (by decide) (by decide) (fun _ => rfl) (fun _ => rfl)⟩
  exact d_law T h__law_graph h__law_rows h__law_alike h_cover_number h_first_cover h_most_apart h__law_pick h_is_cover h_is_stable k_first_cover_1_edges k_is_cover_2_value k_is_stable_2_value l_law co_law XC (TB (cc, PP) (List.mem_singleton.mpr rfl)) (List.mem_singleton.mpr rfl) (fun p hp _ => by rw [List.mem_singleton] at hp; subst hp; rfl) RF0
end K05
open PySem PySem.W PyProof.Rows
set_option maxHeartbeats 0 in
theorem PySem.Challenge.cw_ferriedover_k05_whole_covers_and_pairs_a_holds : PySem.Challenge.rw_ferriedover_k05_whole_covers_and_pairs_a.Holds := by
  w_on; o_law; k_head; (case hw => w_witness2)
  k_fill
  refine LamX.walk_ofTs (l := PySem.Challenge.rw_ferriedover_k05_whole_covers_and_pairs_a) (n := 63) (k := 9) (x := "script") (CX := fun w => L2.CX PySem.Challenge.rw_ferriedover_k05_whole_covers_and_pairs_a.prog w) rfl (by decide) rfl ⟨rfl, by decide, by decide⟩ (fun w h Y => PySem.W.km_in_of Y) ?F (fun _ _ _ _ _ h => Fe.cx_off h)
  case F =>
    intro w mg fa h Y KX G hmg
    refine' K05.all_mk KX G hmg (PySem.W.km_tabs_of Y) K05.law_true ?z_all ?z_any ?z_bool ?z_int ?z_isinstance ?z_len ?z_list ?z_max ?z_range ?z_set ?z_sorted ?z_str ?z_tuple ?c_MOST_NODES ?a_is_whole ?l_is_whole ?co_is_whole ?k_is_whole ?a_are_whole ?l_are_whole ?co_are_whole ?k_are_whole ?a_is_rising ?l_is_rising ?co_is_rising ?k_is_rising ?a_need ?l_need ?co_need ?k_need ?a_are_edges ?l_are_edges ?co_are_edges ?k_are_edges ?a_need_graph ?l_need_graph ?co_need_graph ?k_need_graph ?a_is_stable_in ?l_is_stable_in ?co_is_stable_in ?k_is_stable_in ?a_is_stable ?l_is_stable ?co_is_stable ?k_is_stable ?a_is_cover ?l_is_cover ?co_is_cover ?k_is_cover ?a_rows_of_size ?l_rows_of_size ?co_rows_of_size ?k_rows_of_size ?a_first_cover ?l_first_cover ?co_first_cover ?k_first_cover ?a_cover_number ?l_cover_number ?co_cover_number ?k_cover_number ?a_most_apart ?l_most_apart ?co_most_apart ?k_most_apart ?a__law_taken ?l__law_taken ?co__law_taken ?k__law_taken ?a__law_pick ?l__law_pick ?co__law_pick ?k__law_pick ?a__law_alike ?l__law_alike ?co__law_alike ?k__law_alike ?a__law_graph ?l__law_graph ?co__law_graph ?k__law_graph ?a__law_rows ?l__law_rows ?co__law_rows ?k__law_rows ?a_law ?l_law ?co_law ?k_law ?a__law_refused ?l__law_refused ?co__law_refused ?k__law_refused ?hd_law ?n_P ?aC ?xL ?sa ?ga ?gg ?nb_name ?a1 ?t1 ?l1 ?c1 ?kI ?kC ?eC ?tC ?hC ?sC
    (case z_all => first | k_is | rfl); (case z_any => first | k_is | rfl); (case z_bool => first | k_is | rfl); (case z_int => first | k_is | rfl); (case z_isinstance => first | k_is | rfl); (case z_len => first | k_is | rfl); (case z_list => first | k_is | rfl); (case z_max => first | k_is | rfl); (case z_range => first | k_is | rfl); (case z_set => first | k_is | rfl); (case z_sorted => first | k_is | rfl); (case z_str => first | k_is | rfl); (case z_tuple => first | k_is | rfl); (case c_MOST_NODES => first | k_is | rfl); (case a_is_whole => first | k_is | rfl); (case l_is_whole => first | k_is | rfl); (case co_is_whole => first | k_is | rfl); (case k_is_whole => first | k_is | rfl); (case a_are_whole => first | k_is | rfl); (case l_are_whole => first | k_is | rfl); (case co_are_whole => first | k_is | rfl); (case k_are_whole => first | k_is | rfl); (case a_is_rising => first | k_is | rfl); (case l_is_rising => first | k_is | rfl); (case co_is_rising => first | k_is | rfl); (case k_is_rising => first | k_is | rfl); (case a_need => first | k_is | rfl); (case l_need => first | k_is | rfl); (case co_need => first | k_is | rfl); (case k_need => first | k_is | rfl); (case a_are_edges => first | k_is | rfl); (case l_are_edges => first | k_is | rfl); (case co_are_edges => first | k_is | rfl); (case k_are_edges => first | k_is | rfl); (case a_need_graph => first | k_is | rfl); (case l_need_graph => first | k_is | rfl); (case co_need_graph => first | k_is | rfl); (case k_need_graph => first | k_is | rfl); (case a_is_stable_in => first | k_is | rfl); (case l_is_stable_in => first | k_is | rfl); (case co_is_stable_in => first | k_is | rfl); (case k_is_stable_in => first | k_is | rfl); (case a_is_stable => first | k_is | rfl); (case l_is_stable => first | k_is | rfl); (case co_is_stable => first | k_is | rfl); (case k_is_stable => first | k_is | rfl); (case a_is_cover => first | k_is | rfl); (case l_is_cover => first | k_is | rfl); (case co_is_cover => first | k_is | rfl); (case k_is_cover => first | k_is | rfl); (case a_rows_of_size => first | k_is | rfl); (case l_rows_of_size => first | k_is | rfl); (case co_rows_of_size => first | k_is | rfl); (case k_rows_of_size => first | k_is | rfl); (case a_first_cover => first | k_is | rfl); (case l_first_cover => first | k_is | rfl); (case co_first_cover => first | k_is | rfl); (case k_first_cover => first | k_is | rfl); (case a_cover_number => first | k_is | rfl); (case l_cover_number => first | k_is | rfl); (case co_cover_number => first | k_is | rfl); (case k_cover_number => first | k_is | rfl); (case a_most_apart => first | k_is | rfl); (case l_most_apart => first | k_is | rfl); (case co_most_apart => first | k_is | rfl); (case k_most_apart => first | k_is | rfl); (case a__law_taken => first | k_is | rfl); (case l__law_taken => first | k_is | rfl); (case co__law_taken => first | k_is | rfl); (case k__law_taken => first | k_is | rfl); (case a__law_pick => first | k_is | rfl); (case l__law_pick => first | k_is | rfl); (case co__law_pick => first | k_is | rfl); (case k__law_pick => first | k_is | rfl); (case a__law_alike => first | k_is | rfl); (case l__law_alike => first | k_is | rfl); (case co__law_alike => first | k_is | rfl); (case k__law_alike => first | k_is | rfl); (case a__law_graph => first | k_is | rfl); (case l__law_graph => first | k_is | rfl); (case co__law_graph => first | k_is | rfl); (case k__law_graph => first | k_is | rfl); (case a__law_rows => first | k_is | rfl); (case l__law_rows => first | k_is | rfl); (case co__law_rows => first | k_is | rfl); (case k__law_rows => first | k_is | rfl); (case a_law => first | k_is | rfl); (case l_law => first | k_is | rfl); (case co_law => first | k_is | rfl); (case k_law => first | k_is | rfl); (case a__law_refused => first | k_is | rfl); (case l__law_refused => first | k_is | rfl); (case co__law_refused => first | k_is | rfl); (case k__law_refused => first | k_is | rfl); (case hd_law => first | k_is | rfl); (case n_P => first | k_is | rfl); (case aC => first | k_is | rfl); (case xL => first | k_is | rfl); (case sa => first | k_is | rfl); (case ga => first | k_is | rfl); (case gg => first | k_is | rfl); (case nb_name => first | k_is | rfl); (case a1 => first | k_is | rfl); (case t1 => first | k_is | rfl); (case l1 => first | k_is | rfl); (case c1 => first | k_is | rfl); (case kI => first | k_is | rfl); (case kC => first | k_is | rfl); (case eC => first | k_is | rfl); (case tC => first | k_is | rfl); (case hC => first | k_is | rfl); (case sC => first | k_is | rfl)
#print axioms PySem.Challenge.cw_ferriedover_k05_whole_covers_and_pairs_a_holds
