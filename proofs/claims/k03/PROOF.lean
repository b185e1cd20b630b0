import PyProof.Rows.All
import Wide.All
import OpenK.AllK
import Wide.FinOn
import PySem.Str
import KE.LtData
import HandS.ForMost
import HandS.ForExc
import HandS.Lambda
import HandS.EndTab
import HandS.IsInst
import HandS.Deep
import HandS.TupAny
import HandS.TupLe
import HandS.TupSets
import HandS.SetFor
import HandS.Strs
import HandS.Conv
import HandS.Style
import HandS.ExcField
import HandS.ExcInit
import HandS.Wide
import KE.KDictKeyed
import HandS.ExcIs
import HandS.TupMul
import PyProof.DictRoadsH
import PySem.Builtin.Str.Common
import HandS.Text
import HandS.Replace
import OpenK.KMore
import KE.GoesEnum
import KE.SortData
import KE.DataMinMax
import PyProof.StrOps2
import PyProof.StrLawsIn
import KE.KIntText
import KE.KNestM
import KE.KLam
import PySem.Challenge.RW_ferriedover_k03_whole_wishes_and_their_p
section
set_option linter.all false
namespace Fe
open PySem (Str)
/-- data: what a value is worth -/
inductive D where
  | non | bl (b : Bool) | int (i : Int) | str (s : Str) | lst (l : List D) | tup (l : List D)
  /-- a dict: its keys, its values, in order; an instance: its class, its fields -/
  | dct (ks vs : List D) | obj (c : Str) (ns : List Str) (vs : List D)
  deriving Inhabited
/-- the longest list, tuple, text -/
def lim : Nat := 16777216
/-! ### equality as Python has it -/
mutual
def eqv : D → D → Bool
  | .non, .non => true
  | .bl a, .bl b => a == b
  | .bl a, .int j => (if a then 1 else 0) == j
  | .int i, .bl b => i == (if b then 1 else 0)
  | .int i, .int j => i == j
  | .str x, .str y => x == y
  | .lst xs, .lst ys => eqvs xs ys
  | .tup xs, .tup ys => eqvs xs ys
  | _, _ => false
def eqvs : List D → List D → Bool
  | [], [] => true
  | x :: xs, y :: ys => eqv x y && eqvs xs ys
  | _, _ => false
end
mutual
def dep : D → Nat
  | .lst xs => deps xs + 1
  | .tup xs => deps xs + 1
  | .dct _ _ => 1
  | .obj _ _ _ => 1
  | _ => 0
def deps : List D → Nat
  | [] => 0
  | x :: xs => max (dep x) (deps xs)
end
mutual
/-- all signs are signs -/
def lay : D → Bool
  | .str s => s.cps.all (· < 0x110000)
  | .lst xs => lays xs
  | .tup xs => lays xs
  | .dct _ _ => false
  | .obj _ _ _ => false
  | _ => true
def lays : List D → Bool
  | [] => true
  | x :: xs => lay x && lays xs
end
/-! ### results, the state -/
/-- what a slot holds: data that never changes again, or what may change yet -/
inductive C where
  | p (d : D)
  /-- a list or a dict of one's own -/
  | o (d : D)
  /-- an instance of one's own: its class, its fields -/
  | ob (c : Str) (ns : List Str) (cs : List C)
  /-- the list or dict that the field f of slot 0's instance holds -/
  | al (f : Str)
abbrev Env := List (Option C)
/-- an exception: its class, its fields -/
structure Ex where
  c : Str
  fs : List (Str × D)
inductive Rs (σ α : Type) where
  | ok (a : α) (ρ : σ) | ex (x : Ex) (ρ : σ) | no
abbrev R (α : Type) := Rs Env α
/-- what is reckoned over a state: the slots of a def (M), or less -/
abbrev Ms (σ α : Type) := σ → Rs σ α
abbrev M (α : Type) := Ms Env α
section
variable {σ α β : Type}
def ret (a : α) : Ms σ α := fun ρ => .ok a ρ
def bnd (f : Ms σ α) (k : α → Ms σ β) : Ms σ β := fun ρ => match f ρ with
  | .ok a ρ' => k a ρ'
  | .ex x ρ' => .ex x ρ'
  | .no => .no
def nog : Ms σ α := fun _ => .no
def lft : Option α → Ms σ α
  | some a => ret a
  | none => fun _ => .no
def raise (x : Ex) : Ms σ α := fun ρ => .ex x ρ
end
/-- a result of a def: a value; an exception; nothing is said -/
inductive F where
  | ok (d : D) | ex (x : Ex) | no
/-- .. of a def whose first argument is a list, dict or instance that it may change -/
inductive FO where
  | ok (d : D) (o : C) | ex (x : Ex) | no
/-- how a statement ends -/
inductive Fl where
  | nx | rt (d : D) | bk | ct
/-! ### names -/
def get (ρ : Env) (i : Nat) : Option C := (ρ[i]?).getD none
def vr (i : Nat) : M D := fun ρ => match get ρ i with
  | some (.p d) => .ok d ρ
  | _ => .no
def st (i : Nat) (d : D) : M Unit := fun ρ => .ok () (ρ.set i (some (.p d)))
/-- where something of one's own stands: a slot, a field of the instance in a slot -/
inductive Acc where
  | v (i : Nat) | f (i : Nat) (f : Str)
def fldC (x : Option C) (f : Str) : Option C := match x with
  | some (.ob _ ns cs) => (ns.zip cs).lookup f
  | _ => none
def flat : Option C → Option D
  | some (.o d) => some d
  | _ => none
/-- what stands there -/
def rd (ρ : Env) : Acc → Option D
  | .v i => match get ρ i with
    | some (.o d) => some d
    | some (.al f) => flat (fldC (get ρ 0) f)
    | _ => none
  | .f i f => flat (fldC (get ρ i) f)
/-- the first field of that name -/
def putC : List Str → List C → Str → C → List C
  | n :: ns, c :: cs, f, x => if f == n then x :: cs else c :: putC ns cs f x
  | _, cs, _, _ => cs
def putF (f : Str) (x : C) : Option C → Option C
  | some (.ob c ns cs) => some (.ob c ns (putC ns cs f x))
  | y => y
def wrt (ρ : Env) (d : D) : Acc → Env
  | .v i => match get ρ i with
    | some (.al f) => ρ.set 0 (putF f (.o d) (get ρ 0))
    | _ => ρ.set i (some (.o d))
  | .f i f => ρ.set i (putF f (.o d) (get ρ i))
def own (a : Acc) : M D := fun ρ => match rd ρ a with
  | some d => .ok d ρ
  | none => .no
def sto (a : Acc) (d : D) : M Unit := fun ρ => .ok () (wrt ρ d a)
/-- what slot i holds of one's own -/
def hld (i : Nat) : M C := fun ρ => match get ρ i with
  | some (.o d) => .ok (.o d) ρ
  | some (.ob c ns cs) => .ok (.ob c ns cs) ρ
  | _ => .no
def clr : Option C → Option C
  | some (.al _) => none
  | x => x
/-- slot i holds another thing of one's own, at the same place -/
def rpl (i : Nat) (x : Option C) : M Unit := fun ρ => .ok () ((ρ.map clr).set i x)
def new (i : Nat) (d : D) : M Unit := fun ρ => .ok () (ρ.set i (some (.o d)))
/-- from here on it does not change any more -/
def frz (i : Nat) : M Unit := fun ρ => match get ρ i with
  | some (.o d) => .ok () (ρ.set i (some (.p d)))
  | _ => .no
def del (i : Nat) : M Unit := fun ρ => .ok () (ρ.set i none)
/-! ### operations -/
def asInt : D → Option Int
  | .int i => some i
  | _ => none
def asBool : D → Option Bool
  | .bl b => some b
  | _ => none
def items : D → Option (List D)
  | .lst l => some l
  | .tup l => some l
  | _ => none
def fewL (l : List D) : Option D := if l.length ≤ lim then some (.lst l) else none
def fewT (l : List D) : Option D := if l.length ≤ lim then some (.tup l) else none
def dAdd : D → D → Option D
  | .int i, .int j => some (.int (i + j))
  | .str x, .str y => if x.length + y.length ≤ lim then some (.str (x ++ y)) else none
  | .tup x, .tup y => if x.length + y.length ≤ lim then some (.tup (x ++ y)) else none
  | .lst x, .lst y => if x.length + y.length ≤ lim then some (.lst (x ++ y)) else none
  | _, _ => none
def dSub : D → D → Option D
  | .int i, .int j => some (.int (i - j))
  | _, _ => none
def smallI (i : Int) : Bool := decide (-(2 ^ 64) < i ∧ i < 2 ^ 64)
def dMul : D → D → Option D
  | .int i, .int j => if smallI i || smallI j then some (.int (i * j)) else none
  | _, _ => none
def dDiv : D → D → Option D
  | .int i, .int j => if decide (0 < j ∧ j < 1073741824) then some (.int (i / j)) else none
  | _, _ => none
def dMod : D → D → Option D
  | .int i, .int j => if decide (0 < j) then some (.int (i % j)) else none
  | _, _ => none
def dPow : D → D → Option D
  | .int i, .int j => if decide (0 ≤ j ∧ j ≤ 1000000 ∧ i.natAbs < 2 ^ 64) then some (.int (i ^ j.toNat)) else none
  | _, _ => none
def dNeg : D → Option D
  | .int i => some (.int (-i))
  | _ => none
def intsOf : List D → Option (List Int)
  | [] => some []
  | .int i :: r => (intsOf r).map (i :: ·)
  | _ :: _ => none
def lexLt : List Int → List Int → Bool
  | [], [] => false
  | [], _ :: _ => true
  | _ :: _, [] => false
  | x :: xs, y :: ys => if x = y then lexLt xs ys else decide (x < y)
def dLt : D → D → Option Bool
  | .int i, .int j => some (decide (i < j))
  | .tup x, .tup y => (intsOf x).bind fun ns => (intsOf y).map fun ms => lexLt ns ms
  | _, _ => none
def dGt (x y : D) : Option Bool := match x, y with
  | .int i, .int j => some (decide (j < i))
  | .tup x, .tup y => (intsOf x).bind fun ns => (intsOf y).map fun ms => lexLt ms ns
  | _, _ => none
def dLe : D → D → Option Bool
  | .int i, .int j => some (decide (i ≤ j))
  | _, _ => none
def dGe : D → D → Option Bool
  | .int i, .int j => some (decide (j ≤ i))
  | _, _ => none
/-- equality is asked of data that is not too deep -/
def dEq (x y : D) : Option Bool := if dep x ≤ 64 ∧ dep y ≤ 64 ∧ lay x = true ∧ lay y = true then some (eqv x y) else none
def dNe (x y : D) : Option Bool := (dEq x y).map (!·)
def dIn (x y : D) : Option Bool := match y with
  | .lst l => if dep x ≤ 64 ∧ deps l < 64 ∧ lay x = true ∧ lays l = true then some (l.any fun z => eqv z x) else none
  | .tup l => if dep x ≤ 64 ∧ deps l < 64 ∧ lay x = true ∧ lays l = true then some (l.any fun z => eqv z x) else none
  | _ => none
def isNon : D → Bool
  | .non => true
  | _ => false
def dIs : D → D → Option Bool
  | x, .non => some (isNon x)
  | .bl a, .bl b => some (a == b)
  | _, _ => none
def dIsNot (x y : D) : Option Bool := (dIs x y).map (!·)
def truth : D → Option Bool
  | .non => some false
  | .bl b => some b
  | .int i => some (i != 0)
  | .lst l => some (!l.isEmpty)
  | .tup l => some (!l.isEmpty)
  | .dct _ _ => none
  | .obj _ _ _ => none
  | .str s => if s.length ≤ lim then some (s.length != 0) else none
def ixN (n : Nat) (i : Int) : Option Nat := if 0 ≤ i then (if i < n then some i.toNat else none) else if -(n : Int) ≤ i then some (i + n).toNat else none
def dIx : D → D → Option D
  | .lst l, .int i => (ixN l.length i).bind fun j => l[j]?
  | .tup l, .int i => (ixN l.length i).bind fun j => l[j]?
  | _, _ => none
def dLen : D → Option D
  | .lst l => some (.int l.length)
  | .tup l => some (.int l.length)
  | .str s => if s.length ≤ lim then some (.int s.length) else none
  | _ => none
def dInt : D → Option D
  | .int i => some (.int i)
  | _ => none
/-- isinstance with int, bool, tuple, list, str -/
def dIsi (T : String) : D → Option Bool
  | .non => some false
  | .bl _ => some (T == "bool" || T == "int")
  | .int _ => some (T == "int")
  | .str _ => some (T == "str")
  | .lst _ => some (T == "list")
  | .tup _ => some (T == "tuple")
  | .dct _ _ => none
  | .obj _ _ _ => none
def dList : D → Option D
  | .lst l => some (.lst l)
  | .tup l => some (.lst l)
  | _ => none
def dTuple : D → Option D
  | .lst l => some (.tup l)
  | .tup l => some (.tup l)
  | _ => none
def boolsOf : List D → Option (List Bool)
  | [] => some []
  | .bl b :: r => (boolsOf r).map (b :: ·)
  | _ :: _ => none
def dAll : D → Option D
  | .lst l => (boolsOf l).map fun bs => .bl (bs.all id)
  | _ => none
def dAny : D → Option D
  | .lst l => (boolsOf l).map fun bs => .bl (bs.any id)
  | _ => none
def greatest : Int → List Int → Int
  | m, [] => m
  | m, x :: r => greatest (if x > m then x else m) r
def rng (a b : Int) : List D := (List.range (b - a).toNat).map fun (k : Nat) => .int (a + k)
def bigI (i : Int) : Bool := decide (-(2 ^ 62) ≤ i ∧ i < 2 ^ 62)
def dRng1 : D → Option (List D)
  | .int b => if bigI b then some (rng 0 b) else none
  | _ => none
def dRng2 : D → D → Option (List D)
  | .int a, .int b => if bigI a && bigI b then some (rng a b) else none
  | _, _ => none
/-! sorted(set(x)): ints, or tuples of ints of one length -/
def insI (x : Int) : List Int → List Int
  | [] => [x]
  | y :: r => if x = y then y :: r else if x < y then x :: y :: r else y :: insI x r
def sortI (l : List Int) : List Int := l.foldr insI []
def insT (x : List Int) : List (List Int) → List (List Int)
  | [] => [x]
  | y :: r => if x = y then y :: r else if lexLt x y then x :: y :: r else y :: insT x r
def sortT (l : List (List Int)) : List (List Int) := l.foldr insT []
def tupsOf : List D → Option (List (List Int))
  | [] => some []
  | .tup x :: r => (intsOf x).bind fun ns => (tupsOf r).map (ns :: ·)
  | _ :: _ => none
def ofTup (ns : List Int) : D := .tup (ns.map .int)
/-! ### dicts -/
mutual
/-- ints, bools, None, and tuples of such -/
def ky : D → Bool
  | .non => true
  | .bl _ => true
  | .int _ => true
  | .tup l => kys l
  | _ => false
def kys : List D → Bool
  | [] => true
  | d :: l => ky d && kys l
end
def keyOk (d : D) : Bool := match d with
  | .tup l => kys l && decide (dep d ≤ 8)
  | _ => false
def keyAt (ks : List D) (k : D) : Option Nat := ks.findIdx? fun x => eqv x k
def dctIn (ks : List D) (k : D) : Option Bool := if keyOk k then some (keyAt ks k).isSome else none
def dctGet (ks vs : List D) (k : D) : Option D := if keyOk k then (keyAt ks k).bind fun i => vs[i]? else none
def dctSet (ks vs : List D) (k x : D) : Option D := if keyOk k then (match keyAt ks k with
  | some i => some (.dct ks (vs.set i x))
  | none => if ks.length < lim then some (.dct (ks ++ [k]) (vs ++ [x])) else none) else none
section
variable {σ : Type}
def op1 (g : D → Option D) (a : Ms σ D) : Ms σ D := bnd a fun x => lft (g x)
def op2 (g : D → D → Option D) (a b : Ms σ D) : Ms σ D := bnd a fun x => bnd b fun y => lft (g x y)
def tb (g : Option Bool) : Ms σ D := bnd (lft g) fun b => ret (.bl b)
def mbl (g : D → D → Option Bool) : D → D → Option D := fun x y => (g x y).map .bl
def cmp (g : D → D → Option Bool) (a b : Ms σ D) : Ms σ D := op2 (mbl g) a b
def cmp1 (g : D → Option Bool) (a : Ms σ D) : Ms σ D := op1 (fun x => (g x).map .bl) a
/-- low <= x <= high -/
def chn (g h : D → D → Option Bool) (a b c : Ms σ D) : Ms σ D := bnd a fun x => bnd b fun y => bnd (lft (g x y)) fun k => if k = true then bnd c fun z => tb (h y z) else ret (.bl false)
/-- an expression as a test: its truth; one that is a bool -/
def tst (a : Ms σ D) : Ms σ Bool := bnd a fun x => lft (truth x)
def tsb (a : Ms σ D) : Ms σ Bool := bnd a fun x => lft (asBool x)
def andT (a b : Ms σ Bool) : Ms σ Bool := bnd a fun k => if k = true then b else ret false
def orT (a b : Ms σ Bool) : Ms σ Bool := bnd a fun k => if k = true then ret true else b
def notT (a : Ms σ Bool) : Ms σ Bool := bnd a fun k => ret (!k)
/-- and, or, not as values: all but the last one bools -/
def andV (a b : Ms σ D) : Ms σ D := bnd a fun x => bnd (lft (asBool x)) fun k => if k = true then b else ret (.bl false)
def orV (a b : Ms σ D) : Ms σ D := bnd a fun x => bnd (lft (asBool x)) fun k => if k = true then ret (.bl true) else b
def notV (a : Ms σ D) : Ms σ D := bnd a fun x => bnd (lft (asBool x)) fun k => ret (.bl (!k))
def ifE (t : Ms σ Bool) (a b : Ms σ D) : Ms σ D := bnd t fun k => if k = true then a else b
/-- a list of expressions, from the left -/
def nilA : Ms σ (List D) := ret []
def consA (a : Ms σ D) (r : Ms σ (List D)) : Ms σ (List D) := bnd a fun x => bnd r fun l => ret (x :: l)
def tupE (a : Ms σ (List D)) : Ms σ D := bnd a fun l => lft (fewT l)
def lstE (a : Ms σ (List D)) : Ms σ D := bnd a fun l => lft (fewL l)
/-- a call of a def -/
def clF : F → Ms σ D
  | .ok d => ret d
  | .ex x => raise x
  | .no => fun _ => .no
def cl (f : List D → F) (a : Ms σ (List D)) : Ms σ D := bnd a fun l => clF (f l)
/-- .. with keywords: no exception -/
def clN (f : List D → F) (a : Ms σ (List D)) : Ms σ D := bnd a fun l => match f l with
  | .ok d => ret d
  | _ => fun _ => .no
/-- .. n of them without a name, k with one -/
def clk (f : List D → F) (n k : Nat) (a b : Ms σ (List D)) : Ms σ D := clN f (bnd a fun l => bnd b fun m => if l.length = n ∧ m.length = k then ret (l ++ m) else fun _ => .no)
def rg1 (a : Ms σ D) : Ms σ (List D) := bnd a fun x => lft (dRng1 x)
def rg2 (a b : Ms σ D) : Ms σ (List D) := bnd a fun x => bnd b fun y => lft (dRng2 x y)
end
/-- a call whose first argument is what slot i holds of one's own -/
def clo (f : C → List D → FO) (i : Nat) (a : M (List D)) : M D := bnd (hld i) fun _ => bnd a fun l => bnd (hld i) fun o => match f o l with
  | .ok d o' => bnd (rpl i (some o')) fun _ => ret d
  | .ex x => bnd (rpl i none) fun _ => raise x
  | .no => fun _ => .no
/-! ### targets -/
abbrev G := D → M Unit
def gN (i : Nat) : G := st i
def gNil : List D → M Unit
  | [] => ret ()
  | _ => fun _ => .no
def gCons (g : G) (r : List D → M Unit) : List D → M Unit
  | x :: l => bnd (g x) fun _ => r l
  | [] => fun _ => .no
def gT (n : Nat) (g : List D → M Unit) : G := fun d => match d with
  | .tup l => if l.length = n then g l else fun _ => .no
  | _ => fun _ => .no
/-! ### comprehensions -/
/-- what the names vs held comes back -/
def wipe (ρ : Env) : List Nat → Env
  | [] => ρ
  | v :: vs => (wipe ρ vs).set v none
def isO : Option C → Bool
  | some (.p _) => false
  | some _ => true
  | none => false
def pur (ρ : Env) (vs : List Nat) : Bool := vs.all fun v => !isO (get ρ v) && v != 0
def back (ρ0 : Env) (vs : List Nat) (ρ : Env) : Env := match vs with
  | [] => ρ
  | v :: r => (back ρ0 r ρ).set v (get ρ0 v)
/-- one turn: the names forgotten, the target, the test, the element -/
def cmpT (vs : List Nat) (g : G) (t : M Bool) (e : M D) (x : D) : M (List D) := fun ρ =>
  bnd (g x) (fun _ => bnd t fun k => if k = true then bnd e fun y => ret [y] else ret []) (wipe ρ vs)
def cmpL (f : D → M (List D)) : List D → M (List D)
  | [] => ret []
  | x :: l => bnd (f x) fun a => bnd (cmpL f l) fun b => ret (a ++ b)
/-- [e for g in it if t] -/
def lc (vs : List Nat) (it : M (List D)) (g : G) (t : M Bool) (e : M D) : M D := fun ρ0 => if pur ρ0 vs = false then .no else match it ρ0 with
  | .ok l ρ => (match cmpL (cmpT vs g t e) l ρ with
    | .ok r ρ' => if r.length ≤ lim then .ok (.lst r) (back ρ0 vs ρ') else .no
    | _ => .no)
  | .ex x ρ => .ex x ρ
  | .no => .no
/-- [e for g in it if t for g1 in it1 if t1] -/
def cmpT2 (vs vs1 : List Nat) (g : G) (t : M Bool) (it1 : M (List D)) (g1 : G) (t1 : M Bool) (e : M D) (x : D) : M (List D) := fun ρ =>
  bnd (g x) (fun _ => bnd t fun k => if k = true then bnd it1 fun l1 => cmpL (cmpT vs1 g1 t1 e) l1 else ret []) (wipe ρ vs)
def lc2 (vs vs1 : List Nat) (it : M (List D)) (g : G) (t : M Bool) (it1 : M (List D)) (g1 : G) (t1 : M Bool) (e : M D) : M D := fun ρ0 => if pur ρ0 vs = false then .no else match it ρ0 with
  | .ok l ρ => (match cmpL (cmpT2 vs vs1 g t it1 g1 t1 e) l ρ with
    | .ok r ρ' => if r.length ≤ lim then .ok (.lst r) (back ρ0 vs ρ') else .no
    | _ => .no)
  | .ex x ρ => .ex x ρ
  | .no => .no
/-! ### statements -/
abbrev S := M Fl
def sNx : S := ret .nx
def seq (a b : S) : S := bnd a fun f => match f with
  | .nx => b
  | f => ret f
def asg (e : M D) (g : G) : S := bnd e fun x => bnd (g x) fun _ => ret .nx
def drp (e : M D) : S := bnd e fun _ => ret .nx
def rtn (e : M D) : S := bnd e fun x => ret (.rt x)
def iff (t : M Bool) (a b : S) : S := bnd t fun k => if k = true then a else b
def brk : S := ret .bk
def cnt : S := ret .ct
/-- a ghost step -/
def gho (a : M Unit) (r : S) : S := bnd a fun _ => r
/-- x = [..], the new list one's own -/
def asgO (i : Nat) (e : M D) : S := bnd e fun x => bnd (new i x) fun _ => ret .nx
/-- a write to what stands at i -/
def wr (i : Acc) (d : D) : S := bnd (sto i d) fun _ => ret .nx
def ownL (a : Acc) : M (List D) := fun ρ => match rd ρ a with
  | some (.lst l) => .ok l ρ
  | _ => .no
/-- xs.append(e), xs the list at i -/
def app (i : Acc) (e : M D) : S := bnd (ownL i) fun _ => bnd e fun x => bnd (ownL i) fun l => if l.length < lim then wr i (.lst (l ++ [x])) else nog
/-- xs.extend(e) -/
def ext (i : Acc) (e : M D) : S := bnd (ownL i) fun _ => bnd e fun x => bnd (ownL i) fun l => match x with
  | .lst m => if l.length + m.length ≤ lim then wr i (.lst (l ++ m)) else nog
  | _ => nog
/-- row[k], row[k] = e, the list at i -/
def ixO (i : Acc) (a : M D) : M D := bnd (ownL i) fun _ => bnd a fun k => bnd (ownL i) fun l => lft (dIx (.lst l) k)
def setO (i : Acc) (a e : M D) : S := bnd e fun x => bnd (ownL i) fun _ => bnd a fun k => bnd (ownL i) fun l => match k with
  | .int k => (match ixN l.length k with
    | some j => wr i (.lst (l.set j x))
    | none => nog)
  | _ => nog
/-! dicts of one's own -/
def ownD (a : Acc) : M (List D × List D) := fun ρ => match rd ρ a with
  | some (.dct ks vs) => .ok (ks, vs) ρ
  | _ => .no
def ninO (i : Acc) (a : M D) : M D := bnd a fun k => bnd (ownD i) fun o => lft ((dctIn o.1 k).map fun b => .bl (!b))
def setD (i : Acc) (a e : M D) : S := bnd e fun x => bnd (ownD i) fun _ => bnd a fun k => bnd (ownD i) fun o => match dctSet o.1 o.2 k x with
  | some d => wr i d
  | none => nog
def forL (f : D → S) : List D → S
  | [] => ret .nx
  | x :: l => bnd (f x) fun r => match r with
    | .nx => forL f l
    | .ct => forL f l
    | .bk => ret .nx
    | .rt d => ret (.rt d)
def forS (it : M (List D)) (g : G) (b : S) : S := bnd it fun l => forL (fun x => bnd (g x) fun _ => b) l
def whlN (t : M Bool) (b : S) : Nat → S
  | 0 => fun _ => .no
  | n + 1 => bnd t fun k => if k = true then bnd b fun r => match r with
    | .nx => whlN t b n
    | .ct => whlN t b n
    | .bk => ret .nx
    | .rt d => ret (.rt d)
    else ret .nx
/-- how many turns a while has at most -/
def fuel : Nat := 2 ^ 60
def whl (t : M Bool) (b : S) : S := whlN t b fuel
/-- a, b = x, y -/
def par (i j : Nat) (a : M (List D)) : S := bnd a fun l => match l with
  | [x, y] => bnd (st i x) fun _ => bnd (st j y) fun _ => ret .nx
  | _ => fun _ => .no
/-! ### a def -/
def start (n : Nat) (ds : List D) : Env := ds.map (fun d => some (.p d)) ++ List.replicate (n - ds.length) none
/-- n parameters, m names -/
def run (n m : Nat) (b : S) (ds : List D) : F := if ds.length = n then (match b (start m ds) with
  | .ok (.rt d) _ => .ok d
  | .ok .nx _ => .ok .non
  | .ex x _ => .ex x
  | _ => .no) else .no
def startO (m : Nat) (o : C) (ds : List D) : Env := some o :: (ds.map (fun d => some (.p d)) ++ List.replicate (m - ds.length - 1) none)
def outO (d : D) (ρ : Env) : FO := match get ρ 0 with
  | some (.o o) => .ok d (.o o)
  | some (.ob c ns cs) => .ok d (.ob c ns cs)
  | _ => .no
def runO (n m : Nat) (b : S) (o : C) (ds : List D) : FO := if ds.length + 1 = n then (match b (startO m o ds) with
  | .ok (.rt d) ρ => outO d ρ
  | .ok .nx ρ => outO .non ρ
  | .ex x _ => .ex x
  | _ => .no) else .no
/-- raise C(e, ..): the class's fields, the last one first -/
def rse {σ α : Type} (c : Str) (fs : List Str) (a : Ms σ (List D)) : Ms σ α := bnd a fun l => if l.length = fs.length then raise ⟨c, (fs.zip l).reverse⟩ else fun _ => .no
/-- try: call() / except c as e: return e.f / return "" -/
def refused {σ : Type} (c f : Str) (e : Ms σ D) : Ms σ D := fun ρ => match e ρ with
  | .ok _ ρ' => .ok (.str "") ρ'
  | .ex x ρ' => if x.c = c then (match x.fs.lookup f with
    | some d => .ok d ρ'
    | none => .no) else .no
  | .no => .no
end Fe
namespace Fe
/-! ### slices -/
def six (n d : Nat) : Option Int → Nat
  | none => d
  | some v => if v < 0 then (v + (n : Int)).toNat else min v.toNat n
def cutD (xs : List D) (lo hi : Option Int) : List D := (xs.drop (six xs.length 0 lo)).take (six xs.length xs.length hi - six xs.length 0 lo)
def dSl (x : D) (lo hi : Option Int) : Option D := match x with
  | .lst l => some (.lst (cutD l lo hi))
  | .tup l => some (.tup (cutD l lo hi))
  | _ => none
/-- a part of a slice -/
def noP {σ : Type} : Ms σ (Option Int) := ret none
def part {σ : Type} (a : Ms σ D) : Ms σ (Option Int) := bnd a fun x => lft ((asInt x).map some)
def slc {σ : Type} (a : Ms σ D) (lo hi : Ms σ (Option Int)) : Ms σ D := bnd a fun x => bnd lo fun l => bnd hi fun h => lft (dSl x l h)
end Fe
namespace Fe
def dSum : D → Option D
  | .lst l => (intsOf l).map fun ns => .int ns.sum
  | _ => none
def dMax2 : D → D → Option D
  | .int i, .int j => some (.int (if j > i then j else i))
  | _, _ => none
def dMin2 : D → D → Option D
  | .int i, .int j => some (.int (if j < i then j else i))
  | _, _ => none
end Fe
namespace Fe
/-- (x, ..) * k -/
def dMulT : D → D → Option D
  | .tup l, .int k => if k = 1 then some (.tup l) else if 2 ≤ k ∧ k ≤ 1000 ∧ l ≠ [] ∧ l.length ≤ 1000 then some (.tup (List.replicate k.toNat l).flatten) else none
  | _, _ => none
end Fe
namespace Fe
/-! ### lists, tuples, dicts alike -/
def dInA (x y : D) : Option Bool := match y with
  | .dct ks _ => dctIn ks x
  | _ => dIn x y
def dNotInA (x y : D) : Option Bool := (dInA x y).map (!·)
def dIxA (x y : D) : Option D := match x with
  | .dct ks vs => dctGet ks vs y
  | _ => dIx x y
def itemsA : D → Option (List D)
  | .lst l => some l
  | .tup l => some l
  | .dct ks _ => some ks
  | _ => none
def itmA {σ : Type} (a : Ms σ D) : Ms σ (List D) := bnd a fun x => lft (itemsA x)
end Fe
end
section
set_option linter.all false
namespace Fe
open PySem
/-! data as the library's -/
mutual
def py : D → PyData
  | .non => .none
  | .bl b => .bool b
  | .int i => .int i
  | .str s => .str s
  | .lst l => .list (pys l)
  | .tup l => .tuple (pys l)
  | .dct _ _ => .none
  | .obj _ _ _ => .none
def pys : List D → List PyData
  | [] => []
  | d :: l => py d :: pys l
end
theorem pys_map : ∀ l : List D, pys l = l.map py
  | [] => rfl
  | d :: l => by rw [pys, pys_map l]; rfl
/-! sorted(xs) -/
def leD (a b : D) : Bool := !PySem.W.dataLt (py b) (py a)
def allAlike (l : List D) : Bool := l.all fun a => l.all fun b => PySem.W.alike (py a) (py b)
def isTup : D → Bool
  | .tup _ => true
  | _ => false
def isOne : D → Bool
  | .int _ => true
  | .str _ => true
  | .bl _ => true
  | _ => false
def sortOk (l : List D) : Bool := lays l && decide (deps l ≤ 60) && allAlike l && (l.all isTup || l.all isOne) && decide (l.length ≤ lim)
def dSorted : D → Option D
  | .lst l => if sortOk l = true then some (.lst (l.mergeSort leD)) else none
  | _ => none
/-! sorted(set(xs)): ints, tuples of ints -/
def dSortT2 (l : List D) : Option D := (tupsOf l).map fun ts => .lst ((sortT ts).map ofTup)
def dSortSet2 : D → Option D
  | .tup l => if l.length < 64 then (match intsOf l with
    | some ns => some (.lst ((sortI ns).map .int))
    | none => dSortT2 l) else none
  | .lst l => if l.length < 64 then dSortT2 l else none
  | _ => none
/-- two lists, as a new one -/
def dCatL : D → D → Option D
  | .lst a, .lst b => if a.length + b.length ≤ lim then some (.lst (a ++ b)) else none
  | _, _ => none
/-! enumerate(xs) -/
def dEnum : D → Option (List D)
  | .lst l => some (l.zipIdx.map fun p => .tup [.int p.2, p.1])
  | .tup l => some (l.zipIdx.map fun p => .tup [.int p.2, p.1])
  | _ => none
def itmE {σ : Type} (a : Ms σ D) : Ms σ (List D) := bnd a fun x => lft (dEnum x)
/-- a, b, c = x, y, z -/
def par3 (i j k : Nat) (a : M (List D)) : S := bnd a fun l => match l with
  | [x, y, z] => bnd (st i x) fun _ => bnd (st j y) fun _ => bnd (st k z) fun _ => ret .nx
  | _ => fun _ => .no
/-- xs[a:b], xs the list at i -/
def slcO (i : Acc) (lo hi : M (Option Int)) : M D := bnd (ownL i) fun _ => bnd lo fun l => bnd (ownL i) fun _ => bnd hi fun h => bnd (ownL i) fun o => lft (dSl (.lst o) l h)
end Fe
end
section
set_option Elab.async false
set_option linter.all false
set_option maxRecDepth 100000
set_option maxHeartbeats 1000000
namespace Fe
open PySem PySem.Spec PyProof.Rows L2
/-- fixed through a def: the written part, the tables of code objects, the errors' classes, the classes of instances -/
structure Bs where
  K : PySem.W.Frag
  T : List (Addr × Str)
  X : Str → Option Addr
  C : Str → Option Addr
  /-- they are plain classes -/
  ok : ∀ c A, C c = some A → Cls K A
/-! ### keys of dicts: tuples of ints, bools, None, and of such tuples -/
mutual
def nk : D → Option NestedKey
  | .non => some .none
  | .bl b => some (.num (if b then 1 else 0))
  | .int i => some (.num i)
  | .tup l => (nks l).map .tup
  | _ => none
def nks : List D → Option (List NestedKey)
  | [] => some []
  | d :: l => (nk d).bind fun k => (nks l).map (k :: ·)
end
mutual
/-- its hash, where no text is in it -/
def hashN : NestedKey → Int
  | .none => reduceHash 0xFCA86420
  | .num i => hashInt i
  | .text _ => 0
  | .tup ks => reduceHash (Builtin.Tuple.tupleHashOf (hashNs ks))
def hashNs : List NestedKey → List Int
  | [] => []
  | k :: ks => hashN k :: hashNs ks
end
/-- a dict in the heap -/
def DcO (a : Addr) (xs : List (NestedKey × Addr × V)) : HO := .ext fun h => xs.length ≤ sizeLine ∧ (a == sysModules) = false ∧
  ∃ us : List (NestedKey × Addr × Value), Paired (fun (p : NestedKey × Addr × V) (q : NestedKey × Addr × Value) => p.1 = q.1 ∧ p.2.1 = q.2.1 ∧ RelV p.2.2 q.2.2) xs us ∧
  ∃ o es ep, h.get? a = some o ∧ o.ExactDict ∧ o.data = .dict es ep ∧ es.toList = us.map (fun x => (⟨hashN x.1, .ref x.2.1, x.2.2⟩ : DictEntry)) ∧ (us.map (·.1)).Nodup
mutual
def Rep (B : Bs) (G : Hp) : D → V → Prop
  | .non, v => v = .non
  | .bl b, v => v = .bl b
  | .int i, v => v = .int i
  | .str s, v => v = .str s
  | .lst l, v => ∃ a vs, v = .ref a ∧ SqL B.K G a vs ∧ Reps B G l vs
  | .tup l, v => ∃ a vs, v = .ref a ∧ SqT B.K G a vs ∧ Reps B G l vs
  | .dct ks vs, v => ∃ a od xs, v = .ref a ∧ G a = some (.frz od (DcO a xs)) ∧ nks ks = some (xs.map (·.1)) ∧ (∀ k ∈ xs.map (·.1), NestedKey.depth k ≤ 8) ∧ Reps B G ks (xs.map fun x => .ref x.2.1) ∧ Reps B G vs (xs.map (·.2.2))
  | .obj c ns vs, v => ∃ a dx C us, v = .ref a ∧ B.C c = some C ∧ G a = some (.ins C dx (ns.zip us)) ∧ G dx = some (.own a) ∧ ns.length = us.length ∧ Reps B G vs us
def Reps (B : Bs) (G : Hp) : List D → List V → Prop
  | [], vs => vs = []
  | d :: l, vs => ∃ v r, vs = v :: r ∧ Rep B G d v ∧ Reps B G l r
end
theorem sameT {K : PySem.W.Frag} {H H' : Hp} {a : Addr} {xs : List V} (e : Same H H') (h : SqT K H a xs) : SqT K H' a xs := by
  rcases h with (h | ⟨o, h⟩) | h
  · exact .inl (.inl (e _ _ h))
  · exact .inl (.inr ⟨o, e _ _ h⟩)
  · exact .inr h
mutual
theorem Rep.mono {B : Bs} {G G' : Hp} (e : Same G G') : ∀ {d : D} {v : V}, Rep B G d v → Rep B G' d v
  | .non, _, h => by simpa [Rep] using h
  | .bl _, _, h => by simpa [Rep] using h
  | .int _, _, h => by simpa [Rep] using h
  | .str _, _, h => by simpa [Rep] using h
  | .lst l, v, h => by
    unfold Rep at h ⊢
    obtain ⟨a, vs, h1, h2, h3⟩ := h
    exact ⟨a, vs, h1, e.seq h2, Reps.mono e h3⟩
  | .tup l, v, h => by
    unfold Rep at h ⊢
    obtain ⟨a, vs, h1, h2, h3⟩ := h
    exact ⟨a, vs, h1, sameT e h2, Reps.mono e h3⟩
  | .dct ks vs, v, h => by
    unfold Rep at h ⊢
    obtain ⟨a, od, xs, h1, h2, h3, h4, h5, h6⟩ := h
    exact ⟨a, od, xs, h1, e _ _ h2, h3, h4, Reps.mono e h5, Reps.mono e h6⟩
  | .obj c ns vs, v, h => by
    unfold Rep at h ⊢
    obtain ⟨a, dx, C, us, h1, h2, h3, h4, h5, h6⟩ := h
    exact ⟨a, dx, C, us, h1, h2, e _ _ h3, e _ _ h4, h5, Reps.mono e h6⟩
theorem Reps.mono {B : Bs} {G G' : Hp} (e : Same G G') : ∀ {l : List D} {vs : List V}, Reps B G l vs → Reps B G' l vs
  | [], _, h => by simpa [Reps] using h
  | d :: l, vs, h => by
    unfold Reps at h ⊢
    obtain ⟨v, r, h1, h2, h3⟩ := h
    exact ⟨v, r, h1, Rep.mono e h2, Reps.mono e h3⟩
end
section
variable {B : Bs} {G : Hp}
theorem rep_non {v : V} : Rep B G .non v ↔ v = .non := by unfold Rep; exact Iff.rfl
theorem rep_bl {b : Bool} {v : V} : Rep B G (.bl b) v ↔ v = .bl b := by unfold Rep; exact Iff.rfl
theorem rep_int {i : Int} {v : V} : Rep B G (.int i) v ↔ v = .int i := by unfold Rep; exact Iff.rfl
theorem rep_str {s : Str} {v : V} : Rep B G (.str s) v ↔ v = .str s := by unfold Rep; exact Iff.rfl
theorem rep_lst {l : List D} {v : V} : Rep B G (.lst l) v ↔ ∃ a vs, v = .ref a ∧ SqL B.K G a vs ∧ Reps B G l vs := by unfold Rep; exact Iff.rfl
theorem rep_tup {l : List D} {v : V} : Rep B G (.tup l) v ↔ ∃ a vs, v = .ref a ∧ SqT B.K G a vs ∧ Reps B G l vs := by unfold Rep; exact Iff.rfl
theorem rep_dct {ks vs : List D} {v : V} : Rep B G (.dct ks vs) v ↔ ∃ a od xs, v = .ref a ∧ G a = some (.frz od (DcO a xs)) ∧ nks ks = some (xs.map (·.1)) ∧ (∀ k ∈ xs.map (·.1), NestedKey.depth k ≤ 8) ∧ Reps B G ks (xs.map fun x => .ref x.2.1) ∧ Reps B G vs (xs.map (·.2.2)) := by unfold Rep; exact Iff.rfl
theorem rep_obj {c : Str} {ns : List Str} {vs : List D} {v : V} : Rep B G (.obj c ns vs) v ↔ ∃ a dx C us, v = .ref a ∧ B.C c = some C ∧ G a = some (.ins C dx (ns.zip us)) ∧ G dx = some (.own a) ∧ ns.length = us.length ∧ Reps B G vs us := by unfold Rep; exact Iff.rfl
theorem reps_nil {vs : List V} : Reps B G [] vs ↔ vs = [] := by unfold Reps; exact Iff.rfl
theorem reps_cons {d : D} {l : List D} {vs : List V} : Reps B G (d :: l) vs ↔ ∃ v r, vs = v :: r ∧ Rep B G d v ∧ Reps B G l r := by
  constructor
  · intro h; rw [Reps] at h; exact h
  · intro h; rw [Reps]; exact h
theorem Reps.len : ∀ {l : List D} {vs : List V}, Reps B G l vs → vs.length = l.length
  | [], vs, h => by rw [reps_nil.mp h]; rfl
  | d :: l, vs, h => by
    obtain ⟨v, r, rfl, _, h3⟩ := reps_cons.mp h
    rw [List.length_cons, List.length_cons, Reps.len h3]
theorem Reps.get : ∀ {l : List D} {vs : List V} {i : Nat} {d : D}, Reps B G l vs → l[i]? = some d → ∃ v, vs[i]? = some v ∧ Rep B G d v
  | [], _, _, _, _, e => by simp at e
  | x :: l, vs, 0, d, h, e => by
    obtain ⟨v, r, rfl, h2, _⟩ := reps_cons.mp h
    cases (Option.some.inj e : x = d)
    exact ⟨v, rfl, h2⟩
  | x :: l, vs, i + 1, d, h, e => by
    obtain ⟨v, r, rfl, _, h3⟩ := reps_cons.mp h
    exact Reps.get (i := i) h3 e
theorem Reps.append : ∀ {l m : List D} {vs ws : List V}, Reps B G l vs → Reps B G m ws → Reps B G (l ++ m) (vs ++ ws)
  | [], m, vs, ws, h, k => by rw [reps_nil.mp h]; exact k
  | d :: l, m, vs, ws, h, k => by
    obtain ⟨v, r, rfl, h2, h3⟩ := reps_cons.mp h
    exact reps_cons.mpr ⟨v, r ++ ws, rfl, h2, h3.append k⟩
theorem Reps.set : ∀ {l : List D} {vs : List V} {d : D} {v : V} (i : Nat), Reps B G l vs → Rep B G d v → Reps B G (l.set i d) (vs.set i v)
  | [], vs, _, _, i, h, _ => by rw [reps_nil.mp h]; exact reps_nil.mpr rfl
  | x :: l, vs, d, v, 0, h, k => by
    obtain ⟨u, r, rfl, h2, h3⟩ := reps_cons.mp h
    exact reps_cons.mpr ⟨v, r, rfl, k, h3⟩
  | x :: l, vs, d, v, i + 1, h, k => by
    obtain ⟨u, r, rfl, h2, h3⟩ := reps_cons.mp h
    exact reps_cons.mpr ⟨u, r.set i v, rfl, h2, Reps.set i h3 k⟩
theorem intsOf_map : ∀ {l : List D} {ns : List Int}, intsOf l = some ns → l = ns.map .int
  | [], ns, h => by cases h; rfl
  | .int i :: r, ns, h => by
    unfold intsOf at h
    cases e : intsOf r with
    | none => rw [e] at h; cases h
    | some ms => rw [e] at h; cases h; rw [intsOf_map e]; rfl
  | .non :: _, _, h => by cases h
  | .bl _ :: _, _, h => by cases h
  | .str _ :: _, _, h => by cases h
  | .lst _ :: _, _, h => by cases h
  | .tup _ :: _, _, h => by cases h
  | .dct _ _ :: _, _, h => by cases h
  | .obj _ _ _ :: _, _, h => by cases h
theorem Reps.ints {l : List D} {ns : List Int} {vs : List V} (e : intsOf l = some ns) (h : Reps B G l vs) : vs = ns.map V.int := by
  rw [intsOf_map e] at h
  clear e
  induction ns generalizing vs with
  | nil => exact reps_nil.mp h
  | cons n r ih =>
    obtain ⟨v, q, rfl, h2, h3⟩ := reps_cons.mp h
    rw [rep_int.mp h2, ih h3]; rfl
theorem boolsOf_map : ∀ {l : List D} {bs : List Bool}, boolsOf l = some bs → l = bs.map .bl
  | [], ns, h => by cases h; rfl
  | .bl i :: r, ns, h => by
    unfold boolsOf at h
    cases e : boolsOf r with
    | none => rw [e] at h; cases h
    | some ms => rw [e] at h; cases h; rw [boolsOf_map e]; rfl
  | .non :: _, _, h => by cases h
  | .int _ :: _, _, h => by cases h
  | .str _ :: _, _, h => by cases h
  | .lst _ :: _, _, h => by cases h
  | .tup _ :: _, _, h => by cases h
  | .dct _ _ :: _, _, h => by cases h
  | .obj _ _ _ :: _, _, h => by cases h
theorem Reps.bools {l : List D} {bs : List Bool} {vs : List V} (e : boolsOf l = some bs) (h : Reps B G l vs) : vs = bs.map V.bl := by
  rw [boolsOf_map e] at h
  clear e
  induction bs generalizing vs with
  | nil => exact reps_nil.mp h
  | cons n r ih =>
    obtain ⟨v, q, rfl, h2, h3⟩ := reps_cons.mp h
    rw [rep_bl.mp h2, ih h3]; rfl
end
/-! ### the state -/
def NT (G : Hp) : Prop := ∀ a ps, G a ≠ some (.tbl ps)
/-- what was frozen at the entry, what has to stay; where the first argument stands, if it is a list that may change -/
structure Ct (B : Bs) where
  G0 : Hp
  F : Hp
  fx : Option Addr
  pin : List (Nat × Str × V)
/-- the object at a is worth d, a list or a dict -/
def HoR (B : Bs) (G : Hp) (a : Addr) : D → HO → Prop
  | .lst l, ho => ∃ vs, ho = .lst vs ∧ Reps B G l vs
  | .dct ks vs, ho => ∃ xs, ho = DcO a xs ∧ nks ks = some (xs.map (·.1)) ∧ (∀ k ∈ xs.map (·.1), NestedKey.depth k ≤ 8) ∧ Reps B G ks (xs.map fun x => .ref x.2.1) ∧ Reps B G vs (xs.map (·.2.2))
  | _, _ => False
theorem HoR.mono {B : Bs} {G G' : Hp} {a : Addr} {d : D} {ho : HO} (s : Same G G') (h : HoR B G a d ho) : HoR B G' a d ho := by
  cases d with
  | lst l => obtain ⟨vs, h1, h2⟩ := h; exact ⟨vs, h1, h2.mono s⟩
  | dct ks vs => obtain ⟨xs, h1, h2, h3, h4, h5⟩ := h; exact ⟨xs, h1, h2, h3, h4.mono s, h5.mono s⟩
  | _ => exact False.elim h
/-- what an object of one's own looks like -/
def OwnHO (o : HO) : Prop := (∃ xs, o = .lst xs) ∨ (∃ a xs, o = DcO a xs) ∨ (∃ C dx fs, o = .ins C dx fs) ∨ ∃ a, o = .own a
theorem HoR.own {B : Bs} {G : Hp} {a : Addr} {d : D} {ho : HO} (h : HoR B G a d ho) : OwnHO ho := by
  cases d with
  | lst l => obtain ⟨vs, rfl, h2⟩ := h; exact .inl ⟨_, rfl⟩
  | dct ks vs => obtain ⟨xs, rfl, _⟩ := h; exact .inr (.inl ⟨_, _, rfl⟩)
  | _ => exact False.elim h
theorem OwnHO.tbl {o : HO} (h : OwnHO o) {ps : Array Value} : o ≠ .tbl ps := by
  rcases h with ⟨_, rfl⟩ | ⟨_, _, rfl⟩ | ⟨_, _, _, rfl⟩ | ⟨_, rfl⟩ <;> (intro z; first | (cases z; done) | (unfold DcO at z; cases z))
/-- a dict is no code object -/
theorem dco_code {a c : Addr} {xs : List (NestedKey × Addr × V)} {q : Str} : DcO a xs ≠ LamX.CodeO c q := by
  intro z
  unfold DcO LamX.CodeO at z
  have e := HO.ext.inj z
  let o0 : Obj := { cls := .none, data := .fields #[.none, .str q 0] }
  let h0 : Heap := { objs := Array.replicate (c + 1) o0 }
  have gs : ∀ b o, h0.get? b = some o → o = o0 := by
    intro b o hb
    unfold Heap.get? at hb
    have e1 : h0.objs[b]? = if b < c + 1 then some o0 else none := by
      show (Array.replicate (c + 1) o0)[b]? = _
      rw [Array.getElem?_replicate]
    rw [e1] at hb
    by_cases hl : b < c + 1
    · rw [if_pos hl] at hb; exact (Option.some.inj hb).symm
    · rw [if_neg hl] at hb; cases hb
  have hc : h0.get? c = some o0 := by
    unfold Heap.get?
    have e1 : h0.objs[c]? = some o0 := by
      show (Array.replicate (c + 1) o0)[c]? = _
      rw [Array.getElem?_replicate, if_pos (Nat.lt_succ_self c)]
    rw [e1]
  have h1 := congrFun e h0
  have h2 : (∃ (oc : Obj) (vs : Array Value) (t : Tok), h0.get? c = some oc ∧ oc.data = .fields vs ∧ vs[1]? = some (.str q t)) := ⟨o0, _, 0, hc, rfl, rfl⟩
  rw [← h1] at h2
  obtain ⟨_, _, us, _, o, es, ep, g1, _, g3, _⟩ := h2
  rw [gs a o g1] at g3
  cases g3
theorem OwnHO.code {o : HO} (h : OwnHO o) {c : Addr} {q : Str} : o ≠ LamX.CodeO c q := by
  rcases h with ⟨_, rfl⟩ | ⟨_, _, rfl⟩ | ⟨_, _, _, rfl⟩ | ⟨_, rfl⟩
  · intro z; unfold LamX.CodeO at z; cases z
  · exact dco_code
  · intro z; unfold LamX.CodeO at z; cases z
  · intro z; unfold LamX.CodeO at z; cases z
/-- what a slot holds, and where it stands -/
def CRep (B : Bs) (G H : Hp) : C → V → List Addr → Prop
  | .p d, v, fp => Rep B G d v ∧ fp = []
  | .o d, v, fp => ∃ a ho, v = .ref a ∧ fp = [a] ∧ H a = some ho ∧ HoR B G a d ho
  | .ob c ns cs, v, fp => ∃ a dx C us f1, v = .ref a ∧ fp = a :: dx :: f1 ∧ B.C c = some C ∧ H a = some (.ins C dx (ns.zip us)) ∧ H dx = some (.own a) ∧ ns.length = us.length ∧ go B G H cs us f1
  | .al _, _, fp => fp = []
where go (B : Bs) (G H : Hp) : List C → List V → List Addr → Prop
  | [], us, fp => us = [] ∧ fp = []
  | x :: cs, us, fp => ∃ v r f1 f2, us = v :: r ∧ fp = f1 ++ f2 ∧ CRep B G H x v f1 ∧ go B G H cs r f2
section
variable {B : Bs} {G G' H H' : Hp}
theorem crep_p {d : D} {v : V} {fp : List Addr} : CRep B G H (.p d) v fp ↔ Rep B G d v ∧ fp = [] := by unfold CRep; exact Iff.rfl
theorem crep_o {d : D} {v : V} {fp : List Addr} : CRep B G H (.o d) v fp ↔ ∃ a ho, v = .ref a ∧ fp = [a] ∧ H a = some ho ∧ HoR B G a d ho := by unfold CRep; exact Iff.rfl
theorem crep_ob {c : Str} {ns : List Str} {cs : List C} {v : V} {fp : List Addr} : CRep B G H (.ob c ns cs) v fp ↔ ∃ a dx C us f1, v = .ref a ∧ fp = a :: dx :: f1 ∧ B.C c = some C ∧ H a = some (.ins C dx (ns.zip us)) ∧ H dx = some (.own a) ∧ ns.length = us.length ∧ CRep.go B G H cs us f1 := by
  constructor
  · intro h; unfold CRep at h; exact h
  · intro h; unfold CRep; exact h
theorem crep_al {f : Str} {v : V} {fp : List Addr} : CRep B G H (.al f) v fp ↔ fp = [] := by unfold CRep; exact Iff.rfl
theorem go_nil {us : List V} {fp : List Addr} : CRep.go B G H [] us fp ↔ us = [] ∧ fp = [] := by unfold CRep.go; exact Iff.rfl
theorem go_cons {x : C} {cs : List C} {us : List V} {fp : List Addr} : CRep.go B G H (x :: cs) us fp ↔ ∃ v r f1 f2, us = v :: r ∧ fp = f1 ++ f2 ∧ CRep B G H x v f1 ∧ CRep.go B G H cs r f2 := by
  constructor
  · intro h; unfold CRep.go at h; exact h
  · intro h; unfold CRep.go; exact h
mutual
theorem CRep.frame (s : Same G G') : ∀ {x : C} {v : V} {fp : List Addr}, CRep B G H x v fp → (∀ a ∈ fp, H' a = H a) → CRep B G' H' x v fp
  | .p d, v, fp, h, _ => by obtain ⟨h1, h2⟩ := crep_p.mp h; exact crep_p.mpr ⟨Rep.mono s h1, h2⟩
  | .o d, v, fp, h, k => by
    obtain ⟨a, ho, h1, h2, h3, h4⟩ := crep_o.mp h
    exact crep_o.mpr ⟨a, ho, h1, h2, by rw [k a (by rw [h2]; exact .head _)]; exact h3, h4.mono s⟩
  | .ob c ns cs, v, fp, h, k => by
    obtain ⟨a, dx, C, us, f1, h1, h2, h3, h4, h5, h6, h7⟩ := crep_ob.mp h
    subst h2
    exact crep_ob.mpr ⟨a, dx, C, us, f1, h1, rfl, h3, by rw [k a (.head _)]; exact h4, by rw [k dx (.tail _ (.head _))]; exact h5, h6, CRep.frames s h7 fun b hb => k b (.tail _ (.tail _ hb))⟩
  | .al f, v, fp, h, _ => crep_al.mpr (crep_al.mp h)
theorem CRep.frames (s : Same G G') : ∀ {cs : List C} {us : List V} {fp : List Addr}, CRep.go B G H cs us fp → (∀ a ∈ fp, H' a = H a) → CRep.go B G' H' cs us fp
  | [], us, fp, h, _ => go_nil.mpr (go_nil.mp h)
  | x :: cs, us, fp, h, k => by
    obtain ⟨v, r, f1, f2, h1, h2, h3, h4⟩ := go_cons.mp h
    subst h2
    exact go_cons.mpr ⟨v, r, f1, f2, h1, rfl, h3.frame s fun a ha => k a (List.mem_append_left _ ha), CRep.frames s h4 fun a ha => k a (List.mem_append_right _ ha)⟩
end
mutual
theorem CRep.shape : ∀ {x : C} {v : V} {fp : List Addr}, CRep B G H x v fp → ∀ a ∈ fp, ∃ o, H a = some o ∧ OwnHO o
  | .p d, v, fp, h, a, k => by rw [(crep_p.mp h).2] at k; cases k
  | .o d, v, fp, h, a, k => by
    obtain ⟨b, ho, h1, h2, h3, h4⟩ := crep_o.mp h
    rw [h2, List.mem_singleton] at k
    subst k
    exact ⟨ho, h3, h4.own⟩
  | .ob c ns cs, v, fp, h, a, k => by
    obtain ⟨b, dx, C, us, f1, h1, h2, h3, h4, h5, h6, h7⟩ := crep_ob.mp h
    subst h2
    rcases List.mem_cons.mp k with rfl | k
    · exact ⟨_, h4, .inr (.inr (.inl ⟨_, _, _, rfl⟩))⟩
    · rcases List.mem_cons.mp k with rfl | k
      · exact ⟨_, h5, .inr (.inr (.inr ⟨_, rfl⟩))⟩
      · exact CRep.shapes h7 a k
  | .al f, v, fp, h, a, k => by rw [crep_al.mp h] at k; cases k
theorem CRep.shapes : ∀ {cs : List C} {us : List V} {fp : List Addr}, CRep.go B G H cs us fp → ∀ a ∈ fp, ∃ o, H a = some o ∧ OwnHO o
  | [], us, fp, h, a, k => by rw [(go_nil.mp h).2] at k; cases k
  | x :: cs, us, fp, h, a, k => by
    obtain ⟨v, r, f1, f2, h1, h2, h3, h4⟩ := go_cons.mp h
    subst h2
    rcases List.mem_append.mp k with k | k
    · exact CRep.shape h3 a k
    · exact CRep.shapes h4 a k
end
end
/-- what the slots hold of one's own, where it stands -/
structure OwnS {B : Bs} (c : Ct B) (G H : Hp) (σ : L2.St) (ρ : Env) (fp : Nat → List Addr) : Prop where
  sl : ∀ i x, get ρ i = some x → ∃ v, σ[i]? = some (some v) ∧ CRep B G H x v (fp i)
  nd : ∀ i, (fp i).Nodup
  dj : ∀ i j a, a ∈ fp i → a ∈ fp j → i = j
  out : ∀ i a, a ∈ fp i → (∃ o, H a = some o ∧ OwnHO o) ∧ G a = none ∧ c.F a = none
  al : ∀ i f, get ρ i = some (.al f) → ∃ a C dx fs v, c.fx = some a ∧ a ∈ fp 0 ∧ H a = some (.ins C dx fs) ∧ fs.lookup f = some v ∧ σ[i]? = some (some v)
  /-- fields that stay what they are while an expression is reckoned -/
  pn : ∀ i f v, (i, f, v) ∈ c.pin → ∃ a C dx fs, σ[i]? = some (some (.ref a)) ∧ a ∈ fp i ∧ H a = some (.ins C dx fs) ∧ fs.lookup f = some v ∧ ∃ cn, B.C cn = some C
structure Good {B : Bs} (c : Ct B) (G H : Hp) (σ : L2.St) (ρ : Env) : Prop where
  gh : Same G H
  nt : NT G
  g0 : Same c.G0 G
  nf : NT c.F
  fr : ∀ a, G a ≠ none → c.G0 a ≠ none ∨ c.F a = none
  fh : Same c.F H
  tb : LamX.Tabs B.T H
  len : σ.length = ρ.length
  ow : ∃ fp, OwnS c G H σ ρ fp
  fix : ∀ a, c.fx = some a → ∀ x, get ρ 0 = some x → isO (some x) = true → σ[0]? = some (some (.ref a))
/-- new objects: H grows to H', its frozen part G to G' -/
structure New (G H G' H' : Hp) : Prop where
  gg : Same G G'
  gh : Same G' H'
  hh : Same H H'
  nt : NT G'
  fr : ∀ a, G' a ≠ none → G a ≠ none ∨ H a = none
theorem New.refl {G H : Hp} (s : Same G H) (n : NT G) : New G H G H := ⟨Same.refl _, s, Same.refl _, n, fun _ h => .inl h⟩
theorem same_upd {H : Hp} {p : Addr} {o : HO} (h : H p = none) : Same H (upd H p o) := fun b x e => by
  rw [upd_ne (ne_of_none e h)]
  exact e
theorem same_upds {G H : Hp} {p : Addr} {o : HO} (s : Same G H) : Same (upd G p o) (upd H p o) := fun b x e => by
  by_cases hb : b = p
  · subst hb; rw [upd_same] at e ⊢; exact e
  · rw [upd_ne hb] at e ⊢; exact s _ _ e
theorem New.mk1 {G H : Hp} {p : Addr} {o : HO} (s : Same G H) (n : NT G) (h : H p = none) (ho : ∀ ps, o ≠ .tbl ps) : New G H (upd G p o) (upd H p o) :=
  ⟨same_upd (s.free h), same_upds s, same_upd h, fun a ps e => by
    by_cases ha : a = p
    · subst ha; rw [upd_same] at e; exact ho ps (Option.some.inj e)
    · rw [upd_ne ha] at e; exact n a ps e, fun a e => by
    by_cases ha : a = p
    · subst ha; exact .inr h
    · rw [upd_ne ha] at e; exact .inl e⟩
theorem New.trans {G H G1 H1 G2 H2 : Hp} (a : New G H G1 H1) (b : New G1 H1 G2 H2) : New G H G2 H2 :=
  ⟨a.gg.trans b.gg, b.gh, a.hh.trans b.hh, b.nt, fun x h => (b.fr x h).elim (a.fr x) fun z => .inr (a.hh.free z)⟩
section
variable {B : Bs} {c c' : Ct B} {G H G' H' : Hp} {σ : L2.St} {ρ : Env} {fp : Nat → List Addr}
theorem OwnS.mono (w : OwnS c G H σ ρ fp) (s : Same G G') (hx : c'.fx = c.fx ∧ c'.pin = c.pin) (h : ∀ i a, a ∈ fp i → H' a = H a ∧ G' a = none ∧ c'.F a = none) : OwnS c' G' H' σ ρ fp where
  sl := fun i x e => by
    obtain ⟨v, h1, h2⟩ := w.sl i x e
    exact ⟨v, h1, h2.frame s fun a ha => (h i a ha).1⟩
  nd := w.nd
  dj := w.dj
  out := fun i a ha => by
    obtain ⟨⟨o, h1, h2⟩, _⟩ := w.out i a ha
    obtain ⟨k1, k2, k3⟩ := h i a ha
    exact ⟨⟨o, by rw [k1]; exact h1, h2⟩, k2, k3⟩
  al := fun i f e => by
    obtain ⟨a, C, dx, fs, v, h1, h2, h3, h4, h5⟩ := w.al i f e
    exact ⟨a, C, dx, fs, v, by rw [hx.1]; exact h1, h2, by rw [(h 0 a h2).1]; exact h3, h4, h5⟩
  pn := fun i f v e => by
    obtain ⟨a, C, dx, fs, h1, h2, h3, h4⟩ := w.pn i f v (by rw [← hx.2]; exact e)
    exact ⟨a, C, dx, fs, h1, h2, by rw [(h i a h2).1]; exact h3, h4⟩
theorem New.owned (n : New G H G' H') (w : OwnS c G H σ ρ fp) : OwnS c G' H' σ ρ fp := w.mono n.gg ⟨rfl, rfl⟩ fun i a ha => by
  obtain ⟨⟨o, h1, h2⟩, h3, h4⟩ := w.out i a ha
  refine ⟨(n.hh _ _ h1).trans h1.symm, ?_, h4⟩
  cases q : G' a with
  | none => rfl
  | some u =>
    rcases n.fr a (by rw [q]; simp) with z | z
    · exact absurd h3 z
    · rw [h1] at z; cases z
theorem Good.ext (g : Good c G H σ ρ) (n : New G H G' H') : Good c G' H' σ ρ where
  gh := n.gh
  nt := n.nt
  g0 := g.g0.trans n.gg
  nf := g.nf
  fr := fun a h => (n.fr a h).elim (g.fr a) fun z => .inr (g.fh.free z)
  fh := g.fh.trans n.hh
  tb := g.tb.ext n.hh
  len := g.len
  ow := by
    obtain ⟨fp, w⟩ := g.ow
    exact ⟨fp, n.owned w⟩
  fix := g.fix
theorem get_set {ρ : Env} {i j : Nat} {x : Option C} : get (ρ.set i x) j = if i = j then (if i < ρ.length then x else none) else get ρ j := by
  unfold get
  by_cases h : i = j
  · subst h
    rw [if_pos rfl]
    by_cases hl : i < ρ.length
    · rw [if_pos hl, List.getElem?_set_self hl]; rfl
    · rw [if_neg hl, List.getElem?_eq_none (by simpa using hl)]; rfl
  · rw [if_neg h, List.getElem?_set_ne h]
/-- slot i gets other contents at fq, apart from all else -/
theorem OwnS.put (w : OwnS c G H σ ρ fp) {i : Nat} {x : C} {v : V} {fq : List Addr} (hi : i < σ.length) (hl : σ.length = ρ.length) (r : CRep B G H x v fq) (hn : fq.Nodup) (hd : ∀ j a, j ≠ i → a ∈ fq → a ∉ fp j)
    (ho : ∀ a ∈ fq, (∃ o, H a = some o ∧ OwnHO o) ∧ G a = none ∧ c.F a = none) (hx : ∀ f, x ≠ .al f) (h0 : c.fx = none ∨ i ≠ 0) (hp : ∀ p ∈ c.pin, p.1 ≠ i) : OwnS c G H (σ.set i (some v)) (ρ.set i (some x)) (fun j => if j = i then fq else fp j) where
  sl := fun j y e => by
    rw [get_set] at e
    by_cases h : i = j
    · subst h
      rw [if_pos rfl, if_pos (by rw [← hl]; exact hi)] at e
      cases e
      rw [if_pos rfl]
      exact ⟨v, List.getElem?_set_self hi, r⟩
    · rw [if_neg h] at e
      rw [List.getElem?_set_ne h, if_neg fun z => h z.symm]
      exact w.sl j y e
  nd := fun j => by
    try dsimp only
    split
    · exact hn
    · exact w.nd j
  dj := fun j k a h1 h2 => by
    try dsimp only at h1 h2
    split at h1 <;> split at h2
    · rename_i e1 e2; rw [e1, e2]
    · rename_i e1 e2; exact absurd h2 (hd k a e2 h1)
    · rename_i e1 e2; exact absurd h1 (hd j a e1 h2)
    · exact w.dj j k a h1 h2
  out := fun j a h1 => by
    try dsimp only at h1
    split at h1
    · exact ho a h1
    · exact w.out j a h1
  al := fun j f e => by
    rw [get_set] at e
    by_cases h : i = j
    · subst h
      rw [if_pos rfl] at e
      split at e
      · cases e; exact absurd rfl (hx f)
      · cases e
    · rw [if_neg h] at e
      rw [List.getElem?_set_ne h]
      obtain ⟨a, C, dx, fs, u, k1, k2, k3⟩ := w.al j f e
      have i0 : i ≠ 0 := h0.resolve_left fun z => by rw [z] at k1; cases k1
      exact ⟨a, C, dx, fs, u, k1, by rw [if_neg fun z => i0 z.symm]; exact k2, k3⟩
  pn := fun j f u e => by
    have ne : i ≠ j := fun z => hp _ e z.symm
    obtain ⟨a, C, dx, fs, k1, k2, k3, k4⟩ := w.pn j f u e
    exact ⟨a, C, dx, fs, by rw [List.getElem?_set_ne ne]; exact k1, by rw [if_neg fun z => ne z.symm]; exact k2, k3, k4⟩
theorem Good.set (g : Good c G H σ ρ) {i : Nat} {d : D} {v : V} (r : Rep B G d v) (hi : i < σ.length) (h0 : c.fx = none ∨ i ≠ 0) (hp : ∀ p ∈ c.pin, p.1 ≠ i) : Good c G H (σ.set i (some v)) (ρ.set i (some (.p d))) where
  gh := g.gh
  nt := g.nt
  g0 := g.g0
  nf := g.nf
  fr := g.fr
  fh := g.fh
  tb := g.tb
  len := by rw [List.length_set, List.length_set, g.len]
  ow := by
    obtain ⟨fp, w⟩ := g.ow
    exact ⟨_, w.put hi g.len (crep_p.mpr ⟨r, rfl⟩) List.nodup_nil (fun j a _ h => by cases h) (fun a h => by cases h) (fun f z => by cases z) h0 hp⟩
  fix := fun a ha x e1 e2 => by
    have hj : i ≠ 0 := h0.resolve_left fun z => by rw [ha] at z; cases z
    rw [get_set, if_neg hj] at e1
    rw [List.getElem?_set_ne hj]
    exact g.fix a ha x e1 e2
theorem Good.slp (g : Good c G H σ ρ) {i : Nat} {d : D} (h : get ρ i = some (.p d)) : ∃ v, σ[i]? = some (some v) ∧ Rep B G d v := by
  obtain ⟨fp, w⟩ := g.ow
  obtain ⟨v, h1, h2⟩ := w.sl i _ h
  exact ⟨v, h1, (crep_p.mp h2).1⟩
end
/-! ### what a denotation wants -/
def ExRep (B : Bs) (G H : Hp) (x : Ex) (cls : Value) (d : Option Addr) : Prop :=
  ∃ C dd fs, B.X x.c = some C ∧ cls = .ref C ∧ d = some dd ∧ H dd = some (.xd fs) ∧ fs.map (·.1) = x.fs.map (·.1) ∧ Reps B G (x.fs.map (·.2)) (fs.map (·.2))
def Post {α β : Type} (rep : Bs → Hp → α → β → Prop) {B : Bs} (c : Ct B) (W : WX) (σ : L2.St) (G : Hp) (r : R α) (Q : β → Hp → Prop) : Prop := match r with
  | .ok d ρ => ∀ v H' G', Same G G' → Good c G' H' σ ρ → rep B G' d v → Q v H'
  | .ex x ρ => ∀ cls dd H' G', Same G G' → Good c G' H' σ ρ → ExRep B G' H' x cls dd → W cls dd σ H'
  | .no => False
def Den {α β : Type} (rep : Bs → Hp → α → β → Prop) {B : Bs} (c : Ct B) (W : WX) (f : M α) : L2.St → Hp → (β → Hp → Prop) → Prop := fun σ H Q =>
  ∃ G ρ, Good c G H σ ρ ∧ Post rep c W σ G (f ρ) Q
abbrev rD (B : Bs) (G : Hp) (d : D) (v : V) : Prop := Rep B G d v
/-- a list that is tracked as it is -/
abbrev rX (B : Bs) (G : Hp) (d : D) (v : V) : Prop := ∃ a l vs, d = .lst l ∧ v = .ref a ∧ G a = some (.lst vs) ∧ Reps B G l vs
abbrev rL (B : Bs) (G : Hp) (d : List D) (v : List V) : Prop := Reps B G d v
abbrev rB (_ : Bs) (_ : Hp) (d : Bool) (v : Bool) : Prop := d = v
abbrev dE {B : Bs} (c : Ct B) (W : WX) (f : M D) : TE := Den rD c W f
abbrev dT {B : Bs} (c : Ct B) (W : WX) (f : M Bool) : TT := Den rB c W f
abbrev dA {B : Bs} (c : Ct B) (W : WX) (f : M (List D)) : TA := Den rL c W f
section
variable {α β γ δ : Type} {rep : Bs → Hp → α → β → Prop} {rep2 : Bs → Hp → γ → δ → Prop} {B : Bs} {c : Ct B} {W : WX} {σ : L2.St} {G H G' : Hp} {ρ : Env}
theorem Post.mono {r : R α} {Q : β → Hp → Prop} (s : Same G G') (h : Post rep c W σ G r Q) : Post rep c W σ G' r Q := by
  cases r with
  | ok d ρ => exact fun v H1 G1 s1 => h v H1 G1 (s.trans s1)
  | ex x ρ => exact fun k dd H1 G1 s1 => h k dd H1 G1 (s.trans s1)
  | no => exact h
theorem Den.imp {f : M α} {Q Q' : β → Hp → Prop} (h : Den rep c W f σ H Q) (k : ∀ v H, Q v H → Q' v H) : Den rep c W f σ H Q' := by
  obtain ⟨G, ρ, g, p⟩ := h
  refine ⟨G, ρ, g, ?_⟩
  revert p
  cases f ρ with
  | ok d ρ' => exact fun p v H1 G1 s g1 r => k _ _ (p v H1 G1 s g1 r)
  | ex x ρ' => exact fun p => p
  | no => exact fun p => p
theorem Post.chg {rep' : Bs → Hp → α → β → Prop} {r : R α} {Q : β → Hp → Prop} (k : ∀ G d v, rep' B G d v → rep B G d v) (h : Post rep c W σ G r Q) : Post rep' c W σ G r Q := by
  cases r with
  | ok d ρ => exact fun v H1 G1 s1 g1 r1 => h v H1 G1 s1 g1 (k _ _ _ r1)
  | ex x ρ => exact h
  | no => exact h
theorem Den.chg {rep' : Bs → Hp → α → β → Prop} {f : M α} {Q : β → Hp → Prop} (k : ∀ G d v, rep' B G d v → rep B G d v) (h : Den rep c W f σ H Q) : Den rep' c W f σ H Q := by
  obtain ⟨G, ρ, g, p⟩ := h
  exact ⟨G, ρ, g, p.chg k⟩
theorem rX_D {G : Hp} {d : D} {v : V} (h : rX B G d v) : rD B G d v := by
  obtain ⟨a, l, vs, rfl, rfl, h1, h2⟩ := h
  exact rep_lst.mpr ⟨a, vs, rfl, .inl (.inl h1), h2⟩
theorem post_bnd {f : M α} {k : α → M γ} {Q : δ → Hp → Prop} (g : Good c G H σ ρ) (p : Post rep2 c W σ G (bnd f k ρ) Q) :
    Den rep c W f σ H (fun v H1 => ∃ G1 ρ1 d, Same G G1 ∧ Good c G1 H1 σ ρ1 ∧ rep B G1 d v ∧ Post rep2 c W σ G1 (k d ρ1) Q) := by
  refine ⟨G, ρ, g, ?_⟩
  unfold bnd at p
  revert p
  cases f ρ with
  | ok d ρ' => exact fun p v H1 G1 s g1 r => ⟨G1, ρ', d, s, g1, r, Post.mono s p⟩
  | ex x ρ' => exact fun p => p
  | no => exact fun p => p
theorem den_bnd {f : M α} {k : α → M γ} {Q : δ → Hp → Prop} (h : Den rep2 c W (bnd f k) σ H Q) :
    Den rep c W f σ H (fun v H1 => ∃ G1 ρ1 d, Good c G1 H1 σ ρ1 ∧ rep B G1 d v ∧ Post rep2 c W σ G1 (k d ρ1) Q) := by
  obtain ⟨G, ρ, g, p⟩ := h
  exact (post_bnd g p).imp fun v H1 ⟨G1, ρ1, d, _, a, b, e⟩ => ⟨G1, ρ1, d, a, b, e⟩
theorem post_lft {o : Option α} {Q : β → Hp → Prop} (p : Post rep c W σ G (lft o ρ) Q) : ∃ z, o = some z ∧ Post rep c W σ G (.ok z ρ) Q := by
  cases o with
  | none => exact False.elim p
  | some z => exact ⟨z, rfl, p⟩
theorem Good.keep (g : Good c G H σ ρ) {v : β} {d : α} {Q : β → Hp → Prop} (p : Post rep c W σ G (.ok d ρ) Q) (r : rep B G d v) : Q v H := p v H G (Same.refl _) g r
end
section
variable {X : Cx}
theorem peI {e : Expr} {t t' : TE} (h : PE X e t) (k : ∀ σ H Q, t' σ H Q → t σ H Q) : PE X e t' := ⟨fun pins s σ H Q I w => h.run pins s σ H Q I (k _ _ _ w)⟩
theorem ptI {e : Expr} {t t' : TT} (h : PT X e t) (k : ∀ σ H Q, t' σ H Q → t σ H Q) : PT X e t' := ⟨fun pins s σ H Q I w => h.run pins s σ H Q I (k _ _ _ w)⟩
theorem pwI {e : Expr} {t t' : TT} (h : PW X e t) (k : ∀ σ H Q, t' σ H Q → t σ H Q) : PW X e t' := ⟨fun wh pins s σ H Q I w => h.run wh pins s σ H Q I (k _ _ _ w)⟩
theorem paI {e : List Expr} {t t' : TA} (h : PA X e t) (k : ∀ σ H Q, t' σ H Q → t σ H Q) : PA X e t' := ⟨fun pos pins s σ H Q I w => h.run pos pins s σ H Q I (k _ _ _ w)⟩
theorem psI {e : Stmt} {t t' : TS} (h : PS X e t) (k : ∀ D σ H, t' D σ H → t D σ H) : PS X e t' := ⟨fun pins s σ H D I w => h.run pins s σ H D I (k _ _ _ w)⟩
theorem pssI {e : List Stmt} {t t' : TS} (h : PSs X e t) (k : ∀ D σ H, t' D σ H → t D σ H) : PSs X e t' := ⟨fun pins s σ H D I w => h.run pins s σ H D I (k _ _ _ w)⟩
end
end Fe
end
section
set_option Elab.async false
set_option linter.all false
set_option maxRecDepth 100000
set_option maxHeartbeats 1000000
namespace Fe
open PySem PySem.Spec PyProof.Rows L2
/-! ### by values -/
def Rule2 (B : Bs) (r : R2) (g : D → D → Option D) : Prop :=
  ∀ (G H : Hp) (d e z : D) (x y : V) (Q : VK), Same G H → NT G → Rep B G d x → Rep B G e y → g d e = some z → (∀ v H' G', New G H G' H' → Rep B G' z v → Q v H') → r x y H Q
section
variable {B : Bs} {G H : Hp}
theorem sqL_up {K : PySem.W.Frag} (s : Same G H) {a : Addr} {xs : List V} (h : SqL K G a xs) : SqL K H a xs := s.seq h
theorem sqT_up {K : PySem.W.Frag} (s : Same G H) {a : Addr} {xs : List V} (h : SqT K G a xs) : SqT K H a xs := sameT s h
theorem lim_eq : lim = sizeLine := by rw [sizeLine_eq]; rfl
def rCatSL (K : PySem.W.Frag) : R2 := fun x y H Q => ∃ l b xs zs, x = .ref l ∧ y = .ref b ∧ SqL K H l xs ∧ SqL K H b zs ∧ xs.length + zs.length ≤ sizeLine ∧ ∀ p, H p = none → Q (.ref p) (upd H p (.lst (xs ++ zs)))
theorem op_catSL {X : Cx} : OpR X (binaryOp .Add) (rCatSL X.K) := by
  intro pins s σ H x y v u Q I rx ry h
  obtain ⟨l, b, xs, zs, rfl, rfl, hl, hb, hz, q⟩ := h
  cases rx
  cases ry
  obtain ⟨its, r, ht, _⟩ := I.list hl
  obtain ⟨its2, r2, ht2, _⟩ := I.list hb
  obtain ⟨⟨cls, dd, data, sl⟩, ho, hc, n, hd⟩ := ht.isList
  obtain ⟨⟨cls2, dd2, data2, sl2⟩, ho2, hc2, n2, hd2⟩ := ht2.isList
  simp only at hc hd hc2 hd2
  subst hc hd hc2 hd2
  have e : its.toArray ++ its2.toArray = (its ++ its2).toArray := by simp
  have e1 := r.length
  have e2 := r2.length
  refine concat_meets ⟨_, ho, rfl⟩ ⟨_, ho2, rfl⟩ noFill_list_add seq_list_add PySem.F.slot_list_add PySem.F.entry_list_add (PySem.F.args_list_add_2 _ _) (list_addW l b its.toArray its2.toArray n n2 dd dd2 sl sl2 (by rw [List.size_toArray, List.size_toArray]; omega)) ⟨ho, ho2, ?_⟩
  rw [e]
  exact ⟨.ref _, _, I.lnew (t' := s.toks) (r.append r2) (by rw [List.length_append]; omega), rfl, q _ I.fresh⟩
theorem rule_add : Rule2 B (fun x y H Q => rI0 (fun i j => .int (i + j)) x y H Q ∨ ((fun x y H Q => ∃ i j, x = .str i ∧ y = .str j ∧ i.length + j.length ≤ sizeLine ∧ Q (.str (i ++ j)) H) x y H Q ∨ (rCatA B.K x y H Q ∨ rCatSL B.K x y H Q))) dAdd := by
  intro G H d e z x y Q s n rx ry h k
  cases d <;> cases e <;> first | (cases h; done) | skip
  · cases h
    rw [rep_int] at rx ry
    exact .inl ⟨_, _, rx, ry, k _ _ _ (New.refl s n) (rep_int.mpr rfl)⟩
  · rename_i a b
    simp only [dAdd] at h
    split at h
    · cases h
      rw [rep_str] at rx ry
      exact .inr (.inl ⟨_, _, rx, ry, by rw [← lim_eq]; assumption, k _ _ _ (New.refl s n) (rep_str.mpr rfl)⟩)
    · cases h
  · rename_i l m
    simp only [dAdd] at h
    split at h
    · rename_i hz
      cases h
      obtain ⟨a, xs, rfl, h1, h2⟩ := rep_lst.mp rx
      obtain ⟨b, ys, rfl, h3, h4⟩ := rep_lst.mp ry
      have e1 := h2.len
      have e2 := h4.len
      refine .inr (.inr (.inr ⟨a, b, xs, ys, rfl, rfl, sqL_up s h1, sqL_up s h3, by rw [e1, e2, ← lim_eq]; exact hz, fun p hp => ?_⟩))
      have N : New G H (upd G p (.lst (xs ++ ys))) (upd H p (.lst (xs ++ ys))) := New.mk1 s n hp (fun ps z => by cases z)
      exact k _ _ _ N (rep_lst.mpr ⟨p, _, rfl, .inl (.inl upd_same), Reps.mono N.gg (h2.append h4)⟩)
    · cases h
  · rename_i l m
    simp only [dAdd] at h
    split at h
    · rename_i hz
      cases h
      obtain ⟨a, xs, rfl, h1, h2⟩ := rep_tup.mp rx
      obtain ⟨b, ys, rfl, h3, h4⟩ := rep_tup.mp ry
      have e1 := h2.len
      have e2 := h4.len
      refine .inr (.inr (.inl ⟨a, b, xs, ys, rfl, rfl, sqT_up s h1, sqT_up s h3, by rw [e1, e2, ← lim_eq]; exact hz, fun e => ?_, fun _ e => ?_, fun _ _ p hp => ?_⟩))
      · subst e
        have : l = [] := by cases l with | nil => rfl | cons _ _ => simp at e1
        subst this
        exact k _ _ _ (New.refl s n) (rep_tup.mpr ⟨b, ys, rfl, h3, h4⟩)
      · subst e
        have : m = [] := by cases m with | nil => rfl | cons _ _ => simp at e2
        subst this
        rw [List.append_nil] at k
        exact k _ _ _ (New.refl s n) (rep_tup.mpr ⟨a, xs, rfl, h1, h2⟩)
      · have N : New G H (upd G p (.tup (xs ++ ys))) (upd H p (.tup (xs ++ ys))) := New.mk1 s n hp (fun ps z => by cases z)
        exact k _ _ _ N (rep_tup.mpr ⟨p, _, rfl, .inl (.inl upd_same), Reps.mono N.gg (h2.append h4)⟩)
    · cases h
theorem rule_sub : Rule2 B (rI0 fun i j => .int (i - j)) dSub := by
  intro G H d e z x y Q s n rx ry h k
  cases d <;> cases e <;> first | (cases h; done) | skip
  cases h
  rw [rep_int] at rx ry
  exact ⟨_, _, rx, ry, k _ _ _ (New.refl s n) (rep_int.mpr rfl)⟩
theorem rule_mul : Rule2 B (rI CMul fun i j => .int (i * j)) dMul := by
  intro G H d e z x y Q s n rx ry h k
  cases d <;> cases e <;> first | (cases h; done) | skip
  rename_i i j
  simp only [dMul] at h
  split at h
  · rename_i hc
    cases h
    rw [rep_int] at rx ry
    refine ⟨_, _, rx, ry, ?_, k _ _ _ (New.refl s n) (rep_int.mpr rfl)⟩
    unfold smallI at hc
    simp only [Bool.or_eq_true, decide_eq_true_eq] at hc
    exact hc
  · cases h
theorem rule_div : Rule2 B (rI CDiv fun i j => .int (i / j)) dDiv := by
  intro G H d e z x y Q s n rx ry h k
  cases d <;> cases e <;> first | (cases h; done) | skip
  simp only [dDiv] at h
  split at h
  · rename_i hc
    cases h
    rw [rep_int] at rx ry
    exact ⟨_, _, rx, ry, (by simpa only [CDiv, CPow, decide_eq_true_eq] using hc), k _ _ _ (New.refl s n) (rep_int.mpr rfl)⟩
  · cases h
theorem rule_mod : Rule2 B (rI (fun _ j => 0 < j) fun i j => .int (i % j)) dMod := by
  intro G H d e z x y Q s n rx ry h k
  cases d <;> cases e <;> first | (cases h; done) | skip
  simp only [dMod] at h
  split at h
  · rename_i hc
    cases h
    rw [rep_int] at rx ry
    exact ⟨_, _, rx, ry, of_decide_eq_true hc, k _ _ _ (New.refl s n) (rep_int.mpr rfl)⟩
  · cases h
theorem rule_pow : Rule2 B (rI CPow fun i j => .int (i ^ j.toNat)) dPow := by
  intro G H d e z x y Q s n rx ry h k
  cases d <;> cases e <;> first | (cases h; done) | skip
  simp only [dPow] at h
  split at h
  · rename_i hc
    cases h
    rw [rep_int] at rx ry
    exact ⟨_, _, rx, ry, (by simpa only [CDiv, CPow, decide_eq_true_eq] using hc), k _ _ _ (New.refl s n) (rep_int.mpr rfl)⟩
  · cases h
theorem mbl_some {g : D → D → Option Bool} {d e z : D} (h : mbl g d e = some z) : ∃ b, g d e = some b ∧ z = .bl b := by
  unfold mbl at h
  cases q : g d e with
  | none => rw [q] at h; cases h
  | some b => rw [q] at h; cases h; exact ⟨b, rfl, rfl⟩
theorem lexLt_eq : ∀ ns ms : List Int, HT.lexLt ns ms = lexLt ns ms
  | [], [] => rfl
  | [], _ :: _ => rfl
  | _ :: _, [] => rfl
  | i :: r, j :: q => by simp only [HT.lexLt, lexLt, lexLt_eq r q]
theorem rule_lt : Rule2 B (fun x y H Q => rI0 (fun i j => .bl (decide (i < j))) x y H Q ∨ rLtT B.K x y H Q) (mbl dLt) := by
  intro G H d e z x y Q s n rx ry h k
  obtain ⟨b, hb, rfl⟩ := mbl_some h
  cases d <;> cases e <;> first | (cases hb; done) | skip
  · cases hb
    rw [rep_int] at rx ry
    exact .inl ⟨_, _, rx, ry, k _ _ _ (New.refl s n) (rep_bl.mpr rfl)⟩
  · rename_i l m
    simp only [dLt] at hb
    obtain ⟨ns, e1, hb⟩ := Option.bind_eq_some_iff.mp hb
    obtain ⟨ms, e2, hb⟩ := Option.map_eq_some_iff.mp hb
    obtain ⟨a, xs, rfl, h1, h2⟩ := rep_tup.mp rx
    obtain ⟨b', ys, rfl, h3, h4⟩ := rep_tup.mp ry
    rw [h2.ints e1] at h1
    rw [h4.ints e2] at h3
    refine .inr ⟨a, b', ns, ms, rfl, rfl, sqT_up s h1, sqT_up s h3, k _ _ _ (New.refl s n) (rep_bl.mpr ?_)⟩
    rw [← hb, lexLt_eq]
theorem rule_le : Rule2 B (rI0 fun i j => .bl (decide (i ≤ j))) (mbl dLe) := by
  intro G H d e z x y Q s n rx ry h k
  obtain ⟨b, hb, rfl⟩ := mbl_some h
  cases d <;> cases e <;> first | (cases hb; done) | skip
  cases hb
  rw [rep_int] at rx ry
  exact ⟨_, _, rx, ry, k _ _ _ (New.refl s n) (rep_bl.mpr rfl)⟩
theorem rule_ge : Rule2 B (rI0 fun i j => .bl (decide (j ≤ i))) (mbl dGe) := by
  intro G H d e z x y Q s n rx ry h k
  obtain ⟨b, hb, rfl⟩ := mbl_some h
  cases d <;> cases e <;> first | (cases hb; done) | skip
  cases hb
  rw [rep_int] at rx ry
  exact ⟨_, _, rx, ry, k _ _ _ (New.refl s n) (rep_bl.mpr rfl)⟩
/-! data as the library's -/
mutual
theorem Rep.dp : ∀ {d : D} {v : V}, lay d = true → Rep B G d v → Dp B.K G v (py d)
  | .non, v, _, h => by rw [rep_non.mp h]; exact .non
  | .bl b, v, _, h => by rw [rep_bl.mp h]; exact .bl b
  | .int b, v, _, h => by rw [rep_int.mp h]; exact .int b
  | .str b, v, _, h => by rw [rep_str.mp h]; exact .str b
  | .lst l, v, y, h => by
    obtain ⟨a, vs, rfl, h1, h2⟩ := rep_lst.mp h
    exact .lst h1 (Reps.dp y h2)
  | .tup l, v, y, h => by
    obtain ⟨a, vs, rfl, h1, h2⟩ := rep_tup.mp h
    exact .tup h1 (Reps.dp y h2)
  | .dct _ _, _, y, _ => by cases y
  | .obj _ _ _, _, y, _ => by cases y
theorem Reps.dp : ∀ {l : List D} {vs : List V}, lays l = true → Reps B G l vs → DpAll B.K G vs (pys l)
  | [], vs, _, h => by rw [reps_nil.mp h]; exact .nil
  | d :: l, vs, y, h => by
    obtain ⟨v, r, rfl, h2, h3⟩ := reps_cons.mp h
    have y' : (lay d && lays l) = true := y
    rw [Bool.and_eq_true] at y'
    exact .cons (Rep.dp y'.1 h2) (Reps.dp y'.2 h3)
end
mutual
theorem dp_up (s : Same G H) : ∀ {d : PyData} {v : V}, Dp B.K G v d → Dp B.K H v d
  | _, _, .non => .non
  | _, _, .bl b => .bl b
  | _, _, .int b => .int b
  | _, _, .str b => .str b
  | _, _, .lst h1 h2 => .lst (s.seq h1) (dps_up s h2)
  | _, _, .tup h1 h2 => .tup (sameT s h1) (dps_up s h2)
theorem dps_up (s : Same G H) : ∀ {d : List PyData} {v : List V}, DpAll B.K G v d → DpAll B.K H v d
  | _, _, .nil => .nil
  | _, _, .cons h1 h2 => .cons (dp_up s h1) (dps_up s h2)
end
mutual
theorem py_lay : ∀ d : D, lay d = true → (py d).canLay0 = true
  | .non, _ => rfl
  | .bl _, _ => rfl
  | .int _, _ => rfl
  | .str _, y => y
  | .lst l, y => pys_lay l y
  | .tup l, y => pys_lay l y
  | .dct _ _, y => by cases y
  | .obj _ _ _, y => by cases y
theorem pys_lay : ∀ l : List D, lays l = true → PyData.canLayAll0 (pys l) = true
  | [], _ => rfl
  | d :: l, y => by
    have y' : (lay d && lays l) = true := y
    rw [Bool.and_eq_true] at y'
    simp only [pys, PyData.canLayAll0, py_lay d y'.1, pys_lay l y'.2, Bool.and_self]
end
mutual
theorem py_depth : ∀ d : D, lay d = true → (py d).depth = dep d
  | .non, _ => rfl
  | .bl _, _ => rfl
  | .int _, _ => rfl
  | .str _, _ => rfl
  | .lst l, y => by simp only [py, PyData.depth, dep, pys_depth l y]
  | .tup l, y => by simp only [py, PyData.depth, dep, pys_depth l y]
  | .dct _ _, y => by cases y
  | .obj _ _ _, y => by cases y
theorem pys_depth : ∀ l : List D, lays l = true → PyData.depthAll (pys l) = deps l
  | [], _ => rfl
  | d :: l, y => by
    have y' : (lay d && lays l) = true := y
    rw [Bool.and_eq_true] at y'
    simp only [pys, PyData.depthAll, deps, py_depth d y'.1, pys_depth l y'.2]
end
mutual
theorem py_eqv : ∀ d e : D, lay d = true → lay e = true → PyData.eqv (py d) (py e) = eqv d e
  | .non, e, _, y => by cases e <;> first | rfl | cases y
  | .bl _, e, _, y => by cases e <;> first | rfl | cases y
  | .int _, e, _, y => by cases e <;> first | rfl | cases y
  | .str _, e, _, y => by cases e <;> first | rfl | cases y
  | .lst l, e, y, y2 => by
    cases e <;> first | rfl | (cases y2; done) | skip
    rename_i m
    show PyData.eqvAll (pys l) (pys m) = eqvs l m
    exact pys_eqv l m y y2
  | .tup l, e, y, y2 => by
    cases e <;> first | rfl | (cases y2; done) | skip
    rename_i m
    show PyData.eqvAll (pys l) (pys m) = eqvs l m
    exact pys_eqv l m y y2
  | .dct _ _, _, y, _ => by cases y
  | .obj _ _ _, _, y, _ => by cases y
theorem pys_eqv : ∀ l m : List D, lays l = true → lays m = true → PyData.eqvAll (pys l) (pys m) = eqvs l m
  | [], [], _, _ => rfl
  | [], _ :: _, _, _ => rfl
  | _ :: _, [], _, _ => rfl
  | d :: l, e :: m, y, y2 => by
    have y' : (lay d && lays l) = true := y
    have y3 : (lay e && lays m) = true := y2
    rw [Bool.and_eq_true] at y' y3
    simp only [pys, PyData.eqvAll, eqvs, py_eqv d e y'.1 y3.1, pys_eqv l m y'.2 y3.2]
end
theorem py_shaped {d : D} (h : dep d ≤ 64) (hl : lay d = true) : SeqAt.shaped (py d) = true := by
  unfold SeqAt.shaped
  rw [py_lay d hl, py_depth d hl, Bool.true_and]
  exact decide_eq_true h
theorem dEq_some {d e : D} {b : Bool} (h : dEq d e = some b) : dep d ≤ 64 ∧ dep e ≤ 64 ∧ lay d = true ∧ lay e = true ∧ b = eqv d e := by
  unfold dEq at h
  split at h
  · rename_i q
    cases h
    exact ⟨q.1, q.2.1, q.2.2.1, q.2.2.2, rfl⟩
  · cases h
theorem rule_eq : Rule2 B (rEqD B.K) (mbl dEq) := by
  intro G H d e z x y Q s n rx ry h k
  obtain ⟨b, hb, rfl⟩ := mbl_some h
  obtain ⟨h1, h2, l1, l2, rfl⟩ := dEq_some hb
  refine ⟨py d, py e, dp_up s (Rep.dp l1 rx), dp_up s (Rep.dp l2 ry), py_shaped h1 l1, py_shaped h2 l2, ?_⟩
  rw [py_eqv d e l1 l2]
  exact k _ _ _ (New.refl s n) (rep_bl.mpr rfl)
theorem rule_ne : Rule2 B (rNeD B.K) (mbl dNe) := by
  intro G H d e z x y Q s n rx ry h k
  obtain ⟨b, hb, rfl⟩ := mbl_some h
  unfold dNe at hb
  obtain ⟨b', hb', rfl⟩ := Option.map_eq_some_iff.mp hb
  obtain ⟨h1, h2, l1, l2, rfl⟩ := dEq_some hb'
  refine ⟨py d, py e, dp_up s (Rep.dp l1 rx), dp_up s (Rep.dp l2 ry), py_shaped h1 l1, py_shaped h2 l2, ?_⟩
  rw [py_eqv d e l1 l2]
  exact k _ _ _ (New.refl s n) (rep_bl.mpr rfl)
theorem pys_any (d : D) (y : lay d = true) : ∀ l : List D, lays l = true → ((pys l).any fun z => PyData.eqv z (py d)) = l.any fun z => eqv z d
  | [], _ => rfl
  | e :: l, y2 => by
    have y' : (lay e && lays l) = true := y2
    rw [Bool.and_eq_true] at y'
    simp only [pys, List.any_cons, py_eqv e d y'.1 y, pys_any d y l y'.2]
theorem Rep.dpl {l : List D} {v : V} (y : lays l = true) (r : Rep B G (.lst l) v) : Dp B.K G v (.list (pys l)) := by
  obtain ⟨a, vs, rfl, h1, h2⟩ := rep_lst.mp r
  exact .lst h1 (Reps.dp y h2)
theorem Rep.dpt {l : List D} {v : V} (y : lays l = true) (r : Rep B G (.tup l) v) : Dp B.K G v (.tuple (pys l)) := by
  obtain ⟨a, vs, rfl, h1, h2⟩ := rep_tup.mp r
  exact .tup h1 (Reps.dp y h2)
theorem shaped_l {l : List D} (h : deps l < 64) (y : lays l = true) : SeqAt.shaped (.list (pys l)) = true := by
  have e : dep (.lst l) ≤ 64 := by show deps l + 1 ≤ 64; omega
  exact py_shaped (d := .lst l) e y
theorem shaped_t {l : List D} (h : deps l < 64) (y : lays l = true) : SeqAt.shaped (.tuple (pys l)) = true := by
  have e : dep (.tup l) ≤ 64 := by show deps l + 1 ≤ 64; omega
  exact py_shaped (d := .tup l) e y
def rInT (K : PySem.W.Frag) : R2 := fun x y H Q => ∃ d ds, Dp K H x d ∧ Dp K H y (.tuple ds) ∧ SeqAt.shaped d = true ∧ SeqAt.shaped (.tuple ds) = true ∧ Q (.bl (ds.any fun z => PyData.eqv z d)) H
theorem op_inT {X : Cx} (hu : X.A.units + 65 < cLine) : OpR X (compareOp .In) (rInT X.K) := fun pins s σ H x y v u Q I rx ry ⟨d, ds, hd, he, sd, se, q⟩ => by
  obtain ⟨as, r1⟩ := Dp.reads I d x v hd rx
  obtain ⟨bs, r2⟩ := Dp.reads I (.tuple ds) y u he ry
  refine SeqAt.in_tuple_reads r2 r1 (SeqAt.canLay_of_shaped se) (SeqAt.canLay_of_shaped sd) (room_in_shaped sd hu) ⟨.bl _, H, I, rfl, q⟩
theorem rule_in : Rule2 B (fun x y H Q => rInT B.K x y H Q ∨ rInD B.K x y H Q) (mbl dIn) := by
  intro G H d e z x y Q s n rx ry h k
  obtain ⟨b, hb, rfl⟩ := mbl_some h
  cases e <;> first | (cases hb; done) | skip
  · rename_i l
    simp only [dIn] at hb
    split at hb
    · rename_i hc
      cases hb
      refine .inr ⟨py d, pys l, dp_up s (Rep.dp hc.2.2.1 rx), dp_up s (Rep.dpl hc.2.2.2 ry), py_shaped hc.1 hc.2.2.1, shaped_l hc.2.1 hc.2.2.2, ?_⟩
      rw [pys_any d hc.2.2.1 l hc.2.2.2]
      exact k _ _ _ (New.refl s n) (rep_bl.mpr rfl)
    · cases hb
  · rename_i l
    simp only [dIn] at hb
    split at hb
    · rename_i hc
      cases hb
      refine .inl ⟨py d, pys l, dp_up s (Rep.dp hc.2.2.1 rx), dp_up s (Rep.dpt hc.2.2.2 ry), py_shaped hc.1 hc.2.2.1, shaped_t hc.2.1 hc.2.2.2, ?_⟩
      rw [pys_any d hc.2.2.1 l hc.2.2.2]
      exact k _ _ _ (New.refl s n) (rep_bl.mpr rfl)
    · cases hb
theorem isNon_iff {d : D} {v : V} (r : Rep B G d v) : decide (v = V.non) = isNon d := by
  cases d with
  | non => rw [rep_non.mp r]; rfl
  | bl b => rw [rep_bl.mp r]; rfl
  | int b => rw [rep_int.mp r]; rfl
  | str b => rw [rep_str.mp r]; rfl
  | lst l => obtain ⟨a, vs, rfl, _⟩ := rep_lst.mp r; rfl
  | tup l => obtain ⟨a, vs, rfl, _⟩ := rep_tup.mp r; rfl
  | dct ks vs => obtain ⟨a, od, xs, rfl, _⟩ := rep_dct.mp r; rfl
  | obj c ns vs => obtain ⟨a, dx, C, us, rfl, _⟩ := rep_obj.mp r; rfl
theorem rule_is : Rule2 B (fun x y H Q => (y = .non ∧ Q (.bl (decide (x = .non))) H) ∨ rIsB x y H Q) (mbl dIs) := by
  intro G H d e z x y Q s n rx ry h k
  obtain ⟨b, hb, rfl⟩ := mbl_some h
  by_cases he : e = .non
  · subst he
    have hb' : b = isNon d := by cases d <;> (cases hb; rfl)
    rw [rep_non] at ry
    refine .inl ⟨ry, ?_⟩
    rw [isNon_iff rx, ← hb']
    exact k _ _ _ (New.refl s n) (rep_bl.mpr rfl)
  · cases d <;> cases e <;> first | (exact absurd rfl he) | (cases hb; done) | skip
    rw [rep_bl] at rx ry
    refine .inr ⟨_, _, rx, ry, ?_⟩
    rename_i i j
    have hb' : b = decide (i = j) := by
      have : some (i == j) = some b := hb
      rw [← Option.some.inj this, Bool.beq_eq_decide_eq]
    rw [← hb']
    exact k _ _ _ (New.refl s n) (rep_bl.mpr rfl)
theorem rule_isNot : Rule2 B (fun x y H Q => (y = .non ∧ Q (.bl (!decide (x = .non))) H) ∨ rNotB x y H Q) (mbl dIsNot) := by
  intro G H d e z x y Q s n rx ry h k
  obtain ⟨b0, hb0, rfl⟩ := mbl_some h
  unfold dIsNot at hb0
  obtain ⟨b, hb, rfl⟩ := Option.map_eq_some_iff.mp hb0
  by_cases he : e = .non
  · subst he
    have hb' : b = isNon d := by cases d <;> (cases hb; rfl)
    rw [rep_non] at ry
    refine .inl ⟨ry, ?_⟩
    rw [isNon_iff rx, ← hb']
    exact k _ _ _ (New.refl s n) (rep_bl.mpr rfl)
  · cases d <;> cases e <;> first | (exact absurd rfl he) | (cases hb; done) | skip
    rw [rep_bl] at rx ry
    refine .inr ⟨_, _, rx, ry, ?_⟩
    rename_i i j
    have hb' : b = decide (i = j) := by
      have : some (i == j) = some b := hb
      rw [← Option.some.inj this, Bool.beq_eq_decide_eq]
    rw [← hb']
    exact k _ _ _ (New.refl s n) (rep_bl.mpr rfl)
theorem rule_ix : Rule2 B (fun x y H Q => rIxL B.K x y H Q ∨ rIxT B.K x y H Q) dIx := by
  intro G H d e z x y Q s n rx ry h k
  cases d <;> cases e <;> first | (cases h; done) | skip
  · rename_i l i
    rw [rep_int] at ry
    obtain ⟨a, vs, rfl, h1, h2⟩ := rep_lst.mp rx
    obtain ⟨j, hj, hz⟩ := Option.bind_eq_some_iff.mp h
    obtain ⟨v, hv, rv⟩ := h2.get hz
    refine .inl ⟨a, vs, i, v, rfl, ry, sqL_up s h1, ?_, k _ _ _ (New.refl s n) rv⟩
    unfold atI
    rw [h2.len]
    show (Fe.ixN l.length i).bind _ = _
    rw [hj]
    exact hv
  · rename_i l i
    rw [rep_int] at ry
    obtain ⟨a, vs, rfl, h1, h2⟩ := rep_tup.mp rx
    obtain ⟨j, hj, hz⟩ := Option.bind_eq_some_iff.mp h
    obtain ⟨v, hv, rv⟩ := h2.get hz
    refine .inr ⟨a, vs, i, v, rfl, ry, sqT_up s h1, ?_, k _ _ _ (New.refl s n) rv⟩
    unfold atI
    rw [h2.len]
    show (Fe.ixN l.length i).bind _ = _
    rw [hj]
    exact hv
end
section
variable {X : Cx} {B : Bs} {c : Ct B} {W : WX} {a b d : Expr} {fa fb fd : M D} {ta tb td : M Bool} {pos : Pos}
theorem e_var (i : Nat) {x : Str} {pos : Pos} (hN : X.N[i]? = some x := by rfl) (hv : Vis X.env.scope x := by first | exact Or.inl rfl | exact Or.inr (Or.inl rfl) | exact Or.inr (Or.inr rfl)) (hd : (x == ("__debug__" : Str)) = false := by decide)
    (hcd : (x == ("__classdict__" : Str)) = false := by decide) : PE X (.Name x pos) (dE c W (vr i)) := peI (pv i hN hv hd hcd) fun σ H Q ⟨G, ρ, g, p⟩ => by
  unfold vr at p
  revert p
  cases h : get ρ i with
  | none => exact False.elim
  | some x =>
    cases x with
    | o d => exact False.elim
    | ob c ns cs => exact False.elim
    | al f => exact False.elim
    | p d =>
      intro p
      obtain ⟨v, h1, r⟩ := g.slp h
      exact ⟨v, h1, g.keep p r⟩
theorem e_int {i j pos} : PE X (.Constant (.int i) j pos) (dE c W (Fe.ret (.int i))) := peI pe_int fun σ H Q ⟨G, ρ, g, p⟩ => g.keep p (rep_int.mpr rfl)
theorem e_bl {i j pos} : PE X (.Constant (.bool i) j pos) (dE c W (Fe.ret (.bl i))) := peI pe_bl fun σ H Q ⟨G, ρ, g, p⟩ => g.keep p (rep_bl.mpr rfl)
theorem e_non {j pos} : PE X (.Constant .none j pos) (dE c W (Fe.ret .non)) := peI pe_non fun σ H Q ⟨G, ρ, g, p⟩ => g.keep p (rep_non.mpr rfl)
theorem e_str {x j pos} : PE X (.Constant (.str x) j pos) (dE c W (Fe.ret (.str x))) := peI pe_str fun σ H Q ⟨G, ρ, g, p⟩ => g.keep p (rep_str.mpr rfl)
/-- a module's constant: a number, a text -/
theorem e_gI {x : Str} {i : Int} {t : Tok} {pos : Pos} (hm : X.mg x = some (.int i t)) (hg : Gl X x := by rfl) (hd : (x == ("__debug__" : Str)) = false := by decide) : PE X (.Name x pos) (dE c W (Fe.ret (.int i))) :=
  peI (pe_glob (v := .int i) hg hm ⟨t, rfl⟩ hd) fun σ H Q ⟨G, ρ, g, p⟩ => g.keep p (rep_int.mpr rfl)
theorem e_gS {x : Str} {i : Str} {t : Tok} {pos : Pos} (hm : X.mg x = some (.str i t)) (hg : Gl X x := by rfl) (hd : (x == ("__debug__" : Str)) = false := by decide) : PE X (.Name x pos) (dE c W (Fe.ret (.str i))) :=
  peI (pe_glob (v := .str i) hg hm ⟨t, rfl⟩ hd) fun σ H Q ⟨G, ρ, g, p⟩ => g.keep p (rep_str.mpr rfl)
theorem use2 {r : R2} {g : D → D → Option D} (hg : Rule2 B r g) {σ : L2.St} {H : Hp} {Q : VK} (h : dE c W (op2 g fa fb) σ H Q) : tOp r (dE c W fa) (dE c W fb) σ H Q := by
  refine (den_bnd h).imp fun x H1 ⟨G1, ρ1, d, g1, rx, p1⟩ => ?_
  refine (post_bnd g1 p1).imp fun y H2 ⟨G2, ρ2, e, s2, g2, ry, p2⟩ => ?_
  obtain ⟨z, hz, p3⟩ := post_lft p2
  exact hg G2 H2 d e z x y Q g2.gh g2.nt (Rep.mono s2 rx) ry hz fun v H' G' n rz => p3 v H' G' n.gg (g2.ext n) rz
theorem e_op {op : Operator} {r : R2} {g : D → D → Option D} (ho : OpR X (binaryOp op) r) (hg : Rule2 B r g) (ha : PE X a (dE c W fa)) (hb : PE X b (dE c W fb)) : PE X (.BinOp a op b pos) (dE c W (op2 g fa fb)) :=
  peI (pe_op ho ha hb) fun _ _ _ h => use2 hg h
theorem e_add (ha : PE X a (dE c W fa)) (hb : PE X b (dE c W fb)) (hK : B.K = X.K := by rfl) : PE X (.BinOp a .Add b pos) (dE c W (op2 dAdd fa fb)) := e_op (op_add.or (op_add_str.or (op_catA.or op_catSL))) (by rw [← hK]; exact rule_add) ha hb
theorem e_sub (ha : PE X a (dE c W fa)) (hb : PE X b (dE c W fb)) : PE X (.BinOp a .Sub b pos) (dE c W (op2 dSub fa fb)) := e_op op_sub rule_sub ha hb
theorem e_mul (ha : PE X a (dE c W fa)) (hb : PE X b (dE c W fb)) : PE X (.BinOp a .Mult b pos) (dE c W (op2 dMul fa fb)) := e_op op_mul rule_mul ha hb
theorem e_div (ha : PE X a (dE c W fa)) (hb : PE X b (dE c W fb)) : PE X (.BinOp a .FloorDiv b pos) (dE c W (op2 dDiv fa fb)) := e_op op_fdiv rule_div ha hb
theorem e_mod (ha : PE X a (dE c W fa)) (hb : PE X b (dE c W fb)) : PE X (.BinOp a .Mod b pos) (dE c W (op2 dMod fa fb)) := e_op op_mod rule_mod ha hb
theorem e_pow (ha : PE X a (dE c W fa)) (hb : PE X b (dE c W fb)) : PE X (.BinOp a .Pow b pos) (dE c W (op2 dPow fa fb)) := e_op op_pow rule_pow ha hb
theorem e_cmp {op : CmpOp} {r : R2} {g : D → D → Option Bool} (ho : OpR X (compareOp op) r) (hg : Rule2 B r (mbl g)) (ha : PE X a (dE c W fa)) (hb : PE X b (dE c W fb)) (hm : behindInMarks op b = false) : PE X (.Compare a [op] [b] pos) (dE c W (cmp g fa fb)) :=
  peI (pe_cmpR ho ha hb hm) fun _ _ _ h => use2 hg h
theorem e_le (ha : PE X a (dE c W fa)) (hb : PE X b (dE c W fb)) : PE X (.Compare a [.LtE] [b] pos) (dE c W (cmp dLe fa fb)) := e_cmp op_le rule_le ha hb (nomark _)
theorem e_eq {k : Nat} (hr : Room k X.A) (ha : PE X a (dE c W fa)) (hb : PE X b (dE c W fb)) (hK : B.K = X.K := by rfl) : PE X (.Compare a [.Eq] [b] pos) (dE c W (cmp dEq fa fb)) := e_cmp (op_eqD hr.units) (by rw [← hK]; exact rule_eq) ha hb (nomark _)
theorem room65 {A : Around} {k : Nat} (hr : Room (k + 1) A) : A.units + 65 < cLine := by have := hr.un; omega
theorem t_cmp {op : CmpOp} {r : R2} {g : D → D → Option Bool} (ho : OpR X (compareOp op) r) (hg : Rule2 B r (mbl g)) (ha : PE X a (dE c W fa)) (hb : PE X b (dE c W fb)) (hm : behindInMarks op b = false) : PT X (.Compare a [op] [b] pos) (dT c W (tsb (cmp g fa fb))) :=
  ptI (pt_cmpR ho ha hb hm) fun σ H Q h => by
    have h2 : dE c W (cmp g fa fb) σ H (fun x H1 => ∃ k, x = .bl k ∧ Q k H1) := (den_bnd h).imp fun x H1 ⟨G1, ρ1, d, g1, rx, p1⟩ => by
      obtain ⟨z, hz, p3⟩ := post_lft p1
      cases d <;> first | (cases hz; done) | skip
      cases hz
      exact ⟨_, rep_bl.mp rx, g1.keep p3 rfl⟩
    exact use2 hg h2
theorem t_lt {k : Nat} (hr : Room k X.A) (ha : PE X a (dE c W fa)) (hb : PE X b (dE c W fb)) (hK : B.K = X.K := by rfl) : PT X (.Compare a [.Lt] [b] pos) (dT c W (tsb (cmp dLt fa fb))) := t_cmp (op_lt.or (op_ltT hr.units0)) (by rw [← hK]; exact rule_lt) ha hb (nomark _)
theorem t_ge (ha : PE X a (dE c W fa)) (hb : PE X b (dE c W fb)) : PT X (.Compare a [.GtE] [b] pos) (dT c W (tsb (cmp dGe fa fb))) := t_cmp op_ge rule_ge ha hb (nomark _)
theorem t_eq {k : Nat} (hr : Room k X.A) (ha : PE X a (dE c W fa)) (hb : PE X b (dE c W fb)) (hK : B.K = X.K := by rfl) : PT X (.Compare a [.Eq] [b] pos) (dT c W (tsb (cmp dEq fa fb))) := t_cmp (op_eqD hr.units) (by rw [← hK]; exact rule_eq) ha hb (nomark _)
theorem t_ne {k : Nat} (hr : Room k X.A) (ha : PE X a (dE c W fa)) (hb : PE X b (dE c W fb)) (hK : B.K = X.K := by rfl) : PT X (.Compare a [.NotEq] [b] pos) (dT c W (tsb (cmp dNe fa fb))) := t_cmp (op_neD hr.units) (by rw [← hK]; exact rule_ne) ha hb (nomark _)
theorem t_is (ha : PE X a (dE c W fa)) (hb : PE X b (dE c W fb)) : PT X (.Compare a [.Is] [b] pos) (dT c W (tsb (cmp dIs fa fb))) := t_cmp (op_isN.or op_isBl) rule_is ha hb (nomark _)
theorem t_isNot (ha : PE X a (dE c W fa)) (hb : PE X b (dE c W fb)) : PT X (.Compare a [.IsNot] [b] pos) (dT c W (tsb (cmp dIsNot fa fb))) := t_cmp (op_notN.or op_notBl) rule_isNot ha hb (nomark _)
theorem t_tr (ha : PE X a (dE c W fa)) (he : ∀ whole, isTrue a X.env whole = (do let v ← whole; standAt a.pos; holding [v] (truthy v)) := by intro _; rfl) (hK : B.K = X.K := by rfl) : PT X a (dT c W (tst fa)) :=
  ptI (pt_truth ha he) fun σ H Q h => by
    refine (den_bnd h).imp fun x H1 ⟨G1, ρ1, d, g1, rx, p1⟩ => ?_
    obtain ⟨z, hz, p3⟩ := post_lft p1
    replace rx : Rep B G1 d x := rx
    rw [← hK]
    refine ⟨z, ?_, g1.keep p3 rfl⟩
    cases d with
    | non => cases hz; rw [rep_non.mp rx]; rfl
    | bl b => cases hz; rw [rep_bl.mp rx]; rfl
    | int b => cases hz; rw [rep_int.mp rx]; rfl
    | str b =>
      rw [rep_str.mp rx]
      simp only [truth] at hz
      split at hz
      · rename_i hl
        cases hz
        exact ⟨by rw [← lim_eq]; exact hl, by cases b.length <;> rfl⟩
      · cases hz
    | lst l =>
      obtain ⟨a, vs, rfl, h1, h2⟩ := rep_lst.mp rx
      cases hz
      refine .inl ⟨vs, sqL_up g1.gh h1, ?_⟩
      cases l with
      | nil => rw [reps_nil.mp h2]; rfl
      | cons d l => obtain ⟨v, r, rfl, _⟩ := reps_cons.mp h2; rfl
    | tup l =>
      obtain ⟨a, vs, rfl, h1, h2⟩ := rep_tup.mp rx
      cases hz
      refine .inr (.inl ⟨vs, sqT_up g1.gh h1, ?_⟩)
      cases l with
      | nil => rw [reps_nil.mp h2]; rfl
      | cons d l => obtain ⟨v, r, rfl, _⟩ := reps_cons.mp h2; rfl
    | dct ks vs => cases hz
    | obj c ns vs => cases hz
theorem t_not (ha : PT X a (dT c W ta)) : PT X (.UnaryOp .Not a pos) (dT c W (notT ta)) := ptI (pt_not ha) fun σ H Q h =>
  (den_bnd h).imp fun x H1 ⟨G1, ρ1, d, g1, rx, p1⟩ => by
    cases (show d = x from rx)
    exact g1.keep p1 rfl
theorem w_or1 (ha : PT X a (dT c W ta)) : PW X (.BoolOp .Or [a] pos) (dT c W ta) := pw_or1 ha
variable {rest : List Expr}
theorem w_or (ha : PT X a (dT c W ta)) (hb : PW X (.BoolOp .Or (b :: rest) pos) (dT c W tb)) : PW X (.BoolOp .Or (a :: b :: rest) pos) (dT c W (orT ta tb)) := pwI (pw_or ha hb) fun σ H Q h =>
  (den_bnd h).imp fun x H1 ⟨G1, ρ1, d, g1, rx, p1⟩ => by
    have e : d = x := rx
    subst e
    cases d with
    | true =>
      rw [if_pos rfl]
      exact g1.keep p1 rfl
    | false =>
      rw [if_neg Bool.false_ne_true]
      exact ⟨G1, ρ1, g1, p1⟩
theorem e_and (ha : PE X a (dE c W fa)) (hb : PE X (.BoolOp .And (b :: rest) pos) (dE c W fb)) : PE X (.BoolOp .And (a :: b :: rest) pos) (dE c W (andV fa fb)) := peI (pe_and ha hb) fun σ H Q h =>
  (den_bnd h).imp fun x H1 ⟨G1, ρ1, d, g1, rx, p1⟩ => by
    cases d <;> first | exact False.elim p1 | skip
    rename_i k
    refine ⟨k, rep_bl.mp rx, ?_⟩
    cases k with
    | true =>
      rw [if_pos rfl]
      exact ⟨G1, ρ1, g1, p1⟩
    | false =>
      rw [if_neg Bool.false_ne_true]
      exact g1.keep p1 (rep_bl.mpr rfl)
theorem e_one {op} (ha : PE X a (dE c W fa)) : PE X (.BoolOp op [a] pos) (dE c W fa) := pe_one ha
theorem e_not (ha : PE X a (dE c W fa)) : PE X (.UnaryOp .Not a pos) (dE c W (notV fa)) := peI (pe_not ha) fun σ H Q h =>
  (den_bnd h).imp fun x H1 ⟨G1, ρ1, d, g1, rx, p1⟩ => by
    cases d <;> first | exact False.elim p1 | skip
    rename_i k
    exact ⟨k, rep_bl.mp rx, g1.keep p1 (rep_bl.mpr rfl)⟩
/-- not of a test, as a value -/
theorem e_if (ht : PT X d (dT c W td)) (ha : PE X a (dE c W fa)) (hb : PE X b (dE c W fb)) : PE X (.IfExp d a b pos) (dE c W (ifE td fa fb)) := peI (pe_ifExp ht ha hb) fun σ H Q h =>
  (den_bnd h).imp fun x H1 ⟨G1, ρ1, d, g1, rx, p1⟩ => by
    have e : d = x := rx
    subst e
    cases d with
    | true =>
      rw [if_pos rfl]
      exact ⟨G1, ρ1, g1, p1⟩
    | false =>
      rw [if_neg Bool.false_ne_true]
      exact ⟨G1, ρ1, g1, p1⟩
variable {es : List Expr} {fs : M (List D)}
theorem a_nil : PA X [] (dA c W nilA) := paI pa_nil fun σ H Q ⟨G, ρ, g, p⟩ => g.keep p (reps_nil.mpr rfl)
theorem a_cons (ha : PE X a (dE c W fa)) (hr : PA X es (dA c W fs)) (hs : starEach (a :: es) X.env = (false, eval a X.env) :: starEach es X.env := by rfl) : PA X (a :: es) (dA c W (consA fa fs)) := paI (pa_cons ha hr hs) fun σ H Q h => by
  refine (den_bnd h).imp fun x H1 ⟨G1, ρ1, d, g1, rx, p1⟩ => ?_
  refine (post_bnd g1 p1).imp fun y H2 ⟨G2, ρ2, e, s2, g2, ry, p2⟩ => ?_
  exact g2.keep p2 (reps_cons.mpr ⟨_, _, rfl, Rep.mono s2 rx, ry⟩)
theorem e_tup {k : Nat} (h : PA X es (dA c W fs)) : PE X (.Tuple es k pos) (dE c W (tupE fs)) := peI (pe_tup h) fun σ H Q h =>
  (den_bnd h).imp fun x H1 ⟨G1, ρ1, l, g1, rx, p1⟩ => by
    obtain ⟨z, hz, p3⟩ := post_lft p1
    unfold fewT at hz
    split at hz
    · rename_i hl
      cases hz
      refine ⟨by rw [Reps.len rx, ← lim_eq]; exact hl, fun p hp => ?_⟩
      have N : New G1 H1 (upd G1 p (.tup x)) (upd H1 p (.tup x)) := New.mk1 g1.gh g1.nt hp (fun ps z => by cases z)
      exact p3 _ _ _ N.gg (g1.ext N) (rep_tup.mpr ⟨p, _, rfl, .inl (.inl upd_same), Reps.mono N.gg rx⟩)
    · cases hz
theorem e_lst {k : Nat} (h : PA X es (dA c W fs)) : PE X (.List es pos) (dE c W (lstE fs)) := peI (pe_lst h) fun σ H Q h =>
  (den_bnd h).imp fun x H1 ⟨G1, ρ1, l, g1, rx, p1⟩ => by
    obtain ⟨z, hz, p3⟩ := post_lft p1
    unfold fewL at hz
    split at hz
    · rename_i hl
      cases hz
      refine ⟨by rw [Reps.len rx, ← lim_eq]; exact hl, fun p hp => ?_⟩
      have N : New G1 H1 (upd G1 p (.lst x)) (upd H1 p (.lst x)) := New.mk1 g1.gh g1.nt hp (fun ps z => by cases z)
      exact p3 _ _ _ N.gg (g1.ext N) (rep_lst.mpr ⟨p, _, rfl, .inl (.inl upd_same), Reps.mono N.gg rx⟩)
    · cases hz
end
end Fe
end
section
set_option Elab.async false
set_option linter.all false
set_option maxRecDepth 100000
set_option maxHeartbeats 1000000
namespace Fe
open PySem PySem.Spec PyProof.Rows L2
/-! ### what is walked -/
structure Goes (B : Bs) (G : Hp) (J : It) (ds : List D) : Prop where
  go : ∀ i H, Same G H → i < ds.length → J.go i H
  stop : ∀ H, Same G H → J.stop ds.length H
  yld : ∀ i H x H', Same G H → J.yld i H x H' → i < ds.length → ∀ G1, Same G G1 → Same G1 H → NT G1 → ∃ G2 d, New G1 H G2 H' ∧ ds[i]? = some d ∧ Rep B G2 d x
abbrev rI (B : Bs) (G : Hp) (ds : List D) (J : It) : Prop := Goes B G J ds
abbrev dI {B : Bs} (c : Ct B) (W : WX) (f : M (List D)) : TI := Den rI c W f
theorem Goes.mono {B : Bs} {G G' : Hp} {J : It} {ds : List D} (s : Same G G') (g : Goes B G J ds) : Goes B G' J ds :=
  ⟨fun i H h => g.go i H (s.trans h), fun H h => g.stop H (s.trans h), fun i H x H' h y l G1 h1 => g.yld i H x H' (s.trans h) y l G1 (s.trans h1)⟩
theorem goes_list {B : Bs} {G : Hp} {a : Addr} {l : List D} {vs : List V} (h : SqL B.K G a vs) (r : Reps B G l vs) : Goes B G (Itl B.K a) l where
  go := fun i H s hi => by
    obtain ⟨v, hv, _⟩ := r.get (List.getElem?_eq_getElem hi)
    exact ⟨vs, v, s.seq h, hv⟩
  stop := fun H s => ⟨vs, s.seq h, Nat.le_of_eq r.len⟩
  yld := fun i H x H' s y hi G1 s1 s2 n => by
    obtain ⟨e, y⟩ := y
    subst e
    obtain ⟨v, hv, rv⟩ := r.get (List.getElem?_eq_getElem hi)
    have e := y vs (s.seq h)
    rw [hv] at e
    cases e
    exact ⟨G1, _, New.refl s2 n, List.getElem?_eq_getElem hi, Rep.mono s1 rv⟩
theorem goes_tup {B : Bs} {G : Hp} {a : Addr} {l : List D} {vs : List V} (h : SqT B.K G a vs) (r : Reps B G l vs) : Goes B G (Itt B.K a) l where
  go := fun i H s hi => by
    obtain ⟨v, hv, _⟩ := r.get (List.getElem?_eq_getElem hi)
    exact ⟨vs, v, sameT s h, hv⟩
  stop := fun H s => ⟨vs, sameT s h, Nat.le_of_eq r.len⟩
  yld := fun i H x H' s y hi G1 s1 s2 n => by
    obtain ⟨e, y⟩ := y
    subst e
    obtain ⟨v, hv, rv⟩ := r.get (List.getElem?_eq_getElem hi)
    have e := y vs (sameT s h)
    rw [hv] at e
    cases e
    exact ⟨G1, _, New.refl s2 n, List.getElem?_eq_getElem hi, Rep.mono s1 rv⟩
theorem rng_len (a b : Int) : (rng a b).length = (b - a).toNat := by unfold rng; rw [List.length_map, List.length_range]
theorem rng_get {a b : Int} {i : Nat} (h : i < (b - a).toNat) : (rng a b)[i]? = some (.int (a + i)) := by
  unfold rng
  rw [List.getElem?_map, List.getElem?_range h]
  rfl
theorem goes_rng {B : Bs} {G : Hp} {a b : Int} : Goes B G (Itr a (b - a).toNat) (rng a b) where
  go := fun i H s hi => by rw [rng_len] at hi; exact hi
  stop := fun H s => by rw [rng_len]; exact Nat.le_refl _
  yld := fun i H x H' s y hi G1 s1 s2 n => by
    obtain ⟨e, y⟩ := y
    subst e y
    rw [rng_len] at hi
    exact ⟨G1, _, New.refl s2 n, rng_get hi, rep_int.mpr rfl⟩
section
variable {X : Cx} {B : Bs} {c : Ct B} {W : WX} {a b tg : Expr} {fa fb : M D} {pos : Pos}
theorem piI {e : Expr} {t t' : TI} (h : PI X tg e t) (k : ∀ σ H Q, t' σ H Q → t σ H Q) : PI X tg e t' := ⟨fun pins s σ H Q I w => h.run pins s σ H Q I (k _ _ _ w)⟩
theorem bigI_of {i : Int} (h : bigI i = true) : -(2 ^ 62) ≤ i ∧ i < 2 ^ 62 := of_decide_eq_true h
theorem i_rg1 (hm : X.mg "range" = none) (ha : PE X a (dE c W fa)) {p : Pos} (hg : Gl X "range" := by rfl) (hs : starEach [a] X.env = [(false, eval a X.env)] := by rfl) : PI X tg (.Call (.Name "range" p) [a] [] pos) (dI c W (rg1 fa)) :=
  piI (pi_range1 hg hm (pa_cons ha pa_nil hs) hs) fun σ H R h => by
    refine (den_bnd h).imp fun x H1 ⟨G1, ρ1, d, g1, rx, p1⟩ => ?_
    obtain ⟨z, hz, p3⟩ := post_lft p1
    cases d <;> first | (cases hz; done) | skip
    rename_i j
    simp only [dRng1] at hz
    split at hz
    · rename_i hj
      cases hz
      obtain ⟨h1, h2⟩ := bigI_of hj
      refine ⟨j, by rw [rep_int.mp rx], h1, h2, g1.keep p3 ?_⟩
      have e : j.toNat = (j - 0).toNat := by rw [Int.sub_zero]
      rw [e]
      exact goes_rng
    · cases hz
end
/-! ### targets -/
def PostU {B : Bs} (c : Ct B) (G : Hp) (r : R Unit) (Q : L2.St → Hp → Prop) : Prop := match r with
  | .ok _ ρ => ∀ σ' H' G', Same G G' → Good c G' H' σ' ρ → Q σ' H'
  | _ => False
theorem PostU.mono {B : Bs} {c : Ct B} {G G' : Hp} {r : R Unit} {Q : L2.St → Hp → Prop} (s : Same G G') (h : PostU c G r Q) : PostU c G' r Q := by
  cases r with
  | ok d ρ => exact fun σ' H1 G1 s1 => h σ' H1 G1 (s.trans s1)
  | ex x ρ => exact h
  | no => exact h
/-- all slots but vs are as they were -/
def Agr (vs : List Nat) (σ σ' : L2.St) : Prop := σ'.length = σ.length ∧ ∀ j, j ∉ vs → σ'[j]? = σ[j]?
theorem Agr.refl {vs : List Nat} {σ : L2.St} : Agr vs σ σ := ⟨rfl, fun _ _ => rfl⟩
theorem Agr.trans {vs ws : List Nat} {σ σ1 σ2 : L2.St} (a : Agr vs σ σ1) (b : Agr ws σ1 σ2) : Agr (vs ++ ws) σ σ2 :=
  ⟨b.1.trans a.1, fun j h => (b.2 j fun z => h (List.mem_append_right _ z)).trans (a.2 j fun z => h (List.mem_append_left _ z))⟩
def dG {B : Bs} (c : Ct B) (vs : List Nat) (g : G) : TG := fun v σ H Q => ∃ G ρ d, Good c G H σ ρ ∧ Rep B G d v ∧ PostU c G (g d ρ) fun σ' H' => Agr vs σ σ' → Q σ' H'
def dGs {B : Bs} (c : Ct B) (ws : List Nat) (g : List D → M Unit) : TGs := fun vs σ H Q => ∃ G ρ ds, Good c G H σ ρ ∧ Reps B G ds vs ∧ PostU c G (g ds ρ) fun σ' H' => Agr ws σ σ' → Q σ' H'
section
variable {X : Cx} {B : Bs} {c : Ct B} {W : WX} {pos : Pos}
theorem g_name (i : Nat) {x : Str} (hN : X.N.Nodup) (hi : X.N[i]? = some x := by rfl) (hx : Loc X.env.scope x := by first | exact Or.inl rfl | exact Or.inr rfl) (hf : X.fn x = true ∨ X.env.scope.names.lookup x = some .local := by first | exact .inl rfl | exact .inr rfl | assumption) (h0 : c.fx = none ∨ i ≠ 0 := by first | exact .inr (by decide) | (left; assumption)) (hpin : c.pin = [] := by assumption) : PG X (.Name x pos) (dG c [i] (gN i)) := by
  refine ⟨fun pins s σ H v u Q I r ⟨G, ρ, d, g, rd, p⟩ => ?_⟩
  refine (pg_name hN hi hx hf).run pins s σ H v u Q I r ?_
  have hl : i < σ.length := by rw [I.len]; exact (List.getElem?_eq_some_iff.mp hi).1
  refine p _ H G (Same.refl _) (g.set rd hl h0 fun p hp => by rw [hpin] at hp; cases hp) ⟨List.length_set, fun j hj => List.getElem?_set_ne fun e => hj ?_⟩
  rw [e]
  exact List.mem_singleton_self j
theorem gs_nil : PGs X [] (dGs c [] gNil) := by
  refine ⟨fun pins s σ H vs us Q I r ⟨G, ρ, ds, g, rd, p⟩ => ?_⟩
  refine pgs_nil.run pins s σ H vs us Q I r ?_
  cases ds with
  | nil => exact ⟨reps_nil.mp rd, p σ H G (Same.refl _) g Agr.refl⟩
  | cons d l => exact False.elim p
theorem gs_cons {e : Expr} {es : List Expr} {v1 v2 : List Nat} {g : G} {gr : List D → M Unit} (h1 : PG X e (dG c v1 g)) (h2 : PGs X es (dGs c v2 gr)) (hs : (assignEach (e :: es) X.env).map (·.2) = assign e X.env :: (assignEach es X.env).map (·.2) := by rfl) : PGs X (e :: es) (dGs c (v1 ++ v2) (gCons g gr)) := by
  refine ⟨fun pins s σ H vs us Q I r ⟨G, ρ, ds, gd, rd, p⟩ => ?_⟩
  refine (pgs_cons h1 h2 hs).run pins s σ H vs us Q I r ?_
  cases ds with
  | nil => exact False.elim p
  | cons d l =>
    obtain ⟨v, q, rfl, r1, r2⟩ := reps_cons.mp rd
    refine ⟨v, q, rfl, G, ρ, d, gd, r1, ?_⟩
    replace p : PostU c G (bnd (g d) (fun _ => gr l) ρ) _ := p
    unfold bnd at p
    revert p
    cases g d ρ with
    | no => exact False.elim
    | ex x ρ' => exact False.elim
    | ok z ρ' =>
      intro p σ' H' G' s' g' a
      refine ⟨G', ρ', l, g', Reps.mono s' r2, ?_⟩
      have p' : PostU c G' (gr l ρ') _ := PostU.mono s' p
      revert p'
      cases gr l ρ' with
      | no => exact False.elim
      | ex x ρ' => exact False.elim
      | ok z ρ' => exact fun p' σ2 H2 G2 s2 g2 a2 => p' σ2 H2 G2 s2 g2 (a.trans a2)
theorem g_tup {es : List Expr} {k n : Nat} {ws : List Nat} {gr : List D → M Unit} (hc : X.calm = true) (h : PGs X es (dGs c ws gr)) (hn : (assignEach es X.env).length = n := by rfl) (hst : (assignEach es X.env).findIdx? (·.1) = none := by rfl) (hK : B.K = X.K := by rfl) : PG X (.Tuple es k pos) (dG c ws (gT n gr)) := by
  refine ⟨fun pins s σ H v u Q I r ⟨G, ρ, d, gd, rd, p⟩ => ?_⟩
  refine (pg_tup hc h hn hst).run pins s σ H v u Q I r ?_
  cases d <;> first | exact False.elim p | skip
  rename_i l
  obtain ⟨a, vs, rfl, h1, h2⟩ := rep_tup.mp rd
  simp only [gT] at p
  split at p
  · rename_i hl
    rw [hK] at h1
    exact ⟨a, vs, rfl, sqT_up gd.gh h1, by rw [h2.len]; exact hl, G, ρ, l, gd, h2, p⟩
  · exact False.elim p
end
/-! ### statements -/
def PostS {B : Bs} (c : Ct B) (W : WX) (G : Hp) (r : R Fl) (E : Ends) : Prop := match r with
  | .ok .nx ρ => ∀ σ' H' G', Same G G' → Good c G' H' σ' ρ → E.nx σ' H'
  | .ok .bk ρ => ∀ σ' H' G', Same G G' → Good c G' H' σ' ρ → E.bk σ' H'
  | .ok .ct ρ => ∀ σ' H' G', Same G G' → Good c G' H' σ' ρ → E.ct σ' H'
  | .ok (.rt d) ρ => ∀ σ' H' G' v, Same G G' → Good c G' H' σ' ρ → Rep B G' d v → E.rt v H'
  | .ex x ρ => ∀ σ' cls dd H' G', Same G G' → Good c G' H' σ' ρ → ExRep B G' H' x cls dd → W cls dd σ' H'
  | .no => False
def dS {B : Bs} (c : Ct B) (W : WX) (f : S) : TS := fun E σ H => ∃ G ρ, Good c G H σ ρ ∧ PostS c W G (f ρ) E
section
variable {B : Bs} {c : Ct B} {W : WX} {G G' H : Hp} {σ : L2.St} {ρ : Env} {E E' : Ends}
theorem PostS.mono {r : R Fl} (s : Same G G') (h : PostS c W G r E) : PostS c W G' r E := by
  cases r with
  | ok d ρ => cases d with
    | nx => exact fun σ' H1 G1 s1 => h σ' H1 G1 (s.trans s1)
    | bk => exact fun σ' H1 G1 s1 => h σ' H1 G1 (s.trans s1)
    | ct => exact fun σ' H1 G1 s1 => h σ' H1 G1 (s.trans s1)
    | rt d => exact fun σ' H1 G1 v s1 => h σ' H1 G1 v (s.trans s1)
  | ex x ρ => exact fun σ' k dd H1 G1 s1 => h σ' k dd H1 G1 (s.trans s1)
  | no => exact h
/-- other ends -/
theorem PostS.ends {r : R Fl} (h : PostS c W G r E) (h1 : ∀ ρ, r = .ok .nx ρ → ∀ σ' H' G', Same G G' → Good c G' H' σ' ρ → E'.nx σ' H')
    (h2 : ∀ ρ, r = .ok .bk ρ → ∀ σ' H' G', Same G G' → Good c G' H' σ' ρ → E'.bk σ' H') (h3 : ∀ ρ, r = .ok .ct ρ → ∀ σ' H' G', Same G G' → Good c G' H' σ' ρ → E'.ct σ' H') (h4 : E'.rt = E.rt) : PostS c W G r E' := by
  cases r with
  | ok d ρ => cases d with
    | nx => exact h1 ρ rfl
    | bk => exact h2 ρ rfl
    | ct => exact h3 ρ rfl
    | rt d => intro σ' H' G' v s g r; rw [h4]; exact h σ' H' G' v s g r
  | ex x ρ => exact h
  | no => exact h
theorem posts_bnd {α β : Type} {rep : Bs → Hp → α → β → Prop} {f : M α} {k : α → S} (g : Good c G H σ ρ) (p : PostS c W G (bnd f k ρ) E) :
    Den rep c W f σ H (fun v H1 => ∃ G1 ρ1 d, Same G G1 ∧ Good c G1 H1 σ ρ1 ∧ rep B G1 d v ∧ PostS c W G1 (k d ρ1) E) := by
  refine ⟨G, ρ, g, ?_⟩
  unfold bnd at p
  revert p
  cases f ρ with
  | ok d ρ' => exact fun p v H1 G1 s g1 r => ⟨G1, ρ', d, s, g1, r, PostS.mono s p⟩
  | ex x ρ' => exact fun p cls dd H' G' => p σ cls dd H' G'
  | no => exact fun p => p
/-- a statement, then what follows -/
theorem posts_seq {a : S} {b : S} (p : PostS c W G (seq a b ρ) E) : PostS c W G (a ρ) { E with nx := dS c W b E } := by
  unfold seq bnd at p
  revert p
  cases a ρ with
  | no => exact fun p => p
  | ex x ρ' => exact fun p => p
  | ok f ρ' => cases f with
    | nx => exact fun p σ' H' G' s g => ⟨G', ρ', g, PostS.mono s p⟩
    | bk => exact fun p => p
    | ct => exact fun p => p
    | rt d => exact fun p => p
end
section
variable {X : Cx} {B : Bs} {c : Ct B} {W : WX} {st : Stmt} {rest : List Stmt} {fs fr : S} {a tg : Expr} {fa : M D} {ft : M Bool} {pos : Pos}
theorem ss_nil : PSs X [] (dS c W sNx) := pssI pss_nil fun E σ H ⟨G, ρ, g, p⟩ => p σ H G (Same.refl _) g
theorem ss_cons (h1 : PS X st (dS c W fs)) (h2 : PSs X rest (dS c W fr)) : PSs X (st :: rest) (dS c W (seq fs fr)) := pssI (pss_cons h1 h2) fun E σ H ⟨G, ρ, g, p⟩ => ⟨G, ρ, g, posts_seq p⟩
theorem ss_one (h1 : PS X st (dS c W fs)) : PSs X [st] (dS c W fs) := pss_one h1
theorem s_cnt : PS X (.Continue pos) (dS c W cnt) := psI ps_continue fun E σ H ⟨G, ρ, g, p⟩ => p σ H G (Same.refl _) g
theorem s_ret (h : PE X a (dE c W fa)) : PS X (.Return (some a) pos) (dS c W (rtn fa)) := psI (ps_ret h) fun E σ H ⟨G, ρ, g, p⟩ =>
  (posts_bnd g p).imp fun v H1 ⟨G1, ρ1, d, s, g1, r, p1⟩ => p1 σ H1 G1 v (Same.refl _) g1 r
theorem s_drp (h : PE X a (dE c W fa)) (hs : swapsWith a none pos.line X.env = pure false := by rfl) : PS X (.Expr a pos) (dS c W (drp fa)) := psI (ps_expr h hs) fun E σ H ⟨G, ρ, g, p⟩ =>
  (posts_bnd g p).imp fun v H1 ⟨G1, ρ1, d, s, g1, r, p1⟩ => p1 σ H1 G1 (Same.refl _) g1
theorem s_if {t : Expr} {x y : List Stmt} {fx fy : S} (ht : PT X t (dT c W ft)) (hx : PSs X x (dS c W fx)) (hy : PSs X y (dS c W fy)) : PS X (.If t x y pos) (dS c W (iff ft fx fy)) := psI (ps_if ht hx hy) fun E σ H ⟨G, ρ, g, p⟩ =>
  (posts_bnd g p).imp fun v H1 ⟨G1, ρ1, d, s, g1, r, p1⟩ => by
    have e : d = v := r
    subst e
    cases d with
    | true => rw [if_pos rfl]; exact ⟨G1, ρ1, g1, p1⟩
    | false => rw [if_neg Bool.false_ne_true]; exact ⟨G1, ρ1, g1, p1⟩
/-- PostS of a store -/
theorem posts_u {G : Hp} {E : Ends} {f : M Unit} {k : S} {ρ : Env} (p : PostS c W G (bnd f (fun _ => k) ρ) E) (hx : ∀ x ρ', f ρ ≠ .ex x ρ') : PostU c G (f ρ) fun σ' H' => dS c W k E σ' H' := by
  unfold bnd at p
  revert p
  cases hf : f ρ with
  | no => exact fun p => p
  | ex x ρ' => exact absurd hf (hx x ρ')
  | ok u ρ' => exact fun p σ' H' G' s g => ⟨G', ρ', g, PostS.mono s p⟩
/-- a store raises nothing -/
def NoX (g : G) : Prop := ∀ d ρ x ρ', g d ρ ≠ .ex x ρ'
def NoXs (g : List D → M Unit) : Prop := ∀ d ρ x ρ', g d ρ ≠ .ex x ρ'
theorem nx_name {i : Nat} : NoX (gN i) := fun _ _ _ _ h => by cases h
theorem nx_nil : NoXs gNil := fun d _ _ _ h => by cases d <;> cases h
theorem nx_cons {g : G} {r : List D → M Unit} (h1 : NoX g) (h2 : NoXs r) : NoXs (gCons g r) := fun d ρ x ρ' h => by
  cases d with
  | nil => cases h
  | cons d l =>
    replace h : bnd (g d) (fun _ => r l) ρ = .ex x ρ' := h
    unfold bnd at h
    cases hg : g d ρ with
    | no => rw [hg] at h; cases h
    | ex y ρ'' => exact h1 _ _ _ _ hg
    | ok u ρ'' => rw [hg] at h; exact h2 _ _ _ _ h
theorem nx_tup {n : Nat} {r : List D → M Unit} (h : NoXs r) : NoX (gT n r) := fun d ρ x ρ' e => by
  cases d <;> first | (cases e; done) | skip
  simp only [gT] at e
  split at e
  · exact h _ _ _ _ e
  · cases e
theorem s_asg {g : G} {ws : List Nat} (h : PE X a (dE c W fa)) (hg : PG X tg (dG c ws g)) (nx : NoX g) (hs : swapsWithSole [tg] a pos.line X.env = pure false := by rfl) (hw : swappedStores [tg] a X.env = pure none := by rfl)
    (h1 : (assignEach [tg] X.env).map (·.2) = [assign tg X.env] := by rfl) : PS X (.Assign [tg] a pos) (dS c W (asg fa g)) := psI (ps_asg h hg hs hw h1) fun E σ H ⟨G, ρ, gd, p⟩ =>
  (posts_bnd gd p).imp fun v H1 ⟨G1, ρ1, d, s, g1, r, p1⟩ => by
    refine ⟨G1, ρ1, d, g1, r, ?_⟩
    have q := posts_u p1 (nx d ρ1)
    revert q
    cases g d ρ1 with
    | no => exact fun q => q
    | ex x ρ' => exact fun q => q
    | ok u ρ' =>
      intro q σ' H' G' s' g' _
      obtain ⟨G2, ρ2, g2, p2⟩ := q σ' H' G' s' g'
      exact p2 σ' H' G2 (Same.refl _) g2
/-- x = e -/
theorem s_set (i : Nat) {x : Str} {pos' : Pos} (hN : X.N.Nodup) (h : PE X a (dE c W fa)) (hi : X.N[i]? = some x := by rfl) (hx : Loc X.env.scope x := by first | exact Or.inl rfl | exact Or.inr rfl) (hs : swapsWith a (some (.Name x pos')) pos.line X.env = pure false := by rfl)
    (hf : X.fn x = true ∨ X.env.scope.names.lookup x = some .local := by first | exact .inl rfl | exact .inr rfl | assumption) (h0 : c.fx = none ∨ i ≠ 0 := by first | exact .inr (by decide) | (left; assumption)) (hpin : c.pin = [] := by assumption) : PS X (.Assign [.Name x pos'] a pos) (dS c W (asg fa (gN i))) := by
  refine ⟨fun pins s σ H E I ⟨G, ρ, gd, p⟩ => ?_⟩
  have hl : i < σ.length := by rw [I.len]; exact (List.getElem?_eq_some_iff.mp hi).1
  refine (ps_set hN hi hx h hs hf).run pins s σ H E I ((posts_bnd gd p).imp fun v H1 ⟨G1, ρ1, d, s, g1, r, p1⟩ => ?_)
  exact p1 _ H1 G1 (Same.refl _) (g1.set r hl h0 fun p hp => by rw [hpin] at hp; cases hp)
/-! for -/
theorem s_for {it : Expr} {body : List Stmt} {fi : M (List D)} {g : G} {fb : S} (hp : PassesOwn (model X.prog X.w) X.A X.env X.xe) (hc : X.calm = true) (hi : PI X tg it (dI c W fi)) {ws : List Nat} (hg : PG X tg (dG c ws g)) (nx : NoX g) (hb : PSs X body (dS c W fb))
    (hs : ∀ x, foldedSetIterable it X.env x = pure x := by intro _; rfl) : PS X (.For tg it body [] pos) (dS c W (forS fi g fb)) := psI (ps_for hp hc hi hg hb hs) fun E σ H ⟨G, ρ, gd, p⟩ => by
  refine (posts_bnd gd p).imp fun J H1 ⟨G1, ρ1, ds, s1, g1, go, p1⟩ => ?_
  refine ⟨fun i m σ H => i ≤ ds.length ∧ m = ds.length - i ∧ ∃ G' ρ', Same G1 G' ∧ Good c G' H σ ρ' ∧ PostS c W G' (forL (fun x => bnd (g x) fun _ => fb) (ds.drop i) ρ') E,
    ⟨_, Nat.zero_le _, rfl, G1, ρ1, Same.refl _, g1, p1⟩, fun i m σ H ⟨hi, hm, G2, ρ2, s2, g2, p2⟩ => ?_⟩
  by_cases hlt : i < ds.length
  · refine .inr ⟨go.go i H (s2.trans g2.gh) hlt, fun σ' H' => ∃ G' ρ', Same G1 G' ∧ Good c G' H' σ' ρ' ∧ PostS c W G' (forL (fun x => bnd (g x) fun _ => fb) (ds.drop (i + 1)) ρ') E,
      fun σ' H' ⟨G', ρ', a, b, d⟩ => ⟨ds.length - (i + 1), by omega, by omega, rfl, G', ρ', a, b, d⟩, fun x H' hy => ?_⟩
    obtain ⟨G3, d, n3, hd, rd⟩ := go.yld i H x H' (s2.trans g2.gh) hy hlt G2 s2 g2.gh g2.nt
    have e : ds.drop i = d :: ds.drop (i + 1) := by
      rw [List.drop_eq_getElem_cons hlt]
      rw [List.getElem?_eq_getElem hlt] at hd
      rw [Option.some.inj hd]
    rw [e] at p2
    have g3 := g2.ext n3
    have p3 := PostS.mono n3.gg p2
    refine ⟨G3, ρ2, d, g3, rd, ?_⟩
    unfold forL at p3
    revert p3
    show PostS c W G3 (bnd (bnd (g d) fun _ => fb) _ ρ2) E → _
    unfold bnd
    cases hgd : g d ρ2 with
    | no => exact False.elim
    | ex y ρ' => exact absurd hgd (nx _ _ _ _)
    | ok u ρ3 =>
      intro p3 σ' H4 G4 s4 g4 _
      refine ⟨G4, ρ3, g4, ?_⟩
      have s14 : Same G1 G4 := s2.trans (n3.gg.trans s4)
      revert p3
      show PostS c W G3 (bnd fb _ ρ3) E → _
      unfold bnd
      cases hfb : fb ρ3 with
      | no => exact False.elim
      | ex y ρ' => exact fun p3 => PostS.mono s4 p3
      | ok r ρ4 => cases r with
        | nx => exact fun p3 σ5 H5 G5 s5 g5 => ⟨G5, ρ4, s14.trans s5, g5, PostS.mono (s4.trans s5) p3⟩
        | ct => exact fun p3 σ5 H5 G5 s5 g5 => ⟨G5, ρ4, s14.trans s5, g5, PostS.mono (s4.trans s5) p3⟩
        | bk => exact fun p3 σ5 H5 G5 s5 g5 => (PostS.mono (s4.trans s5) p3 : PostS c W G5 (.ok .nx ρ4) E) σ5 H5 G5 (Same.refl _) g5
        | rt d => exact fun p3 => PostS.mono s4 p3
  · have e : i = ds.length := by omega
    subst e
    rw [List.drop_length] at p2
    exact .inl ⟨go.stop H (s2.trans g2.gh), p2 σ H G2 (Same.refl _) g2⟩
/-! while -/
theorem s_while {t : Expr} {body : List Stmt} {fb : S} (hp : PassesOwn (model X.prog X.w) X.A X.env X.xe) (ht : PT X t (dT c W ft)) (hb : PSs X body (dS c W fb)) : PS X (.While t body [] pos) (dS c W (whl ft fb)) := psI (ps_while hp ht hb) fun E σ H ⟨G, ρ, gd, p⟩ => by
  refine ⟨fun m σ H => ∃ G' ρ', Good c G' H σ ρ' ∧ PostS c W G' (whlN ft fb m ρ') E, ⟨_, G, ρ, gd, p⟩, fun m σ H ⟨G2, ρ2, g2, p2⟩ => ?_⟩
  cases m with
  | zero => exact False.elim p2
  | succ m =>
    refine (posts_bnd g2 p2).imp fun v H1 ⟨G3, ρ3, k, s3, g3, r, p3⟩ => ?_
    have e : k = v := r
    subst e
    cases k with
    | false =>
      rw [if_neg Bool.false_ne_true]
      exact p3 σ H1 G3 (Same.refl _) g3
    | true =>
      rw [if_pos rfl]
      refine ⟨fun σ' H' => ∃ G' ρ', Good c G' H' σ' ρ' ∧ PostS c W G' (whlN ft fb m ρ') E, fun σ' H' h => ⟨m, Nat.lt_succ_self _, h⟩, G3, ρ3, g3, ?_⟩
      rw [if_pos rfl] at p3
      revert p3
      show PostS c W G3 (bnd fb _ ρ3) E → _
      unfold bnd
      cases hfb : fb ρ3 with
      | no => exact False.elim
      | ex y ρ' => exact fun p3 => p3
      | ok r ρ4 => cases r with
        | nx => exact fun p3 σ5 H5 G5 s5 g5 => ⟨G5, ρ4, g5, PostS.mono s5 p3⟩
        | ct => exact fun p3 σ5 H5 G5 s5 g5 => ⟨G5, ρ4, g5, PostS.mono s5 p3⟩
        | bk => exact fun p3 σ5 H5 G5 s5 g5 => (PostS.mono s5 p3 : PostS c W G5 (.ok .nx ρ4) E) σ5 H5 G5 (Same.refl _) g5
        | rt d => exact fun p3 => p3
end
end Fe
end
section
set_option Elab.async false
set_option linter.all false
set_option maxRecDepth 100000
set_option maxHeartbeats 1000000
namespace Fe
open PySem PySem.Spec PyProof.Rows L2
theorem wipe_get {σ : L2.St} {j : Nat} : ∀ {vs : List Nat}, (L2.wipe σ vs)[j]? = if j ∈ vs then (σ[j]?).map (fun _ => none) else σ[j]?
  | [] => by simp [L2.wipe]
  | v :: vs => by
    show ((L2.wipe σ vs).set v none)[j]? = _
    by_cases h : v = j
    · subst h
      rw [if_pos List.mem_cons_self]
      by_cases hl : v < (L2.wipe σ vs).length
      · rw [List.getElem?_set_self hl]
        rw [wipe_length] at hl
        rw [List.getElem?_eq_getElem hl]
        rfl
      · rw [List.getElem?_eq_none (by simpa using hl)]
        rw [wipe_length] at hl
        rw [List.getElem?_eq_none (by simpa using hl)]
        rfl
    · rw [List.getElem?_set_ne h, wipe_get]
      by_cases hj : j ∈ vs
      · rw [if_pos hj, if_pos (List.mem_cons_of_mem _ hj)]
      · rw [if_neg hj, if_neg (by simp only [List.mem_cons, not_or]; exact ⟨fun e => h e.symm, hj⟩)]
theorem ewipe_len (ρ : Env) : ∀ vs : List Nat, (Fe.wipe ρ vs).length = ρ.length
  | [] => rfl
  | v :: vs => by show ((Fe.wipe ρ vs).set v none).length = _; rw [List.length_set, ewipe_len ρ vs]
theorem ewipe_get {ρ : Env} {j : Nat} : ∀ {vs : List Nat}, get (Fe.wipe ρ vs) j = if j ∈ vs then none else get ρ j
  | [] => by simp [Fe.wipe]
  | v :: vs => by
    show get ((Fe.wipe ρ vs).set v none) j = _
    rw [get_set, ewipe_get]
    by_cases h : v = j
    · subst h
      rw [if_pos rfl, if_pos List.mem_cons_self]
      split <;> rfl
    · rw [if_neg h]
      by_cases hj : j ∈ vs
      · rw [if_pos hj, if_pos (List.mem_cons_of_mem _ hj)]
      · rw [if_neg hj, if_neg (by simp only [List.mem_cons, not_or]; exact ⟨fun e => h e.symm, hj⟩)]
theorem back_len (ρ0 ρ : Env) : ∀ vs : List Nat, (back ρ0 vs ρ).length = ρ.length
  | [] => rfl
  | v :: vs => by show ((back ρ0 vs ρ).set v _).length = _; rw [List.length_set, back_len ρ0 ρ vs]
theorem back_get {ρ0 ρ : Env} {j : Nat} (hl : ρ0.length = ρ.length) : ∀ {vs : List Nat}, get (back ρ0 vs ρ) j = if j ∈ vs then get ρ0 j else get ρ j
  | [] => by simp [back]
  | v :: vs => by
    show get ((back ρ0 vs ρ).set v _) j = _
    rw [get_set, back_get hl]
    by_cases h : v = j
    · subst h
      rw [if_pos rfl, if_pos List.mem_cons_self, back_len]
      split
      · rfl
      · rename_i q
        unfold get
        rw [List.getElem?_eq_none (by omega)]
        rfl
    · rw [if_neg h]
      by_cases hj : j ∈ vs
      · rw [if_pos hj, if_pos (List.mem_cons_of_mem _ hj)]
      · rw [if_neg hj, if_neg (by simp only [List.mem_cons, not_or]; exact ⟨fun e => h e.symm, hj⟩)]
theorem wipe_agr {vs ws : List Nat} {σ σ' : L2.St} (a : Agr ws σ σ') (h : ∀ i ∈ ws, i ∈ vs) : L2.wipe σ' vs = L2.wipe σ vs := by
  apply List.ext_getElem?
  intro j
  rw [wipe_get, wipe_get]
  by_cases hj : j ∈ vs
  · rw [if_pos hj, if_pos hj]
    by_cases hl : j < σ.length
    · rw [List.getElem?_eq_getElem hl, List.getElem?_eq_getElem (by rw [a.1]; exact hl)]
      rfl
    · have h1 := a.1
      rw [List.getElem?_eq_none (by omega), List.getElem?_eq_none (by omega)]
  · rw [if_neg hj, if_neg hj, a.2 j fun z => hj (h j z)]
theorem wipe_wipe {vs ws : List Nat} {σ : L2.St} (h : ∀ i ∈ ws, i ∈ vs) : L2.wipe (L2.wipe σ ws) vs = L2.wipe σ vs := by
  apply List.ext_getElem?
  intro j
  rw [wipe_get, wipe_get, wipe_get]
  by_cases hj : j ∈ vs
  · rw [if_pos hj, if_pos hj]
    by_cases hw : j ∈ ws
    · rw [if_pos hw]
      cases σ[j]? <;> rfl
    · rw [if_neg hw]
  · rw [if_neg hj, if_neg hj, if_neg fun z => hj (h j z)]
section
variable {B : Bs} {c : Ct B} {G G' H H' : Hp} {σ : L2.St} {ρ ρ' ρ0 : Env} {vs : List Nat} {D0 : Addr} {acc acc' : List V}
theorem OwnS.wipe {fp : Nat → List Addr} (w : OwnS c G H σ ρ fp) (hpin : c.pin = []) : OwnS c G H (L2.wipe σ vs) (Fe.wipe ρ vs) fp where
  sl := fun i x e => by
    rw [ewipe_get] at e
    by_cases hi : i ∈ vs
    · rw [if_pos hi] at e; cases e
    · rw [if_neg hi] at e
      rw [wipe_get, if_neg hi]
      exact w.sl i x e
  nd := w.nd
  dj := w.dj
  out := w.out
  al := fun i f e => by
    rw [ewipe_get] at e
    by_cases hi : i ∈ vs
    · rw [if_pos hi] at e; cases e
    · rw [if_neg hi] at e
      rw [wipe_get, if_neg hi]
      exact w.al i f e
  pn := fun i f v e => by rw [hpin] at e; cases e
theorem Good.wipe (g : Good c G H σ ρ) (hpin : c.pin = []) : Good c G H (L2.wipe σ vs) (Fe.wipe ρ vs) where
  gh := g.gh
  nt := g.nt
  g0 := g.g0
  nf := g.nf
  fr := g.fr
  fh := g.fh
  tb := g.tb
  len := by rw [wipe_length, ewipe_len, g.len]
  ow := by
    obtain ⟨fp, w⟩ := g.ow
    exact ⟨fp, w.wipe hpin⟩
  fix := fun a ha x h1 h2 => by
    rw [ewipe_get] at h1
    by_cases hi : 0 ∈ vs
    · rw [if_pos hi] at h1; cases h1
    · rw [if_neg hi] at h1
      rw [wipe_get, if_neg hi]
      exact g.fix a ha x h1 h2
/-- behind the block: the block's names hold again what they held -/
theorem Good.back (g : Good c G H (L2.wipe σ vs) (Fe.wipe ρ vs)) {G0 H0 : Hp} (g0 : Good c G0 H0 σ ρ0) (s : Same G0 G) (hp : pur ρ0 vs = true) (hpin : c.pin = []) : Good c G H σ (Fe.back ρ0 vs ρ) := by
  have hlen : ρ0.length = ρ.length := by
    have h1 := g0.len
    have h2 := g.len
    rw [wipe_length, ewipe_len] at h2
    omega
  have np : ∀ i x, i ∈ vs → get ρ0 i = some x → isO (some x) = false := fun i x hi e => by
    unfold pur at hp
    have := (Bool.and_eq_true_iff.mp (List.all_eq_true.mp hp i hi)).1
    rw [e] at this
    cases x <;> first | rfl | cases this
  have n0 : ∀ i, i ∈ vs → i ≠ 0 := fun i hi e => by
    unfold pur at hp
    have := (Bool.and_eq_true_iff.mp (List.all_eq_true.mp hp i hi)).2
    rw [e] at this
    cases this
  exact {
    gh := g.gh
    nt := g.nt
    g0 := g.g0
    nf := g.nf
    fr := g.fr
    fh := g.fh
    tb := g.tb
    len := by rw [back_len, ← hlen, g0.len]
    ow := by
      obtain ⟨fp, w⟩ := g.ow
      obtain ⟨fp0, w0⟩ := g0.ow
      refine ⟨fun i => if i ∈ vs ∧ i ≠ 0 then [] else fp i, ?_⟩
      exact {
        sl := fun i x e => by
          rw [back_get hlen] at e
          by_cases hi : i ∈ vs
          · rw [if_pos hi] at e
            obtain ⟨v, h1, h2⟩ := w0.sl i x e
            have k := np i x hi e
            cases x with
            | p d =>
              refine ⟨v, h1, crep_p.mpr ⟨Rep.mono s (crep_p.mp h2).1, ?_⟩⟩
              rw [if_pos ⟨hi, n0 i hi⟩]
            | o d => cases k
            | ob _ _ _ => cases k
            | al _ => cases k
          · rw [if_neg hi] at e
            rw [if_neg fun z => hi z.1]
            have := w.sl i x (by rw [ewipe_get, if_neg hi]; exact e)
            rw [wipe_get, if_neg hi] at this
            exact this
        nd := fun i => by
          try dsimp only
          split
          · exact List.nodup_nil
          · exact w.nd i
        dj := fun i j a h1 h2 => by
          try dsimp only at h1 h2
          split at h1
          · cases h1
          · split at h2
            · cases h2
            · exact w.dj i j a h1 h2
        out := fun i a h1 => by
          try dsimp only at h1
          split at h1
          · cases h1
          · exact w.out i a h1
        al := fun i f e => by
          rw [back_get hlen] at e
          by_cases hi : i ∈ vs
          · rw [if_pos hi] at e
            cases np i _ hi e
          · rw [if_neg hi] at e
            have := w.al i f (by rw [ewipe_get, if_neg hi]; exact e)
            rw [wipe_get, if_neg hi] at this
            obtain ⟨a, C, dx, fs, v, k1, k2, k3⟩ := this
            exact ⟨a, C, dx, fs, v, k1, by rw [if_neg fun z => z.2 rfl]; exact k2, k3⟩
        pn := fun i f v e => by rw [hpin] at e; cases e }
    fix := fun a ha x h1 h2 => by
      rw [back_get hlen] at h1
      by_cases hi : 0 ∈ vs
      · rw [if_pos hi] at h1
        rw [np 0 x hi h1] at h2; cases h2
      · rw [if_neg hi] at h1
        have := g.fix a ha x (by rw [ewipe_get, if_neg hi]; exact h1) h2
        rw [wipe_get, if_neg hi] at this
        exact this }
/-- the list that grows stays as it is meanwhile -/
def Ct.at {B : Bs} (c : Ct B) (D : Addr) (acc : List V) : Ct B := { c with F := upd c.F D (.lst acc) }
theorem Good.begin (g : Good c G H σ ρ) (hD : H D0 = none) : Good (c.at D0 []) G (upd H D0 (.lst [])) σ ρ where
  gh := g.gh.trans (same_upd hD)
  nt := g.nt
  g0 := g.g0
  nf := fun a ps e => by
    have e' : upd c.F D0 (.lst []) a = some (.tbl ps) := e
    by_cases h : a = D0
    · subst h; rw [upd_same] at e'; cases e'
    · rw [upd_ne h] at e'; exact g.nf a ps e'
  fr := fun a h => (g.fr a h).imp id fun z => by
    show upd c.F D0 (.lst []) a = none
    rw [upd_ne ?_]
    · exact z
    · intro e
      subst e
      exact h (g.gh.free hD)
  fh := same_upds g.fh
  tb := g.tb.ext (same_upd hD)
  len := g.len
  ow := by
    obtain ⟨fp, w⟩ := g.ow
    refine ⟨fp, w.mono (Same.refl _) ⟨rfl, rfl⟩ fun i a ha => ?_⟩
    obtain ⟨⟨o, h1, h2⟩, h3, h4⟩ := w.out i a ha
    have ne : a ≠ D0 := ne_of_none h1 hD
    refine ⟨upd_ne ne, h3, ?_⟩
    show upd c.F D0 (.lst []) a = none
    rw [upd_ne ne]; exact h4
  fix := g.fix
theorem Good.atD (g : Good (c.at D0 acc) G H σ ρ) : H D0 = some (.lst acc) := g.fh _ _ upd_same
theorem Good.gD (g : Good (c.at D0 acc) G H σ ρ) (h0 : c.G0 D0 = none) : G D0 = none := by
  cases q : G D0 with
  | none => rfl
  | some o =>
    rcases g.fr D0 (by rw [q]; simp) with z | z
    · exact absurd h0 z
    · have z' : upd c.F D0 (.lst acc) D0 = none := z
      rw [upd_same] at z'; cases z'
theorem Good.grow (g : Good (c.at D0 acc) G H σ ρ) (h0 : c.G0 D0 = none) (hF : c.F D0 = none) : Good (c.at D0 acc') G (upd H D0 (.lst acc')) σ ρ where
  gh := fun a o e => by
    rw [upd_ne (ne_of_none e (g.gD h0))]
    exact g.gh a o e
  nt := g.nt
  g0 := g.g0
  nf := fun a ps e => by
    have e' : upd c.F D0 (.lst acc') a = some (.tbl ps) := e
    by_cases h : a = D0
    · subst h; rw [upd_same] at e'; cases e'
    · rw [upd_ne h] at e'
      exact g.nf a ps (show upd c.F D0 (.lst acc) a = _ by rw [upd_ne h]; exact e')
  fr := fun a h => (g.fr a h).imp id fun z => by
    have z' : upd c.F D0 (.lst acc) a = none := z
    show upd c.F D0 (.lst acc') a = none
    by_cases ha : a = D0
    · subst ha; rw [upd_same] at z'; cases z'
    · rw [upd_ne ha] at z' ⊢; exact z'
  fh := fun a o e => by
    have e' : upd c.F D0 (.lst acc') a = some o := e
    by_cases ha : a = D0
    · subst ha; rw [upd_same] at e' ⊢; exact e'
    · rw [upd_ne ha] at e' ⊢
      exact g.fh a o (show upd c.F D0 (.lst acc) a = _ by rw [upd_ne ha]; exact e')
  tb := fun p hp => by
    obtain ⟨ps, h1, h2, h3⟩ := g.tb p hp
    refine ⟨ps, ?_, h2, fun pos cv hc => ?_⟩
    · rw [upd_ne (ne_of h1 g.atD (fun z => by cases z))]; exact h1
    · obtain ⟨cc, e1, e2⟩ := h3 pos cv hc
      refine ⟨cc, e1, ?_⟩
      rw [upd_ne (ne_of e2 g.atD (fun z => by unfold LamX.CodeO at z; cases z))]
      exact e2
  len := g.len
  ow := by
    obtain ⟨fp, w⟩ := g.ow
    refine ⟨fp, w.mono (Same.refl _) ⟨rfl, rfl⟩ fun i a ha => ?_⟩
    obtain ⟨_, h3, h4⟩ := w.out i a ha
    have h4' : upd c.F D0 (.lst acc) a = none := h4
    have ne : a ≠ D0 := fun z => by subst z; rw [upd_same] at h4'; cases h4'
    refine ⟨upd_ne ne, h3, ?_⟩
    show upd c.F D0 (.lst acc') a = none
    rw [upd_ne ne] at h4' ⊢; exact h4'
  fix := g.fix
/-- the list is complete: frozen -/
theorem Good.done (g : Good (c.at D0 acc) G H σ ρ) (hF : c.F D0 = none) : Good c (upd G D0 (.lst acc)) H σ ρ where
  gh := fun a o e => by
    by_cases ha : a = D0
    · subst ha; rw [upd_same] at e; rw [← e]; exact g.atD
    · rw [upd_ne ha] at e; exact g.gh a o e
  nt := fun a ps e => by
    by_cases ha : a = D0
    · subst ha; rw [upd_same] at e; cases e
    · rw [upd_ne ha] at e; exact g.nt a ps e
  g0 := fun a o e => by
    by_cases ha : a = D0
    · subst ha
      have h1 := g.gh _ _ (g.g0 _ _ e)
      rw [g.atD] at h1
      rw [upd_same]
      exact h1
    · rw [upd_ne ha]; exact g.g0 a o e
  nf := fun a ps e => g.nf a ps (show upd c.F D0 (.lst acc) a = _ by rw [upd_ne (ne_of_none e hF)]; exact e)
  fr := fun a h => by
    by_cases ha : a = D0
    · subst ha; exact .inr hF
    · rw [upd_ne ha] at h
      exact (g.fr a h).imp id fun z => by
        have z' : upd c.F D0 (.lst acc) a = none := z
        rw [upd_ne ha] at z'; exact z'
  fh := fun a o e => g.fh a o (show upd c.F D0 (.lst acc) a = _ by rw [upd_ne (ne_of_none e hF)]; exact e)
  tb := g.tb
  len := g.len
  ow := by
    have su : Same G (upd G D0 (.lst acc)) := fun a o q => by
      by_cases ha : a = D0
      · subst ha
        have h1 := g.gh _ _ q
        rw [g.atD] at h1
        rw [upd_same]; exact h1
      · rw [upd_ne ha]; exact q
    obtain ⟨fp, w⟩ := g.ow
    refine ⟨fp, w.mono su ⟨rfl, rfl⟩ fun i a ha => ?_⟩
    obtain ⟨_, h3, h4⟩ := w.out i a ha
    have h4' : upd c.F D0 (.lst acc) a = none := h4
    have ne : a ≠ D0 := fun z => by subst z; rw [upd_same] at h4'; cases h4'
    rw [upd_ne ne] at h4'
    exact ⟨rfl, by rw [upd_ne ne]; exact h3, h4'⟩
  fix := g.fix
/-! ### one turn -/
abbrev W0 : WX := fun _ _ _ _ => False
def aG (B : Bs) (vs : List Nat) (g : Fe.G) : TG := fun v σ H Q => ∃ c : Ct B, c.pin = [] ∧ dG c vs g v σ H Q
def aT (B : Bs) (f : M Bool) : TT := fun σ H Q => ∃ c : Ct B, c.pin = [] ∧ dT c W0 f σ H Q
def aE (B : Bs) (f : M D) : TE := fun σ H Q => ∃ c : Ct B, c.pin = [] ∧ dE c W0 f σ H Q
theorem bnd_ok {α β : Type} {f : M α} {k : α → M β} {ρ ρ' : Env} {r : β} (h : bnd f k ρ = .ok r ρ') : ∃ a ρ1, f ρ = .ok a ρ1 ∧ k a ρ1 = .ok r ρ' := by
  unfold bnd at h
  cases hf : f ρ with
  | no => rw [hf] at h; cases h
  | ex x ρ1 => rw [hf] at h; cases h
  | ok a ρ1 => rw [hf] at h; exact ⟨a, ρ1, rfl, h⟩
theorem den_ok {α β : Type} {rep : Bs → Hp → α → β → Prop} {W : WX} {f : M α} {d : α} {Q : β → Hp → Prop} (g : Good c G H σ ρ) (hf : f ρ = .ok d ρ') (h : ∀ v H' G', Same G G' → Good c G' H' σ ρ' → rep B G' d v → Q v H') : Den rep c W f σ H Q :=
  ⟨G, ρ, g, by rw [hf]; exact h⟩
/-- the element's part of a turn, behind the target -/
theorem turn_elt (hpin : c.pin = []) {r racc : List D} {ft : M Bool} {fe : M D} {σ2 : L2.St} {Nx : Hp → Prop} (h0 : c.G0 D0 = none) (hF : c.F D0 = none) (ra : Reps B G racc acc) (g : Good (c.at D0 acc) G H σ2 ρ)
    (hT : bnd ft (fun k => if k = true then bnd fe fun y => Fe.ret [y] else Fe.ret []) ρ = .ok r ρ') (hl : racc.length + r.length ≤ lim)
    (hN : ∀ G' H' acc', Same G G' → Good (c.at D0 acc') G' H' σ2 ρ' → Reps B G' (racc ++ r) acc' → Nx H') :
    aT B ft σ2 H fun b H3 => if b = true then aE B fe σ2 H3 fun y H4 => ∃ acc, H4 D0 = some (.lst acc) ∧ acc.length < sizeLine ∧ Nx (upd H4 D0 (.lst (acc ++ [y]))) else Nx H3 := by
  obtain ⟨k, ρ1, h1, h2⟩ := bnd_ok hT
  refine ⟨c.at D0 acc, hpin, den_ok g h1 fun b H3 G3 s3 g3 rb => ?_⟩
  have e : k = b := rb
  subst e
  cases k with
  | false =>
    rw [if_neg Bool.false_ne_true] at h2 ⊢
    cases h2
    exact hN G3 H3 acc s3 g3 (by rw [List.append_nil]; exact Reps.mono s3 ra)
  | true =>
    rw [if_pos rfl] at h2 ⊢
    obtain ⟨y, ρ2, h3, h4⟩ := bnd_ok h2
    cases h4
    refine ⟨c.at D0 acc, hpin, den_ok g3 h3 fun v H4 G4 s4 g4 rv => ⟨acc, g4.atD, ?_, ?_⟩⟩
    · rw [ra.len, ← lim_eq]
      simp only [List.length_cons, List.length_nil] at hl
      omega
    · exact hN G4 _ _ (s3.trans s4) (g4.grow h0 hF) (Reps.append (Reps.mono (s3.trans s4) ra) (reps_cons.mpr ⟨_, _, rfl, rv, reps_nil.mpr rfl⟩))
theorem turn_tgt (hpin : c.pin = []) {x : V} {d : D} {ws : List Nat} {g : Fe.G} {k : M (List D)} {r : List D} {R : L2.St → Hp → Prop} (gd : Good (c.at D0 acc) G H σ ρ) (rx : Rep B G d x) (nx : NoX g) (hT : bnd (g d) (fun _ => k) ρ = .ok r ρ')
    (hR : ∀ σ' H' G' ρ1, Same G G' → Good (c.at D0 acc) G' H' σ' ρ1 → Agr ws σ σ' → k ρ1 = .ok r ρ' → R σ' H') : aG B ws g x σ H R := by
  obtain ⟨u, ρ1, h1, h2⟩ := bnd_ok hT
  refine ⟨c.at D0 acc, hpin, G, ρ, d, gd, rx, ?_⟩
  rw [h1]
  exact fun σ' H' G' s g' a => hR σ' H' G' ρ1 s g' a h2
theorem cmpL_cons {f : D → M (List D)} {x : D} {l : List D} {ρ ρ' : Env} {r : List D} (h : cmpL f (x :: l) ρ = .ok r ρ') : ∃ a b ρ1, f x ρ = .ok a ρ1 ∧ cmpL f l ρ1 = .ok b ρ' ∧ r = a ++ b := by
  obtain ⟨a, ρ1, h1, h2⟩ := bnd_ok (show bnd (f x) (fun a => bnd (cmpL f l) fun b => Fe.ret (a ++ b)) ρ = _ from h)
  obtain ⟨b, ρ2, h3, h4⟩ := bnd_ok h2
  cases h4
  exact ⟨a, b, ρ1, h1, h3, rfl⟩
end
section
variable {X : Cx} {B : Bs} {c : Ct B} {W : WX} {elt tg it tg1 it1 : Expr} {ifs ifs1 : List Expr} {scope : Scope} {own : List (Str × Nat)} {pos : Pos} {fi fi1 : M (List D)} {g g1 : G} {ft ft1 : M Bool} {fe : M D}
theorem ts_one {t : Expr} (h : ∀ c : Ct B, c.pin = [] → PT X t (dT c W0 ft)) : PTs X [t] (aT B ft) := pts_one ⟨fun pins s σ H Q I ⟨c, hp, q⟩ => (h c hp).run pins s σ H Q I q⟩
theorem pe_any {e : Expr} (h : ∀ c : Ct B, c.pin = [] → PE X e (dE c W0 fe)) : PE X e (aE B fe) := ⟨fun pins s σ H Q I ⟨c, hp, q⟩ => (h c hp).run pins s σ H Q I q⟩
theorem pg_any {ws : List Nat} (h : ∀ c : Ct B, c.pin = [] → PG X tg (dG c ws g)) : PG X tg (aG B ws g) := ⟨fun pins s σ H v u Q I r ⟨c, hp, q⟩ => (h c hp).run pins s σ H v u Q I r q⟩
/-- what a comprehension asks of its reading -/
theorem lc_use (hpin : c.pin = []) {vs ws : List Nat} (nx : NoX g) (hw : ∀ i ∈ ws, i ∈ vs) {σ : L2.St} {H : Hp} {Q : VK} (h : Den rX c W (lc vs fi g ft fe) σ H Q) : tLc (dI c W fi) (aG B ws g) (aT B ft) (aE B fe) vs σ H Q := by
  obtain ⟨G, ρ0, gd, p⟩ := h
  unfold lc at p
  by_cases hp : pur ρ0 vs = false
  · rw [if_pos hp] at p; exact False.elim p
  rw [if_neg hp] at p
  have hp' : pur ρ0 vs = true := by simpa using hp
  refine ⟨G, ρ0, gd, ?_⟩
  revert p
  cases fi ρ0 with
  | no => exact fun p => p
  | ex x ρ' => exact fun p => p
  | ok l ρ1 =>
    intro p J H1 G1 s1 g1 go D hD
    dsimp only at p
    cases hL : cmpL (cmpT vs g ft fe) l ρ1 with
    | no => rw [hL] at p; exact False.elim p
    | ex x ρ' => rw [hL] at p; exact False.elim p
    | ok r ρe =>
    rw [hL] at p
    dsimp only at p
    by_cases hlim : r.length ≤ lim
    case neg => rw [if_neg hlim] at p; exact False.elim p
    rw [if_pos hlim] at p
    have h0 : c.G0 D = none := (gd.g0.trans (s1.trans g1.gh)).free hD
    have hF : c.F D = none := g1.fh.free hD
    refine ⟨fun i m H => i ≤ l.length ∧ m = l.length - i ∧ ∃ G' ρ' acc racc r', Same G1 G' ∧ Good (c.at D acc) G' H (L2.wipe σ vs) (Fe.wipe ρ' vs) ∧ Reps B G' racc acc ∧ cmpL (cmpT vs g ft fe) (l.drop i) ρ' = .ok r' ρe ∧ racc ++ r' = r,
      ⟨_, Nat.zero_le _, rfl, G1, ρ1, [], [], r, Same.refl _, ((g1.begin hD).wipe hpin), reps_nil.mpr rfl, hL, rfl⟩, fun i m H2 ⟨hi, hm, G2, ρ2, acc, racc, r', s2, g2, ra, hc, hr⟩ => ?_⟩
    by_cases hlt : i < l.length
    · refine .inr ⟨go.go i H2 (s2.trans g2.gh) hlt, fun H' => ∃ G' ρ' acc racc r', Same G1 G' ∧ Good (c.at D acc) G' H' (L2.wipe σ vs) (Fe.wipe ρ' vs) ∧ Reps B G' racc acc ∧ cmpL (cmpT vs g ft fe) (l.drop (i + 1)) ρ' = .ok r' ρe ∧ racc ++ r' = r,
        fun H' q => ⟨l.length - (i + 1), by omega, by omega, rfl, q⟩, fun x H3 hy => ?_⟩
      obtain ⟨G3, d, n3, hd, rd⟩ := go.yld i H2 x H3 (s2.trans g2.gh) hy hlt G2 s2 g2.gh g2.nt
      have e : l.drop i = d :: l.drop (i + 1) := by
        rw [List.drop_eq_getElem_cons hlt]
        rw [List.getElem?_eq_getElem hlt] at hd
        rw [Option.some.inj hd]
      rw [e] at hc
      obtain ⟨a, b, ρ3, hT, hb, rfl⟩ := cmpL_cons hc
      have g3 := g2.ext n3
      refine turn_tgt hpin g3 rd nx hT fun σ' H4 G4 ρ4 s4 g4 ag hk => ?_
      have ew : L2.wipe σ' vs = L2.wipe σ vs := by
        rw [wipe_agr ag hw, wipe_wipe fun i h => h]
      refine ⟨by rw [ew], turn_elt hpin (racc := racc) h0 hF (Reps.mono (n3.gg.trans s4) ra) g4 hk ?_ fun G5 H5 acc' s5 g5 ra' => ?_⟩
      · rw [← List.length_append]
        have : (racc ++ a).length ≤ r.length := by rw [← hr]; simp only [List.length_append]; omega
        omega
      · have g6 := g5.wipe hpin (vs := vs)
        rw [ew] at g6
        exact ⟨G5, ρ3, acc', racc ++ a, b, s2.trans (n3.gg.trans (s4.trans s5)), g6, ra', hb, by rw [List.append_assoc]; exact hr⟩
    · have e : i = l.length := by omega
      subst e
      rw [List.drop_length] at hc
      cases hc
      rw [List.append_nil] at hr
      subst hr
      have sd : Same G2 (upd G2 D (.lst acc)) := same_upd (g2.gD h0)
      have g3 := (g2.done hF).back gd (s1.trans (s2.trans sd)) hp' hpin
      exact .inl ⟨go.stop H2 (s2.trans g2.gh), p _ H2 _ (s1.trans (s2.trans sd)) g3 ⟨D, racc, acc, rfl, rfl, upd_same, Reps.mono sd ra⟩⟩
/-- [elt for tg in it if ..] -/
theorem e_lc {ws : List Nat} (hc : X.calm = true) (hN : X.N.Nodup) (ok : BlkOk X.N X.env.scope scope own) (hw : ∀ i ∈ ws, i ∈ own.map (·.2)) (nx : NoX g) (hi : PI X tg it (dI c W fi))
    (hg : ∀ (s : Shared) (H : Hp) (C : Addr) (cl : List (Str × Addr)) (fp : List Addr) (c : Ct B), c.pin = [] → PG (X.blk s H scope (compEnvC scope cl C X.env) fp) tg (dG c ws g))
    (ht : ∀ (s : Shared) (H : Hp) (C : Addr) (cl : List (Str × Addr)) (fp : List Addr), PTs (X.blk s H scope (compEnvC scope cl C X.env) fp) ifs (aT B ft))
    (he : ∀ (s : Shared) (H : Hp) (C : Addr) (cl : List (Str × Addr)) (fp : List Addr) (c : Ct B), c.pin = [] → PE (X.blk s H scope (compEnvC scope cl C X.env) fp) elt (dE c W0 fe)) (hs : ∀ x, foldedSetIterable it X.env x = pure x := by intro _; rfl) (hpin : c.pin = [] := by assumption) :
    PE X (.ListComp elt [⟨tg, it, ifs, 0⟩] scope pos) (dE c W (lc (own.map (·.2)) fi g ft fe)) :=
  peI (pe_lc hc hN hi ok (fun s H C cl fp => pg_any (hg s H C cl fp)) ht (fun s H C cl fp => pe_any (he s H C cl fp)) hs) fun σ H Q h => lc_use hpin nx hw (Den.chg (fun _ _ _ r => rX_D r) h)
end
end Fe
end
section
set_option Elab.async false
set_option linter.all false
set_option maxRecDepth 100000
set_option maxHeartbeats 1000000
namespace Fe
open PySem PySem.Spec PyProof.Rows L2
section
variable {X : Cx} {B : Bs} {c : Ct B} {W : WX} {elt tg it tg1 it1 : Expr} {ifs ifs1 : List Expr} {scope : Scope} {own : List (Str × Nat)} {pos : Pos} {fi fi1 : M (List D)} {g g1 : G} {ft ft1 : M Bool} {fe : M D}
end
end Fe
end
section
set_option Elab.async false
set_option linter.all false
set_option maxRecDepth 100000
set_option maxHeartbeats 1000000
namespace Fe
open PySem PySem.Spec PyProof.Rows L2
/-! ### promises -/
def noT (H : Hp) : Hp := fun b => match H b with
  | some (.tbl _) => none
  | o => o
theorem noT_some {H : Hp} {a : Addr} {o : HO} (e : noT H a = some o) : H a = some o := by
  unfold noT at e
  split at e
  · cases e
  · exact e
theorem noT_nt {H : Hp} : NT (noT H) := fun a ps e => by
  unfold noT at e
  split at e
  · cases e
  · rename_i h; exact h ps e
theorem noT_of {H : Hp} {a : Addr} {o : HO} (e : H a = some o) (n : ∀ ps, o ≠ .tbl ps) : noT H a = some o := by
  unfold noT
  rw [e]
  cases o <;> first | rfl | exact absurd rfl (n _)
theorem noT_same {H : Hp} : Same (noT H) H := fun _ _ e => noT_some e
/-- what a call leaves -/
structure Ret (T : List (Addr × Str)) (G H G' H' : Hp) : Prop where
  gg : Same G G'
  gh : Same G' H'
  nt : NT G'
  fr : ∀ a, G' a ≠ none → G a ≠ none ∨ noT H a = none
  hh : Same (noT H) H'
  tb : LamX.Tabs T H'
def spF (B : Bs) (φ : List D → F) : Sp := fun vs H Q E => ∃ G ds, Same G H ∧ NT G ∧ LamX.Tabs B.T H ∧ Reps B G ds vs ∧ match φ ds with
  | .ok d => ∀ v H' G', Ret B.T G H G' H' → Rep B G' d v → Q v H'
  | .ex x => ∀ cls dd H' G', Ret B.T G H G' H' → ExRep B G' H' x cls dd → E cls dd H'
  | .no => False
/-- all but tables and what stands at fp -/
def butO (H : Hp) (fp : List Addr) : Hp := fun b => if b ∈ fp then none else noT H b
theorem butO_some {H : Hp} {fp : List Addr} {a : Addr} {o : HO} (e : butO H fp a = some o) : a ∉ fp ∧ H a = some o := by
  unfold butO at e
  split at e
  · cases e
  · rename_i h; exact ⟨h, noT_some e⟩
structure RetO (T : List (Addr × Str)) (fp : List Addr) (G H G' H' : Hp) : Prop where
  gg : Same G G'
  gh : Same G' H'
  nt : NT G'
  fr : ∀ a, G' a ≠ none → G a ≠ none ∨ noT H a = none ∨ a ∈ fp
  hh : Same (butO H fp) H'
  tb : LamX.Tabs T H'
/-- what a def does whose first argument is of the caller's own -/
def spO (B : Bs) (φ : C → List D → FO) : Sp := fun vs H Q E => ∃ G x ds a fp us, vs = .ref a :: us ∧ Same G H ∧ NT G ∧ LamX.Tabs B.T H ∧ isO (some x) = true ∧ CRep B G H x (.ref a) fp ∧ fp.Nodup ∧ (∀ b ∈ fp, G b = none) ∧ (∀ f, x ≠ .al f) ∧ Reps B G ds us ∧ match φ x ds with
  | .ok d y => ∀ v H' G' fq, RetO B.T fp G H G' H' → CRep B G' H' y (.ref a) fq → (∀ f, y ≠ .al f) → fq.Nodup → (∀ b ∈ fq, G' b = none ∧ (b ∈ fp ∨ noT H b = none)) → Rep B G' d v → Q v H'
  | .ex x => ∀ cls dd H' G', RetO B.T fp G H G' H' → ExRep B G' H' x cls dd → E cls dd H'
  | .no => False
section
variable {B : Bs} {c : Ct B} {G G' H H' : Hp} {σ : L2.St} {ρ : Env}
theorem Good.call (g : Good c G H σ ρ) (n : Ret B.T G H G' H') : Good c G' H' σ ρ where
  gh := n.gh
  nt := n.nt
  g0 := g.g0.trans n.gg
  nf := g.nf
  fr := fun a h => (n.fr a h).elim (g.fr a) fun z => .inr (by
    cases q : c.F a with
    | none => rfl
    | some o => rw [noT_of (g.fh _ _ q) fun ps e => g.nf a ps (e ▸ q)] at z; cases z)
  fh := fun a o e => n.hh _ _ (noT_of (g.fh _ _ e) fun ps e' => g.nf a ps (e' ▸ e))
  tb := n.tb
  len := g.len
  ow := by
    obtain ⟨fp, w⟩ := g.ow
    refine ⟨fp, w.mono n.gg ⟨rfl, rfl⟩ fun i a ha => ?_⟩
    obtain ⟨⟨o, h1, h2⟩, h3, h4⟩ := w.out i a ha
    have e3 : noT H a = some o := noT_of h1 fun ps z => h2.tbl z
    refine ⟨(n.hh _ _ e3).trans h1.symm, ?_, h4⟩
    cases q : G' a with
    | none => rfl
    | some u =>
      rcases n.fr a (by rw [q]; simp) with z | z
      · exact absurd h3 z
      · rw [e3] at z; cases z
  fix := g.fix
theorem hld_at {i : Nat} {x : C} {ρ' : Env} (h : hld i ρ = .ok x ρ') : get ρ i = some x ∧ ρ' = ρ ∧ isO (some x) = true ∧ ∀ f, x ≠ .al f := by
  unfold hld at h
  split at h
  · rename_i q; cases h; exact ⟨q, rfl, rfl, fun f z => by cases z⟩
  · rename_i q; cases h; exact ⟨q, rfl, rfl, fun f z => by cases z⟩
  · cases h
theorem clr_get (i : Nat) : get (ρ.map clr) i = clr (get ρ i) := by
  unfold get
  rw [List.getElem?_map]
  cases ρ[i]? <;> rfl
theorem clr_some {x : Option C} {y : C} (h : clr x = some y) : x = some y ∧ ∀ f, y ≠ .al f := by
  cases x with
  | none => cases h
  | some z => cases z with
    | al f => cases h
    | _ => cases h; exact ⟨rfl, fun f z => by cases z⟩
/-- a call that changes what slot i holds -/
theorem OwnS.callO (hpin : c.pin = []) {fp : Nat → List Addr} (w : OwnS c G H σ ρ fp) (fh : Same c.F H) (nf : NT c.F) (hl : σ.length = ρ.length) {i : Nat} {a : Addr} (ha : σ[i]? = some (some (.ref a))) {y : Option C} {fq : List Addr} (n : RetO B.T (fp i) G H G' H')
    (hw : ∀ z, y = some z → CRep B G' H' z (.ref a) fq ∧ ∀ f, z ≠ .al f) (hn : fq.Nodup) (ho : ∀ b ∈ fq, (∃ o, H' b = some o ∧ OwnHO o) ∧ G' b = none ∧ (b ∈ fp i ∨ noT H b = none)) : OwnS c G' H' σ ((ρ.map clr).set i y) (fun j => if j = i then fq else fp j) := by
  have keep : ∀ j, j ≠ i → ∀ b ∈ fp j, (∃ o, noT H b = some o ∧ OwnHO o) ∧ H' b = H b ∧ G' b = none ∧ c.F b = none := fun j hj b hb => by
    obtain ⟨⟨o, h1, h2⟩, h3, h4⟩ := w.out j b hb
    have e3 : noT H b = some o := noT_of h1 fun ps z => h2.tbl z
    have nb : b ∉ fp i := fun z => hj (w.dj j i b hb z)
    refine ⟨⟨o, e3, h2⟩, (n.hh _ _ (by unfold butO; rw [if_neg nb]; exact e3)).trans h1.symm, ?_, h4⟩
    cases q : G' b with
    | none => rfl
    | some u =>
      rcases n.fr b (by rw [q]; simp) with z | z | z
      · exact absurd h3 z
      · rw [e3] at z; cases z
      · exact absurd z nb
  have hi : i < σ.length := (List.getElem?_eq_some_iff.mp ha).1
  have sets : ∀ j, get ((ρ.map clr).set i y) j = if i = j then y else clr (get ρ j) := fun j => by
    rw [get_set, List.length_map, ← hl, if_pos hi, clr_get]
  exact {
    sl := fun j x e => by
      rw [sets] at e
      by_cases h : i = j
      · subst h
        rw [if_pos rfl] at e
        rw [if_pos rfl]
        exact ⟨_, ha, (hw x e).1⟩
      · rw [if_neg h] at e
        rw [if_neg fun z => h z.symm]
        obtain ⟨v, h1, h2⟩ := w.sl j x (clr_some e).1
        exact ⟨v, h1, h2.frame n.gg fun b hb => (keep j (fun z => h z.symm) b hb).2.1⟩
    nd := fun j => by
      try dsimp only
      split
      · exact hn
      · exact w.nd j
    dj := fun j k b h1 h2 => by
      try dsimp only at h1 h2
      split at h1 <;> split at h2
      · rename_i e1 e2; rw [e1, e2]
      · rename_i e1 e2
        obtain ⟨⟨o, q1, _⟩, _⟩ := keep k e2 b h2
        rcases (ho b h1).2.2 with z | z
        · exact absurd (w.dj k i b h2 z) e2
        · rw [q1] at z; cases z
      · rename_i e1 e2
        obtain ⟨⟨o, q1, _⟩, _⟩ := keep j e1 b h1
        rcases (ho b h2).2.2 with z | z
        · exact absurd (w.dj j i b h1 z) e1
        · rw [q1] at z; cases z
      · exact w.dj j k b h1 h2
    out := fun j b h1 => by
      try dsimp only at h1
      split at h1
      · refine ⟨(ho b h1).1, (ho b h1).2.1, ?_⟩
        rcases (ho b h1).2.2 with z | z
        · exact (w.out i b z).2.2
        · cases q : c.F b with
          | none => rfl
          | some o => rw [noT_of (fh _ _ q) fun ps e => nf b ps (e ▸ q)] at z; cases z
      · rename_i e1
        obtain ⟨⟨o, q1, q2⟩, q3, q4, q5⟩ := keep j e1 b h1
        exact ⟨⟨o, by rw [q3]; exact noT_some q1, q2⟩, q4, q5⟩
    al := fun j f e => by
      rw [sets] at e
      by_cases h : i = j
      · rw [if_pos h] at e
        exact absurd rfl ((hw _ e).2 f)
      · rw [if_neg h] at e
        exact absurd rfl ((clr_some e).2 f)
    pn := fun i f v e => by rw [hpin] at e; cases e }
theorem Good.callO (hpin : c.pin = []) (g : Good c G H σ ρ) {i : Nat} {x : C} {fp : Nat → List Addr} (w : OwnS c G H σ ρ fp) {a : Addr} (hx : get ρ i = some x) (hox : isO (some x) = true) (ha : σ[i]? = some (some (.ref a))) {y : Option C} {fq : List Addr} (n : RetO B.T (fp i) G H G' H')
    (hw : ∀ z, y = some z → CRep B G' H' z (.ref a) fq ∧ ∀ f, z ≠ .al f) (hn : fq.Nodup) (ho : ∀ b ∈ fq, (∃ o, H' b = some o ∧ OwnHO o) ∧ G' b = none ∧ (b ∈ fp i ∨ noT H b = none)) : Good c G' H' σ ((ρ.map clr).set i y) where
  gh := n.gh
  nt := n.nt
  g0 := g.g0.trans n.gg
  nf := g.nf
  fr := fun b h => by
    rcases n.fr b h with z | z | z
    · exact g.fr b z
    · refine .inr ?_
      cases q : c.F b with
      | none => rfl
      | some o => rw [noT_of (g.fh _ _ q) fun ps e => g.nf b ps (e ▸ q)] at z; cases z
    · exact .inr (w.out i b z).2.2
  fh := fun b o e => by
    have nb : b ∉ fp i := fun z => by rw [(w.out i b z).2.2] at e; cases e
    exact n.hh _ _ (by unfold butO; rw [if_neg nb]; exact noT_of (g.fh _ _ e) fun ps e' => g.nf b ps (e' ▸ e))
  tb := n.tb
  len := by rw [List.length_set, List.length_map, g.len]
  ow := ⟨_, w.callO hpin g.fh g.nf g.len ha n hw hn ho⟩
  fix := fun b hb z e1 e2 => by
    rw [get_set, clr_get] at e1
    by_cases h : i = 0
    · subst h; exact g.fix b hb x hx hox
    · rw [if_neg h] at e1
      exact g.fix b hb z (clr_some e1).1 e2
end
/-! ### calls -/
/-- a def that stands behind the top, with what it is worth -/
structure Df (P : Program) (w : World) (B : Bs) (mg : Str → Option Value) (base : Heap) (k : Nat) (x : Str) (φ : List D → F) : Prop where
  ex : ∃ f fd ps, FnOk P w B.K mg base (L2.CX P w) k f fd ps (spF B φ) ∧ mg x = some (.ref f) ∧ PySem.W.keepIn B.K (.ref f) = true ∧ Binds B.K fd ps []
structure DfO (P : Program) (w : World) (B : Bs) (mg : Str → Option Value) (base : Heap) (k : Nat) (x : Str) (φ : C → List D → FO) : Prop where
  ex : ∃ f fd ps, FnOk P w B.K mg base (L2.CX P w) k f fd ps (spO B φ) ∧ mg x = some (.ref f) ∧ PySem.W.keepIn B.K (.ref f) = true ∧ Binds B.K fd ps []
/-- .. called with keywords -/
structure DfK (P : Program) (w : World) (B : Bs) (mg : Str → Option Value) (base : Heap) (k : Nat) (x : Str) (n : Nat) (ks : List Str) (φ : List D → F) : Prop where
  ex : ∃ f fd ps, FnOk P w B.K mg base (L2.CX P w) k f fd ps (spF B φ) ∧ mg x = some (.ref f) ∧ PySem.W.keepIn B.K (.ref f) = true ∧ KBinds B.K fd ps ks (fun us ws => if us.length = n ∧ ws.length = ks.length then us ++ ws else []) (fun us ws => if us.length = n ∧ ws.length = ks.length then us ++ ws else [])
section
variable {X : Cx} {B : Bs} {c : Ct B} {W : WX} {e : Expr} {es : List Expr} {fs fk : M (List D)} {p pos : Pos} {x : Str} {k : Nat}
theorem e_call {φ : List D → F} {j : Nat} (D0 : Df X.prog X.w B X.mg X.base j x φ) (hK : B.K = X.K) (hr : Room k X.A) (hj : j ≤ k) (tk : Takes X W) (ha : PA X (e :: es) (dA c W fs)) (hg : Gl X x := by rfl)
    (hdb : (x == ("__debug__" : Str)) = false := by decide) (he : starEach (e :: es) X.env = (false, eval e X.env) :: starEach es X.env := by rfl) (hpl : (backTo pos (starEach es X.env)).any (·.1) = false := by rfl) :
    PE X (.Call (.Name x p) (e :: es) [] pos) (dE c W (cl φ fs)) := by
  obtain ⟨f, fd, ps, F, hm, hk, hb⟩ := D0.ex
  rw [hK] at F hk hb
  refine peI (pe_callS (E := WE W) F (hr.mono hj) hg hm hk hb (fun σ => passAt tk σ) ha hdb he hpl) fun σ H Q h => ?_
  refine (den_bnd h).imp fun vs H1 ⟨G1, ρ1, ds, g1, rs, p1⟩ => ⟨G1, ds, g1.gh, g1.nt, g1.tb, rs, ?_⟩
  revert p1
  cases φ ds with
  | no => exact fun p => p
  | ok d => exact fun p v H' G' n r => p v H' G' n.gg (g1.call n) r
  | ex x => exact fun p cls dd H' G' n r => p cls dd H' G' n.gg (g1.call n) r
theorem k_nil : PK X [] (dA c W nilA) := ⟨fun pos pins s σ H Q I ⟨G, ρ, g, p⟩ => pk_nil.run pos pins s σ H Q I (p [] H G (Same.refl _) g (reps_nil.mpr rfl))⟩
theorem k_cons {nm : Option Str} {kpos : Pos} {kws : List Keyword} {fa : M D} (ha : PE X e (dE c W fa)) (hr : PK X kws (dA c W fk)) : PK X (⟨nm, e, kpos⟩ :: kws) (dA c W (consA fa fk)) :=
  ⟨fun pos pins s σ H Q I h => (pk_cons ha hr).run pos pins s σ H Q I (by
    refine (den_bnd h).imp fun x H1 ⟨G1, ρ1, d, g1, rx, p1⟩ => ?_
    refine (post_bnd g1 p1).imp fun y H2 ⟨G2, ρ2, e, s2, g2, ry, p2⟩ => ?_
    exact g2.keep p2 (reps_cons.mpr ⟨_, _, rfl, Rep.mono s2 rx, ry⟩))⟩
/-- a call whose first argument is a list of one's own, at slot i -/
theorem e_clo {φ : C → List D → FO} {j : Nat} (i : Nat) {y : Str} {yp : Pos} (D0 : DfO X.prog X.w B X.mg X.base j x φ) (hK : B.K = X.K) (hr : Room k X.A) (hj : j ≤ k) (tk : Takes X W) (ha : PA X es (dA c W fs)) (hi : X.N[i]? = some y := by rfl)
    (hv : Vis X.env.scope y := by first | exact Or.inl rfl | exact Or.inr (Or.inl rfl) | exact Or.inr (Or.inr rfl)) (hg : Gl X x := by rfl) (hyd : (y == ("__debug__" : Str)) = false := by decide) (hyc : (y == ("__classdict__" : Str)) = false := by decide)
    (hdb : (x == ("__debug__" : Str)) = false := by decide) (he : starEach (.Name y yp :: es) X.env = (false, eval (.Name y yp) X.env) :: starEach es X.env := by rfl) (hpl : (backTo pos (starEach es X.env)).any (·.1) = false := by rfl) (hpin : c.pin = [] := by assumption) :
    PE X (.Call (.Name x p) (.Name y yp :: es) [] pos) (dE c W (clo φ i fs)) := by
  obtain ⟨f, fd, ps, F, hm, hk, hb⟩ := D0.ex
  rw [hK] at F hk hb
  refine peI (pe_callS (E := WE W) F (hr.mono hj) hg hm hk hb (fun σ => passAt tk σ) (pa_cons (pv i hi hv hyd hyc) ha he) hdb he hpl) fun σ H Q h => ?_
  obtain ⟨G, ρ, g, p⟩ := h
  cases ho : hld i ρ with
  | no => unfold clo bnd at p; rw [ho] at p; exact False.elim p
  | ex x ρ' => unfold hld at ho; split at ho <;> cases ho
  | ok o ρ' =>
    obtain ⟨q1, rfl, io, nal⟩ := hld_at ho
    obtain ⟨fp, w⟩ := g.ow
    obtain ⟨v, h1, r1⟩ := w.sl i _ q1
    have p' : Post rD c W σ G (bnd fs (fun m => bnd (hld i) fun o => match φ o m with
      | .ok d o' => bnd (rpl i (some o')) fun _ => Fe.ret d
      | .ex x => bnd (rpl i none) fun _ => raise x
      | .no => fun _ => .no) ρ') Q := by
      unfold clo at p
      unfold bnd at p
      rw [ho] at p
      exact p
    refine ⟨v, h1, (post_bnd g p').imp fun vs H1 ⟨G1, ρ1, ds, s1, g1, rs, p1⟩ => ?_⟩
    cases ho1 : hld i ρ1 with
    | no => unfold bnd at p1; rw [ho1] at p1; exact False.elim p1
    | ex x ρ' => unfold hld at ho1; split at ho1 <;> cases ho1
    | ok o1 ρ2 =>
      obtain ⟨q2, rfl, io1, nal1⟩ := hld_at ho1
      obtain ⟨fp1, w1⟩ := g1.ow
      obtain ⟨v1, h2, r2⟩ := w1.sl i _ q2
      rw [h1] at h2
      cases h2
      have ev : ∃ a, v = .ref a := by
        cases o1 with
        | p d => cases io1
        | o d => obtain ⟨a, _, e, _⟩ := crep_o.mp r2; exact ⟨a, e⟩
        | ob _ _ _ => obtain ⟨a, _, _, _, _, e, _⟩ := crep_ob.mp r2; exact ⟨a, e⟩
        | al f => exact absurd rfl (nal1 f)
      obtain ⟨a, rfl⟩ := ev
      have p2 : Post rD c W σ G1 ((match φ o1 ds with
        | .ok d o' => bnd (rpl i (some o')) fun _ => Fe.ret d
        | .ex x => bnd (rpl i none) fun _ => raise x
        | .no => fun _ => .no) ρ2) Q := by
        unfold bnd at p1
        rw [ho1] at p1
        exact p1
      refine ⟨G1, o1, ds, a, fp1 i, vs, rfl, g1.gh, g1.nt, g1.tb, io1, r2, w1.nd i, fun b hb => (w1.out i b hb).2.1, nal1, rs, ?_⟩
      revert p2
      cases hφ : φ o1 ds with
      | no => exact fun p => p
      | ok d o' =>
        intro p v H' G' fq n hw hy hn hr r
        refine p v H' G' n.gg (g1.callO hpin w1 q2 io1 h1 n (fun z hz => ?_) hn fun b hb => ⟨hw.shape b hb, hr b hb⟩) r
        cases hz
        exact ⟨hw, hy⟩
      | ex x =>
        intro p cls dd H' G' n r
        exact p cls dd H' G' n.gg (g1.callO hpin (fq := []) w1 q2 io1 h1 n (fun z hz => by cases hz) List.nodup_nil fun b hb => by cases hb) r
end
/-! ### defs -/
theorem start_get {m : Nat} {ds : List D} {i : Nat} {x : C} (h : get (Fe.start m ds) i = some x) : ∃ d, ds[i]? = some d ∧ x = .p d := by
  unfold get Fe.start at h
  by_cases hi : i < ds.length
  · rw [List.getElem?_append_left (by rw [List.length_map]; exact hi), List.getElem?_map, List.getElem?_eq_getElem hi] at h
    cases h
    exact ⟨ds[i], List.getElem?_eq_getElem hi, rfl⟩
  · rw [List.getElem?_append_right (by rw [List.length_map]; omega), List.getElem?_replicate] at h
    split at h <;> cases h
theorem start_at {N : List Str} {vs : List V} {i : Nat} {v : V} (h : vs[i]? = some v) : (L2.start N vs)[i]? = some (some v) := by
  unfold L2.start
  have hi := (List.getElem?_eq_some_iff.mp h).1
  rw [List.getElem?_append_left (by rw [List.length_map]; exact hi), List.getElem?_map, h]
  rfl
abbrev wD (E : XK) : WX := fun cls d _ H => E cls d H
section
variable {P : Program} {w : World} {B : Bs} {mg : Str → Option Value} {base : Heap} {x qual : Str} {st : Stmt} {f : Addr} {fd : FuncData} {N ps : List Str} {k n m : Nat}
theorem sp_len {φb : Fe.S} {vs : List V} {H : Hp} {Q : VK} {E : XK} (h : spF B (run n m φb) vs H Q E) : vs.length = n := by
  obtain ⟨G, ds, _, _, _, rs, h⟩ := h
  rw [rs.len]
  unfold run at h
  by_cases hl : ds.length = n
  · exact hl
  · rw [if_neg hl] at h; exact False.elim h
theorem read_ok {X : Cx} {b : List Stmt} (hNl : N.length = m) (hle : n ≤ m) {body : Fe.S} {vs : List V} {H : Hp} {Q : VK} {E : XK} (sp : spF B (run n m body) vs H Q E) (hb : ∀ c : Ct B, c.fx = none → c.pin = [] → PSs X b (dS c (wD E) body)) :
    ∃ t, PSs X b t ∧ t { nx := fun _ H' => Q .non H', rt := Q } (L2.start N vs) H := by
  obtain ⟨G, ds, sg, ng, tb, rs, h⟩ := sp
  refine ⟨_, hb ⟨G, noT H, none, []⟩ rfl rfl, ?_⟩
  unfold run at h
  by_cases hl : ds.length = n
  case neg => rw [if_neg hl] at h; exact False.elim h
  rw [if_pos hl] at h
  have hvl : vs.length = n := by rw [rs.len, hl]
  have gd : Good (⟨G, noT H, none, []⟩ : Ct B) G H (L2.start N vs) (Fe.start m ds) := {
    gh := sg
    nt := ng
    g0 := Same.refl _
    nf := noT_nt
    fr := fun a h => .inl h
    fh := noT_same
    tb := tb
    len := by
      unfold L2.start Fe.start
      rw [List.length_append, List.length_append, List.length_map, List.length_map, List.length_replicate, List.length_replicate, hNl, hvl, hl]
    ow := ⟨fun _ => [], {
      sl := fun i y e => by
        obtain ⟨d, h1, rfl⟩ := start_get e
        obtain ⟨v, h2, h3⟩ := rs.get h1
        exact ⟨v, start_at h2, crep_p.mpr ⟨h3, rfl⟩⟩
      nd := fun _ => List.nodup_nil
      dj := fun i j a h => by cases h
      out := fun i a h => by cases h
      al := fun i f e => by
        obtain ⟨d', _, z⟩ := start_get e
        cases z
      pn := fun i f v e => by cases e }⟩
    fix := fun a ha => by cases ha }
  have fin : ∀ {σ' : L2.St} {H' G' : Hp} {ρ' : Env}, Good (⟨G, noT H, none, []⟩ : Ct B) G' H' σ' ρ' → Ret B.T G H G' H' := fun g' => ⟨g'.g0, g'.gh, g'.nt, g'.fr, g'.fh, g'.tb⟩
  refine ⟨G, Fe.start m ds, gd, ?_⟩
  revert h
  cases body (Fe.start m ds) with
  | no => exact fun h => h
  | ex y ρ' => exact fun h σ' cls dd H' G' _ g' r => h cls dd H' G' (fin g') r
  | ok fl ρ' => cases fl with
    | nx => exact fun h σ' H' G' _ g' => h .non H' G' (fin g') (rep_non.mpr rfl)
    | rt d => exact fun h σ' H' G' v _ g' r => h v H' G' (fin g') r
    | bk => exact fun h => False.elim h
    | ct => exact fun h => False.elim h
theorem fn_ok (F0 : Fun B.K x qual st f fd) (S : FnScope N ps (defScope st)) (hps : ps.length = n) (hNl : N.length = m) (hle : n ≤ m) {body : Fe.S}
    (hb : ∀ (cdv : Value) (A : Around) (outer : List PySem.Env) (s : Shared) (H : Hp) (E : XK) (c : Ct B), c.fx = none → c.pin = [] → Room k (A.deeper (envOfC qual (defScope st) s.heap.objs.size f cdv)) →
      PSs (cxOf (L2.CX P w) P w B.K mg base N qual (defScope st) f cdv A outer s H E) (defBody st) (dS c (wD E) body)) : FnOk P w B.K mg base (L2.CX P w) (k + 1) f fd ps (spF B (run n m body)) :=
  F0.okX S (fun vs H Q E h => by rw [sp_len h, hps]) fun cdv A outer s H vs Q E hr h => read_ok hNl hle h fun c hc hp => hb cdv A outer s H E c hc hp hr
/-- .. whose code object is known (it makes lambdas) -/
theorem fn_okL {oc : Value} {od an : Option Addr} {kV doc pm cdv ct : Value} {osl : Array (Option Value)} (lk : B.K.lookup f = some ⟨oc, od, .func (PySem.W.fnOf x qual (defArgs st) (defBody st) (defScope st) .none kV doc pm an cdv ct), osl⟩) (hcd : PySem.W.codeIn B.K cdv qual = true)
    (S : FnScope N ps (defScope st)) (hps : ps.length = n) (hNl : N.length = m) (hle : n ≤ m) {body : Fe.S}
    (hb : ∀ (A : Around) (outer : List PySem.Env) (s : Shared) (H : Hp) (E : XK) (c : Ct B), c.fx = none → c.pin = [] → Room k (A.deeper (envOfC qual (defScope st) s.heap.objs.size f cdv)) →
      PSs (cxOf (L2.CX P w) P w B.K mg base N qual (defScope st) f cdv A outer s H E) (defBody st) (dS c (wD E) body)) : FnOk P w B.K mg base (L2.CX P w) (k + 1) f (PySem.W.fnOf x qual (defArgs st) (defBody st) (defScope st) .none kV doc pm an cdv ct) ps (spF B (run n m body)) :=
  fn_of lk hcd S (fun vs H Q E h => by rw [sp_len h, hps]) fun A outer s H vs Q E hr h => read_ok hNl hle h fun c hc hp => hb A outer s H E c hc hp hr
theorem startO_get {m : Nat} {o : C} {ds : List D} {i : Nat} {y : C} (h : get (startO m o ds) i = some y) : (i = 0 ∧ y = o) ∨ ∃ j d, i = j + 1 ∧ ds[j]? = some d ∧ y = .p d := by
  cases i with
  | zero => exact .inl ⟨rfl, (Option.some.inj h).symm⟩
  | succ j =>
    refine .inr ⟨j, ?_⟩
    have h' : get (ds.map (fun d => some (C.p d)) ++ List.replicate (m - ds.length - 1) none) j = some y := h
    unfold get at h'
    by_cases hi : j < ds.length
    · rw [List.getElem?_append_left (by rw [List.length_map]; exact hi), List.getElem?_map, List.getElem?_eq_getElem hi] at h'
      cases h'
      exact ⟨ds[j], rfl, List.getElem?_eq_getElem hi, rfl⟩
    · rw [List.getElem?_append_right (by rw [List.length_map]; omega), List.getElem?_replicate] at h'
      split at h' <;> cases h'
theorem sp_lenO {φb : Fe.S} {vs : List V} {H : Hp} {Q : VK} {E : XK} (h : spO B (runO n m φb) vs H Q E) : vs.length = n := by
  obtain ⟨G, x, ds, a, fp, us, ev, _, _, _, _, _, _, _, _, rs, h⟩ := h
  rw [ev, List.length_cons, rs.len]
  unfold runO at h
  by_cases hl : ds.length + 1 = n
  · exact hl
  · rw [if_neg hl] at h; exact False.elim h
theorem outO_ok {d e : D} {ρ : Env} {y : C} (h : outO d ρ = .ok e y) : e = d ∧ get ρ 0 = some y ∧ isO (some y) = true ∧ ∀ f, y ≠ .al f := by
  unfold outO at h
  split at h
  · rename_i q; cases h; exact ⟨rfl, q, rfl, fun f z => by cases z⟩
  · rename_i q; cases h; exact ⟨rfl, q, rfl, fun f z => by cases z⟩
  · cases h
theorem outO_ex {d : D} {ρ : Env} {x : Ex} (h : outO d ρ = .ex x) : False := by
  unfold outO at h
  split at h <;> cases h
theorem read_okO {X : Cx} {b : List Stmt} (hNl : N.length = m) (hle : n ≤ m) {body : Fe.S} {vs : List V} {H : Hp} {Q : VK} {E : XK} (sp : spO B (runO n m body) vs H Q E) (hb : ∀ c : Ct B, c.pin = [] → c.fx ≠ none → PSs X b (dS c (wD E) body)) :
    ∃ t, PSs X b t ∧ t { nx := fun _ H' => Q .non H', rt := Q } (L2.start N vs) H := by
  obtain ⟨G, x0, ds, a, fp, us, ev, sg, ng, tb, iox, rx, hnd, hG, nal, rs, h⟩ := sp
  refine ⟨_, hb ⟨G, butO H fp, some a, []⟩ rfl (fun z => by cases z), ?_⟩
  subst ev
  unfold runO at h
  by_cases hl : ds.length + 1 = n
  case neg => rw [if_neg hl] at h; exact False.elim h
  rw [if_pos hl] at h
  have hvl : us.length = ds.length := rs.len
  have gd : Good (⟨G, butO H fp, some a, []⟩ : Ct B) G H (L2.start N (.ref a :: us)) (startO m x0 ds) := {
    gh := sg
    nt := ng
    g0 := Same.refl _
    nf := fun b ps e => by
      have e' : butO H fp b = some (.tbl ps) := e
      unfold butO at e'
      split at e'
      · cases e'
      · exact noT_nt b ps e'
    fr := fun a h => .inl h
    fh := fun b o e => (butO_some e).2
    tb := tb
    len := by
      unfold L2.start startO
      simp only [List.length_append, List.length_cons, List.length_map, List.length_replicate]
      omega
    ow := ⟨fun i => if i = 0 then fp else [], {
      sl := fun i y e => by
        rcases startO_get e with ⟨rfl, rfl⟩ | ⟨j, d, rfl, h1, rfl⟩
        · exact ⟨.ref a, start_at rfl, rx⟩
        · obtain ⟨v, h2, h3⟩ := rs.get h1
          exact ⟨v, start_at (by simpa using h2), crep_p.mpr ⟨h3, rfl⟩⟩
      nd := fun i => by
        try dsimp only
        split
        · exact hnd
        · exact List.nodup_nil
      dj := fun i j b h1 h2 => by
        try dsimp only at h1 h2
        split at h1 <;> split at h2
        · rename_i e1 e2; rw [e1, e2]
        · cases h2
        · cases h1
        · cases h1
      out := fun i b h1 => by
        try dsimp only at h1
        split at h1
        · refine ⟨rx.shape b h1, hG b h1, ?_⟩
          show butO H fp b = none
          unfold butO
          rw [if_pos h1]
        · cases h1
      al := fun i f e => by
        rcases startO_get e with ⟨rfl, z⟩ | ⟨j, d, rfl, h1, z⟩
        · exact absurd z.symm (nal f)
        · cases z
      pn := fun i f v e => by cases e }⟩
    fix := fun b hb x _ _ => by
      cases hb
      exact start_at rfl }
  have ret : ∀ {σ' : L2.St} {H' G' : Hp} {ρ' : Env}, Good (⟨G, butO H fp, some a, []⟩ : Ct B) G' H' σ' ρ' → RetO B.T fp G H G' H' := fun {σ' H' G' ρ'} g' => ⟨g'.g0, g'.gh, g'.nt, fun b hb => by
    rcases g'.fr b hb with z | z
    · exact .inl z
    · have z' : butO H fp b = none := z
      unfold butO at z'
      split at z'
      · rename_i e; exact .inr (.inr e)
      · exact .inr (.inl z'), g'.fh, g'.tb⟩
  have fin : ∀ {σ' : L2.St} {H' G' : Hp} {ρ' : Env}, Good (⟨G, butO H fp, some a, []⟩ : Ct B) G' H' σ' ρ' → ∀ y, get ρ' 0 = some y → isO (some y) = true → ∃ fq, CRep B G' H' y (.ref a) fq ∧ fq.Nodup ∧ ∀ b ∈ fq, G' b = none ∧ (b ∈ fp ∨ noT H b = none) := fun {σ' H' G' ρ'} g' y ho io => by
    obtain ⟨fq, w⟩ := g'.ow
    obtain ⟨v, h1, h2⟩ := w.sl 0 _ ho
    have h3 := g'.fix a rfl y ho io
    rw [h1] at h3
    cases h3
    refine ⟨fq 0, h2, w.nd 0, fun b hb => ⟨(w.out 0 b hb).2.1, ?_⟩⟩
    have z : butO H fp b = none := (w.out 0 b hb).2.2
    unfold butO at z
    split at z
    · rename_i e; exact .inl e
    · exact .inr z
  refine ⟨G, startO m x0 ds, gd, ?_⟩
  revert h
  cases body (startO m x0 ds) with
  | no => exact fun h => h
  | ex y ρ' => exact fun h σ' cls dd H' G' _ g' r => h cls dd H' G' (ret g') r
  | ok fl ρ' => cases fl with
    | nx =>
      dsimp only
      cases ho : outO .non ρ' with
      | no => exact fun h => False.elim h
      | ex x => exact absurd ho fun z => outO_ex z
      | ok d y =>
        intro h σ' H' G' _ g'
        obtain ⟨rfl, q1, q2, q3⟩ := outO_ok ho
        obtain ⟨fq, k1, k2, k3⟩ := fin g' y q1 q2
        exact h .non H' G' fq (ret g') k1 q3 k2 k3 (rep_non.mpr rfl)
    | rt d0 =>
      dsimp only
      cases ho : outO d0 ρ' with
      | no => exact fun h => False.elim h
      | ex x => exact absurd ho fun z => outO_ex z
      | ok d y =>
        intro h σ' H' G' v _ g' r
        obtain ⟨rfl, q1, q2, q3⟩ := outO_ok ho
        obtain ⟨fq, k1, k2, k3⟩ := fin g' y q1 q2
        exact h v H' G' fq (ret g') k1 q3 k2 k3 r
    | bk => exact fun h => False.elim h
    | ct => exact fun h => False.elim h
/-- a def whose first argument is a list that it may change -/
theorem fn_okO (F0 : Fun B.K x qual st f fd) (S : FnScope N ps (defScope st)) (hps : ps.length = n) (hNl : N.length = m) (hle : n ≤ m) {body : Fe.S}
    (hb : ∀ (cdv : Value) (A : Around) (outer : List PySem.Env) (s : Shared) (H : Hp) (E : XK) (c : Ct B), c.pin = [] → Room k (A.deeper (envOfC qual (defScope st) s.heap.objs.size f cdv)) →
      PSs (cxOf (L2.CX P w) P w B.K mg base N qual (defScope st) f cdv A outer s H E) (defBody st) (dS c (wD E) body)) : FnOk P w B.K mg base (L2.CX P w) (k + 1) f fd ps (spO B (runO n m body)) :=
  F0.okX S (fun vs H Q E h => by rw [sp_lenO h, hps]) fun cdv A outer s H vs Q E hr h => read_okO hNl hle h fun c hp _ => hb cdv A outer s H E c hp hr
end
end Fe
end
section
set_option Elab.async false
set_option linter.all false
set_option maxRecDepth 100000
set_option maxHeartbeats 1000000
namespace Fe
open PySem PySem.Spec PyProof.Rows L2
/-! ### places -/
/-- what stands at a place -/
def AccV (B : Bs) : Acc → L2.St → Hp → V → Prop
  | .v i, σ, _, v => σ[i]? = some (some v)
  | .f i f, σ, H, v => ∃ b C dx fs, σ[i]? = some (some (.ref b)) ∧ H b = some (.ins C dx fs) ∧ fs.lookup f = some v ∧ ∃ cn, B.C cn = some C
section
variable {B : Bs} {c : Ct B} {G G' H H' : Hp} {σ : L2.St} {ρ : Env} {fp : Nat → List Addr}
theorem flat_some {x : Option C} {d : D} (h : flat x = some d) : x = some (.o d) := by
  cases x with
  | none => cases h
  | some x => cases x <;> first | (cases h; done) | (cases h; rfl)
/-- a field of an instance of one's own -/
theorem go_fld {f : Str} {d : D} : ∀ {ns : List Str} {cs : List C} {us : List V} {f1 : List Addr}, ns.length = us.length → CRep.go B G H cs us f1 → (ns.zip cs).lookup f = some (.o d) →
    ∃ a ho, (ns.zip us).lookup f = some (.ref a) ∧ a ∈ f1 ∧ H a = some ho ∧ HoR B G a d ho ∧ ∀ d' ho', HoR B G a d' ho' → f1.Nodup → CRep.go B G (upd H a ho') (putC ns cs f (.o d')) us f1
  | [], cs, us, f1, _, _, h => by simp at h
  | n :: ns, [], us, f1, _, _, h => by simp at h
  | n :: ns, x :: cs, us, f1, hl, g, h => by
    obtain ⟨v, r, g1, g2, rfl, rfl, g3, g4⟩ := go_cons.mp g
    rw [List.zip_cons_cons, List.lookup_cons] at h
    rw [List.zip_cons_cons, List.lookup_cons]
    by_cases e : (f == n) = true
    · rw [e] at h ⊢
      cases h
      obtain ⟨a, ho, rfl, rfl, h3, h4⟩ := crep_o.mp g3
      refine ⟨a, ho, rfl, List.mem_append_left _ (.head _), h3, h4, fun d' ho' h' nd => ?_⟩
      have nd2 : a ∉ g2 := (List.nodup_cons.mp nd).1
      show CRep.go B G (upd H a ho') (if (f == n) = true then _ else _) _ _
      rw [if_pos e]
      refine go_cons.mpr ⟨.ref a, r, [a], g2, rfl, rfl, crep_o.mpr ⟨a, ho', rfl, rfl, upd_same, h'⟩, CRep.frames (Same.refl _) g4 fun b hb => upd_ne fun z => nd2 (z ▸ hb)⟩
    · have e' : (f == n) = false := by simpa using e
      rw [e'] at h ⊢
      have hl' : ns.length = r.length := by simpa using hl
      obtain ⟨a, ho, h1, h2, h3, h4, h5⟩ := go_fld hl' g4 h
      refine ⟨a, ho, h1, List.mem_append_right _ h2, h3, h4, fun d' ho' h' nd => ?_⟩
      obtain ⟨_, n2, n3⟩ := List.nodup_append.mp nd
      show CRep.go B G (upd H a ho') (if (f == n) = true then _ else _) _ _
      rw [if_neg e]
      refine go_cons.mpr ⟨v, r, g1, g2, rfl, rfl, g3.frame (Same.refl _) fun b hb => upd_ne fun z => n3 b hb a h2 z, h5 d' ho' h' n2⟩
theorem ob_fld {o : C} {f : Str} {d : D} {v : V} {fq : List Addr} (h : CRep B G H o v fq) (e : flat (fldC (some o) f) = some d) :
    ∃ b C dx fs a ho, v = .ref b ∧ H b = some (.ins C dx fs) ∧ fs.lookup f = some (.ref a) ∧ (∃ cn, B.C cn = some C) ∧ a ∈ fq ∧ H a = some ho ∧ HoR B G a d ho ∧ (∀ d' ho', HoR B G a d' ho' → fq.Nodup → ∃ o', putF f (.o d') (some o) = some o' ∧ CRep B G (upd H a ho') o' v fq ∧ isO (some o') = true ∧ ∀ f, o' ≠ .al f) := by
  have e1 := flat_some e
  cases o with
  | p d => cases e1
  | o d => cases e1
  | al f => cases e1
  | ob c ns cs =>
    obtain ⟨b, dx, C, us, f1, rfl, rfl, h3, h4, h5, h6, h7⟩ := crep_ob.mp h
    obtain ⟨a, ho, k1, k2, k3, k4, k5⟩ := go_fld h6 h7 e1
    refine ⟨b, C, dx, _, a, ho, rfl, h4, k1, ⟨_, h3⟩, .tail _ (.tail _ k2), k3, k4, fun d' ho' h' nd => ?_⟩
    have nb := (List.nodup_cons.mp nd)
    have nx := (List.nodup_cons.mp nb.2)
    have ba : b ≠ a := fun z => nb.1 (.tail _ (z ▸ k2))
    have xa : dx ≠ a := fun z => nx.1 (z ▸ k2)
    refine ⟨_, rfl, crep_ob.mpr ⟨b, dx, C, us, f1, rfl, rfl, h3, by rw [upd_ne ba]; exact h4, by rw [upd_ne xa]; exact h5, h6, k5 d' ho' h' nx.2⟩, rfl, fun f z => by cases z⟩
/-- a write at an address of one's own -/
theorem Good.write (hpin : c.pin = []) (g : Good c G H σ ρ) (w : OwnS c G H σ ρ fp) {k : Nat} {a : Addr} {ho' : HO} {x x' : C} {v : V} (ha : a ∈ fp k) (hx : get ρ k = some x) (hox : isO (some x) = true) (hv : σ[k]? = some (some v)) (hr : CRep B G (upd H a ho') x' v (fp k)) (hox' : isO (some x') = true) (hal : ∀ f, x' ≠ .al f)
    (hi : ∀ C dx fs, H a ≠ some (.ins C dx fs)) (hO : OwnHO ho') : Good c G (upd H a ho') σ (ρ.set k (some x')) := by
  obtain ⟨⟨o, w1, w2⟩, w3, w4⟩ := w.out k a ha
  have hk : k < ρ.length := by rw [← g.len]; exact (List.getElem?_eq_some_iff.mp hv).1
  exact {
    gh := fun b o e => by rw [upd_ne (ne_of_none e w3)]; exact g.gh b o e
    nt := g.nt
    g0 := g.g0
    nf := g.nf
    fr := g.fr
    fh := fun b o e => by rw [upd_ne (ne_of_none e w4)]; exact g.fh b o e
    tb := fun p hp => by
      obtain ⟨ps, h1, h2, h3⟩ := g.tb p hp
      refine ⟨ps, ?_, h2, fun pos cv hc => ?_⟩
      · rw [upd_ne (ne_of h1 w1 (fun z => w2.tbl z.symm))]; exact h1
      · obtain ⟨cc, q1, q2⟩ := h3 pos cv hc
        refine ⟨cc, q1, ?_⟩
        rw [upd_ne (ne_of q2 w1 (fun z => w2.code z.symm))]
        exact q2
    len := by rw [List.length_set, g.len]
    ow := ⟨fp, {
      sl := fun j y e => by
        rw [get_set] at e
        by_cases h : k = j
        · subst h
          rw [if_pos rfl, if_pos hk] at e
          cases e
          exact ⟨v, hv, hr⟩
        · rw [if_neg h] at e
          obtain ⟨u, h1, h2⟩ := w.sl j y e
          exact ⟨u, h1, h2.frame (Same.refl _) fun b hb => upd_ne fun z => h (w.dj k j a ha (z ▸ hb))⟩
      nd := w.nd
      dj := w.dj
      out := fun j b hb => by
        obtain ⟨⟨u, u1, u2⟩, u3, u4⟩ := w.out j b hb
        by_cases h : b = a
        · subst h; exact ⟨⟨_, upd_same, hO⟩, u3, u4⟩
        · exact ⟨⟨u, by rw [upd_ne h]; exact u1, u2⟩, u3, u4⟩
      al := fun j f e => by
        rw [get_set] at e
        by_cases h : k = j
        · rw [if_pos h, if_pos hk] at e
          cases e
          exact absurd rfl (hal f)
        · rw [if_neg h] at e
          obtain ⟨b, C, dx, fs, u, k1, k2, k3, k4, k5⟩ := w.al j f e
          exact ⟨b, C, dx, fs, u, k1, k2, by rw [upd_ne fun z => hi C dx fs (by rw [← z]; exact k3)]; exact k3, k4, k5⟩
      pn := fun i f v e => by rw [hpin] at e; cases e }⟩
    fix := fun b hb z e1 e2 => by
      rw [get_set] at e1
      by_cases h : k = 0
      · subst h; exact g.fix b hb x hx hox
      · rw [if_neg h] at e1
        exact g.fix b hb z e1 e2 }
theorem HoR.noins {a : Addr} {d : D} {ho : HO} (h : HoR B G a d ho) (e : H a = some ho) : ∀ C dx fs, H a ≠ some (.ins C dx fs) := fun C dx fs z => by
  rw [e] at z
  cases z
  cases d with
  | lst l => obtain ⟨_, z, _⟩ := h; cases z
  | dct ks vs => obtain ⟨_, z, _⟩ := h; unfold DcO at z; cases z
  | _ => exact h
/-- what stands at a place: read, written -/
theorem Good.acc (g : Good c G H σ ρ) (hpin : c.pin = []) {acc : Acc} {d : D} (h : rd ρ acc = some d) : ∃ a ho, AccV B acc σ H (.ref a) ∧ H a = some ho ∧ HoR B G a d ho ∧ ∀ d' ho', HoR B G a d' ho' → Good c G (upd H a ho') σ (wrt ρ d' acc) := by
  obtain ⟨fp, w⟩ := g.ow
  have fld : ∀ {i f}, flat (fldC (get ρ i) f) = some d → ∃ a ho, AccV B (.f i f) σ H (.ref a) ∧ H a = some ho ∧ HoR B G a d ho ∧ ∀ d' ho', HoR B G a d' ho' → Good c G (upd H a ho') σ (ρ.set i (putF f (.o d') (get ρ i))) := by
    intro i f h
    cases e : get ρ i with
    | none => rw [e] at h; cases h
    | some o =>
      rw [e] at h
      obtain ⟨v, h1, h2⟩ := w.sl i o e
      obtain ⟨b, C, dx, fs, a, ho, rfl, k1, k2, kc, k3, k4, k5, k6⟩ := ob_fld h2 h
      refine ⟨a, ho, ⟨b, C, dx, fs, h1, k1, k2, kc⟩, k4, k5, fun d' ho' h' => ?_⟩
      obtain ⟨o', q1, q2, q3, q4⟩ := k6 d' ho' h' (w.nd i)
      rw [q1]
      refine Good.write hpin g w k3 e ?_ h1 q2 q3 q4 (k5.noins k4) h'.own
      cases o <;> first | rfl | cases h
  cases acc with
  | f i f => exact fld h
  | v i =>
    unfold rd at h
    unfold wrt
    dsimp only at h ⊢
    cases e : get ρ i with
    | none => rw [e] at h; cases h
    | some x =>
      rw [e] at h
      cases x with
      | p d => cases h
      | ob _ _ _ => cases h
      | o d0 =>
        cases h
        obtain ⟨v, h1, h2⟩ := w.sl i _ e
        obtain ⟨a, ho, rfl, k1, k2, k3⟩ := crep_o.mp h2
        refine ⟨a, ho, h1, k2, k3, fun d' ho' h' => ?_⟩
        exact Good.write hpin g w (by rw [k1]; exact .head _) e rfl h1 (crep_o.mpr ⟨a, ho', rfl, k1, upd_same, h'⟩) rfl (fun f z => by cases z) (k3.noins k2) h'.own
      | al f =>
        have h' : flat (fldC (get ρ 0) f) = some d := h
        obtain ⟨a, ho, ⟨b, C, dx, fs, q1, q2, q3, _⟩, k2, k3, k4⟩ := fld h'
        obtain ⟨b', C', dx', fs', v, r1, r2, r3, r4, r5⟩ := w.al i f e
        have fx : σ[0]? = some (some (.ref b')) := by
          cases e0 : get ρ 0 with
          | none => rw [e0] at h'; cases h'
          | some x => exact g.fix b' r1 x e0 (by rw [e0] at h'; cases x <;> first | rfl | cases h')
        rw [q1] at fx
        cases fx
        rw [q2] at r3
        cases r3
        rw [q3] at r4
        cases r4
        exact ⟨a, ho, r5, k2, k3, k4⟩
/-- a new list or dict of one's own -/
theorem Good.newO (g : Good c G H σ ρ) (hpin : c.pin = []) {i : Nat} {p : Addr} {d : D} {ho : HO} (hp : H p = none) (hr : HoR B G p d ho) (hi : i < σ.length) (hf : c.fx = none ∨ i ≠ 0) : Good c G (upd H p ho) (σ.set i (some (.ref p))) (ρ.set i (some (.o d))) where
  gh := g.gh.trans (same_upd hp)
  nt := g.nt
  g0 := g.g0
  nf := g.nf
  fr := g.fr
  fh := g.fh.trans (same_upd hp)
  tb := g.tb.ext (same_upd hp)
  len := by rw [List.length_set, List.length_set, g.len]
  ow := by
    obtain ⟨fp, w⟩ := g.ow
    have nw : ∀ j, p ∉ fp j := fun j hj => by
      obtain ⟨⟨o, h1, _⟩, _⟩ := w.out j p hj
      rw [hp] at h1; cases h1
    have w' : OwnS c G (upd H p ho) σ ρ fp := w.mono (Same.refl _) ⟨rfl, rfl⟩ fun j a ha => ⟨upd_ne fun z => nw j (z ▸ ha), (w.out j a ha).2⟩
    refine ⟨_, w'.put (fq := [p]) hi g.len (crep_o.mpr ⟨p, ho, rfl, rfl, upd_same, hr⟩) (List.nodup_cons.mpr ⟨List.not_mem_nil, List.nodup_nil⟩) (fun j a _ h => ?_) (fun a h => ?_) (fun f z => by cases z) hf (fun p hp => by rw [hpin] at hp; cases hp)⟩
    · rw [List.mem_singleton.mp h]; exact nw j
    · rw [List.mem_singleton.mp h]; exact ⟨⟨ho, upd_same, hr.own⟩, g.gh.free hp, g.fh.free hp⟩
  fix := fun b hb x e1 e2 => by
    have hj : i ≠ 0 := hf.resolve_left fun z => by rw [hb] at z; cases z
    rw [get_set, if_neg hj] at e1
    rw [List.getElem?_set_ne hj]
    exact g.fix b hb x e1 e2
/-- from now on it does not change -/
theorem Good.frz (g : Good c G H σ ρ) (hpin : c.pin = []) {i : Nat} {d : D} (hd : get ρ i = some (.o d)) (hf : c.fx = none ∨ i ≠ 0) :
    ∃ a ho, H a = some ho ∧ HoR B G a d ho ∧ ∀ h2, (∀ ps, h2 ≠ .tbl ps) → (∀ G', Same G G' → G' a = some h2 → Rep B G' d (.ref a)) → ∃ G', Same G G' ∧ Good c G' (upd H a h2) σ (ρ.set i (some (.p d))) := by
  obtain ⟨fp, w⟩ := g.ow
  obtain ⟨v, h1, h2⟩ := w.sl i _ hd
  obtain ⟨a, ho, rfl, k1, k2, k3⟩ := crep_o.mp h2
  obtain ⟨⟨o, u1, u2⟩, u3, u4⟩ := w.out i a (by rw [k1]; exact .head _)
  have hi : i < σ.length := (List.getElem?_eq_some_iff.mp h1).1
  refine ⟨a, ho, k2, k3, fun h2' ht hrep => ?_⟩
  have su : Same G (upd G a h2') := same_upd u3
  have w0 : OwnS c (upd G a h2') (upd H a h2') σ (ρ.set i (some (.p d))) (fun j => if j = i then [] else fp j) := {
    sl := fun j x e => by
      rw [get_set] at e
      by_cases hj : i = j
      · subst hj
        rw [if_pos rfl, if_pos (by rw [← g.len]; exact hi)] at e
        cases e
        exact ⟨_, h1, crep_p.mpr ⟨hrep _ su upd_same, if_pos rfl⟩⟩
      · rw [if_neg hj] at e
        obtain ⟨u, q1, q2⟩ := w.sl j x e
        refine ⟨u, q1, ?_⟩
        rw [if_neg fun z => hj z.symm]
        exact q2.frame su fun b hb => upd_ne fun z => hj (w.dj i j a (by rw [k1]; exact .head _) (z ▸ hb))
    nd := fun j => by
      try dsimp only
      split
      · exact List.nodup_nil
      · exact w.nd j
    dj := fun j k b e1 e2 => by
      try dsimp only at e1 e2
      split at e1
      · cases e1
      · split at e2
        · cases e2
        · exact w.dj j k b e1 e2
    out := fun j b e1 => by
      try dsimp only at e1
      split at e1
      · cases e1
      · rename_i hj
        obtain ⟨⟨zo, z1, z4⟩, z2, z3⟩ := w.out j b e1
        have ne : b ≠ a := fun z => hj (w.dj j i b e1 (by rw [k1, z]; exact .head _))
        exact ⟨⟨zo, by rw [upd_ne ne]; exact z1, z4⟩, by rw [upd_ne ne]; exact z2, z3⟩
    al := fun j f e => by
      rw [get_set] at e
      by_cases hj : i = j
      · rw [if_pos hj, if_pos (by rw [← g.len]; exact hi)] at e; cases e
      · rw [if_neg hj] at e
        obtain ⟨b, C, dx, fs, u, r1, r2, r3⟩ := w.al j f e
        have i0 : i ≠ 0 := hf.resolve_left fun z => by rw [z] at r1; cases r1
        exact ⟨b, C, dx, fs, u, r1, by rw [if_neg fun z => i0 z.symm]; exact r2, by rw [upd_ne fun z => k3.noins k2 C dx fs (by rw [← z]; exact r3.1)]; exact r3.1, r3.2⟩
    pn := fun i f v e => by rw [hpin] at e; cases e }
  refine ⟨upd G a h2', su, ?_⟩
  exact {
    gh := fun b o e => by
      by_cases hb : b = a
      · subst hb; rw [upd_same] at e ⊢; exact e
      · rw [upd_ne hb] at e ⊢; exact g.gh b o e
    nt := fun b ps e => by
      by_cases hb : b = a
      · subst hb; rw [upd_same] at e; exact ht ps (Option.some.inj e)
      · rw [upd_ne hb] at e; exact g.nt b ps e
    g0 := g.g0.trans su
    nf := g.nf
    fr := fun b h => by
      by_cases hb : b = a
      · subst hb; exact .inr u4
      · rw [upd_ne hb] at h; exact g.fr b h
    fh := fun b o e => by rw [upd_ne (ne_of_none e u4)]; exact g.fh b o e
    tb := fun p hp => by
      obtain ⟨ps, h1, h2, h3⟩ := g.tb p hp
      refine ⟨ps, ?_, h2, fun pos cv hc => ?_⟩
      · rw [upd_ne (ne_of h1 u1 (fun z => u2.tbl z.symm))]; exact h1
      · obtain ⟨cc, q1, q2⟩ := h3 pos cv hc
        refine ⟨cc, q1, ?_⟩
        rw [upd_ne (ne_of q2 u1 (fun z => u2.code z.symm))]
        exact q2
    len := by rw [List.length_set, g.len]
    ow := ⟨_, w0⟩
    fix := fun b hb x e1 e2 => by
      have hj : i ≠ 0 := hf.resolve_left fun z => by rw [hb] at z; cases z
      rw [get_set, if_neg hj] at e1
      exact g.fix b hb x e1 e2 }
/-- the list at a place -/
theorem Good.accL (g : Good c G H σ ρ) (hpin : c.pin = []) {acc : Acc} {l : List D} (h : rd ρ acc = some (.lst l)) : ∃ a ws, AccV B acc σ H (.ref a) ∧ H a = some (.lst ws) ∧ Reps B G l ws ∧ ∀ l' ws', Reps B G l' ws' → Good c G (upd H a (.lst ws')) σ (wrt ρ (.lst l') acc) := by
  obtain ⟨a, ho, h1, h2, ⟨ws, rfl, h3⟩, h4⟩ := g.acc hpin h
  exact ⟨a, ws, h1, h2, h3, fun l' ws' r => h4 (.lst l') _ ⟨ws', rfl, r⟩⟩
theorem accV_eq {B : Bs} {acc : Acc} {v u : V} {d : D} (h1 : AccV B acc σ H v) (h2 : AccV B acc σ H u) : v = u := by
  cases acc with
  | v i =>
    have a : σ[i]? = some (some v) := h1
    have b : σ[i]? = some (some u) := h2
    rw [a] at b; cases b; rfl
  | f i f =>
    obtain ⟨b, C, dx, fs, e1, e2, e3, _⟩ := h1
    obtain ⟨b', C', dx', fs', f1, f2, f3, _⟩ := h2
    rw [e1] at f1; cases f1
    rw [e2] at f2; cases f2
    rw [e3] at f3; cases f3; rfl
end
/-- an expression is just what stands at a place -/
def tAcc (B : Bs) (acc : Acc) : TE := fun σ H Q => ∃ v, AccV B acc σ H v ∧ Q v H
section
variable {X : Cx} {B : Bs} {c : Ct B} {W : WX} {o e a : Expr} {es : List Expr} {fe fa : M D} {fs : M (List D)} {pos p1 p2 : Pos} {x y : Str} {rest : List Stmt} {fr : S} {acc : Acc}
theorem av (i : Nat) {pos : Pos} (hN : X.N[i]? = some x := by rfl) (hv : Vis X.env.scope x := by first | exact Or.inl rfl | exact Or.inr (Or.inl rfl) | exact Or.inr (Or.inr rfl)) (hd : (x == ("__debug__" : Str)) = false := by decide) (hcd : (x == ("__classdict__" : Str)) = false := by decide) : PE X (.Name x pos) (tAcc B (.v i)) := pv i hN hv hd hcd
/-- x = [..], one's own -/
theorem s_lstO (i : Nat) {pos' : Pos} (hN : X.N.Nodup) (h : PA X es (dA c W fs)) (hi : X.N[i]? = some x := by rfl) (hx : Loc X.env.scope x := by first | exact Or.inl rfl | exact Or.inr rfl) (hs : swapsWith (.List es p1) (some (.Name x pos')) pos.line X.env = pure false := by rfl)
    (hfn : X.fn x = true ∨ X.env.scope.names.lookup x = some .local := by first | exact .inl rfl | exact .inr rfl | assumption) (hf : c.fx = none ∨ i ≠ 0 := by first | exact .inr (by decide) | (left; assumption)) (hpin : c.pin = [] := by assumption) : PS X (.Assign [.Name x pos'] (.List es p1) pos) (dS c W (asgO i (lstE fs))) := by
  refine ⟨fun pins s σ H E I ⟨G, ρ, gd, p⟩ => ?_⟩
  have hl : i < σ.length := by rw [I.len]; exact (List.getElem?_eq_some_iff.mp hi).1
  refine (ps_set hN hi hx (pe_lst h) hs hfn).run pins s σ H E I ?_
  have p' : PostS c W G (bnd fs (fun l => bnd (lft (fewL l)) fun x => bnd (new i x) fun _ => Fe.ret .nx) ρ) E := by
    revert p
    unfold asgO lstE bnd
    cases fs ρ <;> exact fun p => p
  refine (posts_bnd gd p').imp fun v H1 ⟨G1, ρ1, l, s1, g1, r, q⟩ => ?_
  unfold fewL at q
  by_cases hlim : l.length ≤ lim
  case neg => rw [if_neg hlim] at q; exact False.elim q
  rw [if_pos hlim] at q
  refine ⟨by rw [Reps.len r, ← lim_eq]; exact hlim, fun p hp => ?_⟩
  exact q _ _ _ (Same.refl _) (g1.newO hpin (d := .lst l) hp ⟨v, rfl, r⟩ hl hf)
/-- the fields that stay while the rest is reckoned -/
def Ct.pinned {B : Bs} (c : Ct B) : Acc → V → Ct B
  | .v _, _ => c
  | .f i f, v => { c with pin := [(i, f, v)] }
theorem OwnS.chg {c c' : Ct B} {G H : Hp} {σ : L2.St} {ρ : Env} {fp : Nat → List Addr} (w : OwnS c G H σ ρ fp) (hF : c'.F = c.F) (hx : c'.fx = c.fx) (hp : ∀ i f v, (i, f, v) ∈ c'.pin → ∃ a C dx fs, σ[i]? = some (some (.ref a)) ∧ a ∈ fp i ∧ H a = some (.ins C dx fs) ∧ fs.lookup f = some v ∧ ∃ cn, B.C cn = some C) : OwnS c' G H σ ρ fp where
  sl := w.sl
  nd := w.nd
  dj := w.dj
  out := fun i a h => by rw [hF]; exact w.out i a h
  al := fun i f e => by rw [hx]; exact w.al i f e
  pn := hp
theorem Good.chg {c c' : Ct B} {G H : Hp} {σ : L2.St} {ρ : Env} {fp : Nat → List Addr} (g : Good c G H σ ρ) (w : OwnS c G H σ ρ fp) (h0 : c'.G0 = c.G0) (hF : c'.F = c.F) (hx : c'.fx = c.fx) (hp : ∀ i f v, (i, f, v) ∈ c'.pin → ∃ a C dx fs, σ[i]? = some (some (.ref a)) ∧ a ∈ fp i ∧ H a = some (.ins C dx fs) ∧ fs.lookup f = some v ∧ ∃ cn, B.C cn = some C) : Good c' G H σ ρ where
  gh := g.gh
  nt := g.nt
  g0 := by rw [h0]; exact g.g0
  nf := by rw [hF]; exact g.nf
  fr := by rw [h0, hF]; exact g.fr
  fh := by rw [hF]; exact g.fh
  tb := g.tb
  len := g.len
  ow := ⟨fp, w.chg hF hx hp⟩
  fix := by rw [hx]; exact g.fix
/-- while what stands at a place is kept -/
theorem Good.pinned {G H : Hp} {σ : L2.St} {ρ : Env} (g : Good c G H σ ρ) (hpin : c.pin = []) {d : D} (h : rd ρ acc = some d) {v : V} (hv : AccV B acc σ H v) : Good (c.pinned acc v) G H σ ρ := by
  cases acc with
  | v i => exact g
  | f i f =>
    obtain ⟨fp, w⟩ := g.ow
    obtain ⟨b, C, dx, fs, e1, e2, e3, ec⟩ := hv
    refine g.chg w rfl rfl rfl fun j f' u hj => ?_
    cases List.mem_singleton.mp (show (j, f', u) ∈ [(i, f, v)] from hj)
    refine ⟨b, C, dx, fs, e1, ?_, e2, e3, ec⟩
    have h' : flat (fldC (get ρ i) f) = some d := h
    cases eo : get ρ i with
    | none => rw [eo] at h'; cases h'
    | some o =>
      rw [eo] at h'
      obtain ⟨w1, h1, h2⟩ := w.sl i o eo
      rw [e1] at h1
      cases h1
      cases o with
      | p d => cases h'
      | o d => cases h'
      | al f => cases h'
      | ob cc ns cs => obtain ⟨a, dx', C', us, f1, q1, q2, _⟩ := crep_ob.mp h2; cases q1; rw [q2]; exact .head _
theorem Good.unpin {G H : Hp} {σ : L2.St} {ρ : Env} {v : V} (g : Good (c.pinned acc v) G H σ ρ) (hpin : c.pin = []) (hv : ∀ i, acc = .v i → AccV B acc σ H v) : Good c G H σ ρ ∧ AccV B acc σ H v := by
  cases acc with
  | v i => exact ⟨g, hv i rfl⟩
  | f i f =>
    obtain ⟨fp, w⟩ := g.ow
    obtain ⟨a, C, dx, fs, k1, k2, k3, k4⟩ := w.pn i f v (List.mem_singleton.mpr rfl)
    exact ⟨g.chg w rfl rfl rfl fun i f v e => (by rw [hpin] at e; cases e), a, C, dx, fs, k1, k3, k4⟩
/-- something is reckoned while a place is kept -/
theorem den_pin {α β : Type} {rep : Bs → Hp → α → β → Prop} {f : M α} {G H : Hp} {σ : L2.St} {ρ : Env} {d0 : D} {v0 : V} {Q : β → Hp → Prop} (g : Good c G H σ ρ) (hpin : c.pin = []) (h : rd ρ acc = some d0) (hv : AccV B acc σ H v0)
    (p : match f ρ with
      | .ok d ρ' => ∀ v H' G', Same G G' → Good c G' H' σ ρ' → AccV B acc σ H' v0 → rep B G' d v → Q v H'
      | .ex x ρ' => ∀ cls dd H' G', Same G G' → Good c G' H' σ ρ' → ExRep B G' H' x cls dd → W cls dd σ H'
      | .no => False) : Den rep (c.pinned acc v0) W f σ H Q := by
  refine ⟨G, ρ, g.pinned hpin h hv, ?_⟩
  have keep : ∀ H', ∀ i, acc = .v i → AccV B acc σ H' v0 := fun H' i e => by subst e; exact hv
  revert p
  cases f ρ with
  | no => exact fun p => p
  | ok d ρ' => exact fun p v H' G' s g' r => p v H' G' s (g'.unpin hpin (keep H')).1 (g'.unpin hpin (keep H')).2 r
  | ex x ρ' => exact fun p cls dd H' G' s g' r => p cls dd H' G' s (g'.unpin hpin (keep H')).1 r
theorem posts_pin {α β : Type} {rep : Bs → Hp → α → β → Prop} {f : M α} {k : α → S} {G H : Hp} {σ : L2.St} {ρ : Env} {d0 : D} {v0 : V} {E : Ends} (g : Good c G H σ ρ) (hpin : c.pin = []) (h : rd ρ acc = some d0) (hv : AccV B acc σ H v0) (p : PostS c W G (bnd f k ρ) E) :
    Den rep (c.pinned acc v0) W f σ H (fun v H1 => ∃ G1 ρ1 d, Same G G1 ∧ Good c G1 H1 σ ρ1 ∧ AccV B acc σ H1 v0 ∧ rep B G1 d v ∧ PostS c W G1 (k d ρ1) E) := by
  refine den_pin g hpin h hv ?_
  unfold bnd at p
  revert p
  cases f ρ with
  | ok d ρ' => exact fun p v H1 G1 s g1 av r => ⟨G1, ρ', d, s, g1, av, r, PostS.mono s p⟩
  | ex x ρ' => exact fun p cls dd H' G' => p σ cls dd H' G'
  | no => exact fun p => p
theorem post_pin {α β γ δ : Type} {rep : Bs → Hp → α → β → Prop} {rep2 : Bs → Hp → γ → δ → Prop} {f : M α} {k : α → M γ} {G H : Hp} {σ : L2.St} {ρ : Env} {d0 : D} {v0 : V} {Q : δ → Hp → Prop} (g : Good c G H σ ρ) (hpin : c.pin = []) (h : rd ρ acc = some d0) (hv : AccV B acc σ H v0) (p : Post rep2 c W σ G (bnd f k ρ) Q) :
    Den rep (c.pinned acc v0) W f σ H (fun v H1 => ∃ G1 ρ1 d, Same G G1 ∧ Good c G1 H1 σ ρ1 ∧ AccV B acc σ H1 v0 ∧ rep B G1 d v ∧ Post rep2 c W σ G1 (k d ρ1) Q) := by
  refine den_pin g hpin h hv ?_
  unfold bnd at p
  revert p
  cases f ρ with
  | ok d ρ' => exact fun p v H1 G1 s g1 av r => ⟨G1, ρ', d, s, g1, av, r, Post.mono s p⟩
  | ex x ρ' => exact fun p => p
  | no => exact fun p => p
end
end Fe
end
section
set_option Elab.async false
set_option linter.all false
set_option maxRecDepth 100000
set_option maxHeartbeats 1000000
namespace Fe
open PySem PySem.Spec PyProof.Rows L2
section
variable {B : Bs} {c : Ct B} {G H : Hp} {σ : L2.St} {ρ : Env}
theorem ownL_cases (i : Acc) (ρ : Env) : (∃ l, rd ρ i = some (.lst l) ∧ ownL i ρ = .ok l ρ) ∨ ownL i ρ = .no := by
  unfold ownL
  split
  · rename_i l h; exact .inl ⟨l, h, rfl⟩
  · exact .inr rfl
theorem posts_ownL {W : WX} {i : Acc} {k : List D → S} {E : Ends} (p : PostS c W G (bnd (ownL i) k ρ) E) : ∃ l, rd ρ i = some (.lst l) ∧ PostS c W G (k l ρ) E := by
  unfold bnd at p
  rcases ownL_cases i ρ with ⟨o, h1, h2⟩ | h2
  · rw [h2] at p; exact ⟨o, h1, p⟩
  · rw [h2] at p; exact False.elim p
theorem post_ownL {α β : Type} {rep : Bs → Hp → α → β → Prop} {W : WX} {i : Acc} {k : List D → M α} {Q : β → Hp → Prop} (p : Post rep c W σ G (bnd (ownL i) k ρ) Q) : ∃ l, rd ρ i = some (.lst l) ∧ Post rep c W σ G (k l ρ) Q := by
  unfold bnd at p
  rcases ownL_cases i ρ with ⟨o, h1, h2⟩ | h2
  · rw [h2] at p; exact ⟨o, h1, p⟩
  · rw [h2] at p; exact False.elim p
end
section
variable {X : Cx} {B : Bs} {c : Ct B} {W : WX} {o e a : Expr} {es : List Expr} {fe fa : M D} {fs : M (List D)} {pos p1 p2 q1 q2 : Pos} {x y : Str} {acc : Acc}
/-- xs[k] -/
theorem e_ixO {fk : M D} (ho : PE X o (tAcc B acc)) (hk : ∀ v, PE X a (dE (c.pinned acc v) W fk)) (hs : PlainIx a := by exact fun _ _ => rfl) (hpin : c.pin = [] := by assumption) : PE X (.Subscript o a pos) (dE c W (ixO acc fk)) := by
  refine ⟨fun pins s σ H Q I ⟨G, ρ, g, p⟩ => ?_⟩
  obtain ⟨l0, h1, p1⟩ := post_ownL p
  obtain ⟨a0, w0, av0, hw0, r0, _⟩ := g.accL hpin h1
  refine (pe_ix ix_list ho (hk (.ref a0)) hs).run pins s σ H Q I ⟨.ref a0, av0, (post_pin g hpin h1 av0 p1).imp fun v H1 ⟨G1, ρ1, d, s1, g1, av1, r1, q1⟩ => ?_⟩
  obtain ⟨l1, h2, q2⟩ := post_ownL q1
  obtain ⟨a1, w1, av2, hw1, r5, _⟩ := g1.accL hpin h2
  cases accV_eq (d := d) av1 av2
  obtain ⟨z, hz, p3⟩ := post_lft q2
  cases d <;> first | (cases hz; done) | skip
  obtain ⟨j, hj, hz⟩ := Option.bind_eq_some_iff.mp hz
  obtain ⟨u, hu, ru⟩ := r5.get hz
  refine ⟨a0, w1, _, u, rfl, rep_int.mp r1, .inl (.inl hw1), ?_, g1.keep p3 ru⟩
  unfold atI
  rw [r5.len]
  show (Fe.ixN l1.length _).bind _ = _
  rw [hj]
  exact hu
theorem pe_pin {fk : M D} (hk : ∀ v, PE X a (dE (c.pinned acc v) W fk)) : PE X a (fun σ H Q => ∃ v, dE (c.pinned acc v) W fk σ H Q) := ⟨fun pins s σ H Q I ⟨v, h⟩ => (hk v).run pins s σ H Q I h⟩
/-- xs[k] = e -/
theorem s_setO {qs : Pos} {fk : M D} (ho : PE X o (tAcc B acc)) (he : PE X e (dE c W fe)) (hk : ∀ v, PE X a (dE (c.pinned acc v) W fk))
    (ha : ∀ v, assign (.Subscript o a qs) X.env v = (do
      let ov ← holding [v] (eval o X.env)
      let iv ← holding [v, ov] (eval a X.env)
      standAt qs
      holding [v, ov, iv] (setItem ov iv v)
      release [v, ov, iv] []) := by intro _; rfl)
    (hs : swapsWithSole [.Subscript o a qs] e pos.line X.env = pure false := by rfl) (hw : swappedStores [.Subscript o a qs] e X.env = pure none := by rfl)
    (h1 : (assignEach [.Subscript o a qs] X.env).map (·.2) = [assign (.Subscript o a qs) X.env] := by rfl) (hpin : c.pin = [] := by assumption) : PS X (.Assign [.Subscript o a qs] e pos) (dS c W (setO acc fk fe)) := by
  refine psI (ps_asg he (pg_sub ho (pe_pin hk) set_list ha) hs hw h1) fun E σ H ⟨G, ρ, g, p⟩ => ?_
  refine (posts_bnd g p).imp fun v H1 ⟨G1, ρ1, d, s1, g1, r1, q1⟩ => ?_
  obtain ⟨l0, h1, p1⟩ := posts_ownL q1
  obtain ⟨a0, w0, av0, hw0, r0, _⟩ := g1.accL hpin h1
  refine ⟨.ref a0, av0, .ref a0, (posts_pin g1 hpin h1 av0 p1).imp fun u H2 ⟨G2, ρ2, k, s2, g2, av1, r2, q2⟩ => ?_⟩
  obtain ⟨l1, h2, q3⟩ := posts_ownL q2
  obtain ⟨a1, w1, av2, hw1, r5, wr⟩ := g2.accL hpin h2
  cases accV_eq (d := d) av1 av2
  cases k <;> first | exact False.elim q3 | skip
  rename_i k
  dsimp only at q3
  cases hj : Fe.ixN l1.length k with
  | none => rw [hj] at q3; exact False.elim q3
  | some j =>
    rw [hj] at q3
    refine ⟨a0, w1, k, j, rfl, rep_int.mp r2, hw1, by rw [r5.len]; exact hj, ?_⟩
    exact q3 _ _ _ (Same.refl _) (wr _ _ (Reps.set j r5 (Rep.mono s2 r1)))
end
end Fe
end
section
set_option Elab.async false
set_option linter.all false
set_option maxRecDepth 100000
set_option maxHeartbeats 1000000
namespace Fe
open PySem PySem.Spec PyProof.Rows L2
/-- a built-in of one argument -/
def RuleC (B : Bs) (r : List V → Hp → VK → Prop) (g : D → Option D) : Prop :=
  ∀ (G H : Hp) (d z : D) (x : V) (Q : VK), Same G H → NT G → Rep B G d x → g d = some z → (∀ v H' G', New G H G' H' → Rep B G' z v → Q v H') → r [x] H Q
section
variable {B : Bs}
theorem rc_len : RuleC B (fun xs H Q => (∃ p ys, xs = [.ref p] ∧ (SqL B.K H p ys ∨ SqT B.K H p ys) ∧ Q (.int ys.length) H) ∨ ∃ z, xs = [.str z] ∧ z.length ≤ sizeLine ∧ Q (.int z.length) H) dLen := by
  intro G H d z x Q s n rx h k
  cases d <;> first | (cases h; done) | skip
  · rename_i t
    simp only [dLen] at h
    split at h
    · rename_i hz
      cases h
      exact .inr ⟨t, by rw [rep_str.mp rx], by rw [← lim_eq]; exact hz, k _ _ _ (New.refl s n) (rep_int.mpr rfl)⟩
    · cases h
  · cases h
    obtain ⟨a, vs, rfl, h1, h2⟩ := rep_lst.mp rx
    refine .inl ⟨a, vs, rfl, .inl (sqL_up s h1), ?_⟩
    rw [h2.len]
    exact k _ _ _ (New.refl s n) (rep_int.mpr rfl)
  · cases h
    obtain ⟨a, vs, rfl, h1, h2⟩ := rep_tup.mp rx
    refine .inl ⟨a, vs, rfl, .inr (sqT_up s h1), ?_⟩
    rw [h2.len]
    exact k _ _ _ (New.refl s n) (rep_int.mpr rfl)
theorem rc_int : RuleC B (fun xs H Q => (∃ i, xs = [.int i] ∧ Q (.int i) H) ∨ ∃ k, xs = [.bl k] ∧ Q (.int (if k then 1 else 0)) H) dInt := by
  intro G H d z x Q s n rx h k
  cases d <;> first | (cases h; done) | skip
  cases h
  exact .inl ⟨_, by rw [rep_int.mp rx], k _ _ _ (New.refl s n) (rep_int.mpr rfl)⟩
end
section
variable {X : Cx} {B : Bs} {c : Ct B} {W : WX} {e a : Expr} {fe fa : M D} {pos p p1 : Pos} {x : Str}
theorem e_cb {id : String} {r : List V → Hp → VK → Prop} {g : D → Option D} (hc : CallR X (.builtin id) r) (hr : RuleC B r g) (hm : X.mg x = none) (hv : bootBuiltins x = some (.builtin id)) (h : PE X e (dE c W fe)) (hg : Gl X x := by rfl) (hse : starEach [e] X.env = (false, eval e X.env) :: starEach [] X.env := by rfl) (hn : x ≠ "__name__" := by decide) (hdb : (x == ("__debug__" : Str)) = false := by decide) :
    PE X (.Call (.Name x p) [e] [] pos) (dE c W (op1 g fe)) :=
  peI (pe_callB hc hg hm hv (pa_cons h pa_nil hse) hn hdb (he := hse)) fun σ H Q h => (den_bnd h).imp fun v H1 ⟨G1, ρ1, d, g1, rx, p1⟩ => by
    obtain ⟨z, hz, p3⟩ := post_lft p1
    exact hr G1 H1 d z v Q g1.gh g1.nt rx hz fun u H' G' n rz => p3 u H' G' n.gg (g1.ext n) rz
theorem e_ct {T : String} {r : List V → Hp → VK → Prop} {g : D → Option D} (hc : CallR X (.type T) r) (hr : RuleC B r g) (hm : X.mg x = none) (hv : bootBuiltins x = some (.type T)) (h : PE X e (dE c W fe)) (hg : Gl X x := by rfl) (hse : starEach [e] X.env = (false, eval e X.env) :: starEach [] X.env := by rfl) (hn : x ≠ "__name__" := by decide) (hdb : (x == ("__debug__" : Str)) = false := by decide) :
    PE X (.Call (.Name x p) [e] [] pos) (dE c W (op1 g fe)) :=
  peI (pe_callTy hc hg hm hv (pa_cons h pa_nil hse) hn hdb (he := hse)) fun σ H Q h => (den_bnd h).imp fun v H1 ⟨G1, ρ1, d, g1, rx, p1⟩ => by
    obtain ⟨z, hz, p3⟩ := post_lft p1
    exact hr G1 H1 d z v Q g1.gh g1.nt rx hz fun u H' G' n rz => p3 u H' G' n.gg (g1.ext n) rz
theorem e_len (hm : X.mg "len" = none) (h : PE X e (dE c W fe)) (hK : B.K = X.K := by rfl) (hg : Gl X "len" := by rfl) (hse : starEach [e] X.env = (false, eval e X.env) :: starEach [] X.env := by rfl) : PE X (.Call (.Name "len" p) [e] [] pos) (dE c W (op1 dLen fe)) :=
  e_cb (call_len_seq.or call_len_str) (by rw [← hK]; exact rc_len) hm PySem.boot_len h hg hse
theorem e_intC (hm : X.mg "int" = none) (h : PE X e (dE c W fe)) (hg : Gl X "int" := by rfl) (hse : starEach [e] X.env = (false, eval e X.env) :: starEach [] X.env := by rfl) : PE X (.Call (.Name "int" p) [e] [] pos) (dE c W (op1 dInt fe)) :=
  e_ct call_int1 rc_int hm boot_int h hg hse
theorem tyX_lst {B : Bs} {H : Hp} {a : Addr} {vs : List V} (h : SqL B.K H a vs) : TyX B.K H (.ref a) (.type "list") := by
  rcases h with (h | ⟨o, h⟩) | ⟨o, its, n, h1, h2, _⟩
  · exact .base (.lst h)
  · exact .base (.frz h)
  · exact .kList h1 h2
theorem tyX_tup {B : Bs} {H : Hp} {a : Addr} {vs : List V} (h : SqT B.K H a vs) : TyX B.K H (.ref a) (.type "tuple") := by
  rcases h with (h | ⟨o, h⟩) | ⟨o, its, n, h1, h2, _⟩
  · exact .base (.tup h)
  · exact .fTuple h
  · exact .kTuple h1 h2
theorem e_isi (T : String) (hm : X.mg "isinstance" = none) (hmT : X.mg T = none) (h : PE X e (dE c W fe)) (hT : T = "int" ∨ T = "bool" ∨ T = "tuple" ∨ T = "list" ∨ T = "str") (hv : bootBuiltins T = some (.type T)) (hK : B.K = X.K := by rfl) (hg : Gl X "isinstance" := by rfl) (hgT : Gl X T := by rfl)
    (hn : (T : Str) ≠ "__name__" := by decide) (hd : ((T : Str) == ("__debug__" : Str)) = false := by decide)
    (hs1 : starEach [e, .Name T p1] X.env = (false, eval e X.env) :: starEach [.Name T p1] X.env := by rfl) (hs2 : starEach [.Name T p1] X.env = (false, eval (.Name T p1) X.env) :: starEach [] X.env := by rfl) :
    PE X (.Call (.Name "isinstance" p) [e, .Name T p1] [] pos) (dE c W (cmp1 (dIsi T) fe)) :=
  peI (pe_callB call_isi hg hm (by decide +kernel) (pa_cons h (pa_cons (pe_bltn (v := .ty T) hgT hmT hv rfl hn hd) pa_nil hs2) hs1) (he := hs1)) fun σ H Q h => (den_bnd h).imp fun v H1 ⟨G1, ρ1, d, g1, rx, p1⟩ => by
    obtain ⟨z, hz, p3⟩ := post_lft p1
    obtain ⟨b, hb, rfl⟩ := Option.map_eq_some_iff.mp hz
    replace rx : Rep B G1 d v := rx
    rw [← hK]
    have fin : ∀ t : String, TyX B.K H1 v (.type t) → kitB t T = some b → rIsi B.K [v, .ty T] H1 Q := fun t ty hk => ⟨v, .ty T, _, _, b, rfl, .ty T, ty, kit_ty hk, g1.keep p3 (rep_bl.mpr rfl)⟩
    cases d with
    | non => have ev := rep_non.mp rx; subst ev; cases hb; refine fin "NoneType" (.base .non) ?_; rcases hT with rfl | rfl | rfl | rfl | rfl <;> decide +kernel
    | bl k => have ev := rep_bl.mp rx; subst ev; cases hb; refine fin "bool" (.base (.bl k)) ?_; rcases hT with rfl | rfl | rfl | rfl | rfl <;> decide +kernel
    | int k => have ev := rep_int.mp rx; subst ev; cases hb; refine fin "int" (.base (.int k)) ?_; rcases hT with rfl | rfl | rfl | rfl | rfl <;> decide +kernel
    | str k => have ev := rep_str.mp rx; subst ev; cases hb; refine fin "str" (.base (.str k)) ?_; rcases hT with rfl | rfl | rfl | rfl | rfl <;> decide +kernel
    | lst l =>
      obtain ⟨a, vs, rfl, h1, _⟩ := rep_lst.mp rx
      cases hb
      refine fin "list" (tyX_lst (sqL_up g1.gh h1)) ?_
      rcases hT with rfl | rfl | rfl | rfl | rfl <;> decide +kernel
    | tup l =>
      obtain ⟨a, vs, rfl, h1, _⟩ := rep_tup.mp rx
      cases hb
      refine fin "tuple" (tyX_tup (sqT_up g1.gh h1)) ?_
      rcases hT with rfl | rfl | rfl | rfl | rfl <;> decide +kernel
    | dct _ _ => cases hb
    | obj _ _ _ => cases hb
end
end Fe
end
section
set_option Elab.async false
set_option linter.all false
set_option maxRecDepth 100000
set_option maxHeartbeats 4000000
namespace Fe
open PySem PySem.Spec PyProof.Rows L2
section
variable {P : Program} {w : World} {A : Around} {E : Value → Shared → Prop} {s : Shared}
end
section
variable {X : Cx}
end
end Fe
end
section
set_option Elab.async false
set_option linter.all false
set_option maxRecDepth 100000
set_option maxHeartbeats 4000000
namespace Fe
open PySem PySem.Spec PyProof.Rows L2
section
variable {X : Cx} {B : Bs} {c : Ct B} {W : WX} {e : Expr} {fe : M D} {pos p p2 q : Pos}
end
end Fe
end
section
set_option Elab.async false
set_option linter.all false
set_option maxRecDepth 100000
set_option maxHeartbeats 4000000
namespace Fe
open PySem PySem.Spec PyProof.Rows L2
/-- what __init__ of an error's class does -/
def spInit (C : Addr) (fs : List Str) : Sp := fun vs H Q _ => ∃ (a : Addr) (ys : List V), vs = .ref a :: ys ∧ ys.length = fs.length ∧ H a = some (exo a C none) ∧
  ∀ d : Addr, H d = none → d ≠ a → Q .non (upd (upd H d (exd d (fs.zip ys).reverse)) a (exo a C (some d)))
/-- an error's class of the program -/
structure XCls (P : Program) (w : World) (B : Bs) (mg : Str → Option Value) (base : Heap) (k : Nat) (x : Str) (fs : List Str) (C : Addr) : Prop where
  ox : OexC B.K C
  xf : XfC B.K C
  no : ∀ f ∈ fs, PySem.W.findIn B.K (.ref C) f = some none
  gm : mg x = some (.ref C)
  bx : B.X x = some C
  em : PySem.W.exmOne B.K (.ref C) (.ref C) = some true
  ini : ∃ fI fd ps, PySem.W.findIn B.K (.ref C) "__init__" = some (some (.ref fI)) ∧ PySem.W.typeIn B.K (.ref fI) = some (.type "function") ∧ FnOk P w B.K mg base (L2.CX P w) k fI fd ps (spInit C fs) ∧ Binds B.K fd ps []
section
variable {P : Program} {w : World} {B : Bs} {mg : Str → Option Value} {base : Heap} {st : Stmt} {qual : Str} {f : Addr} {fd : FuncData} {C : Addr} {k : Nat}
/-- def __init__(self, name): self.name = name -/
theorem init1 {n1 : Str} {p1 p2 p3 p4 : Pos} (F0 : Fun B.K "__init__" qual st f fd) (S : FnScope [("self" : Str), n1] [("self" : Str), n1] (defScope st)) (T : OexC B.K C) (hno : PySem.W.findIn B.K (.ref C) n1 = some none)
    (hb : defBody st = [.Assign [.Attribute (.Name "self" p1) n1 p2] (.Name n1 p3) p4])
    (hb1 : ∀ (X : Cx), X.N = [("self" : Str), n1] → X.env.scope = defScope st → PE X (.Name n1 p3) (tVar 1)) (hb0 : ∀ (X : Cx), X.N = [("self" : Str), n1] → X.env.scope = defScope st → PE X (.Name "self" p1) (tVar 0)) (hsw : ∀ X : Cx, X.env.scope = defScope st → swapsWith (.Name n1 p3) (some (.Attribute (.Name "self" p1) n1 p2)) p4.line X.env = pure false) :
    FnOk P w B.K mg base (L2.CX P w) (k + 1) f fd [("self" : Str), n1] (spInit C [n1]) := by
  refine F0.okX S (fun vs H Q E ⟨a, ys, ev, hl, _⟩ => by rw [ev, List.length_cons, hl]; rfl) (fun cdv A outer s H vs Q E hr ⟨a, ys, ev, hl, ha, q⟩ => ?_)
  subst ev
  obtain ⟨y, rfl⟩ : ∃ y, ys = [y] := by
    match ys, hl with
    | [y], _ => exact ⟨y, rfl⟩
  rw [hb]
  refine ⟨_, pss_one (ps_ost (hb0 _ rfl rfl) (hb1 _ rfl rfl) (hsw _ rfl)), ?_⟩
  exact ⟨y, rfl, .ref a, rfl, a, C, rfl, T, hno, .inl ⟨ha, fun dx hd hne => q dx hd hne⟩⟩
end
section
variable {X : Cx} {B : Bs} {c : Ct B} {W : WX} {e : Expr} {es : List Expr} {fe : M D} {fa : M (List D)} {pos p p2 q : Pos} {x : Str} {fs : List Str} {C : Addr}
theorem s_raise {j k : Nat} (Z : XCls X.prog X.w B X.mg X.base j x fs C) (hK : B.K = X.K) (hc : X.calm = true) (tk : Takes X W) (hr : Room k X.A) (hj : j + 1 ≤ k) (ha : PA X (e :: es) (dA c W fa)) (hn : (e :: es).length = fs.length) (hlen : fs.length ≤ 1000) (hg : Gl X x := by rfl)
    (hdb : (x == ("__debug__" : Str)) = false := by decide) (he : starEach (e :: es) X.env = (false, eval e X.env) :: starEach es X.env := by rfl) (hpl : (backTo p2 (starEach es X.env)).any (·.1) = false := by rfl) :
    PS X (.Raise (some (.Call (.Name x p) (e :: es) [] p2)) none pos) (dS c W (rse x fs fa)) := by
  obtain ⟨fI, fd, ps, iC, tI, F1, hb⟩ := Z.ini
  have ox := Z.ox
  rw [hK] at ox iC tI F1 hb
  refine psI (ps_raise hc tk (pmk_oex ox iC tI F1 (hr.mono hj) hb .nil passL hg Z.gm ha hdb he hpl)) fun E σ H ⟨G, ρ, gd, h⟩ => ?_
  refine (posts_bnd gd h).imp fun vs H1 ⟨G1, ρ1, l, s1, g1, r1, h1⟩ => ?_
  by_cases hl : l.length = fs.length
  case neg => rw [if_neg hl] at h1; exact False.elim h1
  rw [if_pos hl] at h1
  have hvl : vs.length = fs.length := by rw [Reps.len r1, hl]
  refine ⟨by omega, fun a ha => ⟨a, vs, by rw [List.append_nil], hvl, upd_same, fun d hd hne => ⟨rfl, d, (fs.zip vs).reverse, upd_same, ?_, ?_, ?_⟩⟩⟩
  · rw [upd_ne hne, upd_same]
  · rw [upd_ne hne] at hd; exact hd
  · have hdH : H1 d = none := by rw [upd_ne hne] at hd; exact hd
    have eq : upd (L2.del (upd (upd (upd H1 a (exo a C none)) d (exd d (fs.zip vs).reverse)) a (exo a C (some d))) a) d (.xd (fs.zip vs).reverse) = upd H1 d (.xd (fs.zip vs).reverse) := by
      funext b
      by_cases hbd : b = d
      · rw [hbd, upd_same, upd_same]
      · rw [upd_ne hbd, upd_ne hbd]
        by_cases hba : b = a
        · rw [hba, L2.del_same, ha]
        · rw [L2.del_ne hba, upd_ne hba, upd_ne hbd, upd_ne hba]
    rw [eq]
    have N : New G1 H1 G1 (upd H1 d (.xd (fs.zip vs).reverse)) := ⟨Same.refl _, g1.gh.trans (same_upd hdH), same_upd hdH, g1.nt, fun _ h => .inl h⟩
    refine h1 σ (.ref C) (some d) _ G1 (Same.refl _) (g1.ext N) ⟨C, d, (fs.zip vs).reverse, Z.bx, rfl, rfl, upd_same, ?_, ?_⟩
    · rw [List.map_reverse, List.map_reverse, List.map_fst_zip (by omega), List.map_fst_zip (by omega)]
    · rw [List.map_reverse, List.map_reverse, List.map_snd_zip (by omega), List.map_snd_zip (by omega)]
      have rev : ∀ {l : List D} {vs : List V}, Reps B G1 l vs → Reps B G1 l.reverse vs.reverse := by
        intro l
        induction l with
        | nil => intro vs h; rw [reps_nil.mp h]; exact reps_nil.mpr rfl
        | cons d l ih =>
          intro vs h
          obtain ⟨v, r, rfl, h2, h3⟩ := reps_cons.mp h
          rw [List.reverse_cons, List.reverse_cons]
          exact (ih h3).append (reps_cons.mpr ⟨_, _, rfl, h2, reps_nil.mpr rfl⟩)
      exact rev r1
end
end Fe
end
section
set_option Elab.async false
set_option linter.all false
set_option maxRecDepth 100000
set_option maxHeartbeats 4000000
namespace Fe
open PySem PySem.Spec PyProof.Rows L2
/-- what the def makes of what it gets -/
def TRef (C : Addr) (fld : Str) : (XK → Hp → VK → Prop) → Hp → VK → Prop := fun tl H Q =>
  tl (fun cls d H' => cls = .ref C ∧ ∃ dd fs v, d = some dd ∧ H' dd = some (.xd fs) ∧ fs.lookup fld = some v ∧ Q v H') H fun _ H' => Q (.str "") H'
section
variable {X : Cx}
/-- where an error flies, the slots are as many as the names -/
theorem takes_len {W : WX} (tk : Takes X W) : Takes X (fun cls d σ H => σ.length = X.N.length → W cls d σ H) := fun u s' ⟨a, B, sI, pins, σ, H, cls, d, e, I, nb, up, sky, na, os, ag, w⟩ =>
  tk u s' ⟨a, B, sI, pins, σ, H, cls, d, e, I, nb, up, sky, na, os, ag, w I.len⟩
theorem ref_gives {Ng : List Str} {x a n xn q fld : Str} {sg : Scope} {g C : Addr} {cdg : Value} {i j : Nat} {p1 p2 p3 p4 p5 p6 p7 p8 p9 p10 p11 : Pos} (S : FnScope Ng [a] sg) (hge : sg.names.lookup xn = some .globalImplicit) (hme : X.mg xn = some (.ref C)) (hde : (xn == ("__debug__" : Str)) = false)
    (hi : Ng[i]? = some n) (hln : sg.names.lookup n = some .local) (h0 : ∀ f : Addr, (L2.start Ng [V.ref f])[0]? = some (some (V.ref f))) (hni : ∀ f : Addr, i < (L2.start Ng [V.ref f]).length) (T : XfC X.K C) (hno : PySem.W.findIn X.K (.ref C) fld = some none) (em : PySem.W.exmOne X.K (.ref C) (.ref C) = some true)
    (hnd : (n == ("__debug__" : Str)) = false) (hnc : (n == ("__classdict__" : Str)) = false) (hi0 : i ≠ 0)
    (hsw : ∀ env : PySem.Env, swapsWith (.Call (.Name a p1) [] [] p2) none p3.line env = pure false) (hbase : ∀ env : PySem.Env, attributeBase (.Name n p6) fld env (eval (.Name n p6) env) = eval (.Name n p6) env) :
    LamX.GivesTo X Ng x sg g cdg [.Try [.Expr (.Call (.Name a p1) [] [] p2) p3] [.ExceptHandler (some (.Name xn p4)) (some n) [.Return (some (.Attribute (.Name n p6) fld p5)) p7] p8] [] [] p9, .Return (some (.Constant (.str "") j p11)) p10] a q (TRef C fld) := by
  intro f c' s H Q tl act hc h
  have vis : Vis sg n := .inl hln
  refine ⟨_, pss_cons (ps_try_as (X := (cxOf C8.CX0 X.prog X.w X.K X.mg X.base Ng x sg g cdg X.A X.stack s H C8.E0).nox) (c := .ref C) (i := i) (Wout := fun _ _ _ _ => False)
      (tb := fun W D σ H => ∃ Ech : XK, (∀ cls d σ' H', Ech cls d H' → σ'.length = Ng.length → W cls d σ' H') ∧ σ[0]? = some (some (.ref f)) ∧ H c' = some (LamX.CodeO c' q) ∧ tl Ech H fun _ H' => D.nx σ H')
      (ts := fun a0 cls d => tRet (tXf a0 cls d C fld (tVar i))) rfl rfl S.nd hi hln ⟨hge, hde, .inl hme⟩ L2.takes0 (fun W pn xe tk _ => ?_) (fun a0 oe cls d pn hz hf => ?_))
    (pss_one (ps_ret pe_str)), ?_⟩
  · refine ⟨fun pins s' σ H' D I h' => ?_⟩
    obtain ⟨Ech, hW, h1, h2, h3⟩ := h'
    exact (pss_one (ps_expr (pos := p3) (act _ pn xe Ech p1 p2 (takes_len tk) hW) (hsw _))).run pins s' σ H' D I ⟨h1, h2, h3⟩
  · exact pss_one (ps_ret (pe_xf T hno hz hf (pe_var (X := Cx.suite _ a0 ((a0, oe) :: pn)) (i := i) hi vis hnd hnc) (hbase _)))
  · refine ⟨fun cls d H' => cls = .ref C ∧ ∃ dd fs v, d = some dd ∧ H' dd = some (.xd fs) ∧ fs.lookup fld = some v ∧ Q v H', fun cls d σ' H' h1 hl => ⟨true, by rw [h1.1]; exact em, fun _ a0 ha0 => ?_, fun z => by cases z⟩, h0 f, hc, h⟩
    obtain ⟨ec, dd, fs, v, ed, hd, hlk, q⟩ := h1
    have hin : i < σ'.length := by rw [hl]; exact (List.getElem?_eq_some_iff.mp hi).1
    exact ⟨.ref a0, List.getElem?_set_self hin, rfl, ec, dd, fs, v, ed, hd, hlk, q⟩
variable {B : Bs} {c : Ct B} {W : WX}
theorem Good.tables {G H H1 : Hp} {σ : L2.St} {ρ : Env} (g : Good c G H σ ρ) (e : LamX.ExtN H H1) (t : LamX.Tabs B.T H1) : Good c G H1 σ ρ where
  gh := fun a o h => e a o (g.gh a o h) fun ps z => g.nt a ps (z ▸ h)
  nt := g.nt
  g0 := g.g0
  nf := g.nf
  fr := g.fr
  fh := fun a o h => e a o (g.fh a o h) fun ps z => g.nf a ps (z ▸ h)
  tb := t
  len := g.len
  ow := by
    obtain ⟨fp, w⟩ := g.ow
    refine ⟨fp, w.mono (Same.refl _) ⟨rfl, rfl⟩ fun i a ha => ?_⟩
    obtain ⟨⟨o, h1, h2⟩, h3⟩ := w.out i a ha
    exact ⟨(e a o h1 fun ps z => h2.tbl z).trans h1.symm, h3⟩
  fix := g.fix
/-- the def that tells which argument is refused, as it stands behind the top -/
structure RefD (X : Cx) (x a xn fld : Str) (C : Addr) (k : Nat) : Prop where
  ex : ∃ (g : Addr) (pg : Arguments) (bg : List Stmt) (sg : Scope) (dV kV doc pm cdv ct oc : Value) (an od : Option Addr) (osl : Array (Option Value)) (Ng : List Str),
    X.mg x = some (.ref g) ∧ PySem.W.keepIn X.K (.ref g) = true ∧ X.K.lookup g = some ⟨oc, od, .func (PySem.W.fnOf x x pg bg sg dV kV doc pm an cdv ct), osl⟩ ∧ PySem.W.codeIn X.K cdv x = true ∧ L2.Binds X.K (PySem.W.fnOf x x pg bg sg dV kV doc pm an cdv ct) [a] [] ∧
      FnScope Ng [a] sg ∧ Ng[0]? = some a ∧ Vis sg a ∧ LamX.GivesTo X Ng x sg g cdv bg a (X.env.qual ++ "<lambda>") (TRef C fld)
theorem e_ref {x a xn fld : Str} {C cc PP : Addr} {k : Nat} {params : Arguments} {body : Expr} {scope : Scope} {fe : M D} {p lpos pos : Pos} (R0 : RefD X x a xn fld C k) (hK : B.K = X.K) (hXc : B.X xn = some C) (hg : Gl X x := by rfl)
    (TB : LamX.TabB X.base X.mg cc PP) (hcode : X.env.code = .ref cc) (hmT : (PP, X.env.qual ++ "<lambda>") ∈ B.T) (hu : ∀ p ∈ B.T, p.1 = PP → p.2 = X.env.qual ++ "<lambda>") (hr : Room (k + 2) X.A) (L : LamX.LamS X.env.scope scope) (hdef : defaultsOf params X.env = ([], []))
    (hbind : ∀ (q : Str) (cl : List (Str × Addr)) (pm cv ctv : Value), bindArgs (PySem.W.kla_fn "<lambda>" q params body scope cl pm cv ctv) ⟨[], []⟩ = pure [])
    (hbody : ∀ (A : Around) (outer : List PySem.Env) (s : Shared) (H : Hp) (E : XK) (f c' : Addr), Room k (A.deeper (LamX.lamEnv X scope s.heap.objs.size f c')) → PE (LamX.lamCx X A outer s H E scope f c') body (dE c (wD E) fe))
    (hdb : (x == ("__debug__" : Str)) = false := by decide) (hd : (a == ("__debug__" : Str)) = false := by decide) (hcd : (a == ("__classdict__" : Str)) = false := by decide) :
    PE X (.Call (.Name x p) [.Lambda params body scope lpos] [] pos) (dE c W (refused xn fld fe)) := by
  obtain ⟨g, pg, bg, sg, dV, kV, doc, pm, cdv, ct, oc, an, od, osl, Ng, hm, hk, lk, hcg, hb, Sg, hNg, hva, hG⟩ := R0.ex
  refine peI (LamX.pe_lamcall (t := fun E => dE c (wD E) fe) hg hm hk lk hcg hb Sg hNg hva hG TB hcode hmT hu hr L hdef hbind hbody hdb hd hcd) fun σ H Q ⟨G, ρ, gd, p⟩ => ⟨gd.tb, fun H1 eN tT => ⟨G, ρ, gd.tables eN tT, ?_⟩⟩
  unfold refused at p
  revert p
  cases fe ρ with
  | no => exact fun p => p
  | ok d ρ' => exact fun p v H' G' s g' r => p (.str "") H' G' s g' (rep_str.mpr rfl)
  | ex y ρ' =>
    intro p cls dd H' G' s g' ⟨C', d0, fs, e1, e2, e3, e4, e5, e6⟩
    dsimp only at p
    by_cases hy : y.c = xn
    case neg => rw [if_neg hy] at p; exact False.elim p
    rw [if_pos hy] at p
    rw [hy, hXc] at e1
    cases e1
    cases hl : y.fs.lookup fld with
    | none => rw [hl] at p; exact False.elim p
    | some d =>
      rw [hl] at p
      have look : ∀ (l : List (Str × D)) (m : List (Str × V)), m.map (·.1) = l.map (·.1) → Reps B G' (l.map (·.2)) (m.map (·.2)) → l.lookup fld = some d → ∃ v, m.lookup fld = some v ∧ Rep B G' d v := by
        intro l
        induction l with
        | nil => intro m _ _ h; cases h
        | cons z l ih =>
          intro m h1 h2 h3
          cases m with
          | nil => cases h1
          | cons u m =>
            obtain ⟨z1, z2⟩ := z
            obtain ⟨u1, u2⟩ := u
            simp only [List.map_cons, List.cons.injEq] at h1
            obtain ⟨rfl, h1⟩ := h1
            obtain ⟨v, r, e, r1, r2⟩ := reps_cons.mp h2
            simp only [List.map_cons, List.cons.injEq] at e
            obtain ⟨rfl, rfl⟩ := e
            rw [List.lookup_cons] at h3 ⊢
            split at h3
            · cases h3
              exact ⟨_, rfl, r1⟩
            · exact ih m h1 r2 h3
      obtain ⟨v, hv, rv⟩ := look y.fs fs e5 e6 hl
      exact ⟨e2, d0, fs, v, e3, e4, hv, p v H' G' s g' rv⟩
end
end Fe
end
section
set_option Elab.async false
set_option linter.all false
set_option maxRecDepth 100000
set_option maxHeartbeats 4000000
namespace Fe
open PySem PySem.Spec PyProof.Rows L2
/-- t > u of tuples of ints -/
def rGtT (K : PySem.W.Frag) : R2 := fun x y H Q => ∃ a b ns ms, x = .ref a ∧ y = .ref b ∧ SqT K H a (ns.map V.int) ∧ SqT K H b (ms.map V.int) ∧ Q (.bl (lexLt ms ns)) H
theorem lexAt_gt : ∀ (k i : Nat) (ns ms : List Int), min ns.length ms.length = i + k → Ob.lexAt (fun j => decide (ns.getD j 0 = ms.getD j 0)) (fun j => decide (ms.getD j 0 < ns.getD j 0)) (decide (ns.length > ms.length)) i k = lexLt (ms.drop i) (ns.drop i)
  | 0, i, ns, ms, h => by
    rw [Ob.lexAt_zero]
    by_cases hl : ns.length > ms.length
    · rw [decide_eq_true hl, List.drop_eq_nil_of_le (show ms.length ≤ i by omega)]
      cases hd : ns.drop i with
      | nil => have := congrArg List.length hd; simp at this; omega
      | cons x r => rfl
    · rw [decide_eq_false hl, List.drop_eq_nil_of_le (show ns.length ≤ i by omega)]
      cases ms.drop i <;> rfl
  | k + 1, i, ns, ms, h => by
    rw [Ob.lexAt_succ]
    have h1 : i < ns.length := by omega
    have h2 : i < ms.length := by omega
    rw [List.drop_eq_getElem_cons h1, List.drop_eq_getElem_cons h2]
    have g1 : ns.getD i 0 = ns[i] := by rw [List.getD_eq_getElem?_getD, List.getElem?_eq_getElem h1]; rfl
    have g2 : ms.getD i 0 = ms[i] := by rw [List.getD_eq_getElem?_getD, List.getElem?_eq_getElem h2]; rfl
    simp only [g1, g2]
    unfold lexLt
    by_cases e : ns[i] = ms[i]
    · rw [if_pos (decide_eq_true e), if_pos e.symm]
      exact lexAt_gt k (i + 1) ns ms (by omega)
    · rw [if_neg (by simpa using e), if_neg fun z => e z.symm]
theorem op_gtT {X : Cx} (hu : X.A.units < cLine) : OpR X (compareOp .Gt) (rGtT X.K) := by
  intro pins s σ H x y v u Q I rx ry ⟨a, b, ns, ms, ex, ey, ha, hb, q⟩
  subst ex ey
  obtain rfl : v = Value.ref a := rx
  obtain rfl : u = Value.ref b := ry
  obtain ⟨i1, r1, p1, _⟩ := I.tuple ha
  obtain ⟨i2, r2, p2, _⟩ := I.tuple hb
  have n1 : IntsAre i1 ns := Vals.ints r1
  have n2 : IntsAre i2 ms := Vals.ints r2
  have z1 : i1.toArray.size = ns.length := by rw [List.size_toArray]; exact n1.length
  have z2 : i2.toArray.size = ms.length := by rw [List.size_toArray]; exact n2.length
  have w1 : ∀ j (h : j < i1.toArray.size), ∃ t, i1.toArray[j] = .int (ns.getD j 0) t := fun j h => IntsAre.int_at n1 _ _ (by simp at h; simp [h])
  have w2 : ∀ j (h : j < i2.toArray.size), ∃ t, i2.toArray[j] = .int (ms.getD j 0) t := fun j h => IntsAre.int_at n2 _ _ (by simp at h; simp [h])
  have key := Ob.RcOp.tuples_gt (A := X.A) (s := s) (e := fun j => decide (ns.getD j 0 = ms.getD j 0)) (r := fun j => decide (ms.getD j 0 < ns.getD j 0)) p1 p2 hu (fun j h1 h2 => by
    obtain ⟨t, e1⟩ := w1 j h1
    obtain ⟨t', e2⟩ := w2 j h2
    rw [e1, e2, ← Bool.beq_eq_decide_eq]
    exact SeqAt.EqAt.int_int _ _ _ _) (fun j h1 h2 _ => by
    obtain ⟨t, e1⟩ := w1 j h1
    obtain ⟨t', e2⟩ := w2 j h2
    rw [e1, e2]
    exact Ob.RcOp.gt_int _ _ _ _)
  rw [z1, z2, lexAt_gt _ 0 ns ms (by omega), List.drop_zero, List.drop_zero] at key
  exact key X.prog X.w X.xe _ ⟨.bl _, H, I, rfl, q⟩
theorem rule_gt {B : Bs} : Rule2 B (fun x y H Q => rI0 (fun i j => .bl (decide (j < i))) x y H Q ∨ rGtT B.K x y H Q) (mbl dGt) := by
  intro G H d e z x y Q s n rx ry h k
  obtain ⟨b, hb, rfl⟩ := mbl_some h
  cases d <;> cases e <;> first | (cases hb; done) | skip
  · cases hb
    rw [rep_int] at rx ry
    exact .inl ⟨_, _, rx, ry, k _ _ _ (New.refl s n) (rep_bl.mpr rfl)⟩
  · obtain ⟨ns, e1, hb⟩ := Option.bind_eq_some_iff.mp hb
    obtain ⟨ms, e2, hb⟩ := Option.map_eq_some_iff.mp hb
    obtain ⟨a, xs, rfl, h1, h2⟩ := rep_tup.mp rx
    obtain ⟨b', ys, rfl, h3, h4⟩ := rep_tup.mp ry
    rw [h2.ints e1] at h1
    rw [h4.ints e2] at h3
    refine .inr ⟨a, b', ns, ms, rfl, rfl, sqT_up s h1, sqT_up s h3, ?_⟩
    rw [hb]
    exact k _ _ _ (New.refl s n) (rep_bl.mpr rfl)
section
variable {X : Cx} {B : Bs} {c : Ct B} {W : WX} {a b e : Expr} {fa fb fe : M D} {pos : Pos} {x y : Str}
theorem t_gt {k : Nat} (hr : Room k X.A) (ha : PE X a (dE c W fa)) (hb : PE X b (dE c W fb)) (hK : B.K = X.K := by rfl) : PT X (.Compare a [.Gt] [b] pos) (dT c W (tsb (cmp dGt fa fb))) := t_cmp (op_gt.or (op_gtT hr.units0)) (by rw [← hK]; exact rule_gt) ha hb (nomark _)
/-- a, b = x, y of plain locals -/
theorem s_par (i j : Nat) {px py pt q2 : Pos} {kt k2 : Nat} (hc : X.calm = true) (hN : X.N.Nodup) (hij : i ≠ j) (ha : PE X a (dE c W fa)) (hb : PE X b (dE c W fb)) (hi : X.N[i]? = some x := by rfl) (hj : X.N[j]? = some y := by rfl)
    (hx : X.env.scope.names.lookup x = some .local := by rfl) (hy : X.env.scope.names.lookup y = some .local := by rfl)
    (hw : swappedStores [.Tuple [.Name x px, .Name y py] kt pt] (.Tuple [a, b] k2 q2) X.env = pure (some [x, y]) := by rfl)
    (hs : swapsWithSole [.Tuple [.Name x px, .Name y py] kt pt] (.Tuple [a, b] k2 q2) pos.line X.env = pure false := by rfl)
    (hs1 : starEach [a, b] X.env = (false, eval a X.env) :: starEach [b] X.env := by rfl) (hs2 : starEach [b] X.env = (false, eval b X.env) :: starEach [] X.env := by rfl) (hf : c.fx = none ∨ i ≠ 0 := by first | exact .inr (by decide) | (left; assumption)) (hf2 : c.fx = none ∨ j ≠ 0 := by first | exact .inr (by decide) | (left; assumption)) (hpin : c.pin = [] := by assumption) :
    PS X (.Assign [.Tuple [.Name x px, .Name y py] kt pt] (.Tuple [a, b] k2 q2) pos) (dS c W (par i j (consA fa (consA fb nilA)))) := by
  refine ⟨fun pins s σ H E I ⟨G, ρ, gd, p⟩ => ?_⟩
  have hli : i < σ.length := by rw [I.len]; exact (List.getElem?_eq_some_iff.mp hi).1
  have hlj : j < σ.length := by rw [I.len]; exact (List.getElem?_eq_some_iff.mp hj).1
  refine (ps_par hc hN hi hj hij hx hy (a_cons ha (a_cons hb a_nil hs2) hs1) hw hs).run pins s σ H E I ?_
  refine (posts_bnd gd p).imp fun vs H1 ⟨G1, ρ1, l, s1, g1, r1, q⟩ => ?_
  match l with
  | [] => exact False.elim q
  | [_] => exact False.elim q
  | _ :: _ :: _ :: _ => exact False.elim q
  | [d1, d2] =>
    obtain ⟨v, q1, e1, r2, r3⟩ := reps_cons.mp r1
    obtain ⟨w, q2, e2, r4, r5⟩ := reps_cons.mp r3
    rw [reps_nil.mp r5] at e2
    subst e2 e1
    refine ⟨v, w, rfl, ?_⟩
    exact q _ H1 G1 (Same.refl _) ((g1.set r2 hli hf fun p hp => by rw [hpin] at hp; cases hp).set r4 (by rw [List.length_set]; exact hlj) hf2 fun p hp => by rw [hpin] at hp; cases hp)
end
/-- an error passes a def's own frame -/
theorem tk_def {P : Program} {w : World} {K : PySem.W.Frag} {mg : Str → Option Value} {base : Heap} {N : List Str} {qual : Str} {scope : Scope} {f : Addr} {cd : Value} {A : Around} {outer : List PySem.Env} {s : Shared} {H : Hp} {E : XK} :
    Takes (cxOf (L2.CX P w) P w K mg base N qual scope f cd A outer s H E) (wD E) := takes_of rfl rfl rfl rfl
theorem tk_lam {X : Cx} {A : Around} {outer : List PySem.Env} {s : Shared} {H : Hp} {E : XK} {scope : Scope} {f c' : Addr} : Takes (LamX.lamCx X A outer s H E scope f c') (wD E) := takes_of rfl rfl rfl rfl
theorem po_def {P : Program} {w : World} {K : PySem.W.Frag} {mg : Str → Option Value} {base : Heap} {N : List Str} {qual : Str} {scope : Scope} {f : Addr} {cd : Value} {A : Around} {outer : List PySem.Env} {s : Shared} {H : Hp} {E : XK} :
    PassesOwn (model P w) (cxOf (L2.CX P w) P w K mg base N qual scope f cd A outer s H E).A (cxOf (L2.CX P w) P w K mg base N qual scope f cd A outer s H E).env (cxOf (L2.CX P w) P w K mg base N qual scope f cd A outer s H E).xe := passes_of rfl
end Fe
namespace Fe
open PySem PySem.Spec PyProof.Rows L2
section
variable {X : Cx} {B : Bs} {c : Ct B} {W : WX} {a b tg : Expr} {fa fb : M D} {pos : Pos}
end
end Fe
end
section
set_option Elab.async false
set_option linter.all false
set_option maxRecDepth 100000
set_option maxHeartbeats 4000000
namespace Fe
open PySem PySem.Spec PyProof.Rows L2
theorem cx_off {P : Program} {w : World} {H : Hp} {s : Shared} {e : Value} {s' : Shared} (h : L2.CX P w [] H s (fun _ _ _ => False) e s') : False := by
  obtain ⟨_, _, _, _, _, _, _, _, _, _, _, _, z⟩ := h
  exact z
theorem tabs_of {H : Hp} {PP : Addr} {q : Str} (h : H PP = some (.tbl #[])) : LamX.Tabs [(PP, q)] H := fun p hp => by
  rw [List.mem_singleton] at hp
  subst hp
  exact ⟨#[], h, True.intro, fun pos cv hc => by cases (show (none : Option Value) = some cv from hc)⟩
theorem noF {P : Program} {w : World} {B : Bs} {mg : Str → Option Value} {base : Heap} {k : Nat} {f : Addr} {fd : FuncData} {ps : List Str} : FnOk P w B.K mg base (L2.CX P w) k f fd ps (spF B fun _ => .no) :=
  ⟨fun vs H Q E ⟨_, _, _, _, _, _, z⟩ => z.elim, fun A outer s H args us vs Q E _ _ _ _ ⟨_, _, _, _, _, _, z⟩ => z.elim⟩
theorem ints_rep {B : Bs} {G : Hp} : ∀ ns : List Int, Reps B G (ns.map .int) (ns.map V.int)
  | [] => reps_nil.mpr rfl
  | i :: r => reps_cons.mpr ⟨.int i, r.map V.int, rfl, rep_int.mpr rfl, ints_rep r⟩
theorem sp_law {B : Bs} {f : List D → F} {H : Hp} {a : Addr} {ns : List Int} (t : LamX.Tabs B.T H) (hS : SqL B.K H a (ns.map V.int)) (h : f [.lst (ns.map .int)] = .ok (.bl true)) : spF B f [.ref a] H (fun v _ => v = .bl true) fun _ _ _ => False := by
  refine ⟨noT H, [.lst (ns.map .int)], noT_same, noT_nt, t, reps_cons.mpr ⟨.ref a, [], rfl, ?_, reps_nil.mpr rfl⟩, ?_⟩
  · unfold Rep
    refine ⟨a, ns.map V.int, rfl, ?_, ints_rep ns⟩
    rcases hS with (h | ⟨o, h⟩) | h
    · exact .inl (.inl (noT_of h fun ps e => by cases e))
    · exact .inl (.inr ⟨o, noT_of h fun ps e => by cases e⟩)
    · exact .inr h
  · rw [h]
    exact fun v H' G' _ r => rep_bl.mp r
theorem kb_of {K : PySem.W.Frag} {x qual : Str} {st : Stmt} {f : Addr} {fd : FuncData} {ps ks : List Str} (F : Fun K x qual st f fd) (n : Nat) (hn : n + ks.length = ps.length) (hp : ps.length ≠ 0)
    (h : ∀ (kV doc pm : Value) (an : Option Addr) (cdv ct : Value) (us ws : List Value), us.length = n → ws.length = ks.length → bindArgs (PySem.W.fnOf x qual (defArgs st) (defBody st) (defScope st) .none kV doc pm an cdv ct) ⟨us, ks.zip ws⟩ = pure (ps.zip (us ++ ws))) :
    KBinds K fd ps ks (fun us ws => if us.length = n ∧ ws.length = ks.length then us ++ ws else []) (fun us ws => if us.length = n ∧ ws.length = ks.length then us ++ ws else []) := by
  obtain ⟨oc, od, kV, doc, pm, an, cdv, ct, osl, rfl, lk, hcd⟩ := F.ex
  refine ⟨fun s us ws _ hl => ?_, fun {vs us zs ws} r rz => ?_⟩
  · by_cases q : us.length = n ∧ ws.length = ks.length
    · simp only [if_pos q]
      exact .of_eq (h kV doc pm an cdv ct us ws q.1 q.2)
    · simp only [if_neg q, List.length_nil] at hl
      omega
  · have e1 := r.length
    have e2 := rz.length
    by_cases q : vs.length = n ∧ zs.length = ks.length
    · have q' : us.length = n ∧ ws.length = ks.length := by omega
      simp only [if_pos q, if_pos q']
      exact r.append rz
    · have q' : ¬ (us.length = n ∧ ws.length = ks.length) := by omega
      simp only [if_neg q, if_neg q']
      exact .nil
end Fe
end
section
set_option Elab.async false
set_option linter.all false
set_option maxRecDepth 100000
set_option maxHeartbeats 1000000
namespace Fe
open PySem PySem.Spec PyProof.Rows L2
section
variable {X : Cx} {B : Bs} {c : Ct B} {W : WX} {e : Expr} {fe : M D} {flo fhi : M (Option Int)} {lo hi : Option Expr} {pos p2 : Pos} {G H : Hp}
theorem Reps.drop : ∀ {n : Nat} {l : List D} {vs : List V}, Reps B G l vs → Reps B G (l.drop n) (vs.drop n)
  | 0, _, _, h => h
  | n + 1, [], vs, h => by rw [reps_nil.mp h]; exact reps_nil.mpr rfl
  | n + 1, d :: l, vs, h => by
    obtain ⟨v, r, rfl, _, h3⟩ := reps_cons.mp h
    exact Reps.drop (n := n) h3
theorem Reps.take : ∀ {n : Nat} {l : List D} {vs : List V}, Reps B G l vs → Reps B G (l.take n) (vs.take n)
  | 0, _, _, h => by rw [List.take_zero, List.take_zero]; exact reps_nil.mpr rfl
  | n + 1, [], vs, h => by rw [reps_nil.mp h]; exact reps_nil.mpr rfl
  | n + 1, d :: l, vs, h => by
    obtain ⟨v, r, rfl, h2, h3⟩ := reps_cons.mp h
    exact reps_cons.mpr ⟨v, r.take n, rfl, h2, Reps.take (n := n) h3⟩
variable {a b : Expr} {fa fb : M D} {p : Pos}
end
end Fe
end
section
set_option Elab.async false
set_option linter.all false
set_option maxRecDepth 100000
set_option maxHeartbeats 4000000
namespace Fe
open PySem PySem.Spec PyProof.Rows L2
section
variable {B : Bs} {G H : Hp}
theorem Reps.rep {l : List D} {vs : List V} (h : Reps B G l vs) : ∀ n : Nat, Reps B G (List.replicate n l).flatten (List.replicate n vs).flatten
  | 0 => reps_nil.mpr rfl
  | n + 1 => by
    rw [List.replicate_succ, List.replicate_succ, List.flatten_cons, List.flatten_cons]
    exact h.append (Reps.rep h n)
end
section
variable {X : Cx} {B : Bs} {c : Ct B} {W : WX} {a b : Expr} {fa fb : M D} {pos : Pos}
end
end Fe
end
section
set_option Elab.async false
set_option linter.all false
set_option maxRecDepth 100000
set_option maxHeartbeats 1000000
namespace Fe
open PySem PySem.Spec PyProof.Rows L2
/-! ### keys -/
mutual
theorem hash_nk (w : World) : ∀ {d : D} {k : NestedKey}, nk d = some k → k.hash w = hashN k
  | .non, k, h => by cases h; rfl
  | .bl b, k, h => by cases h; rfl
  | .int i, k, h => by cases h; rfl
  | .tup l, k, h => by
    obtain ⟨ks, h1, rfl⟩ := Option.map_eq_some_iff.mp h
    show reduceHash (Builtin.Tuple.tupleHashOf (NestedKey.hashes w ks)) = reduceHash (Builtin.Tuple.tupleHashOf (hashNs ks))
    rw [hash_nks w h1]
  | .str _, _, h => by cases h
  | .lst _, _, h => by cases h
  | .dct _ _, _, h => by cases h
  | .obj _ _ _, _, h => by cases h
theorem hash_nks (w : World) : ∀ {l : List D} {ks : List NestedKey}, nks l = some ks → NestedKey.hashes w ks = hashNs ks
  | [], ks, h => by cases h; rfl
  | d :: l, ks, h => by
    obtain ⟨k, h1, h2⟩ := Option.bind_eq_some_iff.mp (show ((nk d).bind fun k => (nks l).map (k :: ·)) = some ks from h)
    obtain ⟨r, h3, rfl⟩ := Option.map_eq_some_iff.mp h2
    show k.hash w :: NestedKey.hashes w r = hashN k :: hashNs r
    rw [hash_nk w h1, hash_nks w h3]
end
mutual
theorem nk_dep : ∀ {d : D} {k : NestedKey}, nk d = some k → k.depth = dep d
  | .non, k, h => by cases h; rfl
  | .bl b, k, h => by cases h; rfl
  | .int i, k, h => by cases h; rfl
  | .tup l, k, h => by
    obtain ⟨ks, h1, rfl⟩ := Option.map_eq_some_iff.mp h
    show NestedKey.depthAll ks + 1 = deps l + 1
    rw [nks_dep h1]
  | .str _, _, h => by cases h
  | .lst _, _, h => by cases h
  | .dct _ _, _, h => by cases h
  | .obj _ _ _, _, h => by cases h
theorem nks_dep : ∀ {l : List D} {ks : List NestedKey}, nks l = some ks → NestedKey.depthAll ks = deps l
  | [], ks, h => by cases h; rfl
  | d :: l, ks, h => by
    obtain ⟨k, h1, h2⟩ := Option.bind_eq_some_iff.mp (show ((nk d).bind fun k => (nks l).map (k :: ·)) = some ks from h)
    obtain ⟨r, h3, rfl⟩ := Option.map_eq_some_iff.mp h2
    show max k.depth (NestedKey.depthAll r) = max (dep d) (deps l)
    rw [nk_dep h1, nks_dep h3]
end
mutual
theorem nk_eqv : ∀ {d e : D} {a b : NestedKey}, nk d = some a → nk e = some b → eqv d e = NestedKey.beq a b
  | .non, e, a, b, h, k => by
    cases h
    cases e <;> first | (cases k; done) | (cases k; rfl) | (obtain ⟨ks, _, rfl⟩ := Option.map_eq_some_iff.mp k; rfl)
  | .bl x, e, a, b, h, k => by
    cases h
    cases e <;> first | (cases k; done) | skip
    · cases k; rfl
    · rename_i y; cases k; cases x <;> cases y <;> rfl
    · rename_i y; cases k; cases x <;> rfl
    · obtain ⟨ks, _, rfl⟩ := Option.map_eq_some_iff.mp k; rfl
  | .int x, e, a, b, h, k => by
    cases h
    cases e <;> first | (cases k; done) | skip
    · cases k; rfl
    · rename_i y; cases k; rfl
    · rename_i y; cases k; rfl
    · obtain ⟨ks, _, rfl⟩ := Option.map_eq_some_iff.mp k; rfl
  | .tup l, e, a, b, h, k => by
    obtain ⟨ks, h1, rfl⟩ := Option.map_eq_some_iff.mp h
    cases e <;> first | (cases k; done) | skip
    · cases k; rfl
    · cases k; rfl
    · cases k; rfl
    · obtain ⟨ms, h2, rfl⟩ := Option.map_eq_some_iff.mp k
      exact nks_eqv h1 h2
  | .str _, _, _, _, h, _ => by cases h
  | .lst _, _, _, _, h, _ => by cases h
  | .dct _ _, _, _, _, h, _ => by cases h
  | .obj _ _ _, _, _, _, h, _ => by cases h
theorem nks_eqv : ∀ {l m : List D} {a b : List NestedKey}, nks l = some a → nks m = some b → eqvs l m = NestedKey.beqAll a b
  | [], [], a, b, h, k => by cases h; cases k; rfl
  | [], e :: m, a, b, h, k => by
    cases h
    obtain ⟨k1, h1, h2⟩ := Option.bind_eq_some_iff.mp (show ((nk e).bind fun k => (nks m).map (k :: ·)) = some b from k)
    obtain ⟨r, h3, rfl⟩ := Option.map_eq_some_iff.mp h2
    rfl
  | d :: l, [], a, b, h, k => by
    cases k
    obtain ⟨k1, h1, h2⟩ := Option.bind_eq_some_iff.mp (show ((nk d).bind fun k => (nks l).map (k :: ·)) = some a from h)
    obtain ⟨r, h3, rfl⟩ := Option.map_eq_some_iff.mp h2
    rfl
  | d :: l, e :: m, a, b, h, k => by
    obtain ⟨k1, h1, h2⟩ := Option.bind_eq_some_iff.mp (show ((nk d).bind fun k => (nks l).map (k :: ·)) = some a from h)
    obtain ⟨r, h3, rfl⟩ := Option.map_eq_some_iff.mp h2
    obtain ⟨k2, h4, h5⟩ := Option.bind_eq_some_iff.mp (show ((nk e).bind fun k => (nks m).map (k :: ·)) = some b from k)
    obtain ⟨q, h6, rfl⟩ := Option.map_eq_some_iff.mp h5
    show (eqv d e && eqvs l m) = (NestedKey.beq k1 k2 && NestedKey.beqAll r q)
    rw [nk_eqv h1 h4, nks_eqv h3 h6]
end
mutual
theorem ky_nk : ∀ {d : D}, ky d = true → ∃ k, nk d = some k
  | .non, _ => ⟨_, rfl⟩
  | .bl b, _ => ⟨_, rfl⟩
  | .int i, _ => ⟨_, rfl⟩
  | .tup l, h => by
    obtain ⟨ks, e⟩ := kys_nks (l := l) h
    exact ⟨_, by show (nks l).map _ = _; rw [e]; rfl⟩
  | .str _, h => by cases h
  | .lst _, h => by cases h
  | .dct _ _, h => by cases h
  | .obj _ _ _, h => by cases h
theorem kys_nks : ∀ {l : List D}, kys l = true → ∃ ks, nks l = some ks
  | [], _ => ⟨_, rfl⟩
  | d :: l, h => by
    have h' : (ky d && kys l) = true := h
    rw [Bool.and_eq_true] at h'
    obtain ⟨k, e1⟩ := ky_nk h'.1
    obtain ⟨ks, e2⟩ := kys_nks h'.2
    exact ⟨k :: ks, by show ((nk d).bind fun k => (nks l).map (k :: ·)) = _; rw [e1, e2]; rfl⟩
end
theorem keyOk_nk {d : D} (h : keyOk d = true) : ∃ k, nk d = some k ∧ k.depth ≤ 8 ∧ ∃ l, d = .tup l := by
  cases d with
  | tup l =>
    have h' : (kys l && decide (dep (.tup l) ≤ 8)) = true := h
    rw [Bool.and_eq_true, decide_eq_true_eq] at h'
    obtain ⟨k, e⟩ := ky_nk (d := .tup l) h'.1
    exact ⟨k, e, by rw [nk_dep e]; exact h'.2, l, rfl⟩
  | _ => cases h
section
variable {X : Cx} {pins : List (Addr × Obj)} {σ : L2.St} {G H : Hp} {s : Shared} {B : Bs}
mutual
/-- data that is a key, as the library sees it -/
theorem nest_of (I : Inv X pins σ H s) (hK : B.K = X.K) (sG : Same G H) : ∀ {d : D} {v : V} {u : Value} {k : NestedKey}, Rep B G d v → RelV v u → nk d = some k → NestedIs s.heap k u
  | .non, v, u, k, r, rv, h => by
    cases h; rw [rep_non.mp r] at rv; cases rv; exact .none
  | .bl b, v, u, k, r, rv, h => by
    cases h; rw [rep_bl.mp r] at rv; cases rv; exact .bool rfl
  | .int i, v, u, k, r, rv, h => by
    cases h; rw [rep_int.mp r] at rv; obtain ⟨t, rfl⟩ := rv; exact .int i t
  | .tup l, v, u, k, r, rv, h => by
    obtain ⟨ks, h1, rfl⟩ := Option.map_eq_some_iff.mp h
    obtain ⟨a, vs, rfl, h2, h3⟩ := rep_tup.mp r
    obtain rfl : u = Value.ref a := rv
    rw [hK] at h2
    obtain ⟨its, q1, ⟨o, e1, e2, n, e3⟩, _⟩ := I.tuple (sqT_up sG h2)
    exact .tup e1 e2 e3 (by simpa using nests_of I hK sG h3 q1 h1)
  | .str _, _, _, _, _, _, h => by cases h
  | .lst _, _, _, _, _, _, h => by cases h
  | .dct _ _, _, _, _, _, _, h => by cases h
  | .obj _ _ _, _, _, _, _, _, h => by cases h
theorem nests_of (I : Inv X pins σ H s) (hK : B.K = X.K) (sG : Same G H) : ∀ {l : List D} {vs : List V} {us : List Value} {ks : List NestedKey}, Reps B G l vs → Vals vs us → nks l = some ks → NestedAll s.heap ks us
  | [], vs, us, ks, r, rv, h => by
    cases h; rw [reps_nil.mp r] at rv; cases rv; exact .nil
  | d :: l, vs, us, ks, r, rv, h => by
    obtain ⟨k, h1, h2⟩ := Option.bind_eq_some_iff.mp (show ((nk d).bind fun k => (nks l).map (k :: ·)) = some ks from h)
    obtain ⟨q, h3, rfl⟩ := Option.map_eq_some_iff.mp h2
    obtain ⟨v, rs, rfl, h4, h5⟩ := reps_cons.mp r
    cases rv with
    | cons r1 r2 => exact .cons (nest_of I hK sG h4 r1 h1) (nests_of I hK sG h5 r2 h3)
end
end
/-! ### a dict in the heap -/
abbrev DcP : List (NestedKey × Addr × V) → List (NestedKey × Addr × Value) → Prop := Paired fun p q => p.1 = q.1 ∧ p.2.1 = q.2.1 ∧ RelV p.2.2 q.2.2
section
variable {X : Cx} {pins : List (Addr × Obj)} {σ : L2.St} {G H : Hp} {s : Shared} {B : Bs} {a : Addr} {xs : List (NestedKey × Addr × V)} {us : List (NestedKey × Addr × Value)} {ks vs : List D}
theorem nks_cons {d : D} {l : List D} {ms : List NestedKey} (h : nks (d :: l) = some ms) : ∃ k r, nk d = some k ∧ nks l = some r ∧ ms = k :: r := by
  obtain ⟨k, h1, h2⟩ := Option.bind_eq_some_iff.mp (show ((nk d).bind fun k => (nks l).map (k :: ·)) = some ms from h)
  obtain ⟨r, h3, rfl⟩ := Option.map_eq_some_iff.mp h2
  exact ⟨k, r, h1, h3, rfl⟩
/-- its keys are keys -/
theorem dc_keys (I : Inv X pins σ H s) (hK : B.K = X.K) (sG : Same G H) : ∀ {ks : List D} {xs : List (NestedKey × Addr × V)} {us : List (NestedKey × Addr × Value)}, DcP xs us → nks ks = some (xs.map (·.1)) → (∀ k ∈ xs.map (·.1), NestedKey.depth k ≤ 8) → Reps B G ks (xs.map fun x => .ref x.2.1) →
    (∀ x ∈ us, (nestedKind X.prog X.w).is s.heap x.1 x.2.1) ∧ ∀ x ∈ us, NestedKey.hash X.w x.1 = hashN x.1
  | ks, [], us, r, _, _, _ => by cases r; exact ⟨fun x h => (nomatch h), fun x h => (nomatch h)⟩
  | ks, x :: xs, us, r, h, hd, hr => by
    cases ks with
    | nil => cases h
    | cons d ks =>
      obtain ⟨k, q, h1, h2, h3⟩ := nks_cons h
      rw [List.map_cons] at h3
      obtain ⟨rfl, rfl⟩ := List.cons.inj h3
      obtain ⟨v, vs, e, h4, h5⟩ := reps_cons.mp hr
      rw [List.map_cons] at e
      obtain ⟨rfl, rfl⟩ := List.cons.inj e
      cases r with
      | @cons _ y _ ys p t =>
        obtain ⟨a1, a2⟩ := dc_keys I hK sG t h2 (fun k hk => hd k (List.mem_cons_of_mem _ hk)) h5
        obtain ⟨p1, p2, p3⟩ := p
        refine ⟨fun z hz => ?_, fun z hz => ?_⟩
        · rcases List.mem_cons.mp hz with rfl | hz
          · rw [← p1, ← p2]
            exact ⟨nest_of I hK sG h4 (rfl : RelV (.ref x.2.1) (.ref x.2.1)) h1, hd _ (by rw [List.map_cons]; exact .head _)⟩
          · exact a1 z hz
        · rcases List.mem_cons.mp hz with rfl | hz
          · rw [← p1]; exact hash_nk X.w h1
          · exact a2 z hz
/-- the dict as the library sees it -/
theorem dict_of (I : Inv X pins σ H s) (hK : B.K = X.K) (sG : Same G H) (e : Rd H a (DcO a xs)) (h1 : nks ks = some (xs.map (·.1))) (h2 : ∀ k ∈ xs.map (·.1), NestedKey.depth k ≤ 8) (h3 : Reps B G ks (xs.map fun x => .ref x.2.1)) :
    xs.length ≤ sizeLine ∧ (a == sysModules) = false ∧ ∃ us, DcP xs us ∧ s.heap.DictOfH (nestedKind X.prog X.w) a us := by
  obtain ⟨⟨z, hd, us, r, o, es, ep, q1, q2, q3, q4, q5⟩, _⟩ := (show ObjOk X.prog X.w H s.heap a (DcO a xs) from rd_of I.hok e)
  obtain ⟨k1, k2⟩ := dc_keys I hK sG r h1 h2 h3
  refine ⟨z, hd, us, r, o, es, ep, q1, q2, q3, ?_, k1, q5⟩
  rw [q4]
  refine List.map_congr_left fun x hx => ?_
  unfold entryOfKey
  show (⟨hashN x.1, _, _⟩ : DictEntry) = ⟨NestedKey.hash X.w x.1, _, _⟩
  rw [k2 x hx]
/-- where a key stands -/
theorem key_at {κ : NestedKey} {kd : D} (hk : nk kd = some κ) : ∀ {ks : List D} {xs : List (NestedKey × Addr × V)} {us : List (NestedKey × Addr × Value)}, DcP xs us → nks ks = some (xs.map (·.1)) → atKey us κ = (keyAt ks kd).bind fun i => (us[i]?).map (·.2)
  | [], xs, us, r, h => by
    cases xs with
    | nil => cases r; rfl
    | cons x xs => cases h
  | d :: ks, [], us, r, h => by
    obtain ⟨k, q, _, _, h3⟩ := nks_cons h
    cases h3
  | d :: ks, x :: xs, us, r, h => by
    obtain ⟨k, q, h1, h2, h3⟩ := nks_cons h
    rw [List.map_cons] at h3
    obtain ⟨rfl, rfl⟩ := List.cons.inj h3
    cases r with
    | @cons _ y _ ys p t =>
      have ih := key_at hk t h2
      unfold keyAt
      rw [List.findIdx?_cons, nk_eqv h1 hk, ← NestedKey.decide_eq]
      unfold atKey
      rw [List.find?_cons, ← p.1]
      by_cases e : x.1 = κ
      · rw [decide_eq_true e]
        rfl
      · rw [decide_eq_false e]
        show atKey ys κ = _
        rw [ih]
        show _ = ((keyAt ks kd).map (· + 1)).bind _
        cases keyAt ks kd with
        | none => rfl
        | some i => rfl
theorem dcp_get (r : DcP xs us) {i : Nat} {x : NestedKey × Addr × V} (h : xs[i]? = some x) : ∃ y, us[i]? = some y ∧ x.1 = y.1 ∧ x.2.1 = y.2.1 ∧ RelV x.2.2 y.2.2 := by
  induction r generalizing i with
  | nil => cases h
  | @cons p q ps qs hd t ih =>
    cases i with
    | zero => cases h; exact ⟨q, rfl, hd⟩
    | succ i => exact ih (i := i) (by simpa using h)
theorem keyAt_lt {ks : List D} {kd : D} {i : Nat} (h : keyAt ks kd = some i) : i < ks.length := by
  unfold keyAt at h
  exact (List.findIdx?_eq_some_iff_getElem.mp h).1
theorem dcp_len (r : DcP xs us) : xs.length = us.length := Paired.length r
/-- k in d -/
theorem dc_in {A : Around} {E : Value → Shared → Prop} {kd : D} {y : V} {u : Value} {b : Bool} {Q : Value → Shared → Prop} (hu : A.units + 9 < cLine) (I : Inv X pins σ H s) (hK : B.K = X.K) (sG : Same G H) (e : Rd H a (DcO a xs)) (h1 : nks ks = some (xs.map (·.1)))
    (h2 : ∀ k ∈ xs.map (·.1), NestedKey.depth k ≤ 8) (h3 : Reps B G ks (xs.map fun x => .ref x.2.1)) (rk : Rep B G kd y) (ry : RelV y u) (hb : dctIn ks kd = some b) (h : ∀ s', Inv X pins σ H s' → Q (.bool b) s') : wpAny (model X.prog X.w) A (compareOp .In u (.ref a)) Q E s := by
  unfold dctIn at hb
  split at hb
  case isFalse => cases hb
  rename_i ok
  cases hb
  obtain ⟨κ, k1, k2, l, rfl⟩ := keyOk_nk ok
  obtain ⟨ka, ws, rfl, _⟩ := rep_tup.mp rk
  obtain rfl : u = Value.ref ka := ry
  obtain ⟨z, hd, us, r, dd⟩ := dict_of I hK sG e h1 h2 h3
  refine wpAny_in_heap (knd := nestedKind X.prog X.w) (k := κ) (show A.units + 1 + 8 < cLine by omega) ⟨nest_of I hK sG rk rfl k1, k2⟩ hd dd ?_
  rw [key_at k1 r h1]
  have e2 : ((keyAt ks (.tup l)).bind fun i => (us[i]?).map (·.2)).isSome = (keyAt ks (.tup l)).isSome := by
    cases q : keyAt ks (.tup l) with
    | none => rfl
    | some i =>
      have lt := keyAt_lt q
      have hl : ks.length = us.length := by
        have := h3.len
        rw [List.length_map] at this
        rw [← this, dcp_len r]
      show ((us[i]?).map (·.2)).isSome = true
      rw [List.getElem?_eq_getElem (by omega)]; rfl
  rw [e2]
  exact h _ (I.tok _)
/-- what is found at a key -/
theorem dc_val {d : D} (r : DcP xs us) (h4 : Reps B G vs (xs.map (·.2.2))) {i : Nat} (hv : vs[i]? = some d) : ∃ y v, us[i]? = some y ∧ Rep B G d v ∧ RelV v y.2.2 := by
  obtain ⟨v, q1, q2⟩ := h4.get hv
  rw [List.getElem?_map] at q1
  obtain ⟨x, q3, rfl⟩ := Option.map_eq_some_iff.mp q1
  obtain ⟨y, q4, _, _, q5⟩ := dcp_get r q3
  exact ⟨y, _, q4, q2, q5⟩
end
end Fe
end
section
set_option Elab.async false
set_option linter.all false
set_option maxRecDepth 100000
set_option maxHeartbeats 1000000
namespace Fe
open PySem PySem.Spec PyProof.Rows L2
section
variable {X : Cx} {pins : List (Addr × Obj)} {σ : L2.St} {G H : Hp} {s : Shared} {B : Bs} {a : Addr} {xs : List (NestedKey × Addr × V)} {us : List (NestedKey × Addr × Value)} {ks vs : List D}
/-- d[k] -/
theorem dc_getItem {A : Around} {E : Value → Shared → Prop} {kd d : D} {y : V} {u : Value} (hu : A.units + 9 < cLine) (I : Inv X pins σ H s) (hK : B.K = X.K) (sG : Same G H) (e : Rd H a (DcO a xs)) (h1 : nks ks = some (xs.map (·.1)))
    (h2 : ∀ k ∈ xs.map (·.1), NestedKey.depth k ≤ 8) (h3 : Reps B G ks (xs.map fun x => .ref x.2.1)) (h4 : Reps B G vs (xs.map (·.2.2))) (rk : Rep B G kd y) (ry : RelV y u) (hb : dctGet ks vs kd = some d) :
    ∃ v w, Rep B G d v ∧ RelV v w ∧ s.TypeIs (.ref a) "dict" ∧ ∀ Q : Value → Shared → Prop, (∀ s', Inv X pins σ H s' → Q w s') → wpAny (model X.prog X.w) A (getItem (.ref a) u) Q E s := by
  unfold dctGet at hb
  split at hb
  case isFalse => cases hb
  rename_i ok
  obtain ⟨κ, k1, k2, l, rfl⟩ := keyOk_nk ok
  obtain ⟨ka, ws, rfl, _⟩ := rep_tup.mp rk
  obtain rfl : u = Value.ref ka := ry
  obtain ⟨z, hd, us, rr, dd⟩ := dict_of I hK sG e h1 h2 h3
  obtain ⟨i, q1, q2⟩ := Option.bind_eq_some_iff.mp hb
  obtain ⟨w, v, e1, rv, ru⟩ := dc_val rr h4 q2
  refine ⟨v, w.2.2, rv, ru, dd.typeIs, fun Q h => wpAny_getItem_heap (knd := nestedKind X.prog X.w) (k := κ) (p := w.2) (show A.units + 1 + 8 < cLine by omega) ⟨nest_of I hK sG rk rfl k1, k2⟩ dd ?_ (h _ (I.tok _))⟩
  rw [key_at k1 rr h1, q1]
  show (us[i]?).map _ = _
  rw [e1]; rfl
end
end Fe
end
section
set_option Elab.async false
set_option linter.all false
set_option maxRecDepth 100000
set_option maxHeartbeats 1000000
namespace Fe
open PySem PySem.Spec PyProof.Rows L2
/-- a dict stands at a -/
def DAt (B : Bs) (G H : Hp) (a : Addr) (ks vs : List D) : Prop := ∃ xs, Rd H a (DcO a xs) ∧ nks ks = some (xs.map (·.1)) ∧ (∀ k ∈ xs.map (·.1), NestedKey.depth k ≤ 8) ∧ Reps B G ks (xs.map fun x => .ref x.2.1) ∧ Reps B G vs (xs.map (·.2.2))
section
variable {X : Cx} {B : Bs} {c : Ct B} {W : WX} {G H : Hp} {a b e o : Expr} {fa fb fe : M D} {pos p1 p2 q1 q2 : Pos} {acc : Acc} {ks vs : List D} {x : Str}
theorem dAt_rep (s : Same G H) {v : V} (r : Rep B G (.dct ks vs) v) : ∃ a, v = .ref a ∧ DAt B G H a ks vs := by
  obtain ⟨a, od, xs, rfl, h1, h2⟩ := rep_dct.mp r
  exact ⟨a, rfl, xs, .inr ⟨od, s _ _ h1⟩, h2⟩
def rInC (B : Bs) : R2 := fun x y H Q => ∃ G k a ks vs b, Same G H ∧ Rep B G k x ∧ y = .ref a ∧ DAt B G H a ks vs ∧ dctIn ks k = some b ∧ Q (.bl b) H
theorem op_inC (hu : X.A.units + 9 < cLine) (hK : B.K = X.K) : OpR X (compareOp .In) (rInC B) := by
  intro pins s σ H x y v u Q I rx ry ⟨G, k, a, ks, vs, b, sG, rk, ey, ⟨xs, h0, h1, h2, h3, h4⟩, hb, q⟩
  subst ey
  obtain rfl : u = Value.ref a := ry
  exact dc_in hu I hK sG h0 h1 h2 h3 rk rx hb fun s' I' => ⟨.bl b, H, I', rfl, q⟩
def rIxC (B : Bs) : R2 := fun x y H Q => ∃ G k a ks vs d, Same G H ∧ Rep B G k y ∧ x = .ref a ∧ DAt B G H a ks vs ∧ dctGet ks vs k = some d ∧ ∀ v, Rep B G d v → Q v H
theorem ix_dc (hu : X.A.units + 9 < cLine) (hK : B.K = X.K) : IxR X (rIxC B) := by
  intro value slice pins s σ H x y v u Q I rx ry ⟨G, k, a, ks, vs, d, sG, rk, ex, ⟨xs, h0, h1, h2, h3, h4⟩, hb, q⟩ hs
  subst ex
  obtain rfl : v = Value.ref a := rx
  obtain ⟨z, w, rz, rw', ht, fin⟩ := dc_getItem (A := X.A) (E := X.xe) hu I hK sG h0 h1 h2 h3 h4 rk ry hb
  exact subscriptTail_builtinR (x := w) ht PySem.F.slot_dict_getitem.lookup (fin _ fun s' I' => ⟨rfl, z, H, I', rw', q z rz⟩) hs
theorem room9 {A : Around} {k : Nat} (hr : Room (k + 1) A) : A.units + 9 < cLine := by have := hr.un; omega
/-! pure: x in d, d[k] -/
theorem rule_inA : Rule2 B (fun x y H Q => (rInT B.K x y H Q ∨ rInD B.K x y H Q) ∨ rInC B x y H Q) (mbl dInA) := by
  intro G H d e z x y Q s n rx ry h k
  cases e with
  | dct ks vs =>
    obtain ⟨b, hb, rfl⟩ := mbl_some h
    obtain ⟨a, rfl, da⟩ := dAt_rep s ry
    exact .inr ⟨G, d, a, ks, vs, b, s, rx, rfl, da, hb, k _ _ _ (New.refl s n) (rep_bl.mpr rfl)⟩
  | _ => exact .inl (rule_in G H d _ z x y Q s n rx ry h k)
theorem rule_ixA : Rule2 B (fun x y H Q => (rIxL B.K x y H Q ∨ rIxT B.K x y H Q) ∨ rIxC B x y H Q) dIxA := by
  intro G H d e z x y Q s n rx ry h k
  cases d with
  | dct ks vs =>
    obtain ⟨a, rfl, da⟩ := dAt_rep s rx
    exact .inr ⟨G, e, a, ks, vs, z, s, ry, rfl, da, h, fun v rv => k _ _ _ (New.refl s n) rv⟩
  | _ => exact .inl (rule_ix G H _ e z x y Q s n rx ry h k)
theorem t_inA {k : Nat} (hr : Room (k + 1) X.A) (ha : PE X a (dE c W fa)) (hb : PE X b (dE c W fb)) (hm : behindInMarks .In b = false := by rfl) (hK : B.K = X.K := by rfl) : PT X (.Compare a [.In] [b] pos) (dT c W (tsb (cmp dInA fa fb))) := t_cmp (((op_inT (room65 hr)).or (op_inD (room65 hr))).or (op_inC (room9 hr) hK)) (by rw [← hK]; exact rule_inA) ha hb hm
theorem e_ixA {k : Nat} (hr : Room (k + 1) X.A) (ha : PE X a (dE c W fa)) (hb : PE X b (dE c W fb)) (hs : PlainIx b := by exact fun _ _ => rfl) (hK : B.K = X.K := by rfl) : PE X (.Subscript a b pos) (dE c W (op2 dIxA fa fb)) :=
  peI (pe_ix ((ix_list.or ix_tup).or (ix_dc (room9 hr) hK)) ha hb hs) fun _ _ _ h => use2 (by rw [← hK]; exact rule_ixA) h
end
end Fe
end
section
set_option Elab.async false
set_option linter.all false
set_option maxRecDepth 100000
set_option maxHeartbeats 1000000
namespace Fe
open PySem PySem.Spec PyProof.Rows L2
section
variable {B : Bs} {c : Ct B} {G H : Hp} {σ : L2.St} {ρ : Env}
end
section
variable {X : Cx} {B : Bs} {c : Ct B} {W : WX} {a b e o : Expr} {fa fb fe : M D} {pos p1 p2 q1 q2 : Pos} {acc : Acc} {x : Str}
end
section
variable {P : Program} {w : World} {K : PySem.W.Frag} {tg : Expr} {d : Addr} {o : Obj} {es : Array DictEntry} {ep : Nat} {xs : List (NestedKey × Addr × V)}
def ItC (d : Addr) (o : Obj) (xs : List (NestedKey × Addr × V)) : It :=
  ⟨fun i H => H d = some (.frz o (DcO d xs)) ∧ i < xs.length, fun i H x H' => H' = H ∧ ∃ k a v, xs[i]? = some (k, a, v) ∧ x = .ref a, fun i H => H d = some (.frz o (DcO d xs)) ∧ xs.length ≤ i⟩
theorem frzC {X : Cx} {pins : List (Addr × Obj)} {σ : L2.St} {H : Hp} {s : Shared} (I : Inv X pins σ H s) (h : H d = some (.frz o (DcO d xs))) :
    (d == sysModules) = false ∧ s.heap.get? d = some o ∧ o.ExactDict ∧ ∃ (es : Array DictEntry) (ep : Nat), o.data = .dict es ep ∧ es.size = xs.length ∧
      ∀ (i : Nat) (k : NestedKey) (a : Addr) (v : V), xs[i]? = some (k, a, v) → ∃ en : DictEntry, es[i]? = some en ∧ en.key = .ref a := by
  obtain ⟨hd, ⟨z, hs, us, pr, o', es, ep, ho, hx, hdt, he, _⟩, _⟩ := (show ObjOk X.prog X.w H s.heap d (.frz o (DcO d xs)) from I.hok d _ h)
  rw [hd] at ho
  cases ho
  refine ⟨hs, hd, hx, es, ep, hdt, ?_, fun i k a v e => ?_⟩
  · have l1 : es.toList.length = us.length := by rw [he, List.length_map]
    rw [Array.length_toList] at l1
    rw [l1, ← dcp_len pr]
  · obtain ⟨y, hy, e1, e2, _⟩ := dcp_get pr e
    refine ⟨⟨hashN y.1, .ref y.2.1, y.2.2⟩, ?_, by show Value.ref y.2.1 = _; rw [← e2]⟩
    rw [← Array.getElem?_toList, he, List.getElem?_map, hy]; rfl
theorem turn_keysC (it : Addr) (hod : o.data = .dict es ep) : Turn P w K tg (ItC d o xs) [it] it (fun i h => h.IsKeyIter it d i xs.length ep) where
  mem := by simp
  obj := fun i h st b hb => by
    have e : b = it := by simpa using hb
    subst e
    obtain ⟨oi, e, c, dd⟩ := st
    exact ⟨oi, e, fun v z => by rw [dd] at z; cases z⟩
  keep := fun i h h' st k => st.at fun oi e => k it (by simp) oi e
  item := by
    intro X hP hw hK hc i pins s σ H E I hf st hg
    subst hP hw hK
    obtain ⟨hd, hi⟩ := hg
    obtain ⟨f0, f1, f2, f3, f4, f5⟩ := hf it (by simp)
    obtain ⟨hs, hgd, hx, es', ep', hdt, hsz, ent⟩ := frzC I hd
    obtain ⟨rfl, rfl⟩ := dict_ep hod hdt
    obtain ⟨⟨k, a, v⟩, hkv⟩ : ∃ p, xs[i]? = some p := ⟨xs[i], List.getElem?_eq_getElem hi⟩
    obtain ⟨en, hen, hkey⟩ := ent i k a v hkv
    refine next_key_item st hgd hdt hsz hen fun h' st' sb => ?_
    have I1 : Inv X pins σ H { s with heap := h' } := I.turned (t' := s.toks) (fun b ob hb e => (sb.2 b hb).trans e) f0 f1 f3 f4 f5
    obtain ⟨oi, e, c, dd⟩ := id st'
    exact ⟨en.key, rfl, go_of (s := { s with heap := h' }) e c dd (by decide) ⟨.ref a, H, I1, hkey, ⟨rfl, k, a, v, hkv, rfl⟩, st', fun b hb => (hf b hb).1⟩⟩
  done := by
    intro X hP hw hK hc i pins s σ H E I hf st hg
    subst hP hw hK
    obtain ⟨hd, hi⟩ := hg
    obtain ⟨f0, f1, f2, f3, f4, f5⟩ := hf it (by simp)
    obtain ⟨hs, hgd, hx, es', ep', hdt, hsz, ent⟩ := frzC I hd
    obtain ⟨rfl, rfl⟩ := dict_ep hod hdt
    exact next_key_end (I.ok.hd hc) st hgd hdt hsz hi fun h' eb => ⟨rfl, I.turned (t' := s.toks) (fun b ob hb e => eb b ob hb e) f0 f1 f3 f4 f5⟩
  self := fun A i s Q E st h => by
    refine wpAny_pyIter_slot st.typeIs F.slot_dict_keyiterator_iter (wpAny_call_entry F.slot_dict_keyiterator_iter st.typeIs F.entry_dict_keyiterator_iter ?_ (F.args_dict_keyiterator_iter_1 _))
    show wpAny _ _ (PySem.ret (.ref it)) _ _ s
    exact wpAny_pure ⟨_, rfl, "dict_keyiterator", _, st.typeIs, F.slot_dict_keyiterator_next.lookup, h⟩
def iKeysC (td : TE) : TI := fun σ H R => td σ H fun x H1 => ∃ d o xs, x = .ref d ∧ H1 d = some (.frz o (DcO d xs)) ∧ R (ItC d o xs) H1
theorem pi_keysC {X : Cx} {e : Expr} {td : TE} (he : PE X e td) : PI X tg e (iKeysC td) := by
  refine ⟨fun pins s σ H R I h => ?_⟩
  refine thn (he.run pins s σ H _ I h) fun u s1 ⟨x, H1, I1, rx, d, o, xs, ex, hd, q⟩ => ?_
  subst ex
  obtain rfl : u = Value.ref d := rx
  obtain ⟨hs, hgd, hx, es, ep, hdt, hsz, ent⟩ := frzC I1 hd
  refine iter_keys hs hgd hx hdt (pi_one (tk := s1.toks) I1 _ (turn_keysC _ hdt) ⟨_, Heap.get?_push_size _ rfl, rfl, ?_⟩ q)
  rw [hsz] <;> rfl
theorem goes_keys {B : Bs} {G : Hp} {a : Addr} {od : Obj} {xs : List (NestedKey × Addr × V)} {ks : List D} (h : G a = some (.frz od (DcO a xs))) (r : Reps B G ks (xs.map fun x => .ref x.2.1)) : Goes B G (ItC a od xs) ks := by
  have hl : ks.length = xs.length := by
    have := r.len
    rw [List.length_map] at this
    exact this.symm
  refine ⟨fun i H s hi => ⟨s _ _ h, by rw [← hl]; exact hi⟩, fun H s => ⟨s _ _ h, Nat.le_of_eq hl.symm⟩, fun i H x H' s ⟨e, k, b, v, hx, ex⟩ hi G1 s1 s2 n => ?_⟩
  subst e ex
  obtain ⟨u, hu, ru⟩ := r.get (List.getElem?_eq_getElem hi)
  rw [List.getElem?_map, hx] at hu
  cases hu
  exact ⟨G1, _, New.refl s2 n, List.getElem?_eq_getElem hi, Rep.mono s1 ru⟩
end
section
variable {X : Cx} {B : Bs} {c : Ct B} {W : WX} {a tg : Expr} {fa : M D}
/-- a walk over a list, a tuple, a dict's keys -/
theorem i_seqA (ha : PE X a (dE c W fa)) (hK : B.K = X.K := by rfl) : PI X tg a (dI c W (itmA fa)) := by
  refine ⟨fun pins s σ H R I ⟨G, ρ, g, p⟩ => ?_⟩
  unfold itmA bnd at p
  revert p
  cases hf : fa ρ with
  | no => exact False.elim
  | ex x ρ' => exact fun p => (pi_list (tg := tg) ha).run pins s σ H R I ⟨G, ρ, g, by rw [hf]; exact p⟩
  | ok d ρ' =>
    cases d with
    | non => exact False.elim
    | bl b => exact False.elim
    | int b => exact False.elim
    | str b => exact False.elim
    | obj _ _ _ => exact False.elim
    | dct ks vs =>
      intro p
      refine (pi_keysC (tg := tg) ha).run pins s σ H R I ⟨G, ρ, g, ?_⟩
      rw [hf]
      intro v H1 G1 s1 g1 r
      obtain ⟨a, od, xs, rfl, h1, h2, h3, h4, h5⟩ := rep_dct.mp r
      exact ⟨a, od, xs, rfl, g1.gh _ _ h1, p _ H1 G1 s1 g1 (goes_keys h1 h4)⟩
    | lst l =>
      intro p
      refine (pi_list (tg := tg) ha).run pins s σ H R I ⟨G, ρ, g, ?_⟩
      rw [hf]
      intro v H1 G1 s1 g1 r
      obtain ⟨a, vs, rfl, h1, h2⟩ := rep_lst.mp r
      rw [← hK]
      exact ⟨a, rfl, ⟨vs, sqL_up g1.gh h1⟩, p _ H1 G1 s1 g1 (goes_list h1 h2)⟩
    | tup l =>
      intro p
      refine (pi_tup (tg := tg) ha).run pins s σ H R I ⟨G, ρ, g, ?_⟩
      rw [hf]
      intro v H1 G1 s1 g1 r
      obtain ⟨a, vs, rfl, h1, h2⟩ := rep_tup.mp r
      rw [← hK]
      exact ⟨a, rfl, ⟨vs, sqT_up g1.gh h1⟩, p _ H1 G1 s1 g1 (goes_tup h1 h2)⟩
end
end Fe
end
section
set_option Elab.async false
set_option linter.all false
set_option maxRecDepth 100000
set_option maxHeartbeats 1000000
namespace Fe
open PySem (Str)
section
variable {σ τ ω α β : Type}
/-- what an item of a comprehension gives -/
def itP (t : Ms σ Bool) (e : Ms σ D) : Ms σ (List D) := bnd t fun k => if k = true then bnd e fun y => ret [y] else ret []
def it1 (e : Ms σ D) : Ms σ (List D) := bnd e fun y => ret [y]
def cmpP (f : D → Ms σ (List D)) : List D → Ms σ (List D)
  | [] => ret []
  | x :: l => bnd (f x) fun a => bnd (cmpP f l) fun b => ret (a ++ b)
/-- no error is told of -/
def nox (m : Ms σ α) : Ms σ α := fun s => match m s with
  | .ex _ _ => .no
  | r => r
def lcP (it : Ms σ (List D)) (f : D → Ms σ (List D)) : Ms σ D := bnd it fun l => bnd (nox (cmpP f l)) fun r => if r.length ≤ lim then ret (.lst r) else nog
def un2 (x : D) (k : D → D → Ms σ α) : Ms σ α := match x with
  | .tup [a, b] => k a b
  | _ => nog
def un3 (x : D) (k : D → D → D → Ms σ α) : Ms σ α := match x with
  | .tup [a, b, c] => k a b c
  | _ => nog
def un7 (x : D) (k : D → D → D → D → D → D → D → Ms σ α) : Ms σ α := match x with
  | .tup [a, b, c, d, e, f, g] => k a b c d e f g
  | _ => nog
def ifC (t : Ms σ Bool) (a b : Ms σ α) : Ms σ α := bnd t fun k => if k = true then a else b
def forN (f : D → τ → Ms σ τ) : List D → τ → Ms σ τ
  | [], t => ret t
  | x :: l, t => bnd (f x t) fun t' => forN f l t'
/-- how a turn ends -/
inductive Lp (τ : Type) where
  | nx (t : τ) | bk (t : τ) | rt (d : D)
def forX (f : D → τ → Ms σ (Lp τ)) : List D → τ → Ms σ (Lp τ)
  | [], t => ret (.nx t)
  | x :: l, t => bnd (f x t) fun r => match r with
    | .nx t' => forX f l t'
    | .bk t' => ret (.nx t')
    | .rt d => ret (.rt d)
def lpK (r : Lp τ) (k : τ → Ms σ ω) (kr : D → Ms σ ω) : Ms σ ω := match r with
  | .nx t => k t
  | .bk t => k t
  | .rt d => kr d
def whN (t : τ → Ms σ Bool) (b : τ → Ms σ τ) : Nat → τ → Ms σ τ
  | 0, _ => nog
  | n + 1, x => bnd (t x) fun k => if k = true then bnd (b x) fun y => whN t b n y else ret x
def extP (l : D) (e : Ms σ D) : Ms σ D := match l with
  | .lst xs => bnd e fun x => match x with
    | .lst ys => if xs.length + ys.length ≤ lim then ret (.lst (xs ++ ys)) else nog
    | _ => nog
  | _ => nog
def ninP (d : D) (k : Ms σ D) : Ms σ D := bnd k fun x => match d with
  | .dct ks _ => lft ((dctIn ks x).map fun b => .bl (!b))
  | _ => nog
def setDP (d : D) (k e : Ms σ D) : Ms σ D := bnd e fun x => match d with
  | .dct ks vs => bnd k fun i => lft (dctSet ks vs i x)
  | _ => nog
/-- a call that changes the state, a list -/
def cloS (f : C → List D → FO) (a : Ms D (List D)) : Ms D D := bnd a fun l => fun s => match f (.o s) l with
  | .ok d (.o s') => .ok d s'
  | _ => .no
def isL (m : Ms D β) : Ms D β := fun s => match s with
  | .lst _ => m s
  | _ => .no
def ixS (k : Ms D D) : Ms D D := isL (bnd k fun i => fun s => match s with
  | .lst xs => lft (dIx (.lst xs) i) s
  | _ => .no)
def setS (k e : Ms D D) : Ms D Unit := bnd e fun x => isL (bnd k fun i => fun s => match s, i with
  | .lst xs, .int i => (match ixN xs.length i with
    | some j => .ok () (.lst (xs.set j x))
    | none => .no)
  | _, _ => .no)
def putS (x : D) : Ms D Unit := fun _ => .ok () x
end
/-! ### what is known of the slots -/
def ownC : C → Bool
  | .o _ => true
  | .ob _ _ _ => true
  | _ => false
inductive KE (σ : Type) where
  | junk | nown | p (d : D) | oc (d : D) | os (f : σ → D)
  /-- a thing of one's own as the state has it; a field's list or dict by another name -/
  | ost (f : σ → C) | ali (f : Str)
def KE.ok {σ : Type} : KE σ → σ → Option C → Prop
  | .junk, _, _ => True
  | .nown, _, x => isO x = false
  | .p d, _, x => x = some (.p d)
  | .oc d, _, x => x = some (.o d)
  | .os f, s, x => x = some (.o (f s))
  | .ost f, s, x => ownC (f s) = true → x = some (f s)
  | .ali f, _, x => x = some (.al f)
structure Kn {σ : Type} (K : List (KE σ)) (s : σ) (ρ : Env) : Prop where
  len : ρ.length = K.length
  at' : ∀ (i : Nat) (k : KE σ), K[i]? = some k → k.ok s (get ρ i)
def SimR {σ α β : Type} (K : List (KE σ)) (m : M α) (p : Ms σ β) (post : α → β → σ → Env → Prop) : Prop := ∀ s ρ, Kn K s ρ → match p s with
  | .ok b s' => ∃ a ρ', m ρ = .ok a ρ' ∧ post a b s' ρ'
  | .ex x s' => ∃ ρ', m ρ = .ex x ρ' ∧ Kn K s' ρ'
  | .no => True
abbrev keep {σ α : Type} (K : List (KE σ)) : α → α → σ → Env → Prop := fun a b s ρ => a = b ∧ Kn K s ρ
abbrev SimE {σ α : Type} (K : List (KE σ)) (m : M α) (p : Ms σ α) : Prop := SimR K m p (keep K)
/-- a statement: an error's state does not matter -/
def SimT {σ β : Type} (K : List (KE σ)) (m : S) (p : Ms σ β) (post : Fl → β → σ → Env → Prop) : Prop := ∀ s ρ, Kn K s ρ → match p s with
  | .ok b s' => ∃ a ρ', m ρ = .ok a ρ' ∧ post a b s' ρ'
  | .ex x _ => ∃ ρ', m ρ = .ex x ρ'
  | .no => True
section
variable {σ α β γ δ : Type} {K K' : List (KE σ)} {s : σ} {ρ : Env}
theorem Kn.look (k : Kn K s ρ) {i : Nat} {e : KE σ} (h : K[i]? = some e) : e.ok s (get ρ i) := k.at' i e h
theorem Kn.set (k : Kn K s ρ) {i : Nat} {e : KE σ} {x : Option C} (h : e.ok s x) : Kn (K.set i e) s (ρ.set i x) := by
  refine ⟨by rw [List.length_set, List.length_set, k.len], fun j e' hj => ?_⟩
  unfold Fe.get
  by_cases hij : i = j
  · subst hij
    by_cases hl : i < K.length
    · rw [List.getElem?_set_self hl] at hj
      cases hj
      rw [List.getElem?_set_self (by rw [k.len]; exact hl)]
      exact h
    · rw [List.getElem?_eq_none (by simpa using hl)] at hj
      cases hj
  · rw [List.getElem?_set_ne hij] at hj ⊢
    exact k.at' j e' hj
/-! weaker knowledge -/
inductive SubE : KE σ → KE σ → Prop where
  | same {k} : SubE k k
  | pn {d} : SubE (.p d) .nown
  | junk {k} : SubE k .junk
theorem SubE.ok {a b : KE σ} (h : SubE a b) {s : σ} {x : Option C} (k : a.ok s x) : b.ok s x := by
  cases h with
  | same => exact k
  | pn =>
    have k' : x = some (.p _) := k
    rw [k']; rfl
  | junk => exact True.intro
inductive Subs : List (KE σ) → List (KE σ) → Prop where
  | nil : Subs [] []
  | cons {a b as bs} : SubE a b → Subs as bs → Subs (a :: as) (b :: bs)
theorem Subs.len {A B : List (KE σ)} (h : Subs A B) : A.length = B.length := by
  induction h with
  | nil => rfl
  | cons _ _ ih => rw [List.length_cons, List.length_cons, ih]
theorem Subs.get {A B : List (KE σ)} (h : Subs A B) : ∀ {i : Nat} {b : KE σ}, B[i]? = some b → ∃ a, A[i]? = some a ∧ SubE a b := by
  induction h with
  | nil => intro i b e; cases e
  | cons h1 _ ih =>
    intro i b e
    cases i with
    | zero => cases e; exact ⟨_, rfl, h1⟩
    | succ i => exact ih (i := i) (by simpa using e)
theorem Kn.sub (k : Kn K s ρ) (h : Subs K K') : Kn K' s ρ := ⟨by rw [k.len, h.len], fun i e hi => by
  obtain ⟨a, h1, h2⟩ := h.get hi
  exact h2.ok (k.at' i a h1)⟩
/-! ### expressions -/
theorem sm_ret {a : α} : SimE K (Fe.ret a) (Fe.ret a) := fun s ρ k => ⟨a, ρ, rfl, rfl, k⟩
theorem sm_nog {m : M α} : SimE K m nog := fun s ρ k => True.intro
theorem sm_vr {i : Nat} {d : D} (h : K[i]? = some (.p d)) : SimE K (vr i) (Fe.ret d) := fun s ρ k => by
  have e : get ρ i = some (.p d) := k.look h
  exact ⟨d, ρ, by unfold vr; rw [e], rfl, k⟩
theorem sm_bndR {m : M α} {p : Ms σ α} {k : α → M β} {q : α → Ms σ γ} {post : β → γ → σ → Env → Prop} (h : SimE K m p) (h2 : ∀ a, SimR K (k a) (q a) post) : SimR K (bnd m k) (bnd p q) post := fun s ρ kn => by
  have := h s ρ kn
  unfold bnd
  revert this
  cases hp : p s with
  | no => exact fun _ => True.intro
  | ex x s' => exact fun ⟨ρ', e, k'⟩ => ⟨ρ', by rw [e], k'⟩
  | ok b s' =>
    rintro ⟨a, ρ', e, rfl, k'⟩
    have := h2 a s' ρ' k'
    revert this
    dsimp only
    rw [e]
    dsimp only
    cases q a s' with
    | no => exact fun _ => True.intro
    | ex x s2 => exact id
    | ok c s2 => exact id
theorem sm_bnd {m : M α} {p : Ms σ α} {k : α → M β} {q : α → Ms σ β} (h : SimE K m p) (h2 : ∀ a, SimE K (k a) (q a)) : SimE K (bnd m k) (bnd p q) := sm_bndR h h2
theorem sm_lft {o : Option α} : SimE K (lft o) (lft o) := by
  cases o with
  | none => exact sm_nog
  | some a => exact sm_ret
theorem sm_raise {x : Ex} : SimE K (raise x : M α) (raise x) := fun s ρ k => ⟨ρ, rfl, k⟩
theorem sm_ite {c : Prop} [Decidable c] {m n : M α} {p q : Ms σ α} (h1 : SimE K m p) (h2 : SimE K n q) : SimE K (if c then m else n) (if c then p else q) := by
  split
  · exact h1
  · exact h2
theorem sm_op1 {g : D → Option D} {a : M D} {a' : Ms σ D} (h : SimE K a a') : SimE K (op1 g a) (op1 g a') := sm_bnd h fun _ => sm_lft
theorem sm_op2 {g : D → D → Option D} {a b : M D} {a' b' : Ms σ D} (h : SimE K a a') (h2 : SimE K b b') : SimE K (op2 g a b) (op2 g a' b') := sm_bnd h fun _ => sm_bnd h2 fun _ => sm_lft
theorem sm_cmp {g : D → D → Option Bool} {a b : M D} {a' b' : Ms σ D} (h : SimE K a a') (h2 : SimE K b b') : SimE K (cmp g a b) (cmp g a' b') := sm_op2 h h2
theorem sm_cmp1 {g : D → Option Bool} {a : M D} {a' : Ms σ D} (h : SimE K a a') : SimE K (cmp1 g a) (cmp1 g a') := sm_op1 h
theorem sm_tb {g : Option Bool} : SimE K (tb g) (tb g) := sm_bnd sm_lft fun _ => sm_ret
theorem sm_chn {g h : D → D → Option Bool} {a b c : M D} {a' b' c' : Ms σ D} (h1 : SimE K a a') (h2 : SimE K b b') (h3 : SimE K c c') : SimE K (chn g h a b c) (chn g h a' b' c') := sm_bnd h1 fun _ => sm_bnd h2 fun _ => sm_bnd sm_lft fun _ => sm_ite (sm_bnd h3 fun _ => sm_tb) sm_ret
theorem sm_tst {a : M D} {a' : Ms σ D} (h : SimE K a a') : SimE K (tst a) (tst a') := sm_bnd h fun _ => sm_lft
theorem sm_tsb {a : M D} {a' : Ms σ D} (h : SimE K a a') : SimE K (tsb a) (tsb a') := sm_bnd h fun _ => sm_lft
theorem sm_orT {a b : M Bool} {a' b' : Ms σ Bool} (h : SimE K a a') (h2 : SimE K b b') : SimE K (orT a b) (orT a' b') := sm_bnd h fun _ => sm_ite sm_ret h2
theorem sm_notT {a : M Bool} {a' : Ms σ Bool} (h : SimE K a a') : SimE K (notT a) (notT a') := sm_bnd h fun _ => sm_ret
theorem sm_andV {a b : M D} {a' b' : Ms σ D} (h : SimE K a a') (h2 : SimE K b b') : SimE K (andV a b) (andV a' b') := sm_bnd h fun _ => sm_bnd sm_lft fun _ => sm_ite h2 sm_ret
theorem sm_orV {a b : M D} {a' b' : Ms σ D} (h : SimE K a a') (h2 : SimE K b b') : SimE K (orV a b) (orV a' b') := sm_bnd h fun _ => sm_bnd sm_lft fun _ => sm_ite sm_ret h2
theorem sm_notV {a : M D} {a' : Ms σ D} (h : SimE K a a') : SimE K (notV a) (notV a') := sm_bnd h fun _ => sm_bnd sm_lft fun _ => sm_ret
theorem sm_ifE {t : M Bool} {t' : Ms σ Bool} {a b : M D} {a' b' : Ms σ D} (h0 : SimE K t t') (h : SimE K a a') (h2 : SimE K b b') : SimE K (ifE t a b) (ifE t' a' b') := sm_bnd h0 fun _ => sm_ite h h2
theorem sm_nilA : SimE K nilA nilA := sm_ret
theorem sm_consA {a : M D} {a' : Ms σ D} {r : M (List D)} {r' : Ms σ (List D)} (h : SimE K a a') (h2 : SimE K r r') : SimE K (consA a r) (consA a' r') := sm_bnd h fun _ => sm_bnd h2 fun _ => sm_ret
theorem sm_tupE {r : M (List D)} {r' : Ms σ (List D)} (h : SimE K r r') : SimE K (tupE r) (tupE r') := sm_bnd h fun _ => sm_lft
theorem sm_lstE {r : M (List D)} {r' : Ms σ (List D)} (h : SimE K r r') : SimE K (lstE r) (lstE r') := sm_bnd h fun _ => sm_lft
theorem sm_clF {f : F} : SimE K (clF f) (clF f) := by
  cases f with
  | ok d => exact sm_ret
  | ex x => exact sm_raise
  | no => exact sm_nog
theorem sm_cl {f : List D → F} {r : M (List D)} {r' : Ms σ (List D)} (h : SimE K r r') : SimE K (cl f r) (cl f r') := sm_bnd h fun _ => sm_clF
theorem sm_clN {f : List D → F} {r : M (List D)} {r' : Ms σ (List D)} (h : SimE K r r') : SimE K (clN f r) (clN f r') := sm_bnd h fun l => by
  cases f l with
  | ok d => exact sm_ret
  | ex x => exact sm_nog
  | no => exact sm_nog
theorem sm_clk {f : List D → F} {n k : Nat} {r q : M (List D)} {r' q' : Ms σ (List D)} (h : SimE K r r') (h2 : SimE K q q') : SimE K (clk f n k r q) (clk f n k r' q') := sm_clN (sm_bnd h fun _ => sm_bnd h2 fun _ => sm_ite sm_ret sm_nog)
theorem sm_itmA {a : M D} {a' : Ms σ D} (h : SimE K a a') : SimE K (itmA a) (itmA a') := sm_bnd h fun _ => sm_lft
theorem sm_rg1 {a : M D} {a' : Ms σ D} (h : SimE K a a') : SimE K (rg1 a) (rg1 a') := sm_bnd h fun _ => sm_lft
theorem sm_noP : SimE K noP noP := sm_ret
theorem sm_part {a : M D} {a' : Ms σ D} (h : SimE K a a') : SimE K (part a) (part a') := sm_bnd h fun _ => sm_lft
theorem sm_slc {a : M D} {a' : Ms σ D} {l h : M (Option Int)} {l' h' : Ms σ (Option Int)} (h1 : SimE K a a') (h2 : SimE K l l') (h3 : SimE K h h') : SimE K (slc a l h) (slc a' l' h') := sm_bnd h1 fun _ => sm_bnd h2 fun _ => sm_bnd h3 fun _ => sm_lft
theorem sm_ref {c f : Str} {a : M D} {a' : Ms σ D} (h : SimE K a a') : SimE K (refused c f a) (refused c f a') := fun s ρ kn => by
  have := h s ρ kn
  unfold refused
  revert this
  cases hp : a' s with
  | no => exact fun _ => True.intro
  | ok b s' => rintro ⟨a, ρ', e, rfl, k'⟩; dsimp only; rw [e]; exact ⟨_, ρ', rfl, rfl, k'⟩
  | ex x s' =>
    rintro ⟨ρ', e, k'⟩
    dsimp only
    rw [e]
    dsimp only
    by_cases hc : x.c = c
    · rw [if_pos hc, if_pos hc]
      cases x.fs.lookup f with
      | none => exact True.intro
      | some d => exact ⟨_, ρ', rfl, rfl, k'⟩
    · rw [if_neg hc]; exact True.intro
/-! own lists, dicts -/
theorem own_oc {i : Nat} {d : D} (k : Kn K s ρ) (h : K[i]? = some (.oc d)) : rd ρ (.v i) = some d := by
  have e : get ρ i = some (.o d) := k.look h
  unfold rd
  dsimp only
  rw [e]
theorem own_os {i : Nat} {f : σ → D} (k : Kn K s ρ) (h : K[i]? = some (.os f)) : rd ρ (.v i) = some (f s) := by
  have e : get ρ i = some (.o (f s)) := k.look h
  unfold rd
  dsimp only
  rw [e]
theorem ownL_eq {i : Acc} {l : List D} (h : rd ρ i = some (.lst l)) : ownL i ρ = .ok l ρ := by unfold ownL; rw [h]
theorem ownD_eq {i : Acc} {l m : List D} (h : rd ρ i = some (.dct l m)) : ownD i ρ = .ok (l, m) ρ := by unfold ownD; rw [h]
theorem ownL_bndR {i : Nat} {l : List D} {f : List D → M α} {p : Ms σ β} {post : α → β → σ → Env → Prop} (h : K[i]? = some (.oc (.lst l))) (h2 : SimR K (f l) p post) : SimR K (bnd (ownL (.v i)) f) p post := fun s ρ k => by
  have e : bnd (ownL (.v i)) f ρ = f l ρ := by unfold bnd; rw [ownL_eq (own_oc k h)]
  rw [e]; exact h2 s ρ k
theorem ownD_bndR {i : Nat} {l m : List D} {f : List D × List D → M α} {p : Ms σ β} {post : α → β → σ → Env → Prop} (h : K[i]? = some (.oc (.dct l m))) (h2 : SimR K (f (l, m)) p post) : SimR K (bnd (ownD (.v i)) f) p post := fun s ρ k => by
  have e : bnd (ownD (.v i)) f ρ = f (l, m) ρ := by unfold bnd; rw [ownD_eq (own_oc k h)]
  rw [e]; exact h2 s ρ k
theorem sm_ninO {i : Nat} {d : D} {k : M D} {k' : Ms σ D} (h : K[i]? = some (.oc d)) (hk : SimE K k k') : SimE K (ninO (.v i) k) (ninP d k') := by
  refine sm_bnd hk fun x => ?_
  cases d <;> first | exact sm_nog | skip
  exact ownD_bndR h sm_lft
end
section
variable {α β : Type} {K K' : List (KE D)} {s : D} {ρ : Env}
theorem Kn.clr (k : Kn K s ρ) (hal : ∀ (j : Nat) (f : Str), K[j]? ≠ some (KE.ali f)) : Kn K s (ρ.map Fe.clr) := ⟨by rw [List.length_map, k.len], fun i e h => by
  have g : get (ρ.map Fe.clr) i = Fe.clr (get ρ i) := by
    unfold get
    rw [List.getElem?_map]
    cases ρ[i]? <;> rfl
  rw [g]
  have := k.at' i e h
  cases e with
  | junk => exact True.intro
  | nown =>
    have t : isO (get ρ i) = false := this
    show isO (Fe.clr (get ρ i)) = false
    cases q : get ρ i with
    | none => rfl
    | some x => rw [q] at t; cases x <;> first | rfl | cases t
  | p d => have t : get ρ i = some (.p d) := this; show Fe.clr (get ρ i) = _; rw [t]; rfl
  | oc d => have t : get ρ i = some (.o d) := this; show Fe.clr (get ρ i) = _; rw [t]; rfl
  | os f => have t : get ρ i = some (.o (f s)) := this; show Fe.clr (get ρ i) = _; rw [t]; rfl
  | ost f =>
    have t : ownC (f s) = true → get ρ i = some (f s) := this
    intro ho
    rw [t ho]
    cases hf : f s <;> rw [hf] at ho <;> first | rfl | cases ho
  | ali f => exact absurd h (hal i f)⟩
def isS : KE D → Bool
  | .os _ => true
  | .ost _ => true
  | .ali _ => true
  | _ => false
/-- no slot speaks of the state -/
def noS (K : List (KE D)) : Bool := K.all fun k => !isS k
theorem noS_el {i : Nat} (h : noS (K.set i .nown) = true) : ∀ j e, K[j]? = some e → isS e = true → j = i := fun j e hj he => by
  by_cases hij : i = j
  · exact hij.symm
  · have e2 : (K.set i .nown)[j]? = some e := by rw [List.getElem?_set_ne hij]; exact hj
    have := List.all_eq_true.mp h _ (List.mem_of_getElem? e2)
    rw [he] at this
    cases this
theorem noS_al {i : Nat} (h : noS (K.set i .nown) = true) (hi : K[i]? = some (.os id)) : ∀ (j : Nat) (f : Str), K[j]? ≠ some (KE.ali f) := fun j f e => by
  have := noS_el h j _ e rfl
  subst this
  rw [hi] at e
  cases e
theorem Kn.state (k : Kn K s ρ) {i : Nat} {s' : D} (h : ∀ j e, K[j]? = some e → isS e = true → j = i) (hi : K[i]? = some (.os id)) : Kn K s' (ρ.set i (some (.o s'))) := ⟨by rw [List.length_set, k.len], fun j e hj => by
  by_cases hij : i = j
  · subst hij
    rw [hi] at hj
    cases hj
    have : i < ρ.length := by rw [k.len]; exact (List.getElem?_eq_some_iff.mp hi).1
    show get _ i = some (.o s')
    unfold get
    rw [List.getElem?_set_self this]; rfl
  · have g : get (ρ.set i (some (.o s'))) j = get ρ j := by unfold get; rw [List.getElem?_set_ne hij]
    rw [g]
    have := k.at' j e hj
    cases e with
    | os f => exact absurd (h j _ hj rfl) fun z => hij z.symm
    | ost f => exact absurd (h j _ hj rfl) fun z => hij z.symm
    | _ => exact this⟩
theorem sm_clo {f : C → List D → FO} {i : Nat} {a : M (List D)} {a' : Ms D (List D)} (hi : K[i]? = some (.os id)) (hn : noS (K.set i .nown) = true) (h : SimE K a a') : SimE K (clo f i a) (cloS f a') := fun s ρ k => by
  have hl : ∀ {s ρ}, Kn K s ρ → hld i ρ = .ok (.o s) ρ := fun {s ρ} k => by
    have e : get ρ i = some (.o s) := k.look hi
    unfold hld; rw [e]
  have := h s ρ k
  unfold clo cloS
  unfold bnd
  revert this
  rw [hl k]
  dsimp only
  cases hp : a' s with
  | no => exact fun _ => True.intro
  | ex x s' => exact fun ⟨ρ', e, k'⟩ => ⟨ρ', by rw [e], k'⟩
  | ok b s' =>
    rintro ⟨l, ρ', e, rfl, k'⟩
    dsimp only
    rw [e]
    dsimp only
    rw [hl k']
    dsimp only
    cases f (.o s') l with
    | no => exact True.intro
    | ex x => exact True.intro
    | ok d y =>
      cases y with
      | o s2 =>
        refine ⟨d, _, rfl, rfl, ?_⟩
        exact (k'.clr (noS_al hn hi)).state (noS_el hn) hi
      | _ => exact True.intro
theorem os_list {i : Nat} {l : List D} (k : Kn K (.lst l) ρ) (hi : K[i]? = some (.os id)) : rd ρ (.v i) = some (.lst l) := own_os (f := id) k hi
theorem isL_bndR {i : Nat} {f : List D → M α} {p : Ms D β} {post : α → β → D → Env → Prop} (hi : K[i]? = some (.os id)) (h : ∀ l, SimR K (f l) p post) : SimR K (bnd (ownL (.v i)) f) (isL p) post := fun s ρ k => by
  cases s with
  | lst l =>
    have e : bnd (ownL (.v i)) f ρ = f l ρ := by unfold bnd; rw [ownL_eq (os_list k hi)]
    rw [e]; exact h l _ ρ k
  | _ => exact True.intro
theorem sm_ixS {i : Nat} {a : M D} {a' : Ms D D} (hi : K[i]? = some (.os id)) (h : SimE K a a') : SimE K (ixO (.v i) a) (ixS a') := isL_bndR hi fun _ => sm_bnd h fun x => fun s ρ k => by
  cases s with
  | lst l =>
    have e : bnd (ownL (.v i)) (fun l => lft (dIx (.lst l) x)) ρ = lft (dIx (.lst l) x) ρ := by unfold bnd; rw [ownL_eq (os_list k hi)]
    rw [e]
    exact sm_lft _ ρ k
  | _ => exact True.intro
end
section
variable {σ α β : Type} {K K' : List (KE σ)} {s : σ} {ρ : Env}
def wipeK (K : List (KE σ)) : List Nat → List (KE σ)
  | [] => K
  | v :: vs => (wipeK K vs).set v .nown
def pureK (K : List (KE σ)) (vs : List Nat) : Bool := vs.all fun v => (match K[v]? with
  | some (.p _) => true
  | some .nown => true
  | _ => false) && v != 0
theorem wipeK_len (vs : List Nat) : (wipeK K vs).length = K.length := by
  induction vs with
  | nil => rfl
  | cons v vs ih => show ((wipeK K vs).set v .nown).length = _; rw [List.length_set, ih]
theorem Kn.wipe (k : Kn K s ρ) (vs : List Nat) : Kn (wipeK K vs) s (Fe.wipe ρ vs) := by
  induction vs with
  | nil => exact k
  | cons v vs ih => exact ih.set (e := .nown) rfl
theorem pureK_pur (k : Kn K s ρ) {vs : List Nat} (h : pureK K vs = true) : pur ρ vs = true := by
  unfold pur
  refine List.all_eq_true.mpr fun v hv => ?_
  have := List.all_eq_true.mp h v hv
  rw [Bool.and_eq_true] at this ⊢
  refine ⟨?_, this.2⟩
  have h1 := this.1
  split at h1
  · rename_i d e
    have : Fe.get ρ v = some (.p d) := k.look e
    rw [this]; rfl
  · rename_i e
    have : isO (Fe.get ρ v) = false := k.look e
    rw [this]; rfl
  · cases h1
theorem ewlen : ∀ (vs : List Nat) (ρ : Env), (Fe.wipe ρ vs).length = ρ.length
  | [], _ => rfl
  | v :: vs, ρ => by show ((Fe.wipe ρ vs).set v none).length = _; rw [List.length_set, ewlen vs]
theorem eblen : ∀ (vs : List Nat) (ρ0 ρ : Env), (Fe.back ρ0 vs ρ).length = ρ.length
  | [], _, _ => rfl
  | v :: vs, ρ0, ρ => by show ((Fe.back ρ0 vs ρ).set v (Fe.get ρ0 v)).length = _; rw [List.length_set, eblen vs]
theorem ewget : ∀ (vs : List Nat) (ρ : Env) (i : Nat), i ∉ vs → Fe.get (Fe.wipe ρ vs) i = Fe.get ρ i
  | [], _, _, _ => rfl
  | v :: vs, ρ, i, h => by
    rw [List.mem_cons, not_or] at h
    show Fe.get ((Fe.wipe ρ vs).set v none) i = _
    unfold Fe.get
    rw [List.getElem?_set_ne fun z => h.1 z.symm]
    exact ewget vs ρ i h.2
theorem ebget : ∀ (vs : List Nat) (ρ0 ρ : Env) (i : Nat), i ∉ vs → Fe.get (Fe.back ρ0 vs ρ) i = Fe.get ρ i
  | [], _, _, _, _ => rfl
  | v :: vs, ρ0, ρ, i, h => by
    rw [List.mem_cons, not_or] at h
    show Fe.get ((Fe.back ρ0 vs ρ).set v _) i = _
    unfold Fe.get
    rw [List.getElem?_set_ne fun z => h.1 z.symm]
    exact ebget vs ρ0 ρ i h.2
theorem ebin : ∀ (vs : List Nat) (ρ0 ρ : Env) (i : Nat), i ∈ vs → i < ρ.length → Fe.get (Fe.back ρ0 vs ρ) i = Fe.get ρ0 i
  | v :: vs, ρ0, ρ, i, h, hl => by
    show Fe.get ((Fe.back ρ0 vs ρ).set v (Fe.get ρ0 v)) i = _
    by_cases e : v = i
    · subst e
      unfold Fe.get
      rw [List.getElem?_set_self (by rw [eblen]; exact hl)]; rfl
    · have : Fe.get ((Fe.back ρ0 vs ρ).set v (Fe.get ρ0 v)) i = Fe.get (Fe.back ρ0 vs ρ) i := by unfold Fe.get; rw [List.getElem?_set_ne e]
      rw [this]
      exact ebin vs ρ0 ρ i ((List.mem_cons.mp h).elim (fun z => absurd z.symm e) id) hl
theorem wipeK_get : ∀ (vs : List Nat) (K : List (KE σ)) (i : Nat), i ∉ vs → (wipeK K vs)[i]? = K[i]?
  | [], _, _, _ => rfl
  | v :: vs, K, i, h => by
    rw [List.mem_cons, not_or] at h
    show ((wipeK K vs).set v .nown)[i]? = _
    rw [List.getElem?_set_ne fun z => h.1 z.symm]
    exact wipeK_get vs K i h.2
/-- behind the comprehension -/
theorem Kn.back {s0 : σ} {ρ0 : Env} {vs : List Nat} (k0 : Kn K s0 ρ0) (h : pureK K vs = true) (k : Kn (wipeK K vs) s (Fe.wipe ρ vs)) : Kn K s (Fe.back ρ0 vs ρ) := by
  have hl : ρ.length = K.length := by
    have := k.len
    rw [ewlen, wipeK_len] at this
    exact this
  refine ⟨by rw [eblen, hl], fun i e he => ?_⟩
  by_cases hi : i ∈ vs
  · have lt : i < ρ.length := by rw [hl]; exact (List.getElem?_eq_some_iff.mp he).1
    rw [ebin vs ρ0 ρ i hi lt]
    have h1 := (Bool.and_eq_true_iff.mp (List.all_eq_true.mp h i hi)).1
    rw [he] at h1
    have h2 := k0.look he
    cases e with
    | p d => exact h2
    | nown => exact h2
    | _ => cases h1
  · rw [ebget vs ρ0 ρ i hi, ← ewget vs ρ i hi]
    exact k.at' i e (by rw [wipeK_get vs K i hi]; exact he)
def okP (K : List (KE σ)) (vs : List Nat) (m : R (List D)) (p : Rs σ (List D)) : Prop := match p with
  | .ok b s' => ∃ a ρ', m = .ok a ρ' ∧ a = b ∧ Kn (wipeK K vs) s' (Fe.wipe ρ' vs)
  | _ => True
theorem cmp_sim {vs : List Nat} {f : D → M (List D)} {f' : D → Ms σ (List D)} (h : ∀ x s ρ, Kn (wipeK K vs) s (Fe.wipe ρ vs) → okP K vs (f x ρ) (f' x s)) : ∀ (l : List D) s ρ, Kn (wipeK K vs) s (Fe.wipe ρ vs) → okP K vs (cmpL f l ρ) (cmpP f' l s)
  | [], s, ρ, k => ⟨[], ρ, rfl, rfl, k⟩
  | x :: l, s, ρ, k => by
    have h1 := h x s ρ k
    unfold cmpP cmpL bnd
    revert h1
    cases f' x s with
    | no => exact fun _ => True.intro
    | ex x s' => exact fun _ => True.intro
    | ok b s' =>
      rintro ⟨a, ρ', e, rfl, k'⟩
      have h2 := cmp_sim h l s' ρ' k'
      dsimp only
      rw [e]
      dsimp only
      revert h2
      cases cmpP f' l s' with
      | no => exact fun _ => True.intro
      | ex x s' => exact fun _ => True.intro
      | ok b2 s2 =>
        rintro ⟨a2, ρ2, e2, rfl, k2⟩
        dsimp only
        rw [e2]
        exact ⟨_, ρ2, rfl, rfl, k2⟩
/-- one turn, behind its target -/
def SimG (K : List (KE σ)) (vs : List Nat) (K1 : List (KE σ)) (m : M (List D)) (p : Ms σ (List D)) : Prop := ∀ s ρ, Kn K1 s ρ → okP K vs (m ρ) (p s)
theorem kn_end {K1 : List (KE σ)} {vs : List Nat} (e : wipeK K1 vs = wipeK K vs) (k : Kn K1 s ρ) : Kn (wipeK K vs) s (Fe.wipe ρ vs) := by rw [← e]; exact k.wipe vs
theorem sg_it {vs : List Nat} {K1 : List (KE σ)} {t : M Bool} {t' : Ms σ Bool} {e : M D} {e' : Ms σ D} (he : wipeK K1 vs = wipeK K vs) (h1 : SimE K1 t t') (h2 : SimE K1 e e') : SimG K vs K1 (bnd t fun k => if k = true then bnd e fun y => Fe.ret [y] else Fe.ret []) (itP t' e') := fun s ρ k => by
  have h : SimE K1 (bnd t fun k => if k = true then bnd e fun y => Fe.ret [y] else Fe.ret []) (itP t' e') := sm_bnd h1 fun _ => sm_ite (sm_bnd h2 fun _ => sm_ret) sm_ret
  have := h s ρ k
  unfold okP
  revert this
  cases itP t' e' s with
  | no => exact fun _ => True.intro
  | ex x s' => exact fun _ => True.intro
  | ok b s' => rintro ⟨a, ρ', e1, e2, k'⟩; exact ⟨a, ρ', e1, e2, kn_end he k'⟩
theorem sg_1 {vs : List Nat} {K1 : List (KE σ)} {e : M D} {e' : Ms σ D} (he : wipeK K1 vs = wipeK K vs) (h2 : SimE K1 e e') : SimG K vs K1 (bnd (Fe.ret true) fun k => if k = true then bnd e fun y => Fe.ret [y] else Fe.ret []) (it1 e') := fun s ρ k => by
  have h : SimE K1 (bnd e fun y => Fe.ret [y]) (it1 e') := sm_bnd h2 fun _ => sm_ret
  have := h s ρ k
  unfold okP
  revert this
  cases it1 e' s with
  | no => exact fun _ => True.intro
  | ex x s' => exact fun _ => True.intro
  | ok b s' => rintro ⟨a, ρ', e1, e2, k'⟩; exact ⟨a, ρ', e1, e2, kn_end he k'⟩
/-- targets -/
theorem sg_name {vs : List Nat} {K1 : List (KE σ)} {i : Nat} {x : D} {b : M (List D)} {p : Ms σ (List D)} (h : SimG K vs (K1.set i (.p x)) b p) : SimG K vs K1 (bnd (gN i x) fun _ => b) p := fun s ρ k => h s _ (k.set (e := .p x) rfl)
theorem un2_or (x : D) : (∃ a b, x = .tup [a, b]) ∨ ∀ (σ α : Type) (f : D → D → Ms σ α), un2 x f = nog := by
  by_cases h : ∃ a b, x = .tup [a, b]
  · exact .inl h
  · refine .inr fun σ α f => ?_
    unfold un2
    split
    · rename_i a b; exact absurd ⟨a, b, rfl⟩ h
    · rfl
theorem un3_or (x : D) : (∃ a b c, x = .tup [a, b, c]) ∨ ∀ (σ α : Type) (f : D → D → D → Ms σ α), un3 x f = nog := by
  by_cases h : ∃ a b c, x = .tup [a, b, c]
  · exact .inl h
  · refine .inr fun σ α f => ?_
    unfold un3
    split
    · rename_i a b c; exact absurd ⟨a, b, c, rfl⟩ h
    · rfl
theorem un7_or (x : D) : (∃ a b c d e f g, x = .tup [a, b, c, d, e, f, g]) ∨ ∀ (σ α : Type) (f : D → D → D → D → D → D → D → Ms σ α), un7 x f = nog := by
  by_cases h : ∃ a b c d e f g, x = .tup [a, b, c, d, e, f, g]
  · exact .inl h
  · refine .inr fun σ α f => ?_
    unfold un7
    split
    · rename_i a b c d e f g; exact absurd ⟨a, b, c, d, e, f, g, rfl⟩ h
    · rfl
theorem sg_un2 {vs : List Nat} {K1 : List (KE σ)} {i j : Nat} {x : D} {b : M (List D)} {p : D → D → Ms σ (List D)} (h : ∀ u v, SimG K vs ((K1.set i (.p u)).set j (.p v)) b (p u v)) : SimG K vs K1 (bnd (gT 2 (gCons (gN i) (gCons (gN j) gNil)) x) fun _ => b) (un2 x p) := fun s ρ k => by
  rcases un2_or x with ⟨u, v, rfl⟩ | hn
  · exact h u v s _ ((k.set (e := .p u) rfl).set (e := .p v) rfl)
  · rw [hn]; exact True.intro
/-- [e for g in it if t] -/
theorem sm_lc {vs : List Nat} {it : M (List D)} {it' : Ms σ (List D)} {g : G} {t : M Bool} {e : M D} {f' : D → Ms σ (List D)} (hv : pureK K vs = true) (hi : SimE K it it') (hb : ∀ x, SimG K vs (wipeK K vs) (bnd (g x) fun _ => bnd t fun k => if k = true then bnd e fun y => Fe.ret [y] else Fe.ret []) (f' x)) : SimE K (lc vs it g t e) (lcP it' f') := fun s ρ k => by
  have h := hi s ρ k
  unfold lcP lc
  rw [if_neg (by rw [pureK_pur k hv]; exact Bool.noConfusion)]
  unfold bnd nox
  revert h
  cases it' s with
  | no => exact fun _ => True.intro
  | ex x s' => rintro ⟨ρ', e1, k'⟩; dsimp only; rw [e1]; exact ⟨ρ', rfl, k'⟩
  | ok b s' =>
    rintro ⟨l, ρ', e1, rfl, k'⟩
    dsimp only
    rw [e1]
    dsimp only
    have h2 := cmp_sim (K := K) (vs := vs) (f := cmpT vs g t e) (f' := f') (fun x s ρ k => hb x s _ k) l s' ρ' (k'.wipe vs)
    unfold okP at h2
    revert h2
    cases cmpP f' l s' with
    | no => exact fun _ => True.intro
    | ex x s' => exact fun _ => True.intro
    | ok r s2 =>
      rintro ⟨a, ρ2, e2, rfl, k2⟩
      dsimp only
      rw [e2]
      dsimp only
      by_cases hl : a.length ≤ lim
      · rw [if_pos hl, if_pos hl]; exact ⟨_, _, rfl, rfl, k.back hv k2⟩
      · rw [if_neg hl]; exact True.intro
end
section
variable {σ α β τ ω : Type} {K K' : List (KE σ)} {s : σ} {ρ : Env} {rest a b : S} {post : Fl → ω → σ → Env → Prop} {g ga gb : Ms σ ω}
/-- a first part -/
theorem t_bnd {m : M α} {p : Ms σ α} {k : α → S} {q : α → Ms σ ω} (h : SimE K m p) (h2 : ∀ a, SimT K (k a) (q a) post) : SimT K (bnd m k) (bnd p q) post := fun s ρ kn => by
  have := h s ρ kn
  unfold bnd
  revert this
  cases hp : p s with
  | no => exact fun _ => True.intro
  | ex x s' => exact fun ⟨ρ', e, k'⟩ => ⟨ρ', by rw [e]⟩
  | ok b s' =>
    rintro ⟨a, ρ', e, rfl, k'⟩
    have := h2 a s' ρ' k'
    revert this
    dsimp only
    rw [e]
    dsimp only
    cases q a s' with
    | no => exact fun _ => True.intro
    | ex x s2 => exact id
    | ok c s2 => exact id
theorem SimT.eqm' {m m' : S} (h : SimT K m' g post) (e : ∀ s ρ, Kn K s ρ → m ρ = m' ρ) : SimT K m g post := fun s ρ k => by rw [e s ρ k]; exact h s ρ k
theorem SimT.eqm {m m' : S} (e : ∀ ρ, m ρ = m' ρ) (h : SimT K m' g post) : SimT K m g post := fun s ρ k => by rw [e]; exact h s ρ k
theorem seq_bnd {α : Type} {m : M α} {k : α → S} (ρ : Env) : seq (bnd m k) rest ρ = bnd m (fun a => seq (k a) rest) ρ := by
  unfold seq bnd
  cases m ρ <;> rfl
theorem t_last (h : SimT K (seq a sNx) g post) : SimT K a g post := h.eqm fun ρ => by
  unfold seq bnd
  cases a ρ with
  | ok f ρ' => cases f <;> rfl
  | ex x ρ' => rfl
  | no => rfl
theorem t_assoc {c : S} (h : SimT K (seq a (seq b c)) g post) : SimT K (seq (seq a b) c) g post := h.eqm fun ρ => by
  unfold seq bnd
  cases a ρ with
  | ok f ρ' => cases f <;> rfl
  | ex x ρ' => rfl
  | no => rfl
theorem t_skip (h : SimT K rest g post) : SimT K (seq sNx rest) g post := h.eqm fun ρ => rfl
/-- the block's end -/
theorem t_end {w : ω} (h : ∀ s ρ, Kn K s ρ → post .nx w s ρ) : SimT K sNx (Fe.ret w) post := fun s ρ k => ⟨.nx, ρ, rfl, h s ρ k⟩
theorem t_asg {i : Nat} {e : M D} {e' : Ms σ D} {q : D → Ms σ ω} (h : SimE K e e') (h2 : ∀ x, SimT (K.set i (.p x)) rest (q x) post) : SimT K (seq (asg e (gN i)) rest) (bnd e' q) post :=
  (t_bnd (k := fun x => seq (bnd (gN i x) fun _ => Fe.ret .nx) rest) h fun x => fun s ρ k => h2 x s _ (k.set (e := .p x) rfl)).eqm fun ρ => by unfold asg; rw [seq_bnd]
theorem t_drp {e : M D} {e' : Ms σ D} {q : Ms σ ω} (h : SimE K e e') (h2 : SimT K rest q post) : SimT K (seq (drp e) rest) (bnd e' fun _ => q) post :=
  (t_bnd (k := fun _ => seq (Fe.ret .nx) rest) h fun _ => t_skip h2).eqm fun ρ => by unfold drp; rw [seq_bnd]
theorem t_ret {e : M D} {e' : Ms σ D} {r : D → ω} (hp : ∀ d s ρ, Kn K s ρ → post (.rt d) (r d) s ρ) (h : SimE K e e') : SimT K (seq (rtn e) rest) (bnd e' fun d => Fe.ret (r d)) post :=
  (t_bnd (k := fun d => seq (Fe.ret (.rt d)) rest) (q := fun d => Fe.ret (r d)) h fun d => fun s ρ k => ⟨.rt d, ρ, rfl, hp d s ρ k⟩).eqm fun ρ => by unfold rtn; rw [seq_bnd]
theorem t_retF {e : M D} {e' : Ms σ D} {post : Fl → D → σ → Env → Prop} (hp : ∀ d s ρ, Kn K s ρ → post (.rt d) d s ρ) (h : SimE K e e') : SimT K (seq (rtn e) rest) e' post := fun s ρ k => by
  have e2 : e' = bnd e' fun d => Fe.ret d := by
    funext s
    unfold bnd
    cases e' s <;> rfl
  rw [e2]
  exact t_ret (r := fun d => d) hp h s ρ k
theorem t_cnt {w : ω} (hp : ∀ s ρ, Kn K s ρ → post .ct w s ρ) : SimT K (seq cnt rest) (Fe.ret w) post := fun s ρ k => ⟨.ct, ρ, rfl, hp s ρ k⟩
theorem t_rse {c : Str} {fs : List Str} {e : M (List D)} {e' : Ms σ (List D)} (h : SimE K e e') : SimT K (seq (rse c fs e) rest) (rse c fs e' : Ms σ ω) post :=
  (t_bnd (k := fun l => seq (if l.length = fs.length then raise ⟨c, (fs.zip l).reverse⟩ else fun _ => .no) rest) (q := fun l => if l.length = fs.length then raise ⟨c, (fs.zip l).reverse⟩ else fun _ => .no) h fun l => fun s ρ k => by
    by_cases hl : l.length = fs.length
    · rw [if_pos hl, if_pos hl]; exact ⟨ρ, rfl⟩
    · rw [if_neg hl]; exact True.intro).eqm fun ρ => by unfold rse; rw [seq_bnd]
theorem t_ifd {t : M Bool} {t' : Ms σ Bool} (h : SimE K t t') (h1 : SimT K (seq a rest) ga post) (h2 : SimT K (seq b rest) gb post) : SimT K (seq (iff t a b) rest) (ifC t' ga gb) post :=
  (t_bnd (k := fun k => seq (if k = true then a else b) rest) h fun k => by
    cases k with
    | true => exact h1
    | false => exact h2).eqm fun ρ => by unfold iff; rw [seq_bnd]
/-- both ways go on -/
abbrev joinP (KJ : τ → List (KE σ)) : Fl → τ → σ → Env → Prop := fun fl t s ρ => fl = .nx ∧ Kn (KJ t) s ρ
theorem t_join {t : M Bool} {t' : Ms σ Bool} {pa pb : Ms σ τ} {q : τ → Ms σ ω} (KJ : τ → List (KE σ)) (h : SimE K t t') (h1 : SimT K a pa (joinP KJ)) (h2 : SimT K b pb (joinP KJ)) (h3 : ∀ t, SimT (KJ t) rest (q t) post) : SimT K (seq (iff t a b) rest) (bnd (ifC t' pa pb) q) post := by
  have hj : SimT K (iff t a b) (ifC t' pa pb) (joinP KJ) := t_bnd h fun k => by
    cases k with
    | true => exact h1
    | false => exact h2
  intro s ρ k
  have := hj s ρ k
  unfold seq
  unfold bnd
  revert this
  cases ifC t' pa pb s with
  | no => exact fun _ => True.intro
  | ex x s' => rintro ⟨ρ', e⟩; exact ⟨ρ', by rw [e]⟩
  | ok t s' =>
    rintro ⟨fl, ρ', e, rfl, k'⟩
    dsimp only
    rw [e]
    exact h3 t s' ρ' k'
/-- targets of a walk -/
theorem t_tgt {i : Nat} {x : D} (h : SimT (K.set i (.p x)) b g post) : SimT K (bnd (gN i x) fun _ => b) g post := fun s ρ k => h s _ (k.set (e := .p x) rfl)
theorem t_un2 {i j : Nat} {x : D} {p : D → D → Ms σ ω} (h : ∀ u v, SimT ((K.set i (.p u)).set j (.p v)) b (p u v) post) : SimT K (bnd (gT 2 (gCons (gN i) (gCons (gN j) gNil)) x) fun _ => b) (un2 x p) post := fun s ρ k => by
  rcases un2_or x with ⟨u, v, rfl⟩ | hn
  · exact h u v s _ ((k.set (e := .p u) rfl).set (e := .p v) rfl)
  · rw [hn]; exact True.intro
theorem t_un3 {i j l : Nat} {x : D} {p : D → D → D → Ms σ ω} (h : ∀ u v w, SimT (((K.set i (.p u)).set j (.p v)).set l (.p w)) b (p u v w) post) : SimT K (bnd (gT 3 (gCons (gN i) (gCons (gN j) (gCons (gN l) gNil))) x) fun _ => b) (un3 x p) post := fun s ρ k => by
  rcases un3_or x with ⟨u, v, w, rfl⟩ | hn
  · exact h u v w s _ (((k.set (e := .p u) rfl).set (e := .p v) rfl).set (e := .p w) rfl)
  · rw [hn]; exact True.intro
theorem t_un7 {i1 i2 i3 i4 i5 i6 i7 : Nat} {x : D} {p : D → D → D → D → D → D → D → Ms σ ω} (h : ∀ a1 a2 a3 a4 a5 a6 a7, SimT (((((((K.set i1 (.p a1)).set i2 (.p a2)).set i3 (.p a3)).set i4 (.p a4)).set i5 (.p a5)).set i6 (.p a6)).set i7 (.p a7)) b (p a1 a2 a3 a4 a5 a6 a7) post) :
    SimT K (bnd (gT 7 (gCons (gN i1) (gCons (gN i2) (gCons (gN i3) (gCons (gN i4) (gCons (gN i5) (gCons (gN i6) (gCons (gN i7) gNil))))))) x) fun _ => b) (un7 x p) post := fun s ρ k => by
  rcases un7_or x with ⟨a1, a2, a3, a4, a5, a6, a7, rfl⟩ | hn
  · exact h a1 a2 a3 a4 a5 a6 a7 s _ (((((((k.set (e := .p a1) rfl).set (e := .p a2) rfl).set (e := .p a3) rfl).set (e := .p a4) rfl).set (e := .p a5) rfl).set (e := .p a6) rfl).set (e := .p a7) rfl)
  · rw [hn]; exact True.intro
/-- a, b = e -/
theorem t_asgT {tg : G} {e : M D} {e' : Ms σ D} {q : D → Ms σ ω} (h : SimE K e e') (h2 : ∀ x, SimT K (bnd (tg x) fun _ => rest) (q x) post) : SimT K (seq (asg e tg) rest) (bnd e' q) post :=
  (t_bnd (k := fun x => seq (bnd (tg x) fun _ => Fe.ret .nx) rest) h fun x => (h2 x).eqm fun ρ => by unfold seq bnd; cases tg x ρ <;> rfl).eqm fun ρ => by unfold asg; rw [seq_bnd]
/-- lists, dicts of one's own -/
theorem t_new {i : Nat} {e : M D} {e' : Ms σ D} {q : D → Ms σ ω} (h : SimE K e e') (h2 : ∀ x, SimT (K.set i (.oc x)) rest (q x) post) : SimT K (seq (asgO i e) rest) (bnd e' q) post :=
  (t_bnd (k := fun x => seq (bnd (new i x) fun _ => Fe.ret .nx) rest) h fun x => fun s ρ k => h2 x s _ (k.set (e := .oc x) rfl)).eqm fun ρ => by unfold asgO; rw [seq_bnd]
theorem t_frz {i : Nat} {d : D} (hk : K[i]? = some (.oc d)) (h : SimT (K.set i (.p d)) rest g post) : SimT K (gho (Fe.frz i) rest) g post := fun s ρ k => by
  have e : Fe.get ρ i = some (.o d) := k.look hk
  have e2 : gho (Fe.frz i) rest ρ = rest (ρ.set i (some (.p d))) := by
    unfold gho Fe.frz bnd
    dsimp only
    rw [e]
  rw [e2]
  exact h s _ (k.set (e := .p d) rfl)
theorem wrt_oc {i : Nat} {d d' : D} (k : Kn K s ρ) (hk : K[i]? = some (.oc d)) : Kn (K.set i (.oc d')) s (wrt ρ d' (.v i)) := by
  have e : Fe.get ρ i = some (.o d) := k.look hk
  have e2 : wrt ρ d' (.v i) = ρ.set i (some (.o d')) := by
    unfold wrt
    dsimp only
    rw [e]
  rw [e2]
  exact k.set (e := .oc d') rfl
theorem t_wr {i : Nat} {d d' : D} {q : D → Ms σ ω} (hk : K[i]? = some (.oc d)) (h : ∀ d', SimT (K.set i (.oc d')) rest (q d') post) : SimT K (seq (wr (.v i) d') rest) (bnd (Fe.ret d') q) post := fun s ρ k => h d' s _ (wrt_oc k hk)
theorem t_ownL {i : Nat} {l : List D} {f : List D → S} (hk : K[i]? = some (.oc (.lst l))) (h : SimT K (f l) g post) : SimT K (bnd (ownL (.v i)) f) g post := h.eqm' fun s ρ k => by unfold bnd; rw [ownL_eq (own_oc k hk)]
end
end Fe
end
section
set_option Elab.async false
set_option linter.all false
set_option maxRecDepth 100000
set_option maxHeartbeats 1000000
namespace Fe
open PySem (Str)
section
variable {σ α β τ ω : Type} {K K' : List (KE σ)} {s : σ} {ρ : Env} {rest a b : S} {post : Fl → ω → σ → Env → Prop} {g ga gb : Ms σ ω}
theorem bnd_assoc {γ : Type} {m : Ms σ α} {f : α → Ms σ β} {h : β → Ms σ γ} : bnd (bnd m f) h = bnd m fun x => bnd (f x) h := by
  funext s
  unfold bnd
  cases m s <;> rfl
theorem t_ext {i : Nat} {l : D} {e : M D} {e' : Ms σ D} {q : D → Ms σ ω} (hk : K[i]? = some (.oc l)) (h : SimE K e e') (h2 : ∀ l', SimT (K.set i (.oc l')) rest (q l') post) : SimT K (seq (ext (.v i) e) rest) (bnd (extP l e') q) post := by
  cases l <;> first | exact fun s ρ k => True.intro | skip
  rename_i xs
  refine (t_ownL (f := fun _ => seq (bnd e fun x => bnd (ownL (.v i)) fun l => match x with
    | .lst m => if l.length + m.length ≤ lim then wr (.v i) (.lst (l ++ m)) else nog
    | _ => nog) rest) hk ?_).eqm fun ρ => by unfold ext; rw [seq_bnd]; try rfl
  have h3 : SimT K (bnd e fun x => seq (bnd (ownL (.v i)) fun l => match x with
    | .lst m => if l.length + m.length ≤ lim then wr (.v i) (.lst (l ++ m)) else nog
    | _ => nog) rest) (bnd e' fun x => bnd (match x with
    | .lst ys => if xs.length + ys.length ≤ lim then Fe.ret (.lst (xs ++ ys)) else nog
    | _ => nog) q) post := t_bnd h fun x => by
    refine (t_ownL (f := fun l => seq (match x with
    | .lst m => if l.length + m.length ≤ lim then wr (.v i) (.lst (l ++ m)) else nog
    | _ => nog) rest) hk ?_).eqm fun ρ => by rw [seq_bnd]
    cases x <;> first | exact fun s ρ k => True.intro | skip
    rename_i m
    by_cases hl : xs.length + m.length ≤ lim
    · dsimp only; rw [if_pos hl, if_pos hl]; exact t_wr hk h2
    · dsimp only; rw [if_neg hl, if_neg hl]; exact fun s ρ k => True.intro
  have e2 : bnd (extP (.lst xs) e') q = bnd e' fun x => bnd (match x with
    | .lst ys => if xs.length + ys.length ≤ lim then Fe.ret (.lst (xs ++ ys)) else nog
    | _ => nog) q := by
    exact bnd_assoc
  rw [e2]
  exact h3.eqm fun ρ => by rw [seq_bnd]
theorem t_ownD {i : Nat} {ks vs : List D} {f : List D × List D → S} (hk : K[i]? = some (.oc (.dct ks vs))) (h : SimT K (f (ks, vs)) g post) : SimT K (bnd (ownD (.v i)) f) g post := h.eqm' fun s ρ k => by unfold bnd; rw [ownD_eq (own_oc k hk)]
theorem t_setD {i : Nat} {l : D} {k e : M D} {k' e' : Ms σ D} {q : D → Ms σ ω} (hk : K[i]? = some (.oc l)) (h : SimE K e e') (hkk : SimE K k k') (h2 : ∀ l', SimT (K.set i (.oc l')) rest (q l') post) : SimT K (seq (setD (.v i) k e) rest) (bnd (setDP l k' e') q) post := by
  have e1 : bnd (setDP l k' e') q = bnd e' fun x => bnd (match l with
    | .dct ks vs => bnd k' fun i => lft (dctSet ks vs i x)
    | _ => nog) q := by
    exact bnd_assoc
  rw [e1]
  refine (t_bnd (k := fun x => seq (bnd (ownD (.v i)) fun _ => bnd k fun k => bnd (ownD (.v i)) fun o => match dctSet o.1 o.2 k x with
    | some d => wr (.v i) d
    | none => nog) rest) h fun x => ?_).eqm fun ρ => by unfold setD; rw [seq_bnd]; try rfl
  cases l <;> first | exact fun s ρ k => True.intro | skip
  rename_i ks vs
  refine (t_ownD (f := fun _ => seq (bnd k fun k => bnd (ownD (.v i)) fun o => match dctSet o.1 o.2 k x with
    | some d => wr (.v i) d
    | none => nog) rest) hk ?_).eqm fun ρ => by rw [seq_bnd]
  dsimp only
  have e2 : bnd (bnd k' fun i => lft (dctSet ks vs i x)) q = bnd k' fun i => bnd (lft (dctSet ks vs i x)) q := by
    exact bnd_assoc
  rw [e2]
  refine (t_bnd (k := fun k => seq (bnd (ownD (.v i)) fun o => match dctSet o.1 o.2 k x with
    | some d => wr (.v i) d
    | none => nog) rest) hkk fun y => ?_).eqm fun ρ => by rw [seq_bnd]
  refine (t_ownD (f := fun o => seq (match dctSet o.1 o.2 y x with
    | some d => wr (.v i) d
    | none => nog) rest) hk ?_).eqm fun ρ => by rw [seq_bnd]
  dsimp only
  cases dctSet ks vs y x with
  | none => exact fun s ρ k => True.intro
  | some d => exact t_wr hk h2
/-- a, b = x, y -/
theorem t_par {i j : Nat} {x y : M D} {x' y' : Ms σ D} {q : D → D → Ms σ ω} (h1 : SimE K x x') (h2 : SimE K y y') (h3 : ∀ u v, SimT ((K.set i (.p u)).set j (.p v)) rest (q u v) post) : SimT K (seq (par i j (consA x (consA y nilA))) rest) (bnd x' fun u => bnd y' fun v => q u v) post := by
  refine (t_bnd (k := fun u => bnd y fun v => seq (bnd (st i u) fun _ => bnd (st j v) fun _ => Fe.ret .nx) rest) h1 fun u => t_bnd h2 fun v => fun s ρ k => h3 u v s _ ((k.set (e := .p u) rfl).set (e := .p v) rfl)).eqm fun ρ => by
    unfold par consA nilA
    unfold seq bnd
    cases x ρ with
    | no => rfl
    | ex _ _ => rfl
    | ok a ρ1 =>
      dsimp only
      cases y ρ1 <;> rfl
/-! loops -/
/-- a turn goes on -/
abbrev nextP (KL : τ → List (KE σ)) : Fl → τ → σ → Env → Prop := fun fl t s ρ => (fl = .nx ∨ fl = .ct) ∧ Kn (KL t) s ρ
abbrev doneP (KL : τ → List (KE σ)) : Fl → τ → σ → Env → Prop := fun fl t s ρ => fl = .nx ∧ Kn (KL t) s ρ
theorem forN_sim {KL : τ → List (KE σ)} {f : D → S} {f' : D → τ → Ms σ τ} (h : ∀ x t, SimT (KL t) (f x) (f' x t) (nextP KL)) : ∀ (l : List D) t, SimT (KL t) (forL f l) (forN f' l t) (doneP KL)
  | [], t => fun s ρ k => ⟨.nx, ρ, rfl, rfl, k⟩
  | x :: l, t => fun s ρ k => by
    have h1 := h x t s ρ k
    unfold forN forL
    unfold bnd
    revert h1
    cases f' x t s with
    | no => exact fun _ => True.intro
    | ex x s' => rintro ⟨ρ', e⟩; exact ⟨ρ', by rw [e]⟩
    | ok t' s' =>
      rintro ⟨fl, ρ', e, hf, k'⟩
      dsimp only
      rw [e]
      have := forN_sim h l t' s' ρ' k'
      rcases hf with rfl | rfl <;> exact this
theorem t_for {KL : τ → List (KE σ)} {it : M (List D)} {it' : Ms σ (List D)} {tg : G} {f' : D → τ → Ms σ τ} {t0 : τ} {q : τ → Ms σ ω} (h : SimE K it it') (h0 : Subs K (KL t0)) (hb : ∀ x t, SimT (KL t) (bnd (tg x) fun _ => b) (f' x t) (nextP KL)) (hr : ∀ t, SimT (KL t) rest (q t) post) :
    SimT K (seq (forS it tg b) rest) (bnd it' fun l => bnd (forN f' l t0) q) post :=
  (t_bnd (k := fun l => seq (forL (fun x => bnd (tg x) fun _ => b) l) rest) h fun l => fun s ρ k => by
    have := forN_sim hb l t0 s ρ (k.sub h0)
    unfold seq
    unfold bnd
    revert this
    cases forN f' l t0 s with
    | no => exact fun _ => True.intro
    | ex x s' => rintro ⟨ρ', e⟩; exact ⟨ρ', by unfold bnd at e; rw [e]⟩
    | ok t s' =>
      rintro ⟨fl, ρ', e, rfl, k'⟩
      unfold bnd at e
      dsimp only
      rw [e]
      exact hr t s' ρ' k').eqm fun ρ => by unfold forS; rw [seq_bnd]
/-- a turn that may end the loop, or the def -/
def loopP (Q : σ → Env → Prop) (KL KB : τ → List (KE σ)) : Fl → Lp τ → σ → Env → Prop := fun fl w s ρ => match w with
  | .nx t => (fl = .nx ∨ fl = .ct) ∧ Kn (KL t) s ρ
  | .bk t => fl = .bk ∧ Kn (KB t) s ρ
  | .rt d => fl = .rt d ∧ Q s ρ
def outP (Q : σ → Env → Prop) (KE' : τ → List (KE σ)) : Fl → Lp τ → σ → Env → Prop := fun fl w s ρ => match w with
  | .nx t => fl = .nx ∧ Kn (KE' t) s ρ
  | .bk _ => False
  | .rt d => fl = .rt d ∧ Q s ρ
theorem forX_sim {Q : σ → Env → Prop} {KL KB : τ → List (KE σ)} {f : D → S} {f' : D → τ → Ms σ (Lp τ)} (hl : ∀ t, Subs (KL t) (KB t)) (h : ∀ x t, SimT (KL t) (f x) (f' x t) (loopP Q KL KB)) : ∀ (l : List D) t, SimT (KL t) (forL f l) (forX f' l t) (outP Q KB)
  | [], t => fun s ρ k => ⟨.nx, ρ, rfl, rfl, k.sub (hl t)⟩
  | x :: l, t => fun s ρ k => by
    have h1 := h x t s ρ k
    unfold forX forL
    unfold bnd
    revert h1
    cases f' x t s with
    | no => exact fun _ => True.intro
    | ex x s' => rintro ⟨ρ', e⟩; exact ⟨ρ', by rw [e]⟩
    | ok w s' =>
      rintro ⟨fl, ρ', e, hf⟩
      dsimp only
      rw [e]
      cases w with
      | nx t' =>
        obtain ⟨hf, k'⟩ := hf
        have := forX_sim hl h l t' s' ρ' k'
        rcases hf with rfl | rfl <;> exact this
      | bk t' =>
        obtain ⟨rfl, k'⟩ := hf
        exact ⟨.nx, ρ', rfl, rfl, k'⟩
      | rt d =>
        obtain ⟨rfl, hq⟩ := hf
        exact ⟨.rt d, ρ', rfl, rfl, hq⟩
theorem t_forX {Q : σ → Env → Prop} {KL KB : τ → List (KE σ)} {it : M (List D)} {it' : Ms σ (List D)} {tg : G} {f' : D → τ → Ms σ (Lp τ)} {t0 : τ} {q : τ → Ms σ ω} {kr : D → Ms σ ω} (h : SimE K it it') (h0 : Subs K (KL t0)) (hl : ∀ t, Subs (KL t) (KB t)) (hb : ∀ x t, SimT (KL t) (bnd (tg x) fun _ => b) (f' x t) (loopP Q KL KB)) (hr : ∀ t, SimT (KB t) rest (q t) post)
    (hd : ∀ d s ρ, Q s ρ → match kr d s with | .ok w s' => post (.rt d) w s' ρ | .ex _ _ => False | .no => True) : SimT K (seq (forS it tg b) rest) (bnd it' fun l => bnd (forX f' l t0) fun r => lpK r q kr) post :=
  (t_bnd (k := fun l => seq (forL (fun x => bnd (tg x) fun _ => b) l) rest) h fun l => fun s ρ k => by
    have := forX_sim hl hb l t0 s ρ (k.sub h0)
    unfold seq
    unfold bnd
    revert this
    cases forX f' l t0 s with
    | no => exact fun _ => True.intro
    | ex x s' => rintro ⟨ρ', e⟩; exact ⟨ρ', by unfold bnd at e; rw [e]⟩
    | ok w s' =>
      rintro ⟨fl, ρ', e, hf⟩
      unfold bnd at e
      dsimp only
      rw [e]
      cases w with
      | nx t => obtain ⟨rfl, k'⟩ := hf; exact hr t s' ρ' k'
      | bk t => exact False.elim hf
      | rt d =>
        obtain ⟨rfl, hq⟩ := hf
        have := hd d s' ρ' hq
        unfold lpK
        dsimp only
        revert this
        cases kr d s' with
        | no => exact fun _ => True.intro
        | ex x s2 => exact fun h => False.elim h
        | ok w s2 => exact fun h => ⟨.rt d, ρ', rfl, h⟩).eqm fun ρ => by unfold forS; rw [seq_bnd]
theorem whN_sim {KL : τ → List (KE σ)} {t : M Bool} {t' : τ → Ms σ Bool} {f' : τ → Ms σ τ} (ht : ∀ x, SimE (KL x) t (t' x)) (h : ∀ x, SimT (KL x) b (f' x) (nextP KL)) : ∀ n x, SimT (KL x) (whlN t b n) (whN t' f' n x) (doneP KL)
  | 0, x => fun s ρ k => True.intro
  | n + 1, x => fun s ρ k => by
    have h1 := ht x s ρ k
    unfold whN whlN
    unfold bnd
    revert h1
    cases t' x s with
    | no => exact fun _ => True.intro
    | ex x s' => rintro ⟨ρ', e, _⟩; exact ⟨ρ', by rw [e]⟩
    | ok k1 s' =>
      rintro ⟨k2, ρ', e, rfl, k'⟩
      dsimp only
      rw [e]
      dsimp only
      cases k2 with
      | false =>
        rw [if_neg Bool.false_ne_true, if_neg Bool.false_ne_true]
        exact ⟨.nx, ρ', rfl, rfl, k'⟩
      | true =>
        rw [if_pos rfl, if_pos rfl]
        have h2 := h x s' ρ' k'
        revert h2
        cases f' x s' with
        | no => exact fun _ => True.intro
        | ex x s' => rintro ⟨ρ', e⟩; exact ⟨ρ', by rw [e]⟩
        | ok y s2 =>
          rintro ⟨fl, ρ2, e2, hf, k2⟩
          dsimp only
          rw [e2]
          have := whN_sim ht h n y s2 ρ2 k2
          rcases hf with rfl | rfl <;> exact this
theorem t_while {KL : τ → List (KE σ)} {t : M Bool} {t' : τ → Ms σ Bool} {f' : τ → Ms σ τ} {t0 : τ} {q : τ → Ms σ ω} (h0 : Subs K (KL t0)) (ht : ∀ x, SimE (KL x) t (t' x)) (hb : ∀ x, SimT (KL x) b (f' x) (nextP KL)) (hr : ∀ x, SimT (KL x) rest (q x) post) :
    SimT K (seq (whl t b) rest) (bnd (whN t' f' fuel t0) q) post := fun s ρ k => by
  have := whN_sim ht hb fuel t0 s ρ (k.sub h0)
  unfold whl seq
  unfold bnd
  revert this
  cases whN t' f' fuel t0 s with
  | no => exact fun _ => True.intro
  | ex x s' => rintro ⟨ρ', e⟩; exact ⟨ρ', by rw [e]⟩
  | ok t s' =>
    rintro ⟨fl, ρ', e, rfl, k'⟩
    dsimp only
    rw [e]
    exact hr t s' ρ' k'
end
end Fe
end
section
set_option Elab.async false
set_option linter.all false
set_option maxRecDepth 100000
set_option maxHeartbeats 1000000
namespace Fe
open PySem (Str)
section
variable {ω : Type} {K : List (KE D)} {rest : S} {post : Fl → ω → D → Env → Prop}
theorem wrt_os {i : Nat} {s s' : D} {ρ : Env} (k : Kn K s ρ) (hi : K[i]? = some (.os id)) (hn : noS (K.set i .nown) = true) : Kn K s' (wrt ρ s' (.v i)) := by
  have e : Fe.get ρ i = some (.o s) := k.look hi
  have e2 : wrt ρ s' (.v i) = ρ.set i (some (.o s')) := by
    unfold wrt
    dsimp only
    rw [e]
  rw [e2]
  exact k.state (noS_el hn) hi
theorem isL_bndT {i : Nat} {f : List D → S} {p : Ms D ω} (hi : K[i]? = some (.os id)) (h : ∀ l, SimT K (f l) p post) : SimT K (bnd (ownL (.v i)) f) (isL p) post := fun s ρ k => by
  cases s with
  | lst l =>
    have e : bnd (ownL (.v i)) f ρ = f l ρ := by unfold bnd; rw [ownL_eq (os_list k hi)]
    rw [e]; exact h l _ ρ k
  | _ => exact True.intro
theorem isL_bnd {α β : Type} {m : Ms D α} {f : α → Ms D β} : bnd (isL m) f = isL (bnd m f) := by
  funext s
  unfold isL bnd
  cases s <;> rfl
/-- row[k] = e -/
theorem t_setS {i : Nat} {k e : M D} {k' e' : Ms D D} {q : Ms D ω} (hi : K[i]? = some (.os id)) (hn : noS (K.set i .nown) = true) (h : SimE K e e') (hk : SimE K k k') (h2 : SimT K rest q post) : SimT K (seq (setO (.v i) k e) rest) (bnd (setS k' e') fun _ => q) post := by
  unfold setS
  rw [bnd_assoc]
  refine (t_bnd (k := fun x => seq (bnd (ownL (.v i)) fun _ => bnd k fun k => bnd (ownL (.v i)) fun l => match k with
    | .int k => (match ixN l.length k with
      | some j => wr (.v i) (.lst (l.set j x))
      | none => nog)
    | _ => nog) rest) h fun x => ?_).eqm fun ρ => by unfold setO; rw [seq_bnd]; try rfl
  rw [isL_bnd, bnd_assoc]
  refine (isL_bndT hi (f := fun _ => seq (bnd k fun k => bnd (ownL (.v i)) fun l => match k with
    | .int k => (match ixN l.length k with
      | some j => wr (.v i) (.lst (l.set j x))
      | none => nog)
    | _ => nog) rest) fun _ => ?_).eqm fun ρ => by rw [seq_bnd]
  refine (t_bnd (k := fun k => seq (bnd (ownL (.v i)) fun l => match k with
    | .int k => (match ixN l.length k with
      | some j => wr (.v i) (.lst (l.set j x))
      | none => nog)
    | _ => nog) rest) hk fun y => ?_).eqm fun ρ => by rw [seq_bnd]
  intro s ρ kn
  cases s with
  | lst l =>
    have e1 : seq (bnd (ownL (.v i)) fun l => match y with
      | .int k => (match ixN l.length k with
        | some j => wr (.v i) (.lst (l.set j x))
        | none => nog)
      | _ => nog) rest ρ = seq (match y with
      | .int k => (match ixN l.length k with
        | some j => wr (.v i) (.lst (l.set j x))
        | none => nog)
      | _ => nog) rest ρ := by
      rw [seq_bnd]
      unfold bnd
      rw [ownL_eq (os_list kn hi)]
    rw [e1]
    cases y <;> first | exact True.intro | skip
    rename_i y
    unfold bnd
    dsimp only
    cases hj : ixN l.length y with
    | none => exact True.intro
    | some j =>
      dsimp only
      exact h2 _ _ (wrt_os kn hi hn)
  | _ => exact True.intro
/-- row = [..] -/
theorem t_newS {i : Nat} {e : M D} {e' : Ms D D} {q : Ms D ω} (hn : noS K = true) (h : SimE K e e') (h2 : SimT (K.set i (.os id)) rest q post) : SimT K (seq (asgO i e) rest) (bnd e' fun x => bnd (putS x) fun _ => q) post :=
  (t_bnd (k := fun x => seq (bnd (new i x) fun _ => Fe.ret .nx) rest) h fun x => fun s ρ k => by
    have k2 : Kn K x ρ := ⟨k.len, fun j e hj => by
      have := k.at' j e hj
      cases e with
      | os f =>
        have := List.all_eq_true.mp hn _ (List.mem_of_getElem? hj)
        cases this
      | ost f =>
        have := List.all_eq_true.mp hn _ (List.mem_of_getElem? hj)
        cases this
      | _ => exact this⟩
    exact h2 x _ (k2.set (e := .os id) rfl)).eqm fun ρ => by unfold asgO; rw [seq_bnd]
end
/-! ### defs -/
def postF {σ : Type} : Fl → D → σ → Env → Prop := fun fl d _ _ => fl = .rt d ∨ fl = .nx ∧ d = .non
def postO : Fl → D → D → Env → Prop := fun fl d s ρ => (fl = .rt d ∨ fl = .nx ∧ d = .non) ∧ get ρ 0 = some (.o s)
def LeF {σ : Type} (g : Rs σ D) (f : F) : Prop := match g with
  | .ok d _ => f = .ok d
  | .ex x _ => f = .ex x
  | .no => True
def LeO (g : Rs D D) (f : FO) : Prop := match g with
  | .ok d s => f = .ok d (.o s)
  | .ex x _ => f = .ex x
  | .no => True
def startK {σ : Type} (m : Nat) (ds : List D) : List (KE σ) := ds.map KE.p ++ List.replicate (m - ds.length) .nown
theorem start_kn {σ : Type} {m : Nat} {ds : List D} {s : σ} : Kn (startK m ds) s (start m ds) := by
  refine ⟨by unfold start startK; simp, fun i k h => ?_⟩
  unfold startK at h
  unfold start get
  by_cases hi : i < ds.length
  · rw [List.getElem?_append_left (by rw [List.length_map]; exact hi), List.getElem?_map, List.getElem?_eq_getElem hi] at h ⊢
    cases h; rfl
  · rw [List.getElem?_append_right (by rw [List.length_map]; omega), List.getElem?_replicate] at h ⊢
    rw [List.length_map] at h ⊢
    split at h
    · rename_i hl; cases h; rw [if_pos hl]; rfl
    · cases h
def startKO (m : Nat) (ds : List D) : List (KE D) := .os id :: (ds.map KE.p ++ List.replicate (m - ds.length - 1) .nown)
theorem startO_kn {m : Nat} {ds : List D} {s : D} : Kn (startKO m ds) s (startO m (.o s) ds) := by
  refine ⟨by unfold startO startKO; simp, fun i k h => ?_⟩
  cases i with
  | zero => cases h; rfl
  | succ i =>
    have h' : (ds.map (KE.p (σ := D)) ++ List.replicate (m - ds.length - 1) .nown)[i]? = some k := h
    show k.ok s (((ds.map (fun d => some (C.p d)) ++ List.replicate (m - ds.length - 1) none)[i]?).getD none)
    by_cases hi : i < ds.length
    · rw [List.getElem?_append_left (by rw [List.length_map]; exact hi), List.getElem?_map, List.getElem?_eq_getElem hi] at h' ⊢
      cases h'; rfl
    · rw [List.getElem?_append_right (by rw [List.length_map]; omega), List.getElem?_replicate] at h' ⊢
      rw [List.length_map] at h' ⊢
      split at h'
      · rename_i hl; cases h'; rw [if_pos hl]; rfl
      · cases h'
theorem run_sim {σ : Type} {n m : Nat} {b : S} {ds : List D} (s0 : σ) {g : Ms σ D} (hl : ds.length = n) (h : SimT (startK m ds) b g postF) : LeF (g s0) (run n m b ds) := by
  have := h s0 _ start_kn
  unfold run
  rw [if_pos hl]
  revert this
  unfold LeF
  cases g s0 with
  | no => exact fun _ => True.intro
  | ex x s => rintro ⟨ρ', e⟩; dsimp only; rw [e]
  | ok d s =>
    rintro ⟨fl, ρ', e, h⟩
    dsimp only
    rw [e]
    rcases h with rfl | ⟨rfl, rfl⟩ <;> rfl
theorem runO_sim {n m : Nat} {b : S} {ds : List D} {g : Ms D D} (hl : ds.length + 1 = n) (h : SimT (startKO m ds) b g postO) (s : D) : LeO (g s) (runO n m b (.o s) ds) := by
  have := h s _ startO_kn
  unfold runO
  rw [if_pos hl]
  revert this
  unfold LeO
  cases g s with
  | no => exact fun _ => True.intro
  | ex x s => rintro ⟨ρ', e⟩; dsimp only; rw [e]
  | ok d s =>
    rintro ⟨fl, ρ', e, h, h2⟩
    dsimp only
    rw [e]
    rcases h with rfl | ⟨rfl, rfl⟩ <;> (dsimp only; unfold outO; rw [h2])
/-- ends of a def -/
theorem pf_rt {σ : Type} {K : List (KE σ)} : ∀ (d : D) (s : σ) (ρ : Env), Kn K s ρ → postF (.rt d) d s ρ := fun _ _ _ _ => .inl rfl
theorem pf_nx {σ : Type} {K : List (KE σ)} : ∀ (s : σ) (ρ : Env), Kn K s ρ → postF .nx .non s ρ := fun _ _ _ => .inr ⟨rfl, rfl⟩
theorem po_rt {K : List (KE D)} (h : K[0]? = some (.os id)) : ∀ (d : D) (s : D) (ρ : Env), Kn K s ρ → postO (.rt d) d s ρ := fun _ _ _ k => ⟨.inl rfl, k.look h⟩
/-- ends of a turn -/
theorem pn_nx {σ τ : Type} {KL : τ → List (KE σ)} {K : List (KE σ)} {t : τ} (h : Subs K (KL t)) : ∀ (s : σ) (ρ : Env), Kn K s ρ → nextP KL .nx t s ρ := fun _ _ k => ⟨.inl rfl, k.sub h⟩
theorem pj_nx {σ τ : Type} {KL : τ → List (KE σ)} {K : List (KE σ)} {t : τ} (h : Subs K (KL t)) : ∀ (s : σ) (ρ : Env), Kn K s ρ → joinP KL .nx t s ρ := fun _ _ k => ⟨rfl, k.sub h⟩
theorem pl_nx {σ τ : Type} {Q : σ → Env → Prop} {KL KB : τ → List (KE σ)} {K : List (KE σ)} {t : τ} (h : Subs K (KL t)) : ∀ (s : σ) (ρ : Env), Kn K s ρ → loopP Q KL KB .nx (.nx t) s ρ := fun _ _ k => ⟨.inl rfl, k.sub h⟩
theorem pl_ct {σ τ : Type} {Q : σ → Env → Prop} {KL KB : τ → List (KE σ)} {K : List (KE σ)} {t : τ} (h : Subs K (KL t)) : ∀ (s : σ) (ρ : Env), Kn K s ρ → loopP Q KL KB .ct (.nx t) s ρ := fun _ _ k => ⟨.inr rfl, k.sub h⟩
def qT {σ : Type} : σ → Env → Prop := fun _ _ => True
theorem pl_rt {σ τ : Type} {KL KB : τ → List (KE σ)} {K : List (KE σ)} : ∀ (d : D) (s : σ) (ρ : Env), Kn K s ρ → loopP qT KL KB (.rt d) (.rt d) s ρ := fun _ _ _ _ => ⟨rfl, True.intro⟩
/-- a return within a loop of a def, of a loop -/
theorem hd_f {σ : Type} {Q : σ → Env → Prop} : ∀ (d : D) (s : σ) (ρ : Env), Q s ρ → match (Fe.ret d : Ms σ D) s with | .ok w s' => postF (.rt d) w s' ρ | .ex _ _ => False | .no => True := fun _ _ _ _ => .inl rfl
end Fe
end
section
set_option Elab.async false
set_option linter.all false
set_option maxRecDepth 100000
namespace Fe
section
variable {σ α β γ δ ω : Type} {K K' : List (KE σ)} {post : Fl → ω → σ → Env → Prop} {rest : S} {g : Ms σ ω}
theorem sm_itmE {a : M D} {a' : Ms σ D} (h : SimE K a a') : SimE K (itmE a) (itmE a') := sm_bnd h fun _ => sm_lft
/-- a slice of a list of one's own -/
def slcP (d : D) (lo hi : Ms σ (Option Int)) : Ms σ D := match d with
  | .lst o => bnd lo fun l => bnd hi fun h => lft (dSl (.lst o) l h)
  | _ => nog
theorem sm_slcO {i : Nat} {d : D} {l h : M (Option Int)} {l' h' : Ms σ (Option Int)} (e : K[i]? = some (.oc d)) (h1 : SimE K l l') (h2 : SimE K h h') : SimE K (slcO (.v i) l h) (slcP d l' h') := by
  cases d <;> first | exact sm_nog | skip
  exact ownL_bndR e (sm_bnd h1 fun _ => ownL_bndR e (sm_bnd h2 fun _ => ownL_bndR e sm_lft))
theorem t_par3 {i j k : Nat} {x y z : M D} {x' y' z' : Ms σ D} {q : D → D → D → Ms σ ω} (h1 : SimE K x x') (h2 : SimE K y y') (h3 : SimE K z z') (h4 : ∀ u v w, SimT (((K.set i (.p u)).set j (.p v)).set k (.p w)) rest (q u v w) post) :
    SimT K (seq (par3 i j k (consA x (consA y (consA z nilA)))) rest) (bnd x' fun u => bnd y' fun v => bnd z' fun w => q u v w) post := by
  refine (t_bnd (k := fun u => bnd y fun v => bnd z fun w => seq (bnd (st i u) fun _ => bnd (st j v) fun _ => bnd (st k w) fun _ => Fe.ret .nx) rest) h1 fun u => t_bnd h2 fun v => t_bnd h3 fun w => fun s ρ kn => h4 u v w s _ (((kn.set (e := .p u) rfl).set (e := .p v) rfl).set (e := .p w) rfl)).eqm fun ρ => by
    unfold par3 consA nilA
    unfold seq bnd
    cases x ρ with
    | no => rfl
    | ex _ _ => rfl
    | ok a ρ1 =>
      dsimp only
      cases y ρ1 with
      | no => rfl
      | ex _ _ => rfl
      | ok a ρ2 =>
        dsimp only
        cases z ρ2 <;> rfl
/-- a def's own value -/
theorem LeF.ok {g : Ms σ D} {f : F} {s : σ} {d : D} (h : LeF (g s) f) (e : g = Fe.ret d) : f = .ok d := by rw [e] at h; exact h
theorem LeF.ex {g : Ms σ D} {f : F} {s : σ} {x : Ex} (h : LeF (g s) f) (e : g = raise x) : f = .ex x := by rw [e] at h; exact h
end
end Fe
end
section
set_option Elab.async false
set_option linter.all false
set_option maxRecDepth 100000
set_option maxHeartbeats 1000000
namespace Fe
open PySem (Str)
section
variable {σ : Type} {K : List (KE σ)}
end
end Fe
end
section
set_option Elab.async false
set_option linter.all false
set_option maxRecDepth 100000
set_option maxHeartbeats 1000000
namespace Fe
open PySem (Str)
/-- s[i] -/
def dIxT : D → D → Option D
  | .str z, .int i => if z.length ≤ lim then (ixN z.cps.toList.length i).bind fun j => (z.cps.toList[j]?).map fun c => .str ⟨#[c]⟩ else none
  | _, _ => none
/-- s in t -/
def dInT : D → D → Option Bool
  | .str x, .str y => some (!(PySem.Builtin.Str.occurrences y x 0 y.length 1).isEmpty)
  | _, _ => none
def dNotInT (x y : D) : Option Bool := (dInT x y).map (!·)
section
variable {σ : Type} {K : List (KE σ)}
end
/-- enumerate(x) of a text -/
def dEnumS : D → Option (List D)
  | .str x => some ((x.cps.toList.map fun c => D.str ⟨#[c]⟩).zipIdx.map fun p => .tup [.int p.2, p.1])
  | _ => none
def itmES {σ : Type} (a : Ms σ D) : Ms σ (List D) := bnd a fun x => lft (dEnumS x)
theorem sm_itmES {σ : Type} {K : List (KE σ)} {a : M D} {a' : Ms σ D} (ha : SimE K a a') : SimE K (itmES a) (itmES a') := sm_bnd ha fun _ => sm_lft
end Fe
end
section
set_option Elab.async false
set_option linter.all false
set_option maxRecDepth 100000
set_option maxHeartbeats 1000000
namespace Fe
open PySem PySem.Spec PyProof.Rows L2
section
variable {B : Bs}
theorem rule_notInT : Rule2 B (fun x y H Q => ∃ i j, x = .str i ∧ y = .str j ∧ Q (.bl (!(!(Builtin.Str.occurrences j i 0 j.length 1).isEmpty))) H) (mbl dNotInT) := by
  intro G H d e z x y Q s n rx ry h k
  obtain ⟨b, hb, rfl⟩ := mbl_some h
  unfold dNotInT at hb
  obtain ⟨b', hb', rfl⟩ := Option.map_eq_some_iff.mp hb
  cases d <;> cases e <;> first | (cases hb'; done) | skip
  cases hb'
  exact ⟨_, _, rep_str.mp rx, rep_str.mp ry, k _ _ _ (New.refl s n) (rep_bl.mpr rfl)⟩
end
section
variable {X : Cx} {B : Bs} {c : Ct B} {W : WX} {a b e o : Expr} {fa fb fe fo : M D} {pos p p1 apos : Pos}
theorem t_notInT (ha : PE X a (dE c W fa)) (hb : PE X b (dE c W fb)) (hm : behindInMarks .NotIn b = false := by rfl) : PT X (.Compare a [.NotIn] [b] pos) (dT c W (tsb (cmp dNotInT fa fb))) := t_cmp op_notin_str rule_notInT ha hb hm
/-- s[i] -/
theorem rule_ixT : Rule2 B rIxS dIxT := by
  intro G H d e z x y Q s n rx ry h k
  cases d <;> cases e <;> first | (cases h; done) | skip
  rename_i zz i
  simp only [dIxT] at h
  split at h
  · rename_i hz
    obtain ⟨j, hj, h2⟩ := Option.bind_eq_some_iff.mp h
    obtain ⟨cc, hc, rfl⟩ := Option.map_eq_some_iff.mp h2
    refine ⟨zz, i, cc, rep_str.mp rx, rep_int.mp ry, by rw [← lim_eq]; exact hz, ?_, k _ _ _ (New.refl s n) (rep_str.mpr rfl)⟩
    unfold atI
    show (Fe.ixN zz.cps.toList.length i).bind _ = _
    rw [hj]
    exact hc
  · cases h
theorem e_ixT (ha : PE X a (dE c W fa)) (hb : PE X b (dE c W fb)) (hs : PlainIx b := by exact fun _ _ => rfl) : PE X (.Subscript a b pos) (dE c W (op2 dIxT fa fb)) :=
  peI (pe_ix ix_str ha hb hs) fun _ _ _ h => use2 rule_ixT h
end
end Fe
end
section
set_option Elab.async false
set_option linter.all false
set_option maxRecDepth 100000
set_option maxHeartbeats 1000000
namespace Fe
open PySem (Str)
def tryF (xn f1 f2 : Str) (e : M D) : S := fun ρ => match e ρ with
  | .ok _ ρ' => .ok .nx ρ'
  | .ex x ρ' => if x.c = xn then (match x.fs.lookup f1, x.fs.lookup f2 with
    | some a, some b => .ok (.rt (.tup [a, b])) ρ'
    | _, _ => .no) else .no
  | .no => .no
section
variable {σ ω : Type} {K : List (KE σ)}
def tryP (xn f1 f2 : Str) (e : Ms σ D) (k : Ms σ D) : Ms σ D := fun s => match e s with
  | .ok _ s' => k s'
  | .ex x s' => if x.c = xn then (match x.fs.lookup f1, x.fs.lookup f2 with
    | some a, some b => .ok (.tup [a, b]) s'
    | _, _ => .no) else .no
  | .no => .no
theorem t_tryF {xn f1 f2 : Str} {e : M D} {e' : Ms σ D} {rest : S} {q : Ms σ D} {post : Fl → D → σ → Env → Prop} (hp : ∀ d s ρ, Kn K s ρ → post (.rt d) d s ρ) (h : SimE K e e') (h2 : SimT K rest q post) : SimT K (seq (tryF xn f1 f2 e) rest) (tryP xn f1 f2 e' q) post := fun s ρ kn => by
  have k := h s ρ kn
  unfold tryP
  revert k
  cases e' s with
  | no => exact fun _ => True.intro
  | ok b s' =>
    rintro ⟨a, ρ', e1, rfl, kn'⟩
    have es : seq (tryF xn f1 f2 e) rest ρ = rest ρ' := by
      unfold seq bnd tryF
      rw [e1]
    have := h2 s' ρ' kn'
    dsimp only
    rw [es]
    exact this
  | ex x s' =>
    rintro ⟨ρ', e1, kn'⟩
    dsimp only
    by_cases hx : x.c = xn
    · rw [if_pos hx]
      cases h1 : x.fs.lookup f1 with
      | none => exact True.intro
      | some a =>
        cases h3 : x.fs.lookup f2 with
        | none => exact True.intro
        | some b =>
          refine ⟨.rt (.tup [a, b]), ρ', ?_, hp _ _ _ kn'⟩
          unfold seq bnd tryF
          rw [e1]
          dsimp only
          rw [if_pos hx, h1, h3]
          rfl
    · rw [if_neg hx]
      exact True.intro
end
end Fe
end
section
set_option Elab.async false
set_option linter.all false
set_option maxRecDepth 100000
set_option maxHeartbeats 1000000
namespace Fe
open PySem (Str)
/-- + of ints -/
def dAddI : D → D → Option D
  | .int i, .int j => some (.int (i + j))
  | _, _ => none
/-- s * n -/
def dMulS : D → D → Option D
  | .str a, .int n => if 0 ≤ n ∧ n ≤ 1000 ∧ a.length ≤ 1000 then some (.str ⟨(List.replicate n.toNat a.cps.toList).flatten.toArray⟩) else none
  | _, _ => none
section
variable {σ ω : Type} {K : List (KE σ)} {post : Fl → ω → σ → Env → Prop} {rest : S}
end
end Fe
end
section
set_option Elab.async false
set_option linter.all false
set_option maxRecDepth 100000
set_option maxHeartbeats 1000000
namespace Fe
open PySem (Str)
/-- x[i], texts too -/
def dIxB (x y : D) : Option D := match x with
  | .str z => dIxT (.str z) y
  | _ => dIxA x y
def obAt (c : Str) (x : Option C) : Option (List Str × List C) := match x with
  | some (.ob c' ns cs) => if c' = c then some (ns, cs) else none
  | _ => none
def obFld (c f : Str) (x : Option C) : Option D := match obAt c x with
  | some (ns, cs) => (match (ns.zip cs).lookup f with
    | some (.p d) => some d
    | _ => none)
  | none => none
/-- self.f, plain -/
def fldM (c : Str) (i : Nat) (f : Str) : M D := fun ρ => match obFld c f (get ρ i) with
  | some d => .ok d ρ
  | none => .no
/-- x.f of a plain instance -/
def dFld (c f : Str) : D → Option D
  | .obj c' ns vs => if c' = c then (ns.zip vs).lookup f else none
  | _ => none
/-- a field is set -/
def putN : List Str → List C → Str → C → List Str × List C
  | n :: ns, c :: cs, f, x => if n = f then (n :: ns, x :: cs) else (n :: (putN ns cs f x).1, c :: (putN ns cs f x).2)
  | _, _, f, x => ([f], [x])
def setOb (c f : Str) (x : C) (o : Option C) : Option C := match obAt c o with
  | some (ns, cs) => if ns.length < 100 ∧ ns.length = cs.length then some (.ob c (putN ns cs f x).1 (putN ns cs f x).2) else none
  | none => none
def setM (c : Str) (i : Nat) (f : Str) (x : C) : M Unit := fun ρ => match setOb c f x (get ρ i) with
  | some o => .ok () ((ρ.map clr).set i (some o))
  | none => .no
/-- self.f = e, e plain; a list, a dict of one's own; self.f += e of ints -/
def sFd (c : Str) (i : Nat) (f : Str) (e : M D) : S := bnd e fun d => bnd (setM c i f (.p d)) fun _ => ret .nx
def sFa (c : Str) (i : Nat) (f : Str) (e : M D) : S := bnd (fldM c i f) fun x => bnd e fun y => bnd (lft (dAddI x y)) fun z => bnd (setM c i f (.p z)) fun _ => ret .nx
def sFs (c : Str) (i : Nat) (f : Str) (e : M D) : S := bnd (fldM c i f) fun x => bnd e fun y => bnd (lft (dSub x y)) fun z => bnd (setM c i f (.p z)) fun _ => ret .nx
/-- the instance in slot i is of class c, and has no attribute m -/
def chk (c m : Str) (i : Nat) : M Unit := fun ρ => match obAt c (get ρ i) with
  | some (ns, cs) => if m ∈ ns then .no else .ok () ρ
  | none => .no
/-- self.m(..) -/
def clm (c m : Str) (f : C → List D → FO) (i : Nat) (a : M (List D)) : M D := bnd (chk c m i) fun _ => clo f i a
section
variable {σ : Type}
def plainCs : List C → Option (List D)
  | [] => some []
  | .p d :: r => (plainCs r).map (d :: ·)
  | _ :: _ => none
def plainC : C → Option D
  | .ob c ns cs => (plainCs cs).map fun ds => .obj c ns ds
  | _ => none
/-- C(..), the instance plain from then on -/
def mkP (c : Str) (f : C → List D → FO) (a : Ms σ (List D)) : Ms σ D := bnd a fun l => match f (.ob c [] []) l with
  | .ok .non y => lft (plainC y)
  | .ex x => raise x
  | _ => nog
/-- C(..).m() -/
def tmpC (c m : Str) (f g : C → List D → FO) (a : Ms σ (List D)) : Ms σ D := bnd a fun l => match f (.ob c [] []) l with
  | .ok .non (.ob c' ns cs) => if c' = c ∧ ¬ m ∈ ns then (match g (.ob c' ns cs) [] with
    | .ok d _ => ret d
    | .ex x => raise x
    | .no => nog) else nog
  | .ex x => raise x
  | _ => nog
variable {K : List (KE σ)}
theorem sm_mkP {c : Str} {f : C → List D → FO} {a : M (List D)} {a' : Ms σ (List D)} (h : SimE K a a') : SimE K (mkP c f a) (mkP c f a') := sm_bnd h fun l => by
  cases f (.ob c [] []) l with
  | no => exact sm_nog
  | ex x => exact sm_raise
  | ok d y => cases d <;> first | exact sm_lft | exact sm_nog
theorem sm_tmpC {c m : Str} {f g : C → List D → FO} {a : M (List D)} {a' : Ms σ (List D)} (h : SimE K a a') : SimE K (tmpC c m f g a) (tmpC c m f g a') := sm_bnd h fun l => by
  cases f (.ob c [] []) l with
  | no => exact sm_nog
  | ex x => exact sm_raise
  | ok d y =>
    cases d <;> first | exact sm_nog | skip
    cases y <;> first | exact sm_nog | skip
    dsimp only
    refine sm_ite ?_ sm_nog
    split
    · exact sm_ret
    · exact sm_raise
    · exact sm_nog
end
section
variable {α β ω τ : Type} {K K' : List (KE C)} {s : C} {ρ : Env} {post : Fl → ω → C → Env → Prop} {rest : S} {q : Ms C ω}
def fldS (c f : Str) : Ms C D := fun s => match obFld c f (some s) with
  | some d => .ok d s
  | none => .no
def setS2 (c f : Str) (x : C) : Ms C Unit := fun s => match setOb c f x (some s) with
  | some o => .ok () o
  | none => .no
def fdS (c f : Str) (e : Ms C D) : Ms C Unit := bnd e fun d => setS2 c f (.p d)
def faS (c f : Str) (e : Ms C D) : Ms C Unit := bnd (fldS c f) fun x => bnd e fun y => bnd (lft (dAddI x y)) fun z => setS2 c f (.p z)
def fsS (c f : Str) (e : Ms C D) : Ms C Unit := bnd (fldS c f) fun x => bnd e fun y => bnd (lft (dSub x y)) fun z => setS2 c f (.p z)
def fldO (f : Str) (s : C) : Option D := flat (fldC (some s) f)
def chkS (c m : Str) : Ms C Unit := fun s => match obAt c (some s) with
  | some (ns, cs) => if m ∈ ns then .no else .ok () s
  | none => .no
def dead : C := .al ""
def cloC (f : C → List D → FO) (a : Ms C (List D)) : Ms C D := bnd a fun l => fun s => if ownC s = true then (match f s l with
  | .ok d s' => if ownC s' = true then .ok d s' else .no
  | .ex x => .ex x dead
  | .no => .no) else .no
def clmS (c m : Str) (f : C → List D → FO) (a : Ms C (List D)) : Ms C D := bnd (chkS c m) fun _ => cloC f a
/-- the state is known at slot 0 alone; besides, no list by another name -/
def oneC (K : List (KE C)) : Bool := (K.drop 1).all fun k => match k with
  | .os _ => false
  | .ost _ => false
  | _ => true
def noAl (K : List (KE C)) : Bool := (K.drop 1).all fun k => match k with
  | .os _ => false
  | .ost _ => false
  | .ali _ => false
  | _ => true
theorem drop_at {i : Nat} {e : KE C} (h : K[i + 1]? = some e) : e ∈ K.drop 1 := by
  have : (K.drop 1)[i]? = some e := by rw [List.getElem?_drop, Nat.add_comm]; exact h
  exact List.mem_of_getElem? this
theorem Kn.newC (k : Kn K s ρ) (hi : K[0]? = some (.ost id)) (hn : oneC K = true) {s' : C} : Kn K s' (ρ.set 0 (some s')) := ⟨by rw [List.length_set, k.len], fun j e hj => by
  cases j with
  | zero =>
    rw [hi] at hj
    cases hj
    have : 0 < ρ.length := by rw [k.len]; exact (List.getElem?_eq_some_iff.mp hi).1
    intro _
    unfold get
    rw [List.getElem?_set_self this]; rfl
  | succ j =>
    have g : get (ρ.set 0 (some s')) (j + 1) = get ρ (j + 1) := by unfold get; rw [List.getElem?_set_ne (by omega)]
    rw [g]
    have h1 := k.at' _ e hj
    have h2 := List.all_eq_true.mp hn _ (drop_at hj)
    cases e with
    | os f => cases h2
    | ost f => cases h2
    | _ => exact h1⟩
theorem oneC_of (hn : noAl K = true) : oneC K = true := List.all_eq_true.mpr fun e he => by
  have h2 := List.all_eq_true.mp hn e he
  cases e <;> first | rfl | cases h2
theorem noAl_al (hi : K[0]? = some (.ost id)) (hn : noAl K = true) : ∀ (j : Nat) (f : Str), K[j]? ≠ some (KE.ali f) := fun j f e => by
  cases j with
  | zero => rw [hi] at e; cases e
  | succ j =>
    have h2 := List.all_eq_true.mp hn _ (drop_at e)
    cases h2
theorem Kn.clrC (k : Kn K s ρ) (hal : ∀ (j : Nat) (f : Str), K[j]? ≠ some (KE.ali f)) : Kn K s (ρ.map Fe.clr) := ⟨by rw [List.length_map, k.len], fun i e h => by
  have g : get (ρ.map Fe.clr) i = Fe.clr (get ρ i) := by
    unfold get
    rw [List.getElem?_map]
    cases ρ[i]? <;> rfl
  rw [g]
  have := k.at' i e h
  cases e with
  | junk => exact True.intro
  | nown =>
    have t : isO (get ρ i) = false := this
    show isO (Fe.clr (get ρ i)) = false
    cases q : get ρ i with
    | none => rfl
    | some x => rw [q] at t; cases x <;> first | rfl | cases t
  | p d => have t : get ρ i = some (.p d) := this; show Fe.clr (get ρ i) = _; rw [t]; rfl
  | oc d => have t : get ρ i = some (.o d) := this; show Fe.clr (get ρ i) = _; rw [t]; rfl
  | os f => have t : get ρ i = some (.o (f s)) := this; show Fe.clr (get ρ i) = _; rw [t]; rfl
  | ost f =>
    have t : ownC (f s) = true → get ρ i = some (f s) := this
    intro ho
    rw [t ho]
    cases hf : f s <;> rw [hf] at ho <;> first | rfl | cases ho
  | ali f => exact absurd h (hal i f)⟩
theorem Kn.at0 (k : Kn K s ρ) (hi : K[0]? = some (.ost id)) (ho : ownC s = true) : get ρ 0 = some s := k.look hi ho
theorem obAt_own {c : Str} {x} (h : obAt c (some s) = some x) : ownC s = true := by
  cases s with
  | ob _ _ _ => rfl
  | _ => cases h
theorem obFld_own {c f : Str} {d : D} (h : obFld c f (some s) = some d) : ownC s = true := by
  unfold obFld at h
  cases ho : obAt c (some s) with
  | none => rw [ho] at h; cases h
  | some x => exact obAt_own ho
theorem setOb_own {c f : Str} {x o : C} (h : setOb c f x (some s) = some o) : ownC s = true ∧ ownC o = true := by
  unfold setOb at h
  cases ho : obAt c (some s) with
  | none => rw [ho] at h; cases h
  | some y =>
    rw [ho] at h
    dsimp only at h
    split at h
    · cases h; exact ⟨obAt_own ho, rfl⟩
    · cases h
theorem fldO_own {f : Str} {d : D} (h : fldO f s = some d) : ownC s = true := by
  cases s with
  | ob _ _ _ => rfl
  | _ => cases h
theorem sm_fldS {c f : Str} (hi : K[0]? = some (.ost id)) : SimE K (fldM c 0 f) (fldS c f) := fun s ρ k => by
  unfold fldS
  cases h : obFld c f (some s) with
  | none => exact True.intro
  | some d =>
    dsimp only
    refine ⟨d, ρ, ?_, rfl, k⟩
    unfold fldM
    rw [k.at0 hi (obFld_own h), h]
theorem setM_eq {c f : Str} {x o : C} (hi : K[0]? = some (.ost id)) (k : Kn K s ρ) (h : setOb c f x (some s) = some o) : setM c 0 f x ρ = .ok () ((ρ.map clr).set 0 (some o)) := by
  unfold setM
  rw [k.at0 hi (setOb_own h).1, h]
theorem sm_setS {c f : Str} {x : C} (hi : K[0]? = some (.ost id)) (hn : noAl K = true) : SimE K (setM c 0 f x) (setS2 c f x) := fun s ρ k => by
  unfold setS2
  cases h : setOb c f x (some s) with
  | none => exact True.intro
  | some o =>
    dsimp only
    exact ⟨(), _, setM_eq hi k h, rfl, (k.clrC (noAl_al hi hn)).newC hi (oneC_of hn)⟩
theorem t_unit {m : M Unit} {p : Ms C Unit} (h : SimE K m p) (h2 : SimT K rest q post) : SimT K (seq (bnd m fun _ => Fe.ret .nx) rest) (bnd p fun _ => q) post :=
  (t_bnd (k := fun _ => seq (Fe.ret .nx) rest) h fun _ => h2.eqm fun ρ => rfl).eqm fun ρ => by
    unfold seq bnd
    cases m ρ <;> rfl
theorem t_sFd {c f : Str} {e : M D} {e' : Ms C D} (hi : K[0]? = some (.ost id)) (hn : noAl K = true) (h : SimE K e e') (h2 : SimT K rest q post) : SimT K (seq (sFd c 0 f e) rest) (bnd (fdS c f e') fun _ => q) post :=
  (t_unit (m := bnd e fun d => setM c 0 f (.p d)) (sm_bnd h fun _ => sm_setS hi hn) h2).eqm fun ρ => by
    unfold sFd seq bnd
    cases e ρ <;> rfl
theorem t_sFa {c f : Str} {e : M D} {e' : Ms C D} (hi : K[0]? = some (.ost id)) (hn : noAl K = true) (h : SimE K e e') (h2 : SimT K rest q post) : SimT K (seq (sFa c 0 f e) rest) (bnd (faS c f e') fun _ => q) post :=
  (t_unit (m := bnd (fldM c 0 f) fun x => bnd e fun y => bnd (lft (dAddI x y)) fun z => setM c 0 f (.p z)) (sm_bnd (sm_fldS hi) fun _ => sm_bnd h fun _ => sm_bnd sm_lft fun _ => sm_setS hi hn) h2).eqm fun ρ => by
    unfold sFa seq bnd
    cases fldM c 0 f ρ with
    | no => rfl
    | ex _ _ => rfl
    | ok x ρ1 =>
      dsimp only
      cases e ρ1 with
      | no => rfl
      | ex _ _ => rfl
      | ok y ρ2 =>
        dsimp only
        cases lft (dAddI x y) ρ2 <;> rfl
theorem t_sFs {c f : Str} {e : M D} {e' : Ms C D} (hi : K[0]? = some (.ost id)) (hn : noAl K = true) (h : SimE K e e') (h2 : SimT K rest q post) : SimT K (seq (sFs c 0 f e) rest) (bnd (fsS c f e') fun _ => q) post :=
  (t_unit (m := bnd (fldM c 0 f) fun x => bnd e fun y => bnd (lft (dSub x y)) fun z => setM c 0 f (.p z)) (sm_bnd (sm_fldS hi) fun _ => sm_bnd h fun _ => sm_bnd sm_lft fun _ => sm_setS hi hn) h2).eqm fun ρ => by
    unfold sFs seq bnd
    cases fldM c 0 f ρ with
    | no => rfl
    | ex _ _ => rfl
    | ok x ρ1 =>
      dsimp only
      cases e ρ1 with
      | no => rfl
      | ex _ _ => rfl
      | ok y ρ2 =>
        dsimp only
        cases lft (dSub x y) ρ2 <;> rfl
/-! own lists and dicts of fields -/
/-- what stands at acc is the field f of slot 0's instance -/
inductive AccK (K : List (KE C)) : Acc → Str → Prop where
  | f {f : Str} : K[0]? = some (.ost id) → AccK K (.f 0 f) f
  | v {j : Nat} {f : Str} : K[0]? = some (.ost id) → K[j]? = some (.ali f) → AccK K (.v j) f
theorem AccK.i0 {acc : Acc} {f : Str} (h : AccK K acc f) : K[0]? = some (.ost id) := by cases h <;> assumption
theorem AccK.rd {acc : Acc} {f : Str} (h : AccK K acc f) (k : Kn K s ρ) {d : D} (e : fldO f s = some d) : rd ρ acc = some d := by
  have h0 := k.at0 h.i0 (fldO_own e)
  cases h with
  | f hi => unfold Fe.rd; dsimp only; rw [h0]; exact e
  | v hi hj =>
    have hv : get ρ _ = some (.al f) := k.look hj
    unfold Fe.rd
    dsimp only
    rw [hv]
    dsimp only
    rw [h0]; exact e
theorem AccK.wrt {acc : Acc} {f : Str} (h : AccK K acc f) (k : Kn K s ρ) {d d' : D} (e : fldO f s = some d) {o : C} (ho : putF f (.o d') (some s) = some o) : wrt ρ d' acc = ρ.set 0 (some o) := by
  have h0 := k.at0 h.i0 (fldO_own e)
  cases h with
  | f hi => unfold Fe.wrt; dsimp only; rw [h0, ho]
  | v hi hj =>
    have hv : get ρ _ = some (.al f) := k.look hj
    unfold Fe.wrt
    dsimp only
    rw [hv]
    dsimp only
    rw [h0, ho]
variable {acc : Acc} {f : Str}
theorem sm_chkS {c m : Str} (hi : K[0]? = some (.ost id)) : SimE K (chk c m 0) (chkS c m) := fun s ρ k => by
  unfold chkS
  cases h : obAt c (some s) with
  | none => exact True.intro
  | some x =>
    dsimp only
    by_cases hm : m ∈ x.1
    · rw [if_pos hm]; exact True.intro
    · rw [if_neg hm]
      refine ⟨(), ρ, ?_, rfl, k⟩
      unfold chk
      rw [k.at0 hi (obAt_own h), h]
      dsimp only
      rw [if_neg hm]
theorem hld_own {i : Nat} (h : get ρ i = some s) (ho : ownC s = true) : hld i ρ = .ok s ρ := by
  unfold hld
  rw [h]
  cases s <;> first | rfl | cases ho
theorem sm_cloC {g : C → List D → FO} {a : M (List D)} {a' : Ms C (List D)} (hi : K[0]? = some (.ost id)) (hn : noAl K = true) (h : SimE K a a') (hs : ownC s = true) : ∀ ρ, Kn K s ρ → match cloC g a' s with
    | .ok b s' => ∃ a1 ρ', clo g 0 a ρ = .ok a1 ρ' ∧ keep K a1 b s' ρ'
    | .ex x s' => ∃ ρ', clo g 0 a ρ = .ex x ρ' ∧ Kn K s' ρ'
    | .no => True := fun ρ k => by
  have := h s ρ k
  unfold clo cloC
  unfold bnd
  revert this
  rw [hld_own (k.at0 hi hs) hs]
  dsimp only
  cases hp : a' s with
  | no => exact fun _ => True.intro
  | ex x s' => exact fun ⟨ρ', e, k'⟩ => ⟨ρ', by rw [e], k'⟩
  | ok b s' =>
    rintro ⟨l, ρ', e, rfl, k'⟩
    dsimp only
    rw [e]
    dsimp only
    by_cases hs' : ownC s' = true
    case neg => rw [if_neg hs']; exact True.intro
    rw [if_pos hs', hld_own (k'.at0 hi hs') hs']
    dsimp only
    cases g s' l with
    | no => exact True.intro
    | ex x =>
      dsimp only
      refine ⟨_, rfl, ?_⟩
      have k2 := (k'.clrC (noAl_al hi hn)).newC hi (oneC_of hn) (s' := dead)
      refine ⟨by rw [← k2.len, List.length_set, List.length_set], fun j e hj => ?_⟩
      have h3 := k2.at' j e hj
      cases j with
      | zero =>
        rw [hi] at hj
        cases hj
        exact fun z => by cases z
      | succ j =>
        have g1 : ∀ y, get ((ρ'.map Fe.clr).set 0 y) (j + 1) = get (ρ'.map Fe.clr) (j + 1) := fun y => by unfold get; rw [List.getElem?_set_ne (by omega)]
        rw [g1] at h3 ⊢
        exact h3
    | ok d y =>
      dsimp only
      by_cases hy : ownC y = true
      case neg => rw [if_neg hy]; exact True.intro
      rw [if_pos hy]
      exact ⟨d, _, rfl, rfl, (k'.clrC (noAl_al hi hn)).newC hi (oneC_of hn)⟩
theorem sm_clmS {c m : Str} {g : C → List D → FO} {a : M (List D)} {a' : Ms C (List D)} (hi : K[0]? = some (.ost id)) (hn : noAl K = true) (h : SimE K a a') : SimE K (clm c m g 0 a) (clmS c m g a') := fun s ρ k => by
  have h1 := sm_chkS (c := c) (m := m) hi s ρ k
  cases ho : obAt c (some s) with
  | none =>
    have e2 : clmS c m g a' s = .no := by unfold clmS bnd chkS; dsimp only; rw [ho]
    rw [e2]; exact True.intro
  | some x =>
    by_cases hm : m ∈ x.1
    · have e2 : clmS c m g a' s = .no := by unfold clmS bnd chkS; dsimp only; rw [ho]; dsimp only; rw [if_pos hm]
      rw [e2]; exact True.intro
    · have e0 : chkS c m s = .ok () s := by unfold chkS; rw [ho]; dsimp only; rw [if_neg hm]
      have e2 : clmS c m g a' s = cloC g a' s := by unfold clmS bnd; rw [e0]
      rw [e0] at h1
      obtain ⟨_, ρ', e, _, k'⟩ := h1
      have e3 : clm c m g 0 a ρ = clo g 0 a ρ' := by unfold clm bnd; rw [e]
      rw [e2, e3]
      have r := sm_cloC (g := g) hi hn h (obAt_own ho) ρ' k'
      revert r
      cases cloC g a' s <;> exact id
end
/-! ### defs -/
def postC : Fl → D → C → Env → Prop := fun fl d s ρ => (fl = .rt d ∨ fl = .nx ∧ d = .non) ∧ (ownC s = true → get ρ 0 = some s)
def LeC (g : Rs C D) (f : FO) : Prop := match g with
  | .ok d s => ownC s = true → f = .ok d s
  | .ex x _ => f = .ex x
  | .no => True
def startKC (m : Nat) (ds : List D) : List (KE C) := .ost id :: (ds.map KE.p ++ List.replicate (m - ds.length - 1) .nown)
theorem startC_kn {m : Nat} {ds : List D} {s : C} : Kn (startKC m ds) s (startO m s ds) := by
  refine ⟨by unfold startO startKC; simp, fun i k h => ?_⟩
  cases i with
  | zero => cases h; exact fun _ => rfl
  | succ i =>
    have h' : (ds.map (KE.p (σ := C)) ++ List.replicate (m - ds.length - 1) .nown)[i]? = some k := h
    show k.ok s (((ds.map (fun d => some (C.p d)) ++ List.replicate (m - ds.length - 1) none)[i]?).getD none)
    by_cases hi : i < ds.length
    · rw [List.getElem?_append_left (by rw [List.length_map]; exact hi), List.getElem?_map, List.getElem?_eq_getElem hi] at h' ⊢
      cases h'; rfl
    · rw [List.getElem?_append_right (by rw [List.length_map]; omega), List.getElem?_replicate] at h' ⊢
      rw [List.length_map] at h' ⊢
      split at h'
      · rename_i hl; cases h'; rw [if_pos hl]; rfl
      · cases h'
theorem runC_sim {n m : Nat} {b : S} {ds : List D} {g : Ms C D} (hl : ds.length + 1 = n) (h : SimT (startKC m ds) b g postC) (s : C) : LeC (g s) (runO n m b s ds) := by
  have := h s _ startC_kn
  unfold runO
  rw [if_pos hl]
  revert this
  unfold LeC
  cases g s with
  | no => exact fun _ => True.intro
  | ex x s => rintro ⟨ρ', e⟩; dsimp only; rw [e]
  | ok d s =>
    rintro ⟨fl, ρ', e, h, h2⟩
    dsimp only
    intro ho
    rw [e]
    have h3 := h2 ho
    rcases h with rfl | ⟨rfl, rfl⟩ <;> (dsimp only; unfold outO; rw [h3]; cases s <;> first | rfl | cases ho)
theorem pc_rt {K : List (KE C)} (h : K[0]? = some (.ost id)) : ∀ (d : D) (s : C) (ρ : Env), Kn K s ρ → postC (.rt d) d s ρ := fun _ _ _ k => ⟨.inl rfl, fun ho => k.at0 h ho⟩
theorem pc_nx {K : List (KE C)} (h : K[0]? = some (.ost id)) : ∀ (s : C) (ρ : Env), Kn K s ρ → postC .nx .non s ρ := fun _ _ k => ⟨.inr ⟨rfl, rfl⟩, fun ho => k.at0 h ho⟩
end Fe
end
section
set_option Elab.async false
set_option linter.all false
set_option maxRecDepth 100000
set_option maxHeartbeats 1000000
namespace Fe
open PySem PySem.Spec PyProof.Rows L2
section
variable {X : Cx} {B : Bs} {c : Ct B} {W : WX} {a b : Expr} {fa fb : M D} {pos : Pos}
theorem rule_ixB : Rule2 B (fun x y H Q => ((rIxL B.K x y H Q ∨ rIxT B.K x y H Q) ∨ rIxC B x y H Q) ∨ rIxS x y H Q) dIxB := by
  intro G H d e z x y Q s n rx ry h k
  cases d with
  | str t => exact .inr (rule_ixT (B := B) G H (.str t) e z x y Q s n rx ry h k)
  | _ => exact .inl (rule_ixA G H _ e z x y Q s n rx ry h k)
theorem e_ixB {k : Nat} (hr : Room (k + 1) X.A) (ha : PE X a (dE c W fa)) (hb : PE X b (dE c W fb)) (hs : PlainIx b := by exact fun _ _ => rfl) (hK : B.K = X.K := by rfl) : PE X (.Subscript a b pos) (dE c W (op2 dIxB fa fb)) :=
  peI (pe_ix (((ix_list.or ix_tup).or (ix_dc (room9 hr) hK)).or ix_str) ha hb hs) fun _ _ _ h => use2 (by rw [← hK]; exact rule_ixB) h
end
end Fe
end
section
set_option Elab.async false
set_option linter.all false
set_option maxRecDepth 100000
set_option maxHeartbeats 1000000
namespace Fe
open PySem PySem.Spec PyProof.Rows L2
section
variable {X : Cx} {B : Bs} {c : Ct B} {W : WX} {fk : M (List D)} {p pos : Pos} {x : Str} {k : Nat}
theorem e_callK0 {φ : List D → F} {j n nk : Nat} {ks : List Str} {kws : List Keyword} (D0 : DfK X.prog X.w B X.mg X.base j x n ks φ) (hK : B.K = X.K) (hr : Room k X.A) (hj : j ≤ k) (hkw : PK X kws (dA c W fk)) (hn : ([] : List Expr).length = n) (hnk : kws.length = nk) (hg : Gl X x := by rfl)
    (hall : (backToKw pos (keywordEach kws X.env)).all (·.1.isSome) = true := by rfl) (hks : (backToKw pos (keywordEach kws X.env)).filterMap (·.1) = ks := by rfl)
    (hk2 : ks.length = nk := by rfl) (hdb : (x == ("__debug__" : Str)) = false := by decide)
    (hpl : ((backTo pos (starEach [] X.env)).any (·.1) || (backToKw pos (keywordEach kws X.env)).any (·.1.isNone)) = false := by rfl) :
    PE X (.Call (.Name x p) [] kws pos) (dE c W (clk φ n nk nilA fk)) := by
  subst hk2
  subst hn
  obtain ⟨f, fd, ps, F, hm, hk, hb⟩ := D0.ex
  rw [hK] at F hk hb
  refine ⟨fun pins s σ H Q I ⟨G, ρ, g, p⟩ => wpAny_Call_Name_kw (ld_glob I hg hm (PySem.W.callWith_KW0 (h₀ := X.base) I.ok.mod.kin hk hall (thn (hkw.run pos pins s σ H (fun zs H2 => spF B φ zs H2 Q E0 ∧ zs.length = ks.length) I ?_) fun ws s2 ⟨zs, H2, I2, rz, q2, q3⟩ => ⟨I2.kIn, ?_⟩) hpl) hdb)⟩
  · have p' : Post rD c W σ G (bnd fk (fun m => clN φ (if ([] : List D).length = 0 ∧ m.length = ks.length then Fe.ret m else fun _ => .no)) ρ) Q := by
      revert p
      show Post rD c W σ G (clN φ (bnd nilA fun l => bnd fk fun m => if l.length = 0 ∧ m.length = ks.length then Fe.ret (l ++ m) else fun _ => .no) ρ) Q → _
      unfold clN nilA Fe.ret bnd
      dsimp only
      cases fk ρ <;> exact fun p => p
    refine (post_bnd g p').imp fun zs H2 ⟨G2, ρ2, ds, s2, g2, rs, p2⟩ => ?_
    by_cases hl : ([] : List D).length = 0 ∧ ds.length = ks.length
    case neg => rw [if_neg hl] at p2; exact False.elim p2
    rw [if_pos hl] at p2
    refine ⟨⟨G2, ds, g2.gh, g2.nt, g2.tb, rs, ?_⟩, by rw [rs.len]; exact hl.2⟩
    revert p2
    show Post rD c W σ G2 ((match φ ds with | .ok d => Fe.ret d | _ => fun _ => .no) ρ2) Q → _
    cases φ ds with
    | no => exact fun p => p
    | ok d => exact fun p v H' G' n r => p v H' G' n.gg (g2.call n) r
    | ex x => exact fun p => False.elim p
  · rw [hks]
    refine run_fnk (us := []) (vs := []) F (hr.mono hj) hb passL I2 .nil rz ?_
    show spF B φ (if ([] : List V).length = ([] : List Expr).length ∧ zs.length = ks.length then [] ++ zs else []) H2 Q E0
    rw [if_pos ⟨rfl, q3⟩]
    exact q2
end
end Fe
end
section
set_option Elab.async false
set_option linter.all false
set_option maxRecDepth 100000
set_option maxHeartbeats 1000000
namespace Fe
open PySem PySem.Spec PyProof.Rows L2
section
variable {X : Cx} {CX : CXT} {k : Nat} {f C : Addr} {fd : FuncData} {ps : List Str} {sp : Sp} {E : L2.St → XK} {x m : Str} {p pos apos : Pos} {e o : Expr} {es : List Expr} {ta : TE} {t : TA}
theorem made_run {pins : List (Addr × Obj)} {σ : L2.St} {H : Hp} {s : Shared} {Q : VK} {ws : List Value} {vs : List V} (M : Mk X.K C f) (F : FnOk X.prog X.w X.K X.mg X.base CX k f fd ps sp) (room : Room (k + 1) X.A) (bd : Binds X.K fd ps []) (out : PassesAt CX X σ (E σ)) (I : Inv X pins σ H s) (r : Vals vs ws)
    (h : ∀ y dy, H y = none → H dy = none → dy ≠ y → sp (.ref y :: vs) (upd (upd H dy (.own y)) y (.ins C dy [])) (fun v H2 => v = .non ∧ Q (.ref y) H2) (E σ)) : wpAny (model X.prog X.w) X.A (call (.ref C) ws) (EP X pins σ Q) X.xe s := by
  have hq := h (s.heap.objs.size + 1) s.heap.objs.size (I.hok.fresh (Nat.le_succ _)) (I.hok.fresh (Nat.le_refl _)) (Nat.ne_of_lt (Nat.lt_succ_self _))
  have J := Inv.made (C := C) I
  have rr : Vals (V.ref (s.heap.objs.size + 1) :: vs) (Value.ref (s.heap.objs.size + 1) :: ws) := .cons rfl r
  have hl : (Value.ref (s.heap.objs.size + 1) :: ws).length = ps.length := by rw [← rr.length]; exact F.len _ _ _ _ hq
  have b := bd _ (Value.ref (s.heap.objs.size + 1) :: ws) J.kIn (by rw [List.append_nil]; exact hl)
  rw [List.append_nil] at b
  have body := F.run _ X.stack _ _ ⟨Value.ref (s.heap.objs.size + 1) :: ws, []⟩ (Value.ref (s.heap.objs.size + 1) :: ws) _ _ (E σ) (room.make C ws []) (J.env0.make C ws []) b rr hq
  refine wpAny_call (make_map (f := f) I.kIn M.makes M.init (beq_iff_eq.mp M.fn) (codeAny_mono body fun z s' hz => ?_))
  match z, hz with
  | .error e, hz => exact out pins _ _ e s' J hz
  | .ok (.ret u), hz =>
    obtain ⟨v, H', I3, rv, ev, q3⟩ := J.after hz
    subst ev
    exact ⟨rv, V.ref (s.heap.objs.size + 1), H', I3, rfl, q3⟩
  | .ok .next, hz => exact False.elim hz
  | .ok .brk, hz => exact False.elim hz
  | .ok .cont, hz => exact False.elim hz
def tMakeS (C : Addr) (sp : Sp) (E : L2.St → XK) (t : TA) : TE := fun σ H Q => t σ H fun vs H1 => ∀ y dy, H1 y = none → H1 dy = none → dy ≠ y → sp (.ref y :: vs) (upd (upd H1 dy (.own y)) y (.ins C dy [])) (fun v H2 => v = .non ∧ Q (.ref y) H2) (E σ)
theorem pe_makeS (M : Mk X.K C f) (F : FnOk X.prog X.w X.K X.mg X.base CX k f fd ps sp) (room : Room (k + 1) X.A) (glob : Gl X x) (named : X.mg x = some (.ref C)) (bd : Binds X.K fd ps []) (out : ∀ σ, PassesAt CX X σ (E σ)) (ha : PA X (e :: es) t) (nodebug : (x == ("__debug__" : Str)) = false := by decide)
    (star : starEach (e :: es) X.env = (false, eval e X.env) :: starEach es X.env := by rfl) (plain : (backTo pos (starEach es X.env)).any (·.1) = false := by rfl) : PE X (.Call (.Name x p) (e :: es) [] pos) (tMakeS C sp E t) :=
  ⟨fun pins s σ H Q I h => wpAny_Call_Name_kw (ld_glob I glob named (PySem.W.callWith_K (h₀ := X.base) I.ok.mod.kin M.kp (thn (ha.run pos pins s σ H _ I h) fun ws s1 ⟨vs, H1, I1, r, q⟩ => ⟨I1.kIn, made_run M F room bd (out σ) I1 r q⟩) star plain) nodebug)⟩
def tMethS' (C : Addr) (m : Str) (sp : Sp) (E : L2.St → XK) (ta : TE) (t : TA) : TE := fun σ H Q => ta σ H fun y H1 => ∃ a dy fs, y = .ref a ∧ H1 a = some (.ins C dy fs) ∧ fs.lookup m = none ∧ t σ H1 fun vs H2 => sp (y :: vs) H2 Q (E σ)
theorem pe_methSt {pl : Sem Bool} (he : PE X o ta) (c : Cls X.K C) (mt : Meth X.K C m f) (F : FnOk X.prog X.w X.K X.mg X.base CX k f fd ps sp) (room : Room k X.A) (bd : Binds X.K fd ps []) (out : ∀ σ, PassesAt CX X σ (E σ)) (ha : PA X (e :: es) t)
    (star : starEach (e :: es) X.env = (false, eval e X.env) :: starEach es X.env := by rfl) (plain : (backTo pos (starEach es X.env)).any (·.1) = false := by rfl)
    (tree : eval (.Call (.Attribute o m apos) (e :: es) [] pos) X.env = (do let ov ← eval o X.env; standAt apos.atName; let (f, first) ← holding [ov] (getMethod ov m pl); callWith pos f first (backTo pos (starEach (e :: es) X.env)) (backToKw pos (keywordEach [] X.env))) := by rfl) :
    PE X (.Call (.Attribute o m apos) (e :: es) [] pos) (tMethS' C m sp E ta t) :=
  ⟨fun pins s σ H Q I h => PySem.W.methodCall_KW (pl := pl) (thn (he.run pins s σ H _ I h) fun u s1 ⟨y, H1, I1, ry, a, dy, fs, ey, ea, l, q⟩ => by
    subst ey
    obtain rfl : u = Value.ref a := ry
    exact getmeth_ok I1 ea c mt l (PySem.W.callWith_K (first := [.ref a]) (h₀ := X.base) I.ok.mod.kin mt.kp (thn (ha.run pos pins s1 σ H1 _ I1 q) fun ws s2 ⟨vs, H2, I2, r, q2⟩ => ⟨I2.kIn, run_fnS (us := .ref a :: ws) (vs := .ref a :: vs) F room bd (out σ) I2 (.cons rfl r) q2⟩) star plain)) tree⟩
theorem pe_methSt0 {pl : Sem Bool} (he : PE X o ta) (c : Cls X.K C) (mt : Meth X.K C m f) (F : FnOk X.prog X.w X.K X.mg X.base CX k f fd ps sp) (room : Room k X.A) (bd : Binds X.K fd ps []) (out : ∀ σ, PassesAt CX X σ (E σ))
    (tree : eval (.Call (.Attribute o m apos) [] [] pos) X.env = (do let ov ← eval o X.env; standAt apos.atName; let (f, first) ← holding [ov] (getMethod ov m pl); callWith pos f first (backTo pos (starEach [] X.env)) (backToKw pos (keywordEach [] X.env))) := by rfl) :
    PE X (.Call (.Attribute o m apos) [] [] pos) (tMethS' C m sp E ta tNil) :=
  ⟨fun pins s σ H Q I h => PySem.W.methodCall_KW (pl := pl) (thn (he.run pins s σ H _ I h) fun u s1 ⟨y, H1, I1, ry, a, dy, fs, ey, ea, l, q⟩ => by
    subst ey
    obtain rfl : u = Value.ref a := ry
    exact getmeth_ok I1 ea c mt l (PySem.W.callWith_K0 (first := [.ref a]) I1.kIn mt.kp (run_fnS (us := [.ref a]) (vs := [.ref a]) F room bd (out σ) I1 (.cons rfl .nil) q))) tree⟩
end
/-! ### what the classes are -/
/-- a method of class c, its self's things of its own; its self plain -/
structure DfM (P : Program) (w : World) (B : Bs) (mg : Str → Option Value) (base : Heap) (k : Nat) (c m : Str) (φ : C → List D → FO) : Prop where
  ex : ∃ C f fd ps, B.C c = some C ∧ FnOk P w B.K mg base (L2.CX P w) k f fd ps (spO B φ) ∧ Meth B.K C m f ∧ Binds B.K fd ps []
structure DfP (P : Program) (w : World) (B : Bs) (mg : Str → Option Value) (base : Heap) (k : Nat) (c m : Str) (φ : List D → F) : Prop where
  ex : ∃ C f fd ps, B.C c = some C ∧ FnOk P w B.K mg base (L2.CX P w) k f fd ps (spF B φ) ∧ Meth B.K C m f ∧ Binds B.K fd ps []
/-- its __init__ -/
structure DfI (P : Program) (w : World) (B : Bs) (mg : Str → Option Value) (base : Heap) (k : Nat) (c : Str) (φ : C → List D → FO) : Prop where
  ex : ∃ C f fd ps, B.C c = some C ∧ FnOk P w B.K mg base (L2.CX P w) k f fd ps (spO B φ) ∧ Mk B.K C f ∧ Binds B.K fd ps [] ∧ mg c = some (.ref C)
/-- no class has an attribute f -/
def NoAt (B : Bs) (f : Str) : Prop := ∀ cn C, B.C cn = some C → NoAttr B.K C f
section
variable {B : Bs} {c : Ct B} {G G' H H' : Hp} {σ : L2.St} {ρ : Env} {fp : Nat → List Addr}
theorem obAt_some {cn : Str} {x : Option C} {y : List Str × List C} (h : obAt cn x = some y) : x = some (.ob cn y.1 y.2) := by
  cases x with
  | none => cases h
  | some x =>
    cases x with
    | ob c' ns cs =>
      unfold obAt at h
      dsimp only at h
      split at h
      · rename_i e; cases h; rw [e]
      · cases h
    | _ => cases h
theorem go_p {f : Str} {d : D} : ∀ {ns : List Str} {cs : List C} {us : List V} {f1 : List Addr}, ns.length = us.length → CRep.go B G H cs us f1 → (ns.zip cs).lookup f = some (.p d) → ∃ u, (ns.zip us).lookup f = some u ∧ Rep B G d u
  | [], cs, us, f1, _, _, h => by simp at h
  | n :: ns, [], us, f1, _, _, h => by simp at h
  | n :: ns, x :: cs, us, f1, hl, g, h => by
    obtain ⟨v, r, g1, g2, rfl, rfl, g3, g4⟩ := go_cons.mp g
    rw [List.zip_cons_cons, List.lookup_cons] at h
    rw [List.zip_cons_cons, List.lookup_cons]
    by_cases e : (f == n) = true
    · rw [e] at h ⊢
      cases h
      exact ⟨v, rfl, (crep_p.mp g3).1⟩
    · have e' : (f == n) = false := by simpa using e
      rw [e'] at h ⊢
      exact go_p (by simpa using hl) g4 h
/-- the instance in a slot -/
theorem Good.ob (g : Good c G H σ ρ) {i : Nat} {cn : Str} {ns : List Str} {cs : List C} (h : get ρ i = some (.ob cn ns cs)) : ∃ fp, OwnS c G H σ ρ fp ∧ ∃ a dx A us f1, σ[i]? = some (some (.ref a)) ∧ fp i = a :: dx :: f1 ∧ B.C cn = some A ∧ H a = some (.ins A dx (ns.zip us)) ∧ H dx = some (.own a) ∧ ns.length = us.length ∧ CRep.go B G H cs us f1 := by
  obtain ⟨fp, w⟩ := g.ow
  obtain ⟨v, h1, h2⟩ := w.sl i _ h
  obtain ⟨a, dx, A, us, f1, rfl, e2, e3, e4, e5, e6, e7⟩ := crep_ob.mp h2
  exact ⟨fp, w, a, dx, A, us, f1, h1, e2, e3, e4, e5, e6, e7⟩
theorem lookup_none {m : Str} : ∀ {ns : List Str} {us : List V}, ¬ m ∈ ns → (ns.zip us).lookup m = none
  | [], us, _ => by simp
  | n :: ns, [], _ => by simp
  | n :: ns, u :: us, h => by
    rw [List.zip_cons_cons, List.lookup_cons]
    have : (m == n) = false := by simp only [List.mem_cons, not_or] at h; simpa using h.1
    rw [this]
    exact lookup_none fun z => h (.tail _ z)
theorem zip_reps {f : Str} {d : D} : ∀ {ns : List Str} {vs : List D} {us : List V}, ns.length = us.length → Reps B G vs us → (ns.zip vs).lookup f = some d → ∃ u, (ns.zip us).lookup f = some u ∧ Rep B G d u
  | [], vs, us, _, _, h => by simp at h
  | n :: ns, [], us, _, _, h => by simp at h
  | n :: ns, x :: vs, us, hl, g, h => by
    obtain ⟨v, r, rfl, g3, g4⟩ := reps_cons.mp g
    rw [List.zip_cons_cons, List.lookup_cons] at h
    rw [List.zip_cons_cons, List.lookup_cons]
    by_cases e : (f == n) = true
    · rw [e] at h ⊢
      cases h
      exact ⟨v, rfl, g3⟩
    · have e' : (f == n) = false := by simpa using e
      rw [e'] at h ⊢
      exact zip_reps (by simpa using hl) g4 h
end
section
variable {X : Cx} {B : Bs} {c : Ct B} {W : WX} {e o a : Expr} {es : List Expr} {fe fa : M D} {fs : M (List D)} {p pos p1 p2 : Pos} {x y f m cn : Str} {k : Nat}
/-- self.f, plain -/
theorem e_fld (i : Nat) {yp : Pos} (na : NoAt B f) (hi : X.N[i]? = some y := by rfl) (hv : Vis X.env.scope y := by first | exact Or.inl rfl | exact Or.inr (Or.inl rfl) | exact Or.inr (Or.inr rfl)) (hyd : (y == ("__debug__" : Str)) = false := by decide) (hyc : (y == ("__classdict__" : Str)) = false := by decide)
    (hbase : attributeBase (.Name y yp) f X.env (eval (.Name y yp) X.env) = eval (.Name y yp) X.env := by rfl) (hK : B.K = X.K := by rfl) : PE X (.Attribute (.Name y yp) f pos) (dE c W (fldM cn i f)) :=
  peI (pe_fld (pv i hi hv hyd hyc) hbase) fun σ H Q ⟨G, ρ, g, p⟩ => by
    unfold fldM at p
    cases ho : obFld cn f (get ρ i) with
    | none => rw [ho] at p; exact False.elim p
    | some d =>
      rw [ho] at p
      unfold obFld at ho
      cases h1 : obAt cn (get ρ i) with
      | none => rw [h1] at ho; cases ho
      | some z =>
        rw [h1] at ho
        dsimp only at ho
        split at ho
        · rename_i d' hd
          cases ho
          obtain ⟨fp, w, a, dx, A, us, f1, k1, k2, k3, k4, k5, k6, k7⟩ := g.ob (obAt_some h1)
          obtain ⟨u, hu, ru⟩ := go_p k6 k7 hd
          exact ⟨_, k1, a, A, dx, _, u, rfl, k4, by rw [← hK]; exact B.ok _ _ k3, by rw [← hK]; exact na _ _ k3, hu, g.keep p ru⟩
        · cases ho
/-- e.f of a plain instance -/
theorem e_fldD (na : NoAt B f) (he : PE X e (dE c W fe)) (hbase : attributeBase e f X.env (eval e X.env) = eval e X.env := by rfl) (hK : B.K = X.K := by rfl) : PE X (.Attribute e f pos) (dE c W (op1 (dFld cn f) fe)) :=
  peI (pe_fld he hbase) fun σ H Q h => by
    refine (den_bnd h).imp fun v H1 ⟨G1, ρ1, d, g1, r1, p1⟩ => ?_
    obtain ⟨z, hz, p2⟩ := post_lft p1
    cases d <;> first | (cases hz; done) | skip
    rename_i c' ns vs
    unfold dFld at hz
    dsimp only at hz
    split at hz
    · obtain ⟨a, dx, A, us, rfl, k1, k2, k3, k4, k5⟩ := rep_obj.mp r1
      obtain ⟨u, hu, ru⟩ := zip_reps k4 k5 hz
      exact ⟨a, A, dx, _, u, rfl, g1.gh _ _ k2, by rw [← hK]; exact B.ok _ _ k1, by rw [← hK]; exact na _ _ k1, hu, g1.keep p2 ru⟩
    · cases hz
end
end Fe
end
section
set_option Elab.async false
set_option linter.all false
set_option maxRecDepth 100000
set_option maxHeartbeats 1000000
namespace Fe
open PySem PySem.Spec PyProof.Rows L2
section
variable {B : Bs} {c : Ct B} {G G' H H' H1 : Hp} {σ : L2.St} {ρ : Env} {fp : Nat → List Addr}
theorem tabs_keep {T : List (Addr × Str)} (tb : LamX.Tabs T H) (h : ∀ b o, H b = some o → (∀ C dx fs, o ≠ .ins C dx fs) → H' b = some o) : LamX.Tabs T H' := fun p hp => by
  obtain ⟨ps, h1, h2, h3⟩ := tb p hp
  refine ⟨ps, h _ _ h1 (fun C dx fs z => by cases z), h2, fun pos cv hc => ?_⟩
  obtain ⟨cc, q1, q2⟩ := h3 pos cv hc
  exact ⟨cc, q1, h _ _ q2 fun C dx fs z => OwnHO.code (.inr (.inr (.inl ⟨_, _, _, rfl⟩))) z.symm⟩
theorem go_put {f : Str} {x : C} {v : V} {gx : List Addr} (hx : CRep B G H x v gx) : ∀ {ns : List Str} {cs : List C} {us : List V} {f1 : List Addr}, ns.length = us.length → ns.length = cs.length → CRep.go B G H cs us f1 → f1.Nodup → gx.Nodup → (∀ a ∈ gx, a ∉ f1) →
    ∃ us' f1', CRep.go B G H (putN ns cs f x).2 us' f1' ∧ (putN ns cs f x).1.length = us'.length ∧ (putN ns cs f x).1.zip us' = L2.putF f v (ns.zip us) ∧ f1'.Nodup ∧ ∀ a ∈ f1', a ∈ f1 ∨ a ∈ gx
  | [], [], us, f1, hl, hc, g, n1, n2, hd => by
    obtain ⟨rfl, rfl⟩ := go_nil.mp g
    exact ⟨[v], gx, go_cons.mpr ⟨v, [], gx, [], rfl, by simp, hx, go_nil.mpr ⟨rfl, rfl⟩⟩, rfl, rfl, n2, fun a h => .inr h⟩
  | [], _ :: _, _, _, _, hc, _, _, _, _ => by cases hc
  | _ :: _, [], _, _, _, hc, _, _, _, _ => by cases hc
  | n :: ns, y :: cs, us, f1, hl, hc, g, n1, n2, hd => by
    obtain ⟨u, r, g1, g2, rfl, rfl, g3, g4⟩ := go_cons.mp g
    obtain ⟨m1, m2, m3⟩ := List.nodup_append.mp n1
    by_cases e : n = f
    · have e1 : putN (n :: ns) (y :: cs) f x = (n :: ns, x :: cs) := by unfold putN; rw [if_pos e]
      rw [e1]
      refine ⟨v :: r, gx ++ g2, go_cons.mpr ⟨v, r, gx, g2, rfl, rfl, hx, g4⟩, hl, ?_, List.nodup_append.mpr ⟨n2, m2, fun a ha b hb z => hd a ha (List.mem_append_right _ (z ▸ hb))⟩, fun a h => ?_⟩
      · rw [List.zip_cons_cons, List.zip_cons_cons]
        show _ = (if n = f then _ else _)
        rw [if_pos e]
      · rcases List.mem_append.mp h with z | z
        · exact .inr z
        · exact .inl (List.mem_append_right _ z)
    · have e1 : putN (n :: ns) (y :: cs) f x = (n :: (putN ns cs f x).1, y :: (putN ns cs f x).2) := by conv => lhs; unfold putN; rw [if_neg e]
      rw [e1]
      obtain ⟨us', f1', k1, k2, k3, k4, k5⟩ := go_put hx (ns := ns) (cs := cs) (by simpa using hl) (by simpa using hc) g4 m2 n2 fun a ha hb => hd a ha (List.mem_append_right _ hb)
      refine ⟨u :: us', g1 ++ f1', go_cons.mpr ⟨u, us', g1, f1', rfl, rfl, g3, k1⟩, by simp [k2], ?_, List.nodup_append.mpr ⟨m1, k4, fun a ha b hb z => ?_⟩, fun a h => ?_⟩
      · rw [List.zip_cons_cons, List.zip_cons_cons, k3]
        show _ = (if n = f then _ else _)
        rw [if_neg e]
      · rcases k5 b hb with q | q
        · exact m3 a ha b q z
        · exact hd b q (List.mem_append_left _ (z ▸ ha))
      · rcases List.mem_append.mp h with z | z
        · exact .inl (List.mem_append_left _ z)
        · exact (k5 a z).imp (List.mem_append_right _) id
/-- a field of the instance in a slot is set -/
theorem Good.setOb (g : Good c G H σ ρ) (hpin : c.pin = []) {i : Nat} {cn f : Str} {x : C} {v : V} {gx : List Addr} {o : C} (hs : setOb cn f x (get ρ i) = some o) (hx : CRep B G H1 x v gx) (hn : gx.Nodup) (hH : ∀ b, b ∉ gx → H1 b = H b) (hg : ∀ b ∈ gx, H b = none) :
    ∃ a A dx fs, σ[i]? = some (some (.ref a)) ∧ B.C cn = some A ∧ H a = some (.ins A dx fs) ∧ H1 a = some (.ins A dx fs) ∧ fs.length < 1000 ∧ Good c G (upd H1 a (.ins A dx (L2.putF f v fs))) σ ((ρ.map clr).set i (some o)) := by
  unfold Fe.setOb at hs
  cases h1 : obAt cn (get ρ i) with
  | none => rw [h1] at hs; cases hs
  | some z =>
    obtain ⟨ns, cs⟩ := z
    rw [h1] at hs
    dsimp only at hs
    split at hs
    case isFalse => cases hs
    rename_i hl
    cases hs
    have h2 := obAt_some h1
    dsimp only at h2
    obtain ⟨fp, w, a, dx, A, us, f1, k1, k2, k3, k4, k5, k6, k7⟩ := g.ob h2
    have some_of : ∀ b ∈ fp i, H b ≠ none := fun b hb z => by
      obtain ⟨⟨o, q, _⟩, _⟩ := w.out i b hb
      rw [z] at q; cases q
    have ngx : ∀ b ∈ fp i, b ∉ gx := fun b hb z => some_of b hb (hg b z)
    have nd := w.nd i
    rw [k2] at nd
    obtain ⟨nd1, nd2⟩ := List.nodup_cons.mp nd
    obtain ⟨nd3, nd4⟩ := List.nodup_cons.mp nd2
    have ha : a ∈ fp i := by rw [k2]; exact .head _
    have hdx : dx ∈ fp i := by rw [k2]; exact .tail _ (.head _)
    have h1a : H1 a = some (.ins A dx (ns.zip us)) := by rw [hH a (ngx a ha)]; exact k4
    have g1 : CRep.go B G H1 cs us f1 := CRep.frames (Same.refl _) k7 fun b hb => hH b (ngx b (by rw [k2]; exact .tail _ (.tail _ hb)))
    obtain ⟨us', f1', p1, p2, p3, p4, p5⟩ := go_put (f := f) hx k6 hl.2 g1 nd4 hn fun b hb z => ngx b (by rw [k2]; exact .tail _ (.tail _ z)) hb
    have nota : ∀ b ∈ f1', b ≠ a := fun b hb z => by
      subst z
      rcases p5 b hb with q | q
      · exact nd1 (.tail _ q)
      · exact ngx b ha q
    have adx : dx ≠ a := fun z => nd1 (z ▸ .head _)
    have fs2 : CRep.go B G (upd H1 a (.ins A dx (L2.putF f v (ns.zip us)))) (putN ns cs f x).2 us' f1' := CRep.frames (Same.refl _) p1 fun b hb => upd_ne (nota b hb)
    have cr : CRep B G (upd H1 a (.ins A dx (L2.putF f v (ns.zip us)))) (.ob cn (putN ns cs f x).1 (putN ns cs f x).2) (.ref a) (a :: dx :: f1') :=
      crep_ob.mpr ⟨a, dx, A, us', f1', rfl, rfl, k3, by rw [upd_same, p3], by rw [upd_ne adx, hH dx (ngx dx hdx)]; exact k5, p2, fs2⟩
    have out3 : ∀ b ∈ f1', b ∈ fp i ∨ (b ∈ gx) := fun b hb => (p5 b hb).imp (fun q => by rw [k2]; exact .tail _ (.tail _ q)) id
    have far : ∀ b, b ∉ fp i → ∀ o, H b = some o → upd H1 a (.ins A dx (L2.putF f v (ns.zip us))) b = some o := fun b hb o e => by
      have nb : b ≠ a := fun z => hb (by rw [z]; exact ha)
      rw [upd_ne nb, hH b (fun z => by rw [hg b z] at e; cases e)]
      exact e
    refine ⟨a, A, dx, ns.zip us, k1, k3, k4, h1a, by rw [List.length_zip]; omega, ?_⟩
    refine g.callO hpin w h2 rfl k1 (y := some (.ob cn (putN ns cs f x).1 (putN ns cs f x).2)) (fq := a :: dx :: f1') ⟨Same.refl _, fun b o e => far b (fun z => by rw [(w.out i b z).2.1] at e; cases e) o (g.gh _ _ e), g.nt, fun b hb => .inl hb, fun b o e => far b (butO_some e).1 o (butO_some e).2, ?_⟩ ?_ ?_ ?_
    · refine tabs_keep g.tb fun b o e ne => ?_
      by_cases hb : b = a
      · subst hb; rw [k4] at e; cases e; exact absurd rfl (ne _ _ _)
      · rw [upd_ne hb, hH b (fun z => by rw [hg b z] at e; cases e)]; exact e
    · intro z hz
      cases hz
      exact ⟨cr, fun f z => by cases z⟩
    · refine List.nodup_cons.mpr ⟨fun z => ?_, List.nodup_cons.mpr ⟨fun z => ?_, p4⟩⟩
      · rcases List.mem_cons.mp z with z | z
        · exact adx z.symm
        · exact nota a z rfl
      · rcases p5 dx z with q | q
        · exact nd3 q
        · exact ngx dx hdx q
    · intro b hb
      have shp := cr.shape b hb
      refine ⟨shp, ?_, ?_⟩
      · rcases List.mem_cons.mp hb with rfl | hb
        · exact (w.out i b ha).2.1
        · rcases List.mem_cons.mp hb with rfl | hb
          · exact (w.out i b hdx).2.1
          · rcases out3 b hb with q | q
            · exact (w.out i b q).2.1
            · cases hG : G b with
              | none => rfl
              | some o => have hz := hg b q; rw [g.gh _ _ hG] at hz; cases hz
      · rcases List.mem_cons.mp hb with rfl | hb
        · exact .inl ha
        · rcases List.mem_cons.mp hb with rfl | hb
          · exact .inl hdx
          · rcases out3 b hb with q | q
            · exact .inl q
            · refine .inr ?_
              unfold noT
              rw [hg b q]
end
section
variable {X : Cx} {B : Bs} {c : Ct B} {W : WX} {e o a : Expr} {es : List Expr} {fe fa : M D} {fs : M (List D)} {p pos p1 p2 : Pos} {x y f m cn : Str} {k : Nat}
theorem set_post {B : Bs} {c : Ct B} {W : WX} {G : Hp} {ρ : Env} {E : Ends} {cn f : Str} {i : Nat} {x : C} (p : PostS c W G (bnd (setM cn i f x) (fun _ => Fe.ret .nx) ρ) E) : ∃ o, setOb cn f x (get ρ i) = some o ∧ PostS c W G (.ok .nx ((ρ.map clr).set i (some o))) E := by
  cases h : setOb cn f x (get ρ i) with
  | none =>
    have e : setM cn i f x ρ = .no := by unfold setM; rw [h]
    unfold bnd at p
    rw [e] at p
    exact False.elim p
  | some o =>
    have e : setM cn i f x ρ = .ok () ((ρ.map clr).set i (some o)) := by unfold setM; rw [h]
    unfold bnd at p
    rw [e] at p
    exact ⟨o, rfl, p⟩
/-- self.f = e -/
theorem s_fd (i : Nat) {yp tp : Pos} (na : NoAt B f) (he : PE X e (dE c W fe)) (hi : X.N[i]? = some y := by rfl) (hv : Vis X.env.scope y := by first | exact Or.inl rfl | exact Or.inr (Or.inl rfl) | exact Or.inr (Or.inr rfl)) (hyd : (y == ("__debug__" : Str)) = false := by decide) (hyc : (y == ("__classdict__" : Str)) = false := by decide)
    (hs : swapsWith e (some (.Attribute (.Name y yp) f tp)) pos.line X.env = pure false := by rfl) (hpin : c.pin = [] := by assumption) (hK : B.K = X.K := by rfl) : PS X (.Assign [.Attribute (.Name y yp) f tp] e pos) (dS c W (sFd cn i f fe)) :=
  psI (ps_fld (pv i hi hv hyd hyc) he hs) fun E σ H ⟨G, ρ, g, p⟩ => by
    refine (posts_bnd g p).imp fun v H1 ⟨G1, ρ1, d, s1, g1, r1, p1⟩ => ?_
    obtain ⟨o, hso, p2⟩ := set_post p1
    obtain ⟨b, A, dx, fs, k1, k2, k3, k4, k5, k6⟩ := g1.setOb hpin hso (crep_p.mpr ⟨r1, rfl⟩) List.nodup_nil (fun _ _ => rfl) (fun b hb => by cases hb)
    exact ⟨_, k1, b, A, dx, fs, rfl, k3, by rw [← hK]; exact B.ok _ _ k2, by rw [← hK]; exact na _ _ k2, k5, p2 _ _ G1 (Same.refl _) k6⟩
/-- self.f += e -/
theorem s_fa (i : Nat) {yp tp : Pos} (na : NoAt B f) (he : PE X e (dE c W fe)) (hi : X.N[i]? = some y := by rfl) (hv : Vis X.env.scope y := by first | exact Or.inl rfl | exact Or.inr (Or.inl rfl) | exact Or.inr (Or.inr rfl)) (hyd : (y == ("__debug__" : Str)) = false := by decide) (hyc : (y == ("__classdict__" : Str)) = false := by decide)
    (hpin : c.pin = [] := by assumption) (hK : B.K = X.K := by rfl) : PS X (.AugAssign (.Attribute (.Name y yp) f tp) .Add e pos) (dS c W (sFa cn i f fe)) :=
  psI (ps_fldaug (pv i hi hv hyd hyc) he in_add) fun E σ H ⟨G, ρ, g, p⟩ => by
    cases ho : obFld cn f (get ρ i) with
    | none =>
      have e1 : fldM cn i f ρ = .no := by unfold fldM; rw [ho]
      unfold sFa bnd at p
      rw [e1] at p
      exact False.elim p
    | some d =>
      have p0 : PostS c W G (bnd fe (fun y => bnd (lft (dAddI d y)) fun z => bnd (setM cn i f (.p z)) fun _ => Fe.ret .nx) ρ) E := by
        have e1 : fldM cn i f ρ = .ok d ρ := by unfold fldM; rw [ho]
        unfold sFa at p
        unfold bnd at p ⊢
        rw [e1] at p
        exact p
      unfold obFld at ho
      cases h1 : obAt cn (get ρ i) with
      | none => rw [h1] at ho; cases ho
      | some z =>
        rw [h1] at ho
        dsimp only at ho
        split at ho
        case h_2 => cases ho
        rename_i d' hd
        cases ho
        obtain ⟨fp, w, a, dx, A, us, f1, k1, k2, k3, k4, k5, k6, k7⟩ := g.ob (obAt_some h1)
        obtain ⟨u, hu, ru⟩ := go_p k6 k7 hd
        refine ⟨_, k1, a, A, dx, _, u, rfl, k4, by rw [← hK]; exact B.ok _ _ k3, by rw [← hK]; exact na _ _ k3, hu, ?_⟩
        refine (posts_bnd g p0).imp fun v H1 ⟨G1, ρ1, d2, s1, g1, r1, q⟩ => ?_
        obtain ⟨i1, rfl⟩ : ∃ i1, d = .int i1 := by cases d <;> first | exact ⟨_, rfl⟩ | exact False.elim q
        obtain ⟨i2, rfl⟩ : ∃ i2, d2 = .int i2 := by cases d2 <;> first | exact ⟨_, rfl⟩ | exact False.elim q
        refine ⟨i1, i2, rep_int.mp ru, rep_int.mp r1, ?_⟩
        replace q : PostS c W G1 (bnd (setM cn i f (.p (.int (i1 + i2)))) (fun _ => Fe.ret .nx) ρ1) E := q
        obtain ⟨o, hso, p2⟩ := set_post q
        obtain ⟨b, A2, dx2, fs2, m1, m2, m3, m4, m5, m6⟩ := g1.setOb (H1 := H1) (v := .int (i1 + i2)) hpin hso (crep_p.mpr ⟨rep_int.mpr rfl, rfl⟩) List.nodup_nil (fun _ _ => rfl) (fun b hb => by cases hb)
        rw [k1] at m1
        cases m1
        rw [k3] at m2
        cases m2
        exact ⟨dx2, fs2, m3, m5, p2 _ _ G1 (Same.refl _) m6⟩
/-- self.f -= e -/
theorem s_fs (i : Nat) {yp tp : Pos} (na : NoAt B f) (he : PE X e (dE c W fe)) (hi : X.N[i]? = some y := by rfl) (hv : Vis X.env.scope y := by first | exact Or.inl rfl | exact Or.inr (Or.inl rfl) | exact Or.inr (Or.inr rfl)) (hyd : (y == ("__debug__" : Str)) = false := by decide) (hyc : (y == ("__classdict__" : Str)) = false := by decide)
    (hpin : c.pin = [] := by assumption) (hK : B.K = X.K := by rfl) : PS X (.AugAssign (.Attribute (.Name y yp) f tp) .Sub e pos) (dS c W (sFs cn i f fe)) :=
  psI (ps_fldaug (pv i hi hv hyd hyc) he in_sub) fun E σ H ⟨G, ρ, g, p⟩ => by
    cases ho : obFld cn f (get ρ i) with
    | none =>
      have e1 : fldM cn i f ρ = .no := by unfold fldM; rw [ho]
      unfold sFs bnd at p
      rw [e1] at p
      exact False.elim p
    | some d =>
      have p0 : PostS c W G (bnd fe (fun y => bnd (lft (dSub d y)) fun z => bnd (setM cn i f (.p z)) fun _ => Fe.ret .nx) ρ) E := by
        have e1 : fldM cn i f ρ = .ok d ρ := by unfold fldM; rw [ho]
        unfold sFs at p
        unfold bnd at p ⊢
        rw [e1] at p
        exact p
      unfold obFld at ho
      cases h1 : obAt cn (get ρ i) with
      | none => rw [h1] at ho; cases ho
      | some z =>
        rw [h1] at ho
        dsimp only at ho
        split at ho
        case h_2 => cases ho
        rename_i d' hd
        cases ho
        obtain ⟨fp, w, a, dx, A, us, f1, k1, k2, k3, k4, k5, k6, k7⟩ := g.ob (obAt_some h1)
        obtain ⟨u, hu, ru⟩ := go_p k6 k7 hd
        refine ⟨_, k1, a, A, dx, _, u, rfl, k4, by rw [← hK]; exact B.ok _ _ k3, by rw [← hK]; exact na _ _ k3, hu, ?_⟩
        refine (posts_bnd g p0).imp fun v H1 ⟨G1, ρ1, d2, s1, g1, r1, q⟩ => ?_
        obtain ⟨i1, rfl⟩ : ∃ i1, d = .int i1 := by cases d <;> first | exact ⟨_, rfl⟩ | exact False.elim q
        obtain ⟨i2, rfl⟩ : ∃ i2, d2 = .int i2 := by cases d2 <;> first | exact ⟨_, rfl⟩ | exact False.elim q
        refine ⟨i1, i2, rep_int.mp ru, rep_int.mp r1, ?_⟩
        replace q : PostS c W G1 (bnd (setM cn i f (.p (.int (i1 - i2)))) (fun _ => Fe.ret .nx) ρ1) E := q
        obtain ⟨o, hso, p2⟩ := set_post q
        obtain ⟨b, A2, dx2, fs2, m1, m2, m3, m4, m5, m6⟩ := g1.setOb (H1 := H1) (v := .int (i1 - i2)) hpin hso (crep_p.mpr ⟨rep_int.mpr rfl, rfl⟩) List.nodup_nil (fun _ _ => rfl) (fun b hb => by cases hb)
        rw [k1] at m1
        cases m1
        rw [k3] at m2
        cases m2
        exact ⟨dx2, fs2, m3, m5, p2 _ _ G1 (Same.refl _) m6⟩
end
end Fe
end
section
set_option Elab.async false
set_option linter.all false
set_option maxRecDepth 100000
set_option maxHeartbeats 1000000
namespace Fe
open PySem PySem.Spec PyProof.Rows L2
section
variable {X : Cx} {B : Bs} {c : Ct B} {W : WX} {G H : Hp} {σ : L2.St} {ρ : Env}
theorem post_clo {φ : C → List D → FO} {i : Nat} {fs : M (List D)} {Q : VK} {t : TA} (ht : ∀ σ H Q, dA c W fs σ H Q → t σ H Q) (hpin : c.pin = []) (g : Good c G H σ ρ) {o : C} {a : Addr} (ho : get ρ i = some o) (hv : σ[i]? = some (some (.ref a))) (p : Post rD c W σ G (clo φ i fs ρ) Q) :
    t σ H fun vs H2 => spO B φ (.ref a :: vs) H2 Q (WE W σ) := by
  refine ht σ H _ ?_
  cases h0 : hld i ρ with
  | no => unfold clo bnd at p; rw [h0] at p; exact False.elim p
  | ex x ρ' => unfold hld at h0; split at h0 <;> cases h0
  | ok o0 ρ' =>
    obtain ⟨q1, rfl, io, nal⟩ := hld_at h0
    have p' : Post rD c W σ G (bnd fs (fun m => bnd (hld i) fun o => match φ o m with
      | .ok d o' => bnd (rpl i (some o')) fun _ => Fe.ret d
      | .ex x => bnd (rpl i none) fun _ => raise x
      | .no => fun _ => .no) ρ') Q := by
      unfold clo at p
      unfold bnd at p
      rw [h0] at p
      exact p
    refine (post_bnd g p').imp fun vs H1 ⟨G1, ρ1, ds, s1, g1, rs, p1⟩ => ?_
    cases ho1 : hld i ρ1 with
    | no => unfold bnd at p1; rw [ho1] at p1; exact False.elim p1
    | ex x ρ' => unfold hld at ho1; split at ho1 <;> cases ho1
    | ok o1 ρ2 =>
      obtain ⟨q2, rfl, io1, nal1⟩ := hld_at ho1
      obtain ⟨fp1, w1⟩ := g1.ow
      obtain ⟨v1, h2, r2⟩ := w1.sl i _ q2
      rw [hv] at h2
      cases h2
      have p2 : Post rD c W σ G1 ((match φ o1 ds with
        | .ok d o' => bnd (rpl i (some o')) fun _ => Fe.ret d
        | .ex x => bnd (rpl i none) fun _ => raise x
        | .no => fun _ => .no) ρ2) Q := by
        unfold bnd at p1
        rw [ho1] at p1
        exact p1
      refine ⟨G1, o1, ds, a, fp1 i, vs, rfl, g1.gh, g1.nt, g1.tb, io1, r2, w1.nd i, fun b hb => (w1.out i b hb).2.1, nal1, rs, ?_⟩
      revert p2
      cases hφ : φ o1 ds with
      | no => exact fun p => p
      | ok d o' =>
        intro p v H' G' fq n hw hy hn hr r
        refine p v H' G' n.gg (g1.callO hpin w1 q2 io1 hv n (fun z hz => ?_) hn fun b hb => ⟨hw.shape b hb, hr b hb⟩) r
        cases hz
        exact ⟨hw, hy⟩
      | ex x =>
        intro p cls dd H' G' n r
        exact p cls dd H' G' n.gg (g1.callO hpin (fq := []) w1 q2 io1 hv n (fun z hz => by cases hz) List.nodup_nil fun b hb => by cases hb) r
theorem chk_ok {cn m : Str} {i : Nat} {α : Type} {k : Unit → M α} {β : Type} {rep : Bs → Hp → α → β → Prop} {Q : β → Hp → Prop} (p : Post rep c W σ G (bnd (chk cn m i) k ρ) Q) : ∃ ns cs, get ρ i = some (.ob cn ns cs) ∧ ¬ m ∈ ns ∧ Post rep c W σ G (k () ρ) Q := by
  cases h : obAt cn (get ρ i) with
  | none =>
    have e : chk cn m i ρ = .no := by unfold chk; rw [h]
    unfold bnd at p
    rw [e] at p
    exact False.elim p
  | some z =>
    by_cases hm : m ∈ z.1
    · have e : chk cn m i ρ = .no := by unfold chk; rw [h]; dsimp only; rw [if_pos hm]
      unfold bnd at p
      rw [e] at p
      exact False.elim p
    · have e : chk cn m i ρ = .ok () ρ := by unfold chk; rw [h]; dsimp only; rw [if_neg hm]
      unfold bnd at p
      rw [e] at p
      exact ⟨_, _, obAt_some h, hm, p⟩
theorem clm_use {φ : C → List D → FO} {i : Nat} {cn m : Str} {A : Addr} (hA : B.C cn = some A) {fs : M (List D)} {Q : VK} {t : TA} (ht : ∀ σ H Q, dA c W fs σ H Q → t σ H Q) (hpin : c.pin = []) (h : dE c W (clm cn m φ i fs) σ H Q) : tMethS' A m (spO B φ) (WE W) (tVar i) t σ H Q := by
  obtain ⟨G, ρ, g, p⟩ := h
  unfold clm at p
  obtain ⟨ns, cs, h1, h2, p1⟩ := chk_ok p
  obtain ⟨fp, w, a, dx, A', us, f1, k1, k2, k3, k4, k5, k6, k7⟩ := g.ob h1
  rw [hA] at k3
  cases k3
  exact ⟨_, k1, a, dx, _, rfl, k4, lookup_none h2, post_clo ht hpin g h1 k1 p1⟩
end
section
variable {X : Cx} {B : Bs} {c : Ct B} {W : WX} {e o a : Expr} {es : List Expr} {fe fa : M D} {fs : M (List D)} {p pos apos p1 p2 : Pos} {x y f m cn : Str} {k : Nat}
/-- self.m(e, ..) -/
theorem e_clm {φ : C → List D → FO} {j : Nat} (i : Nat) {yp : Pos} (D0 : DfM X.prog X.w B X.mg X.base j cn m φ) (hK : B.K = X.K) (hr : Room k X.A) (hj : j ≤ k) (tk : Takes X W) (ha : PA X (e :: es) (dA c W fs)) (hi : X.N[i]? = some y := by rfl)
    (hv : Vis X.env.scope y := by first | exact Or.inl rfl | exact Or.inr (Or.inl rfl) | exact Or.inr (Or.inr rfl)) (hyd : (y == ("__debug__" : Str)) = false := by decide) (hyc : (y == ("__classdict__" : Str)) = false := by decide)
    (star : starEach (e :: es) X.env = (false, eval e X.env) :: starEach es X.env := by rfl) (plain : (backTo pos (starEach es X.env)).any (·.1) = false := by rfl) {pl : Sem Bool}
    (tree : eval (.Call (.Attribute (.Name y yp) m apos) (e :: es) [] pos) X.env = (do let ov ← eval (.Name y yp) X.env; standAt apos.atName; let (f, first) ← holding [ov] (getMethod ov m pl); callWith pos f first (backTo pos (starEach (e :: es) X.env)) (backToKw pos (keywordEach [] X.env))) := by rfl)
    (hpin : c.pin = [] := by assumption) : PE X (.Call (.Attribute (.Name y yp) m apos) (e :: es) [] pos) (dE c W (clm cn m φ i fs)) := by
  obtain ⟨A, f, fd, ps, hA, F, mt, hb⟩ := D0.ex
  have cl := B.ok _ _ hA
  rw [hK] at F mt hb cl
  exact peI (pe_methSt (pl := pl) (E := WE W) (pv i hi hv hyd hyc) cl mt F (hr.mono hj) hb (fun σ => passAt tk σ) ha star plain tree) fun σ H Q h => clm_use hA (fun _ _ _ z => z) hpin h
/-- self.m() -/
theorem e_clm0 {φ : C → List D → FO} {j : Nat} (i : Nat) {yp : Pos} (D0 : DfM X.prog X.w B X.mg X.base j cn m φ) (hK : B.K = X.K) (hr : Room k X.A) (hj : j ≤ k) (tk : Takes X W) (hi : X.N[i]? = some y := by rfl)
    (hv : Vis X.env.scope y := by first | exact Or.inl rfl | exact Or.inr (Or.inl rfl) | exact Or.inr (Or.inr rfl)) (hyd : (y == ("__debug__" : Str)) = false := by decide) (hyc : (y == ("__classdict__" : Str)) = false := by decide) {pl : Sem Bool}
    (tree : eval (.Call (.Attribute (.Name y yp) m apos) [] [] pos) X.env = (do let ov ← eval (.Name y yp) X.env; standAt apos.atName; let (f, first) ← holding [ov] (getMethod ov m pl); callWith pos f first (backTo pos (starEach [] X.env)) (backToKw pos (keywordEach [] X.env))) := by rfl)
    (hpin : c.pin = [] := by assumption) : PE X (.Call (.Attribute (.Name y yp) m apos) [] [] pos) (dE c W (clm cn m φ i nilA)) := by
  obtain ⟨A, f, fd, ps, hA, F, mt, hb⟩ := D0.ex
  have cl := B.ok _ _ hA
  rw [hK] at F mt hb cl
  exact peI (pe_methSt0 (pl := pl) (E := WE W) (pv i hi hv hyd hyc) cl mt F (hr.mono hj) hb (fun σ => passAt tk σ) tree) fun σ H Q h => clm_use (t := tNil) hA (fun σ H Q ⟨G, ρ, g, p⟩ => p [] H G (Same.refl _) g (reps_nil.mpr rfl)) hpin h
end
theorem noFO {P : Program} {w : World} {B : Bs} {mg : Str → Option Value} {base : Heap} {k : Nat} {f : Addr} {fd : FuncData} {ps : List Str} : FnOk P w B.K mg base (L2.CX P w) k f fd ps (spO B fun _ _ => .no) :=
  ⟨fun vs H Q E ⟨_, _, _, _, _, _, _, _, _, _, _, _, _, _, _, _, z⟩ => z.elim, fun A outer s H args us vs Q E _ _ _ _ ⟨_, _, _, _, _, _, _, _, _, _, _, _, _, _, _, _, z⟩ => z.elim⟩
section
variable {B : Bs} {c : Ct B} {W : WX} {G H : Hp} {σ : L2.St} {ρ : Env}
/-- what a new instance asks of its __init__; `K` is what is wanted behind it -/
theorem new_sp {φ : C → List D → FO} {cn : Str} {A : Addr} (hA : B.C cn = some A) (g : Good c G H σ ρ) {ds : List D} {vs : List V} (rs : Reps B G ds vs) {Q : VK} {E : XK} {a dx : Addr} (ha : H a = none) (hd : H dx = none) (hne : dx ≠ a)
    (k : match φ (.ob cn [] []) ds with
      | .ok d y => ∀ v H' G' fq, RetO B.T [a, dx] G (upd (upd H dx (.own a)) a (.ins A dx [])) G' H' → CRep B G' H' y (.ref a) fq → (∀ f, y ≠ .al f) → fq.Nodup → (∀ b ∈ fq, G' b = none ∧ (b ∈ [a, dx] ∨ noT (upd (upd H dx (.own a)) a (.ins A dx [])) b = none)) → Rep B G' d v → Q v H'
      | .ex x => ∀ cls dd H' G', RetO B.T [a, dx] G (upd (upd H dx (.own a)) a (.ins A dx [])) G' H' → ExRep B G' H' x cls dd → E cls dd H'
      | .no => False) : spO B φ (.ref a :: vs) (upd (upd H dx (.own a)) a (.ins A dx [])) Q E := by
  have far : ∀ b o, H b = some o → upd (upd H dx (.own a)) a (.ins A dx []) b = some o := fun b o e => by
    rw [upd_ne (ne_of_none e ha), upd_ne (ne_of_none e hd)]; exact e
  refine ⟨G, .ob cn [] [], ds, a, [a, dx], vs, rfl, fun b o e => far b o (g.gh _ _ e), g.nt, tabs_keep g.tb fun b o e _ => far b o e, rfl, ?_, ?_, ?_, (fun f z => by cases z), rs, k⟩
  · exact crep_ob.mpr ⟨a, dx, A, [], [], rfl, rfl, hA, upd_same, by rw [upd_ne hne]; exact upd_same, rfl, go_nil.mpr ⟨rfl, rfl⟩⟩
  · exact List.nodup_cons.mpr ⟨fun z => hne (List.mem_singleton.mp z).symm, List.nodup_cons.mpr ⟨List.not_mem_nil, List.nodup_nil⟩⟩
  · intro b hb
    rcases List.mem_cons.mp hb with rfl | hb
    · exact g.gh.free ha
    · rw [List.mem_singleton.mp hb]; exact g.gh.free hd
/-- behind a call on a new instance all is as it was -/
theorem RetO.ret {T : List (Addr × Str)} {a dx A : Addr} {G' H' : Hp} (n : RetO T [a, dx] G (upd (upd H dx (.own a)) a (.ins A dx [])) G' H') (ha : H a = none) (hd : H dx = none) : Ret T G H G' H' where
  gg := n.gg
  gh := n.gh
  nt := n.nt
  fr := fun b hb => by
    rcases n.fr b hb with z | z | z
    · exact .inl z
    · refine .inr ?_
      by_cases e1 : b = a
      · subst e1; unfold noT; rw [ha]
      · by_cases e2 : b = dx
        · subst e2; unfold noT; rw [hd]
        · unfold noT at z ⊢
          rw [upd_ne e1, upd_ne e2] at z
          exact z
    · refine .inr ?_
      rcases List.mem_cons.mp z with rfl | z
      · unfold noT; rw [ha]
      · rw [List.mem_singleton.mp z]; unfold noT; rw [hd]
  hh := fun b o e => by
    have e1 : b ≠ a := ne_of_none (noT_some e) ha
    have e2 : b ≠ dx := ne_of_none (noT_some e) hd
    refine n.hh b o ?_
    unfold butO
    rw [if_neg (by simp [e1, e2])]
    unfold noT at e ⊢
    rw [upd_ne e1, upd_ne e2]
    exact e
  tb := n.tb
theorem plain_reps {H' : Hp} : ∀ {cs : List C} {us : List V} {fq : List Addr} {ds : List D}, plainCs cs = some ds → CRep.go B G H' cs us fq → Reps B G ds us ∧ fq = []
  | [], us, fq, ds, h, g => by
    cases h
    obtain ⟨rfl, rfl⟩ := go_nil.mp g
    exact ⟨reps_nil.mpr rfl, rfl⟩
  | x :: cs, us, fq, ds, h, g => by
    obtain ⟨v, r, g1, g2, rfl, rfl, g3, g4⟩ := go_cons.mp g
    cases x <;> first | (cases h; done) | skip
    rename_i d
    obtain ⟨ds', h', rfl⟩ := Option.map_eq_some_iff.mp h
    obtain ⟨r1, r2⟩ := plain_reps h' g4
    obtain ⟨q1, q2⟩ := crep_p.mp g3
    exact ⟨reps_cons.mpr ⟨v, r, rfl, q1, r1⟩, by rw [q2, r2]; rfl⟩
/-- an instance that does not change any more -/
theorem plain_in {H' : Hp} {y : C} {a : Addr} {fq : List Addr} {d : D} (hp : plainC y = some d) (cr : CRep B G H' y (.ref a) fq) (hG : ∀ b ∈ fq, G b = none) (gh : Same G H') (nt : NT G) : ∃ G2, Same G G2 ∧ Same G2 H' ∧ NT G2 ∧ (∀ b, G2 b ≠ none → G b ≠ none ∨ b ∈ fq) ∧ Rep B G2 d (.ref a) := by
  cases y <;> first | (cases hp; done) | skip
  rename_i cn ns cs
  obtain ⟨ds, hd, rfl⟩ := Option.map_eq_some_iff.mp hp
  obtain ⟨a', dx, A, us, f1, e1, rfl, k3, k4, k5, k6, k7⟩ := crep_ob.mp cr
  cases e1
  obtain ⟨r1, rfl⟩ := plain_reps hd k7
  have ga : G a = none := hG a (.head _)
  have gd : G dx = none := hG dx (.tail _ (.head _))
  have ne : dx ≠ a := fun z => by subst z; rw [k4] at k5; cases k5
  have s1 : Same G (upd (upd G dx (.own a)) a (.ins A dx (ns.zip us))) := fun b o e => by rw [upd_ne (ne_of_none e ga), upd_ne (ne_of_none e gd)]; exact e
  refine ⟨_, s1, fun b o e => ?_, fun b ps e => ?_, fun b hb => ?_, rep_obj.mpr ⟨a, dx, A, us, rfl, k3, upd_same, by rw [upd_ne ne]; exact upd_same, k6, Reps.mono s1 r1⟩⟩
  · by_cases e1 : b = a
    · subst e1; rw [upd_same] at e; rw [k4]; exact e
    · rw [upd_ne e1] at e
      by_cases e2 : b = dx
      · subst e2; rw [upd_same] at e; rw [k5]; exact e
      · rw [upd_ne e2] at e; exact gh _ _ e
  · by_cases e1 : b = a
    · subst e1; rw [upd_same] at e; cases e
    · rw [upd_ne e1] at e
      by_cases e2 : b = dx
      · subst e2; rw [upd_same] at e; cases e
      · rw [upd_ne e2] at e; exact nt _ _ e
  · by_cases e1 : b = a
    · exact .inr (by rw [e1]; exact .head _)
    · by_cases e2 : b = dx
      · exact .inr (by rw [e2]; exact .tail _ (.head _))
      · rw [upd_ne e1, upd_ne e2] at hb; exact .inl hb
end
section
variable {X : Cx} {B : Bs} {c : Ct B} {W : WX} {e o a : Expr} {es : List Expr} {fe fa : M D} {fs : M (List D)} {p pos apos p1 p2 : Pos} {x y f m cn : Str} {k : Nat}
theorem mkP_use {φ : C → List D → FO} {A : Addr} (hA : B.C cn = some A) {σ : L2.St} {H : Hp} {Q : VK} {t : TA} (ht : ∀ σ H Q, dA c W fs σ H Q → t σ H Q) (h : dE c W (mkP cn φ fs) σ H Q) : tMakeS A (spO B φ) (WE W) t σ H Q := by
  refine ht σ H _ ((den_bnd h).imp fun vs H1 ⟨G1, ρ1, ds, g1, rs, p1⟩ => fun b db hb hdb hne => new_sp hA g1 rs hb hdb hne ?_)
  revert p1
  cases hφ : φ (.ob cn [] []) ds with
  | no => exact fun p => p
  | ex x => exact fun p cls dd H' G' n r => p cls dd H' G' n.gg (g1.call (n.ret hb hdb)) r
  | ok d y =>
    intro p v H' G' fq n cr nal nd hfq r
    cases d <;> first | exact False.elim p | skip
    refine ⟨rep_non.mp r, ?_⟩
    obtain ⟨z, hz, p2⟩ := post_lft p
    obtain ⟨G2, s1, s2, nt2, fr2, r2⟩ := plain_in hz cr (fun b hb => (hfq b hb).1) n.gh n.nt
    have R := n.ret hb hdb
    have R2 : Ret B.T G1 H1 G2 H' := ⟨R.gg.trans s1, s2, nt2, fun q hq => by
      rcases fr2 q hq with z | z
      · exact R.fr q z
      · refine .inr ?_
        rcases (hfq q z).2 with z | z
        · rcases List.mem_cons.mp z with rfl | z
          · unfold noT; rw [hb]
          · rw [List.mem_singleton.mp z]; unfold noT; rw [hdb]
        · by_cases e1 : q = b
          · subst e1; unfold noT; rw [hb]
          · by_cases e2 : q = db
            · subst e2; unfold noT; rw [hdb]
            · unfold noT at z ⊢
              rw [upd_ne e1, upd_ne e2] at z
              exact z, R.hh, R.tb⟩
    exact p2 _ H' G2 R2.gg (g1.call R2) r2
/-- C(..), the instance plain from then on -/
theorem e_mkP {φ : C → List D → FO} {j : Nat} (D0 : DfI X.prog X.w B X.mg X.base j cn φ) (hK : B.K = X.K) (hr : Room k X.A) (hj : j + 1 ≤ k) (tk : Takes X W) (ha : PA X (e :: es) (dA c W fs)) (hg : Gl X cn := by rfl) (hdb : (cn == ("__debug__" : Str)) = false := by decide)
    (star : starEach (e :: es) X.env = (false, eval e X.env) :: starEach es X.env := by rfl) (plain : (backTo pos (starEach es X.env)).any (·.1) = false := by rfl) : PE X (.Call (.Name cn p) (e :: es) [] pos) (dE c W (mkP cn φ fs)) := by
  obtain ⟨A, f, fd, ps, hA, F, mk, hb, hm⟩ := D0.ex
  rw [hK] at F mk hb
  exact peI (pe_makeS (E := WE W) mk F (hr.mono hj) hg hm hb (fun σ => passAt tk σ) ha hdb star plain) fun σ H Q h => mkP_use hA (fun _ _ _ z => z) h
theorem tmp_use {φ ψ : C → List D → FO} {A : Addr} (hA : B.C cn = some A) {σ : L2.St} {H : Hp} {Q : VK} {t : TA} (ht : ∀ σ H Q, dA c W fs σ H Q → t σ H Q) (h : dE c W (tmpC cn m φ ψ fs) σ H Q) : tMethS' A m (spO B ψ) (WE W) (tMakeS A (spO B φ) (WE W) t) tNil σ H Q := by
  refine ht σ H _ ((den_bnd h).imp fun vs H1 ⟨G1, ρ1, ds, g1, rs, p1⟩ => fun b db hb hdb hne => new_sp hA g1 rs hb hdb hne ?_)
  revert p1
  cases hφ : φ (.ob cn [] []) ds with
  | no => exact fun p => p
  | ex x => exact fun p cls dd H' G' n r => p cls dd H' G' n.gg (g1.call (n.ret hb hdb)) r
  | ok d y =>
    intro p v H' G' fq n cr nal nd hfq r
    cases d <;> first | exact False.elim p | skip
    refine ⟨rep_non.mp r, ?_⟩
    cases y <;> first | exact False.elim p | skip
    rename_i c' ns cs
    dsimp only at p
    by_cases hc : c' = cn ∧ ¬ m ∈ ns
    case neg => rw [if_neg hc] at p; exact False.elim p
    rw [if_pos hc] at p
    obtain ⟨rfl, hm⟩ := hc
    obtain ⟨a', dx, A', us, f1, e1, e2, k3, k4, k5, k6, k7⟩ := crep_ob.mp cr
    cases e1
    rw [hA] at k3
    cases k3
    refine ⟨b, dx, _, rfl, k4, lookup_none hm, ?_⟩
    have R := n.ret hb hdb
    refine ⟨G', .ob c' ns cs, [], b, fq, [], rfl, n.gh, n.nt, n.tb, rfl, cr, nd, fun q hq => (hfq q hq).1, fun f z => (by cases z), reps_nil.mpr rfl, ?_⟩
    have back : ∀ {G4 H4 : Hp}, RetO B.T fq G' H' G4 H4 → Ret B.T G1 H1 G4 H4 := fun {G4 H4} n2 => by
      have noA : ∀ q o, noT H1 q = some o → q ∉ fq ∧ noT H' q = some o := fun q o e => by
        have h1 := R.hh q o e
        refine ⟨fun z => ?_, noT_of h1 fun ps hz => noT_nt q ps (hz ▸ e)⟩
        rcases (hfq q z).2 with z | z
        · rcases List.mem_cons.mp z with rfl | z
          · have := noT_some e; rw [hb] at this; cases this
          · rw [List.mem_singleton.mp z] at e
            have := noT_some e; rw [hdb] at this; cases this
        · have e1 : q ≠ b := ne_of_none (noT_some e) hb
          have e2 : q ≠ db := ne_of_none (noT_some e) hdb
          unfold noT at z e
          rw [upd_ne e1, upd_ne e2] at z
          rw [z] at e; cases e
      refine ⟨n.gg.trans n2.gg, n2.gh, n2.nt, fun q hq => ?_, fun q o e => ?_, n2.tb⟩
      · cases hz : noT H1 q with
        | none => exact .inr rfl
        | some o =>
          obtain ⟨n1, n3⟩ := noA q o hz
          rcases n2.fr q hq with z | z | z
          · rcases R.fr q z with y | y
            · exact .inl y
            · rw [hz] at y; cases y
          · rw [n3] at z; cases z
          · exact absurd z n1
      · obtain ⟨n1, n3⟩ := noA q o e
        refine n2.hh q o ?_
        unfold butO
        rw [if_neg n1]
        exact n3
    revert p
    cases ψ (.ob c' ns cs) [] with
    | no => exact fun p => p
    | ok d y => exact fun p v H4 G4 fq2 n2 _ _ _ _ r4 => p v H4 G4 (back n2).gg (g1.call (back n2)) r4
    | ex x => exact fun p cls dd H4 G4 n2 r4 => p cls dd H4 G4 (back n2).gg (g1.call (back n2)) r4
/-- C(..).m() -/
theorem e_tmp {φ ψ : C → List D → FO} {j j2 : Nat} (D0 : DfI X.prog X.w B X.mg X.base j cn φ) (D1 : DfM X.prog X.w B X.mg X.base j2 cn m ψ) (hK : B.K = X.K) (hr : Room k X.A) (hj : j + 1 ≤ k) (hj2 : j2 ≤ k) (tk : Takes X W) (ha : PA X (e :: es) (dA c W fs)) (hg : Gl X cn := by rfl) (hdb : (cn == ("__debug__" : Str)) = false := by decide)
    (star : starEach (e :: es) X.env = (false, eval e X.env) :: starEach es X.env := by rfl) (plain : (backTo pos (starEach es X.env)).any (·.1) = false := by rfl) {pl : Sem Bool} {pos2 : Pos}
    (tree : eval (.Call (.Attribute (.Call (.Name cn p) (e :: es) [] pos) m apos) [] [] pos2) X.env = (do let ov ← eval (.Call (.Name cn p) (e :: es) [] pos) X.env; standAt apos.atName; let (f, first) ← holding [ov] (getMethod ov m pl); callWith pos2 f first (backTo pos2 (starEach [] X.env)) (backToKw pos2 (keywordEach [] X.env))) := by rfl) :
    PE X (.Call (.Attribute (.Call (.Name cn p) (e :: es) [] pos) m apos) [] [] pos2) (dE c W (tmpC cn m φ ψ fs)) := by
  obtain ⟨A, f, fd, ps, hA, F, mk, hb, hm⟩ := D0.ex
  obtain ⟨A2, f2, fd2, ps2, hA2, F2, mt2, hb2⟩ := D1.ex
  rw [hA] at hA2
  cases hA2
  have cl := B.ok _ _ hA
  rw [hK] at F mk hb F2 mt2 hb2 cl
  exact peI (pe_methSt0 (pl := pl) (E := WE W) (pe_makeS (E := WE W) mk F (hr.mono hj) hg hm hb (fun σ => passAt tk σ) ha hdb star plain) cl mt2 F2 (hr.mono hj2) hb2 (fun σ => passAt tk σ) tree) fun σ H Q h => tmp_use hA (fun _ _ _ z => z) h
end
end Fe
end
section
set_option Elab.async false
set_option linter.all false
set_option maxRecDepth 100000
set_option maxHeartbeats 1000000
namespace PySem
open Sem (wp)
theorem meets_enum1B {v : Value} {o : Obj} {H : Heap → Prop} (B : Begins v o H) :
    Meets (Builtin.«enumerate.__new__» ⟨[.type "enumerate", v], []⟩) (fun _ R s => H s.heap ∧
      R (.ok (.ret (.ref (s.heap.push o).objs.size))) { s with heap := (s.heap.push o).push { cls := .type "enumerate", data := .fields #[.none, .bool false, .ref s.heap.objs.size, rawInt 0, .none, .none] } }) :=
  .of_wp fun prog w A R s h => by
    obtain ⟨hp, g, d, tk, os⟩ := s; obtain ⟨h1, h⟩ := h
    have hsub := sub_enumerate
    have q1 : ∀ {A' : Around} {E : Value → Shared → Prop} {Q : Value → Shared → Prop}, Q (.ref hp.objs.size) ⟨hp.push o, g, d, tk, os⟩ → wpAny (model prog w) A' (pyIter v) Q E ⟨hp, g, d, tk, os⟩ :=
      fun q => B.iter prog w _ _ ⟨hp, g, d, tk, os⟩ _ h1 q
    wp_walk using q1
    refine wpAny_stack_any fun st => wpAny_pure ?_
    split
    · rename_i c _ _ _ _ _
      cases (c == Value.type "enumerate")
      · wp_walk using q1
        exact ⟨_, rfl, h⟩
      · wp_walk using q1
        exact ⟨_, rfl, h⟩
    · wp_walk using q1
      exact ⟨_, rfl, h⟩
section
variable {prog : Program} {w : World} {A : Around} {E : Value → Shared → Prop} {s : Shared}
theorem enum1_begins {v : Value} {o : Obj} {H : Heap → Prop} {Q : Value → Shared → Prop} (B : Begins v o H) (h1 : H s.heap)
    (h : ∀ h', IsEnum h' (s.heap.objs.size + 1) s.heap.objs.size 0 .none → h'.get? s.heap.objs.size = some o → h'.objs.size = s.heap.objs.size + 2 →
      (∀ b o, s.heap.get? b = some o → h'.get? b = some o) → Q (.ref (s.heap.objs.size + 1)) { s with heap := h' }) :
    wpAny (model prog w) A (call (.type "enumerate") [v]) Q E s := by
  refine callType_new F.called_enumerate (by decide) (F.typeCall_enumerate_1 _) (F.newCall_enumerate_1 _) (fun obj => F.args_object_init_2 obj _) F.entry_enumerate_new (meets_enum1B B) ⟨h1, ?_⟩
  have hz : (s.heap.push o).objs.size = s.heap.objs.size + 1 := Heap.size_push ..
  show _ ∧ _
  rw [hz]
  have he : IsEnum ((s.heap.push o).push { cls := .type "enumerate", data := .fields #[.none, .bool false, .ref s.heap.objs.size, rawInt 0, .none, .none] }) (s.heap.objs.size + 1) s.heap.objs.size 0 .none := by
    have := Heap.get?_push_size (s.heap.push o) (o := { cls := .type "enumerate", data := .fields #[.none, .bool false, .ref s.heap.objs.size, rawInt 0, .none, .none] }) rfl
    rw [hz] at this; exact this
  exact ⟨⟨_, he, rfl⟩, h _ he (Heap.get?_push_of_some _ (Heap.get?_push_size _ B.free)) (by rw [Heap.size_push, hz]) fun b o x => Heap.get?_push_of_some _ (Heap.get?_push_of_some _ x)⟩
end
end PySem
namespace Fe
open PySem PySem.Spec PyProof.Rows L2
/-- the pairs of enumerate -/
def enums (l : List D) : List D := l.zipIdx.map fun p => .tup [.int p.2, p.1]
theorem enums_len (l : List D) : (enums l).length = l.length := by unfold enums; rw [List.length_map, List.length_zipIdx]
theorem enums_get {l : List D} {i : Nat} {d : D} (h : l[i]? = some d) : (enums l)[i]? = some (.tup [.int i, d]) := by
  unfold enums
  rw [List.getElem?_map, List.getElem?_zipIdx, h]
  simp
section
variable {B : Bs} {G : Hp} {a : Addr} {l : List D} {vs : List V}
theorem pair_new {G1 H : Hp} {T : Addr} {i : Nat} {d : D} {x : V} (s2 : Same G1 H) (n : NT G1) (hT : H T = none) (r : Rep B G1 d x) : ∃ G2, New G1 H G2 (upd H T (.tup [.int i, x])) ∧ Rep B G2 (.tup [.int i, d]) (.ref T) := by
  have w : New G1 H (upd G1 T (.tup [.int i, x])) (upd H T (.tup [.int i, x])) := New.mk1 s2 n hT fun _ e => nomatch e
  refine ⟨_, w, rep_tup.mpr ⟨T, [.int i, x], rfl, .inl (.inl upd_same), reps_cons.mpr ⟨_, _, rfl, rep_int.mpr rfl, reps_cons.mpr ⟨_, _, rfl, Rep.mono w.gg r, reps_nil.mpr rfl⟩⟩⟩⟩
end
section
variable {X : Cx} {B : Bs} {c : Ct B} {W : WX} {a : Expr} {fa : M D} {elts : List Expr} {kk : Nat} {tpos p pos : Pos}
end
end Fe
end
section
set_option Elab.async false
set_option linter.all false
set_option maxRecDepth 100000
set_option maxHeartbeats 4000000
namespace Fe
open PySem PySem.W PySem.SeqAt PyProof.Rows
section
variable {prog : Program} {w : World} {A : Around} {s : Shared} {E : Value → Shared → Prop}
end
end Fe
end
section
set_option Elab.async false
set_option linter.all false
set_option maxRecDepth 100000
set_option maxHeartbeats 2000000
namespace Fe
open PySem PySem.Spec PyProof.Rows L2
section
variable {X : Cx} {B : Bs} {c : Ct B} {W : WX} {a b d3 o : Expr} {fa fb fc : M D} {x y z : Str} {pos : Pos} {acc : Acc}
end
end Fe
end
section
set_option Elab.async false
set_option linter.all false
set_option maxRecDepth 100000
set_option maxHeartbeats 2000000
namespace Fe
open PySem PySem.Spec PyProof.Rows L2
open PySem.W (AllAlike EachIs dataLe SortsAt)
section
variable {prog : Program} {w : World} {A : Around} {E : Value → Shared → Prop} {s : Shared} {β : Type} {vs : List Value} {bs : List β} {enc : β → PyData} {R : Value → β → Prop}
end
structure SortOk (l : List D) : Prop where
  ly : lays l = true
  dp : deps l ≤ 60
  al : AllAlike (l.map py)
  kd : (∀ d, d ∈ l.map py → ∃ xs, d = .tuple xs) ∨ PySem.W.Sortable (l.map py)
  lm : l.length ≤ lim
section
variable {X : Cx} {B : Bs} {c : Ct B} {W : WX} {e : Expr} {fe : M D} {p pos : Pos}
end
end Fe
end
section
set_option Elab.async false
set_option linter.all false
set_option maxRecDepth 100000
set_option maxHeartbeats 2000000
namespace L2
open PySem PySem.Spec PyProof.Rows PySem.W
open PySem.W (AllAlike EachIs dataLe SortsAt)
section
variable {P : Program} {w : World} {A : Around} {E : Value → Shared → Prop} {s : Shared}
end
end L2
end
section
set_option Elab.async false
set_option linter.all false
set_option maxRecDepth 100000
set_option maxHeartbeats 4000000
namespace L2
open PySem PySem.Spec PyProof.Rows PySem.W
section
variable {X : Cx}
end
end L2
namespace Fe
open PySem PySem.Spec PyProof.Rows L2
section
variable {X : Cx} {B : Bs} {c : Ct B} {W : WX} {e : Expr} {fe : M D} {pos p p2 q : Pos}
end
end Fe
end
section
set_option Elab.async false
set_option linter.all false
set_option maxRecDepth 100000
set_option maxHeartbeats 2000000
namespace Fe
open PySem PySem.Spec PyProof.Rows L2
open PySem.W (AllAlike EachIs)
section
variable {prog : Program} {w : World} {A : Around} {E : Value → Shared → Prop} {s : Shared}
end
section
variable {X : Cx} {B : Bs} {c : Ct B} {W : WX} {e : Expr} {fe : M D} {p pos : Pos}
end
end Fe
end
section
set_option Elab.async false
set_option linter.all false
set_option maxRecDepth 100000
set_option maxHeartbeats 2000000
namespace Fe
open PySem PySem.Spec PyProof.Rows L2
section
variable {X : Cx} {B : Bs} {c : Ct B} {W : WX} {a b d3 o : Expr} {fa fb fc : M D} {x y z : Str} {pos : Pos} {acc : Acc}
end
end Fe
end
section
set_option Elab.async false
set_option linter.all false
set_option maxRecDepth 100000
set_option maxHeartbeats 1000000
namespace Fe
open PySem PySem.Spec PyProof.Rows L2
section
variable {X : Cx} {B : Bs} {c : Ct B} {W : WX} {a b e o : Expr} {fa fb fe : M D} {pos p1 p2 q1 q2 : Pos} {acc : Acc} {x : Str}
end
end Fe
end
section
set_option Elab.async false
set_option linter.all false
set_option maxRecDepth 100000
set_option maxHeartbeats 4000000
namespace Fe
open PySem PySem.Spec PyProof.Rows L2
section
variable {P : Program} {w : World} {A : Around} {E : Value → Shared → Prop} {s : Shared}
end
section
variable {X : Cx} {B : Bs} {c : Ct B} {W : WX} {e : Expr} {fe : M D} {p p2 q pos : Pos}
end
end Fe
end
section
set_option Elab.async false
set_option linter.all false
set_option maxRecDepth 100000
set_option maxHeartbeats 2000000
namespace Fe
open PySem PySem.Spec PyProof.Rows L2
section
variable {X : Cx} {B : Bs} {c : Ct B} {W : WX} {e a : Expr} {fe fa : M D} {pos p p1 : Pos} {x : Str}
end
end Fe
end
section
set_option Elab.async false
set_option linter.all false
set_option maxRecDepth 100000
set_option maxHeartbeats 4000000
namespace Fe
open PySem PySem.Spec PyProof.Rows L2
section
variable {X : Cx} {B : Bs} {c : Ct B} {W : WX} {e : Expr} {fe : M D} {p p2 q pos : Pos}
end
end Fe
end
section
set_option Elab.async false
set_option linter.all false
set_option maxRecDepth 100000
set_option maxHeartbeats 1000000
namespace Fe
open PySem PySem.Spec PyProof.Rows L2
/-- the text x, each sign in a new pair -/
def ItEs (x : Str) : It :=
  ⟨fun i _ => i < x.cps.toList.length, fun i H v H' => ∃ T c, v = .ref T ∧ H T = none ∧ x.cps.toList[i]? = some c ∧ H' = upd H T (.tup [.int (i : Nat), .str ⟨#[c]⟩]), fun i _ => x.cps.toList.length = i⟩
theorem turn_enumS {P : Program} {w : World} {K : PySem.W.Frag} {elts : List Expr} {kk : Nat} {tpos : Pos} (x : Str) (t : Tok) (e it : Addr) :
    Turn P w K (.Tuple elts kk tpos) (ItEs x) [e, it] e (fun i h => (∃ old, IsEnum h e it ((i : Nat) : Int) old) ∧ h.IsStrIter it (strIterType x) x t i ∧ e ≠ it) where
  mem := by simp
  obj := fun i h st b hb => by
    obtain ⟨⟨old, he⟩, ⟨o, ho, hc, hd⟩, _⟩ := st
    have e' : b = e ∨ b = it := by simpa using hb
    rcases e' with z | z
    · rw [z]; exact ⟨_, he, fun v q => nomatch q⟩
    · rw [z]; exact ⟨o, ho, fun v q => by rw [hd] at q; cases q⟩
  keep := fun i h h' st k => let ⟨⟨old, he⟩, hi, hne⟩ := st; ⟨⟨old, k e (by simp) _ he⟩, (let ⟨o, ho, q⟩ := hi; ⟨o, k it (by simp) o ho, q⟩), hne⟩
  item := by
    intro X hP hw hK hc i pins s σ H E I hf st hg
    subst hP hw hK
    obtain ⟨⟨old, he⟩, hit, hne⟩ := st
    have hg' : i < x.cps.toList.length := hg
    have hel : e < s.heap.objs.size := Heap.lt_size he
    have hil : it < s.heap.objs.size := by obtain ⟨_, q, _⟩ := hit; exact Heap.lt_size q
    have hlt : i < x.cps.size := by rw [← Array.length_toList]; exact hg'
    refine wpAny_pyNext_enum_itemC (Draws.text (A := X.A.in1) (show X.A.in1.handled = none from I.ok.hd hc) it x t) he hit hlt hne (by
      intro z
      exact hne (List.mem_singleton.mp z)) fun y h' tk hy ho hit' hT hsz hk => ?_
    obtain ⟨c, u, hcx, rfl⟩ := hy
    have hcl : x.cps.toList[i]? = some c := by rw [Array.getElem?_toList]; exact hcx
    refine ⟨_, rfl, wpAny_letOwnedTupleGo_enum (s := { s with heap := h', toks := tk + 1 }) ho fun h'' he' sb => ?_⟩
    have hT2 : h''.get? s.heap.objs.size = some { cls := .type "tuple", data := .seq #[.int i tk, .str ⟨#[c]⟩ u] } := (sb.2 _ (Nat.ne_of_gt hel)).trans hT
    have new : ObjOk X.prog X.w (upd H s.heap.objs.size (.tup [.int (i : Nat), .str ⟨#[c]⟩])) h'' s.heap.objs.size (.tup [.int (i : Nat), .str ⟨#[c]⟩]) :=
      ⟨by show 2 ≤ sizeLine; decide, [.int i tk, .str ⟨#[c]⟩ u], .cons ⟨_, rfl⟩ (.cons ⟨_, rfl⟩ .nil), ⟨_, hT2, rfl, _, rfl⟩⟩
    have I1 : Inv X pins σ (upd H s.heap.objs.size (.tup [.int (i : Nat), .str ⟨#[c]⟩])) { s with heap := h'', toks := tk + 1 } :=
      I.turnedNew (ch := [e, it]) (fun b ob hb q => (sb.2 b (fun z => hb (by simp [z]))).trans (hk b ob (fun z => hb (by simp [z])) (fun z => hb (by simp [z])) q)) hf (Nat.le_refl _) new
    refine ⟨.ref s.heap.objs.size, _, I1, rfl, ⟨_, c, rfl, I.hok.fresh (Nat.le_refl _), hcl, rfl⟩, ⟨⟨.str ⟨#[c]⟩ u, ?_⟩, (let ⟨o, ho, q⟩ := hit'; ⟨o, (sb.2 it (Ne.symm hne)).trans ho, q⟩), hne⟩, fun b hb => ?_⟩
    · have e1 : ((i + 1 : Nat) : Int) = (i : Int) + 1 := by omega
      rw [e1]; exact he'
    · have hb' : b < s.heap.objs.size := by
        have e' : b = e ∨ b = it := by simpa using hb
        rcases e' with z | z
        · rw [z]; exact hel
        · rw [z]; exact hil
      rw [upd_ne (Nat.ne_of_lt hb')]
      exact (hf b hb).1
  done := by
    intro X hP hw hK hc i pins s σ H E I hf st hg
    subst hP hw hK
    obtain ⟨⟨old, he⟩, hit, hne⟩ := st
    have hg' : x.cps.toList.length = i := hg
    obtain ⟨f0, f1, f2, f3, f4, f5⟩ := hf it (by simp)
    have hl : x.cps.size = i := by rw [← Array.length_toList]; exact hg'
    subst hl
    exact wpAny_pyNext_enum_endD (Draws.text (A := X.A.in1) (show X.A.in1.handled = none from I.ok.hd hc) it x t) he hit fun h' eb => ⟨rfl, I.turned (t' := s.toks) (fun b o hb q => eb b o hb q) f0 f1 f3 f4 f5⟩
  self := fun A i s Q E st h => let ⟨⟨_, he⟩, _⟩ := st; wpAny_pyIter_enum he h
def iEnumS (ta : TA) : TI := fun σ H R => ta σ H fun vs H1 => ∃ x, vs = [.str x] ∧ R (ItEs x) H1
theorem pi_enumS {X : Cx} {e : Expr} {ta : TA} {p pos tpos : Pos} {elts : List Expr} {kk : Nat} (hg : Gl X "enumerate") (hm : X.mg "enumerate" = none) (ha : PA X [e] ta) (hs : starEach [e] X.env = [(false, eval e X.env)] := by rfl) :
    PI X (.Tuple elts kk tpos) (.Call (.Name "enumerate" p) [e] [] pos) (iEnumS ta) := by
  refine ⟨fun pins s σ H R I h => ?_⟩
  refine Call_ (ld_blt I hg hm boot_enumerate (PyProof.Rows.callWith_type1 (thn (ha.run pos pins s σ H _ I h) fun us s1 ⟨vs, H1, I1, r1, q1⟩ => ?_) hs rfl))
  obtain ⟨x, ex, q⟩ := q1
  subst ex
  cases r1 with
  | cons r rr =>
    cases rr
    obtain ⟨t, rfl⟩ := r
    refine enum1_begins (begins_text x t) trivial fun h' he hit hsz hk => wpAny_pyIter_enum he ?_
    have I2 : Inv X pins σ H1 { s1 with heap := h' } := I1.kept (t' := s1.toks) hk
    refine ⟨s1.heap.objs.size + 1, [s1.heap.objs.size + 1, s1.heap.objs.size], _, _, H1, rfl, I2, turn_enumS x t (s1.heap.objs.size + 1) s1.heap.objs.size, ⟨⟨.none, he⟩, ⟨_, hit, rfl, rfl⟩, Nat.succ_ne_self _⟩, fun b hb => ?_, q⟩
    have e' : b = s1.heap.objs.size + 1 ∨ b = s1.heap.objs.size := by simpa using hb
    have hle : s1.heap.objs.size ≤ b := by
      rcases e' with z | z
      · rw [z]; exact Nat.le_add_right _ _
      · rw [z]; exact Nat.le_refl _
    exact I1.fpOk hle (I1.hok.fresh hle)
/-- the signs of a text -/
def signsD (x : Str) : List D := x.cps.toList.map fun c => .str ⟨#[c]⟩
section
variable {B : Bs} {G : Hp}
theorem goes_enumS (x : Str) : Goes B G (ItEs x) (enums (signsD x)) where
  go := fun i H s hi => by
    rw [enums_len] at hi
    show i < x.cps.toList.length
    unfold signsD at hi
    rwa [List.length_map] at hi
  stop := fun H s => by
    show x.cps.toList.length = (enums (signsD x)).length
    rw [enums_len]
    unfold signsD
    rw [List.length_map]
  yld := fun i H v H' s y hi G1 s1 s2 n => by
    obtain ⟨T, c, rfl, hT, hc, rfl⟩ := y
    obtain ⟨G2, w, r2⟩ := pair_new (i := i) (d := .str ⟨#[c]⟩) (x := .str ⟨#[c]⟩) s2 n hT (rep_str.mpr rfl)
    exact ⟨G2, _, w, enums_get (by unfold signsD; rw [List.getElem?_map, hc]; rfl), r2⟩
end
section
variable {X : Cx} {B : Bs} {c : Ct B} {W : WX} {a : Expr} {fa : M D} {elts : List Expr} {kk : Nat} {tpos p pos : Pos}
/-- a walk over enumerate(text) -/
theorem i_enumS (hm : X.mg "enumerate" = none) (ha : PE X a (dE c W fa)) (hg : Gl X "enumerate" := by rfl) (hs : starEach [a] X.env = [(false, eval a X.env)] := by rfl) : PI X (.Tuple elts kk tpos) (.Call (.Name "enumerate" p) [a] [] pos) (dI c W (itmES fa)) := by
  refine ⟨fun pins s σ H R I ⟨G, ρ, g, p⟩ => ?_⟩
  unfold itmES bnd at p
  revert p
  cases hf : fa ρ with
  | no => exact False.elim
  | ex x ρ' => exact fun p => (pi_enumS hg hm (pa_cons ha pa_nil hs) hs).run pins s σ H R I ⟨G, ρ, g, by rw [hf]; exact p⟩
  | ok d ρ' =>
    cases d with
    | non => exact False.elim
    | bl b => exact False.elim
    | int b => exact False.elim
    | lst b => exact False.elim
    | tup b => exact False.elim
    | dct _ _ => exact False.elim
    | obj _ _ _ => exact False.elim
    | str x =>
      intro p
      refine (pi_enumS hg hm (pa_cons ha pa_nil hs) hs).run pins s σ H R I ⟨G, ρ, g, ?_⟩
      rw [hf]
      intro v H1 G1 s1 g1 r
      exact ⟨x, by rw [rep_str.mp r], p _ H1 G1 s1 g1 (goes_enumS x)⟩
end
end Fe
end
section
set_option Elab.async false
set_option linter.all false
set_option maxRecDepth 100000
set_option maxHeartbeats 4000000
namespace Fe
open PySem PySem.Spec PyProof.Rows L2
theorem look_fs {B : Bs} {G' : Hp} {fld : Str} {d : D} : ∀ (l : List (Str × D)) (m : List (Str × V)), m.map (·.1) = l.map (·.1) → Reps B G' (l.map (·.2)) (m.map (·.2)) → l.lookup fld = some d → ∃ v, m.lookup fld = some v ∧ Rep B G' d v
  | [], m, _, _, h => by cases h
  | z :: l, m, h1, h2, h3 => by
    cases m with
    | nil => cases h1
    | cons u m =>
      obtain ⟨z1, z2⟩ := z
      obtain ⟨u1, u2⟩ := u
      simp only [List.map_cons, List.cons.injEq] at h1
      obtain ⟨rfl, h1⟩ := h1
      obtain ⟨v, r, e, r1, r2⟩ := reps_cons.mp h2
      simp only [List.map_cons, List.cons.injEq] at e
      obtain ⟨rfl, rfl⟩ := e
      rw [List.lookup_cons] at h3 ⊢
      split at h3
      · cases h3
        exact ⟨_, rfl, r1⟩
      · exact look_fs l m h1 r2 h3
section
variable {X : Cx} {B : Bs} {c : Ct B} {W : WX} {e : Expr} {fe : M D} {xn n f1 f2 : Str} {C : Addr}
theorem s_tryF (i : Nat) {j kk : Nat} {p3 p4 p5 p6 p7 p8 p9 p10 p11 p12 : Pos} (Z : XCls X.prog X.w B X.mg X.base j xn [f1, f2] C) (hK : B.K = X.K) (hN : X.N.Nodup)
    (he : ∀ (W' : WX) (pn : List (Addr × Obj)) (xe : Value → Shared → Prop), Takes (X.tr pn xe) W' → PE (X.tr pn xe) e (dE c W' fe))
    (hs : X.stack = X.env :: X.outer := by rfl) (hf : X.env.frame = some X.env.locals := by rfl) (hi : X.N[i]? = some n := by rfl) (hln : X.env.kindOf n = some .local := by rfl) (hvis : Vis X.env.scope n := by first | exact Or.inl rfl | exact Or.inr (Or.inl rfl))
    (hge : X.env.kindOf xn = some .globalImplicit := by rfl) (hde : (xn == ("__debug__" : Str)) = false := by decide) (hnd : (n == ("__debug__" : Str)) = false := by decide) (hnc : (n == ("__classdict__" : Str)) = false := by decide) (hi0 : i < X.N.length := by decide)
    (hsw : ∀ (pn : List (Addr × Obj)) (xe : Value → Shared → Prop), swapsWith e none p3.line (X.tr pn xe).env = pure false := by intro _ _; rfl)
    (hb1 : attributeBase (.Name n p6) f1 X.env (eval (.Name n p6) X.env) = eval (.Name n p6) X.env := by rfl) (hb2 : attributeBase (.Name n p8) f2 X.env (eval (.Name n p8) X.env) = eval (.Name n p8) X.env := by rfl) :
    PS X (.Try [.Expr e p3] [.ExceptHandler (some (.Name xn p4)) (some n) [.Return (some (.Tuple [.Attribute (.Name n p6) f1 p5, .Attribute (.Name n p8) f2 p9] kk p10)) p7] p11] [] [] p12) (dS c W (tryF xn f1 f2 fe)) := by
  have T := Z.xf
  have no := Z.no
  have em := Z.em
  have gm := Z.gm
  rw [hK] at T no em
  refine psI (ps_try_as (c := .ref C) (i := i) (Wout := fun _ _ _ _ => False) (tb := fun W' => dS c (fun cls d σ H => σ.length = X.N.length → W' cls d σ H) (drp fe))
    (ts := fun a0 cls d => tRet (tTup (tCons (tXf a0 cls d C f1 (tVar i)) (tCons (tXf a0 cls d C f2 (tVar i)) tNil)))) hs hf hN hi hln ⟨hge, hde, .inl gm⟩ L2.takes0 (fun W' pn xe tk _ => ?_) (fun a0 oe cls d pn hz hfl => ?_)) fun D σ H ⟨G, ρ, g, p⟩ => ⟨G, ρ, g, ?_⟩
  · exact pss_one (s_drp (he (fun cls d σ H => σ.length = X.N.length → W' cls d σ H) pn xe (takes_len tk)) (hsw pn xe))
  · exact pss_one (ps_ret (pe_tup (pa_cons (pe_xf T (no f1 (.head _)) hz hfl (pe_var (X := Cx.suite _ a0 ((a0, oe) :: pn)) (i := i) hi hvis hnd hnc) hb1) (pa_cons (pe_xf T (no f2 (.tail _ (.head _))) hz hfl (pe_var (X := Cx.suite _ a0 ((a0, oe) :: pn)) (i := i) hi hvis hnd hnc) hb2) pa_nil))))
  · unfold tryF at p
    unfold drp bnd
    revert p
    cases fe ρ with
    | no => exact fun p => p
    | ok d ρ' => exact fun p => p
    | ex y ρ' =>
      intro p σ' cls dd H' G' s g' ⟨C', d0, fs, e1, e2, e3, e4, e5, e6⟩ hlen
      dsimp only at p
      by_cases hy : y.c = xn
      case neg => rw [if_neg hy] at p; exact False.elim p
      rw [if_pos hy] at p
      rw [hy, Z.bx] at e1
      cases e1
      cases hl1 : y.fs.lookup f1 with
      | none => rw [hl1] at p; exact False.elim p
      | some a =>
        rw [hl1] at p
        cases hl2 : y.fs.lookup f2 with
        | none => rw [hl2] at p; exact False.elim p
        | some b =>
          rw [hl2] at p
          obtain ⟨v1, hv1, rv1⟩ := look_fs y.fs fs e5 e6 hl1
          obtain ⟨v2, hv2, rv2⟩ := look_fs y.fs fs e5 e6 hl2
          refine ⟨true, by rw [e2]; exact em, fun _ a0 ha0 => ?_, fun z => by cases z⟩
          have hin : i < σ'.length := by rw [hlen]; exact hi0
          have hv : (σ'.set i (some (.ref a0)))[i]? = some (some (.ref a0)) := List.getElem?_set_self hin
          refine ⟨.ref a0, hv, rfl, e2, d0, fs, v1, e3, e4, hv1, ⟨.ref a0, hv, rfl, e2, d0, fs, v2, e3, e4, hv2, ?_⟩⟩
          refine ⟨by show 2 ≤ sizeLine; decide, fun q hq => ?_⟩
          have N : New G' H' (upd G' q (.tup [v1, v2])) (upd H' q (.tup [v1, v2])) := New.mk1 g'.gh g'.nt hq (fun ps z => by cases z)
          exact p σ' _ _ _ (s.trans N.gg) (g'.ext N) (rep_tup.mpr ⟨q, _, rfl, .inl (.inl upd_same), reps_cons.mpr ⟨_, _, rfl, Rep.mono N.gg rv1, reps_cons.mpr ⟨_, _, rfl, Rep.mono N.gg rv2, reps_nil.mpr rfl⟩⟩⟩)
end
end Fe
end
section
set_option Elab.async false
set_option linter.all false
set_option maxRecDepth 100000
set_option maxHeartbeats 4000000
namespace Fe
open PySem PySem.Spec PyProof.Rows L2
section
variable {P : Program} {w : World} {B : Bs} {mg : Str → Option Value} {base : Heap} {st : Stmt} {qual : Str} {f : Addr} {fd : FuncData} {C : Addr} {k : Nat}
/-- def __init__(self, a, b): self.a = a; self.b = b -/
theorem init2 {n1 n2 : Str} {p1 p2 p3 p4 q1 q2 q3 q4 : Pos} (F0 : Fun B.K "__init__" qual st f fd) (S : FnScope [("self" : Str), n1, n2] [("self" : Str), n1, n2] (defScope st)) (T : OexC B.K C) (hno1 : PySem.W.findIn B.K (.ref C) n1 = some none) (hno2 : PySem.W.findIn B.K (.ref C) n2 = some none)
    (hb : defBody st = [.Assign [.Attribute (.Name "self" p1) n1 p2] (.Name n1 p3) p4, .Assign [.Attribute (.Name "self" q1) n2 q2] (.Name n2 q3) q4])
    (hv1 : ∀ (X : Cx), X.N = [("self" : Str), n1, n2] → X.env.scope = defScope st → PE X (.Name n1 p3) (tVar 1)) (hv2 : ∀ (X : Cx), X.N = [("self" : Str), n1, n2] → X.env.scope = defScope st → PE X (.Name n2 q3) (tVar 2))
    (hs1 : ∀ (X : Cx), X.N = [("self" : Str), n1, n2] → X.env.scope = defScope st → PE X (.Name "self" p1) (tVar 0)) (hs2 : ∀ (X : Cx), X.N = [("self" : Str), n1, n2] → X.env.scope = defScope st → PE X (.Name "self" q1) (tVar 0))
    (hsw1 : ∀ X : Cx, X.env.scope = defScope st → swapsWith (.Name n1 p3) (some (.Attribute (.Name "self" p1) n1 p2)) p4.line X.env = pure false) (hsw2 : ∀ X : Cx, X.env.scope = defScope st → swapsWith (.Name n2 q3) (some (.Attribute (.Name "self" q1) n2 q2)) q4.line X.env = pure false) :
    FnOk P w B.K mg base (L2.CX P w) (k + 1) f fd [("self" : Str), n1, n2] (spInit C [n1, n2]) := by
  refine F0.okX S (fun vs H Q E ⟨a, ys, ev, hl, _⟩ => by rw [ev, List.length_cons, hl]; rfl) (fun cdv A outer s H vs Q E hr ⟨a, ys, ev, hl, ha, q⟩ => ?_)
  subst ev
  obtain ⟨y, z, rfl⟩ : ∃ y z, ys = [y, z] := by
    match ys, hl with
    | [y, z], _ => exact ⟨y, z, rfl⟩
  rw [hb]
  refine ⟨_, pss_cons (ps_ost (hs1 _ rfl rfl) (hv1 _ rfl rfl) (hsw1 _ rfl)) (pss_one (ps_ost (hs2 _ rfl rfl) (hv2 _ rfl rfl) (hsw2 _ rfl))), ?_⟩
  refine ⟨y, rfl, .ref a, rfl, a, C, rfl, T, hno1, .inl ⟨ha, fun dx hd hne => ?_⟩⟩
  refine ⟨z, rfl, .ref a, rfl, a, C, rfl, T, hno2, .inr ⟨dx, [(n1, y)], upd_same, by rw [upd_ne hne, upd_same], by simp, ?_⟩⟩
  have e : upd (upd (upd H dx (exd dx [(n1, y)])) a (exo a C (some dx))) dx (exd dx [(n2, z), (n1, y)]) = upd (upd H dx (exd dx [(n2, z), (n1, y)])) a (exo a C (some dx)) := by
    funext b
    by_cases h1 : b = dx
    · rw [h1, upd_same, upd_ne hne, upd_same]
    · rw [upd_ne h1]
      by_cases h2 : b = a
      · rw [h2, upd_same, upd_same]
      · rw [upd_ne h2, upd_ne h1, upd_ne h2, upd_ne h1]
  rw [e]
  exact q dx hd hne
end
end Fe
end
section
set_option Elab.async false
set_option linter.all false
set_option maxRecDepth 100000
set_option maxHeartbeats 2000000
namespace Fe
open PySem PySem.Spec PyProof.Rows L2
section
variable {B : Bs} {c : Ct B} {G H : Hp} {σ : L2.St} {ρ : Env} {q : Addr} {o : HO}
variable {W : WX} {E : Ends}
end
section
variable {X : Cx} {B : Bs} {c : Ct B} {W : WX} {a b d3 o e : Expr} {fa fb fc fe : M D} {es : List Expr} {fs : M (List D)} {x y z : Str} {pos p1 : Pos} {acc : Acc}
/-- name += e, ints -/
theorem s_aug (i : Nat) {pos' : Pos} (hN : X.N.Nodup) (he : PE X e (dE c W fe)) (hi : X.N[i]? = some x := by rfl) (hx : Loc X.env.scope x := by first | exact Or.inl rfl | exact Or.inr rfl)
    (hfn : X.fn x = true ∨ X.env.scope.names.lookup x = some .local := by first | exact .inl rfl | exact .inr rfl | assumption) (hf : c.fx = none ∨ i ≠ 0 := by first | exact .inr (by decide) | (left; assumption)) (hpin : c.pin = [] := by assumption) :
    PS X (.AugAssign (.Name x pos') .Add e pos) (dS c W (asg (op2 dAddI (vr i) fe) (gN i))) := by
  refine ⟨fun pins s σ H E I ⟨G, ρ, gd, p⟩ => ?_⟩
  have hl : i < σ.length := by rw [I.len]; exact (List.getElem?_eq_some_iff.mp hi).1
  have p' : ∃ d, get ρ i = some (.p d) ∧ PostS c W G (bnd fe (fun y => bnd (lft (dAddI d y)) fun z => bnd (gN i z) fun _ => Fe.ret .nx) ρ) E := by
    revert p
    unfold asg op2 vr bnd
    dsimp only
    cases get ρ i with
    | none => exact fun p => False.elim p
    | some x =>
      cases x with
      | o _ => exact fun p => False.elim p
      | ob _ _ _ => exact fun p => False.elim p
      | al _ => exact fun p => False.elim p
      | p d =>
        refine fun p => ⟨d, rfl, ?_⟩
        revert p
        dsimp only
        cases fe ρ with
        | no => exact fun p => p
        | ex _ _ => exact fun p => p
        | ok y ρ2 => exact fun p => p
  obtain ⟨d, hg, p⟩ := p'
  obtain ⟨fp, w⟩ := gd.ow
  obtain ⟨v, hv, hc⟩ := w.sl i _ hg
  have rv : Rep B G d v := (crep_p.mp hc).1
  refine (ps_aug hN hi hx he ip_add hfn).run pins s σ H E I ⟨v, hv, (posts_bnd gd p).imp fun y H1 ⟨G1, ρ1, d2, s1, g1, r1, q⟩ => ?_⟩
  have r1 : Rep B G1 d2 y := r1
  have hdd : ∃ m n, d = .int m ∧ d2 = .int n := by
    cases d <;> first | exact False.elim q | skip
    cases d2 <;> first | exact False.elim q | exact ⟨_, _, rfl, rfl⟩
  obtain ⟨m, n, rfl, rfl⟩ := hdd
  refine ⟨m, n, rep_int.mp rv, rep_int.mp r1, ?_⟩
  exact q _ H1 G1 (Same.refl _) (g1.set (rep_int.mpr rfl) hl hf fun p hp => by rw [hpin] at hp; cases hp)
end
/-! s * n -/
def rMulS : R2 := fun x y H Q => ∃ (a : Str) (n : Int), x = .str a ∧ y = .int n ∧ 0 ≤ n ∧ n ≤ 1000 ∧ a.length ≤ 1000 ∧ Q (.str ⟨(List.replicate n.toNat a.cps.toList).flatten.toArray⟩) H
theorem fold_rep (a : Array Nat) : ∀ (n : Nat) (b : Array Nat), (List.replicate n a).foldl (· ++ ·) b = b ++ ((List.replicate n a.toList).flatten).toArray
  | 0, b => by simp
  | n + 1, b => by
    rw [List.replicate_succ, List.foldl_cons, fold_rep a n, List.replicate_succ, List.flatten_cons]
    apply Array.ext'
    simp
theorem op_mulS {X : Cx} : OpR X (binaryOp .Mult) rMulS := by
  intro pins s σ H x y v u Q I rx ry h
  obtain ⟨a, n, rfl, rfl, h0, h1, h2, q⟩ := h
  obtain ⟨t, rfl⟩ := rx
  obtain ⟨t', rfl⟩ := ry
  have hs := sizeLine_eq
  have hle : a.length * n.toNat ≤ 1000 * 1000 := Nat.mul_le_mul h2 (by omega)
  have hres : ∀ z : Str, z = ⟨(List.replicate n.toNat a.cps.toList).flatten.toArray⟩ → ∀ tk, EP X pins σ Q (.str z tk) { s with toks := s.toks + 1 } := fun z hz tk => by
    subst hz
    exact ⟨.str _, H, I.tok _, ⟨_, rfl⟩, q⟩
  by_cases hn : n < 1
  · refine PySem.P.mul_str_none hn (by omega) (hres _ ?_ _)
    rw [show n.toNat = 0 by omega]
    rfl
  · refine PySem.P.mul_str (by rw [decide_eq_false (by omega), decide_eq_false (by omega)]; rfl) (fun _ hk => ?_) (fun _ hk => ?_) ?_
    · have : (1000 : Int) ≤ (2 ^ 63 - 1) / n := (Int.le_ediv_iff_mul_le (by omega)).mpr (by omega)
      omega
    · unfold Builtin.Str.tooLong
      exact decide_eq_false (by omega)
    · rw [if_neg hn]
      by_cases h3 : (n == 1 || a.length == 0) = true
      · rw [if_pos h3]
        have hz : (⟨(List.replicate n.toNat a.cps.toList).flatten.toArray⟩ : Str) = a := by
          obtain ⟨cp⟩ := a
          rw [Bool.or_eq_true, beq_iff_eq, beq_iff_eq] at h3
          rcases h3 with rfl | h3
          · simp
          · have : cp = #[] := Array.eq_empty_of_size_eq_zero h3
            subst this
            simp
        rw [hz] at q
        exact ⟨.str _, H, I, ⟨_, rfl⟩, q⟩
      · rw [if_neg h3]
        have hz : (List.replicate n.toNat a.cps).foldl (· ++ ·) #[] = (List.replicate n.toNat a.cps.toList).flatten.toArray := by
          rw [fold_rep]; simp
        refine ⟨?_, hres _ (by rw [hz]) _⟩
        show ((List.replicate n.toNat a.cps).foldl (· ++ ·) #[]).size ≤ _
        rw [hz, List.size_toArray, PyProof.Rows.lm_len_rep_flat, Array.length_toList]
        have : n.toNat * a.cps.size = a.length * n.toNat := Nat.mul_comm _ _
        omega
theorem rule_mulS {B : Bs} : Rule2 B rMulS dMulS := by
  intro G H d e z x y Q s n rx ry h k
  cases d <;> first | (cases h; done) | skip
  cases e <;> first | (cases h; done) | skip
  rename_i a i
  simp only [dMulS] at h
  split at h
  · rename_i hc
    cases h
    exact ⟨a, i, rep_str.mp rx, rep_int.mp ry, hc.1, hc.2.1, hc.2.2, k _ _ _ (New.refl s n) (rep_str.mpr rfl)⟩
  · cases h
section
variable {X : Cx} {B : Bs} {c : Ct B} {W : WX} {a b : Expr} {fa fb : M D} {pos : Pos}
theorem e_mulS (ha : PE X a (dE c W fa)) (hb : PE X b (dE c W fb)) : PE X (.BinOp a .Mult b pos) (dE c W (op2 dMulS fa fb)) := e_op op_mulS rule_mulS ha hb
end
end Fe
end
section
end
section
set_option Elab.async false
set_option linter.all false
set_option maxRecDepth 100000
set_option maxHeartbeats 4000000
open PySem (Str)
open Fe
namespace Fp
/-- names: value 0, low 1, high 2 -/
def b_is_whole : S :=
    (rtn (andV (cmp1 (dIsi "int") (vr 0)) (andV (notV (cmp1 (dIsi "bool") (vr 0))) (chn dLe dLe (vr 1) (vr 0) (vr 2)))))
def f_is_whole : List D → F := run 3 3 b_is_whole
/-- names: value 0, low 1, high 2, own 3 -/
def b_are_whole : S :=
    (rtn (andV (cmp1 (dIsi "tuple") (vr 0)) (op1 dAll (lc [3] (itmA (vr 0)) (gN 3) (Fe.ret true) (cl Fp.f_is_whole (consA (vr 3) (consA (vr 1) (consA (vr 2) nilA))))))))
def f_are_whole : List D → F := run 3 4 b_are_whole
/-- names: value 0, low 1, high 2 -/
def b_is_rising : S :=
    (rtn (andV (cl Fp.f_are_whole (consA (vr 0) (consA (vr 1) (consA (vr 2) nilA)))) (cmp dEq (op1 dList (vr 0)) (op1 dSortSet2 (vr 0)))))
def f_is_rising : List D → F := run 3 3 b_is_rising
/-- names: value 0, things 1 -/
def b_is_clash : S :=
    (seq (iff (orT (notT (tst (cl Fp.f_are_whole (consA (vr 0) (consA (Fe.ret (.int (-1))) (consA (op2 dSub (vr 1) (Fe.ret (.int 1))) nilA)))))) (tsb (cmp dNe (op1 dLen (vr 0)) (Fe.ret (.int 3))))) (rtn (Fe.ret (.bl false))) sNx)
    (rtn (andV (chn dLe dLt (Fe.ret (.int 0)) (op2 dIxA (vr 0) (Fe.ret (.int 0))) (op2 dIxA (vr 0) (Fe.ret (.int 1)))) (cmp dNotInA (op2 dIxA (vr 0) (Fe.ret (.int 2))) (slc (vr 0) noP (part (Fe.ret (.int 2))))))))
def f_is_clash : List D → F := run 2 2 b_is_clash
/-- names: value 0, things 1, own 2 -/
def b_are_clashes : S :=
    (seq (iff (orT (notT (tst (cmp1 (dIsi "tuple") (vr 0)))) (tsb (cmp dGt (op1 dLen (vr 0)) (Fe.ret (.int 40))))) (rtn (Fe.ret (.bl false))) sNx)
    (rtn (andV (op1 dAll (lc [2] (itmA (vr 0)) (gN 2) (Fe.ret true) (cl Fp.f_is_clash (consA (vr 2) (consA (vr 1) nilA))))) (cmp dEq (op1 dList (vr 0)) (op1 dSortSet2 (vr 0))))))
def f_are_clashes : List D → F := run 2 3 b_are_clashes
/-- names: value 0, places 1, own 2 -/
def b_are_links : S :=
    (seq (iff (orT (notT (tst (cmp1 (dIsi "tuple") (vr 0)))) (notT (tst (vr 0)))) (rtn (Fe.ret (.bl false))) sNx)
    (seq (iff (notT (tst (op1 dAll (lc [2] (itmA (vr 0)) (gN 2) (Fe.ret true) (andV (cl Fp.f_are_whole (consA (vr 2) (consA (Fe.ret (.int 0)) (consA (op2 dSub (vr 1) (Fe.ret (.int 1))) nilA)))) (andV (cmp dEq (op1 dLen (vr 2)) (Fe.ret (.int 2))) (cmp dLt (op2 dIxA (vr 2) (Fe.ret (.int 0))) (op2 dIxA (vr 2) (Fe.ret (.int 1)))))))))) (rtn (Fe.ret (.bl false))) sNx)
    (rtn (cmp dEq (op1 dList (vr 0)) (op1 dSortSet2 (vr 0))))))
def f_are_links : List D → F := run 2 3 b_are_links
/-- names: value 0 -/
def b_is_boat : S :=
    (seq (iff (orT (notT (tst (cl Fp.f_are_whole (consA (vr 0) (consA (Fe.ret (.int 1)) (consA (Fe.ret (.int 500)) nilA)))))) (tsb (cmp dNe (op1 dLen (vr 0)) (Fe.ret (.int 2))))) (rtn (Fe.ret (.bl false))) sNx)
    (rtn (cmp dLe (op2 dIxA (vr 0) (Fe.ret (.int 0))) (Fe.ret (.int 10)))))
def f_is_boat : List D → F := run 1 1 b_is_boat
/-- names: one 0, many 1, found 2, turn 3 -/
def b_power : S :=
    (seq (asg (Fe.ret (.int 1)) (gN 2))
    (seq (forS (rg1 (vr 1)) (gN 3)
      (asg (op2 dMul (vr 2) (vr 0)) (gN 2)))
    (rtn (vr 2))))
def f_power : List D → F := run 2 4 b_power
/-- names: value 0, things 1, places 2, rowers 3, weights 4, clashes 5, links 6, boats 7, own 8 -/
def b_is_world : S :=
    (seq (iff (orT (notT (tst (cmp1 (dIsi "tuple") (vr 0)))) (tsb (cmp dNe (op1 dLen (vr 0)) (Fe.ret (.int 7))))) (rtn (Fe.ret (.bl false))) sNx)
    (seq (asg (vr 0) (gT 7 (gCons (gN 1) (gCons (gN 2) (gCons (gN 3) (gCons (gN 4) (gCons (gN 5) (gCons (gN 6) (gCons (gN 7) gNil)))))))))
    (seq (iff (orT (notT (tst (cl Fp.f_is_whole (consA (vr 1) (consA (Fe.ret (.int 1)) (consA (Fe.ret (.int 10)) nilA)))))) (notT (tst (cl Fp.f_is_whole (consA (vr 2) (consA (Fe.ret (.int 2)) (consA (Fe.ret (.int 4)) nilA))))))) (rtn (Fe.ret (.bl false))) sNx)
    (seq (iff (orT (notT (tst (cl Fp.f_is_rising (consA (vr 3) (consA (Fe.ret (.int 0)) (consA (op2 dSub (vr 1) (Fe.ret (.int 1))) nilA)))))) (notT (tst (vr 3)))) (rtn (Fe.ret (.bl false))) sNx)
    (seq (iff (orT (notT (tst (cl Fp.f_are_whole (consA (vr 4) (consA (Fe.ret (.int 1)) (consA (Fe.ret (.int 50)) nilA)))))) (tsb (cmp dNe (op1 dLen (vr 4)) (vr 1)))) (rtn (Fe.ret (.bl false))) sNx)
    (seq (iff (orT (notT (tst (cl Fp.f_are_clashes (consA (vr 5) (consA (vr 1) nilA))))) (notT (tst (cl Fp.f_are_links (consA (vr 6) (consA (vr 2) nilA)))))) (rtn (Fe.ret (.bl false))) sNx)
    (seq (iff (orT (notT (tst (cmp1 (dIsi "tuple") (vr 7)))) (orT (notT (tsb (chn dLe dLe (Fe.ret (.int 1)) (op1 dLen (vr 7)) (Fe.ret (.int 3))))) (notT (tst (op1 dAll (lc [8] (itmA (vr 7)) (gN 8) (Fe.ret true) (cl Fp.f_is_boat (consA (vr 8) nilA)))))))) (rtn (Fe.ret (.bl false))) sNx)
    (rtn (cmp dLe (cl Fp.f_power (consA (vr 2) (consA (op2 dAdd (vr 1) (op1 dLen (vr 7))) nilA))) (Fe.ret (.int 9000)))))))))))
def f_is_world : List D → F := run 1 9 b_is_world
/-- names: world 0, value 1 -/
def b_is_state : S :=
    (seq (iff (orT (notT (tst (cmp1 (dIsi "tuple") (vr 1)))) (tsb (cmp dNe (op1 dLen (vr 1)) (Fe.ret (.int 2))))) (rtn (Fe.ret (.bl false))) sNx)
    (seq (iff (orT (notT (tst (cl Fp.f_are_whole (consA (op2 dIxA (vr 1) (Fe.ret (.int 0))) (consA (Fe.ret (.int 0)) (consA (op2 dSub (op2 dIxA (vr 0) (Fe.ret (.int 1))) (Fe.ret (.int 1))) nilA)))))) (notT (tst (cl Fp.f_are_whole (consA (op2 dIxA (vr 1) (Fe.ret (.int 1))) (consA (Fe.ret (.int 0)) (consA (op2 dSub (op2 dIxA (vr 0) (Fe.ret (.int 1))) (Fe.ret (.int 1))) nilA))))))) (rtn (Fe.ret (.bl false))) sNx)
    (rtn (andV (cmp dEq (op1 dLen (op2 dIxA (vr 1) (Fe.ret (.int 0)))) (op2 dIxA (vr 0) (Fe.ret (.int 0)))) (cmp dEq (op1 dLen (op2 dIxA (vr 1) (Fe.ret (.int 1)))) (op1 dLen (op2 dIxA (vr 0) (Fe.ret (.int 6)))))))))
def f_is_state : List D → F := run 2 2 b_is_state
/-- names: is_right 0, name 1 -/
def b_need : S :=
    (iff (notT (tst (vr 0))) (rse "BadArgument" ["name"] (consA (vr 1) nilA)) sNx)
def f_need : List D → F := run 2 2 b_need
/-- names: value 0, name 1 -/
def b_need_world : S :=
    (drp (cl Fp.f_need (consA (cl Fp.f_is_world (consA (vr 0) nilA)) (consA (vr 1) nilA))))
def f_need_world : List D → F := run 2 2 b_need_world
/-- names: world 0, value 1, name 2 -/
def b_need_state : S :=
    (drp (cl Fp.f_need (consA (cl Fp.f_is_state (consA (vr 0) (consA (vr 1) nilA))) (consA (vr 2) nilA))))
def f_need_state : List D → F := run 3 3 b_need_state
/-- names: places 0, many 1, found 2, turn 3, longer 4, own 5, place 6 -/
def b_rows_of : S :=
    (seq (asg (lstE (consA (tupE nilA) nilA)) (gN 2))
    (seq (forS (rg1 (vr 1)) (gN 3)
      (seq (asgO 4 (lstE nilA))
    (seq (forS (itmA (vr 2)) (gN 5)
      (ext (.v 4) (lc [6] (rg1 (vr 0)) (gN 6) (Fe.ret true) (op2 dAdd (vr 5) (tupE (consA (vr 6) nilA))))))
    (gho (Fe.frz 4) (asg (vr 4) (gN 2))))))
    (rtn (vr 2))))
def f_rows_of : List D → F := run 2 7 b_rows_of
/-- names: world 0, things 1, places 2, boats 3, rows 4, ends 5, found 6, own 7, end 8 -/
def b_all_states : S :=
    (seq (par3 1 2 3 (consA (op2 dIxA (vr 0) (Fe.ret (.int 0))) (consA (op2 dIxA (vr 0) (Fe.ret (.int 1))) (consA (op1 dLen (op2 dIxA (vr 0) (Fe.ret (.int 6)))) nilA))))
    (seq (asg (cl Fp.f_rows_of (consA (vr 2) (consA (vr 1) nilA))) (gN 4))
    (seq (asg (cl Fp.f_rows_of (consA (vr 2) (consA (vr 3) nilA))) (gN 5))
    (seq (asgO 6 (lstE nilA))
    (seq (forS (itmA (vr 4)) (gN 7)
      (ext (.v 6) (lc [8] (itmA (vr 5)) (gN 8) (Fe.ret true) (tupE (consA (vr 7) (consA (vr 8) nilA))))))
    (gho (Fe.frz 6) (rtn (vr 6))))))))
def f_all_states : List D → F := run 1 9 b_all_states
/-- names: clash 0, company 1, one 2, other 3, keeper 4 -/
def b_is_open : S :=
    (seq (asg (vr 0) (gT 3 (gCons (gN 2) (gCons (gN 3) (gCons (gN 4) gNil)))))
    (rtn (andV (cmp dInA (vr 2) (vr 1)) (andV (cmp dInA (vr 3) (vr 1)) (orV (cmp dEq (vr 4) (Fe.ret (.int (-1)))) (cmp dNotInA (vr 4) (vr 1)))))))
def f_is_open : List D → F := run 2 5 b_is_open
/-- names: world 0, company 1, own 2 -/
def b_is_quiet : S :=
    (rtn (notV (op1 dAny (lc [2] (itmA (op2 dIxA (vr 0) (Fe.ret (.int 4)))) (gN 2) (Fe.ret true) (cl Fp.f_is_open (consA (vr 2) (consA (vr 1) nilA)))))))
def f_is_quiet : List D → F := run 2 3 b_is_quiet
/-- names: state 0, place 1, at 2, own 3 -/
def b_company_at : S :=
    (rtn (op1 dTuple (lc [2, 3] (itmE (op2 dIxA (vr 0) (Fe.ret (.int 0)))) (gT 2 (gCons (gN 2) (gCons (gN 3) gNil))) (tsb (cmp dEq (vr 3) (vr 1))) (vr 2))))
def f_company_at : List D → F := run 2 4 b_company_at
/-- names: world 0, state 1, place 2 -/
def b_is_calm_in : S :=
    (rtn (op1 dAll (lc [2] (rg1 (op2 dIxA (vr 0) (Fe.ret (.int 1)))) (gN 2) (Fe.ret true) (cl Fp.f_is_quiet (consA (vr 0) (consA (cl Fp.f_company_at (consA (vr 1) (consA (vr 2) nilA))) nilA))))))
def f_is_calm_in : List D → F := run 2 3 b_is_calm_in
/-- names: world 0, company 1, own 2 -/
def b_open_clashes : S :=
    (seq (drp (cl Fp.f_need_world (consA (vr 0) (consA (Fe.ret (.str "world")) nilA))))
    (seq (drp (cl Fp.f_need (consA (cl Fp.f_is_rising (consA (vr 1) (consA (Fe.ret (.int 0)) (consA (op2 dSub (op2 dIxA (vr 0) (Fe.ret (.int 0))) (Fe.ret (.int 1))) nilA)))) (consA (Fe.ret (.str "company")) nilA))))
    (rtn (op1 dTuple (lc [2] (itmA (op2 dIxA (vr 0) (Fe.ret (.int 4)))) (gN 2) (tst (cl Fp.f_is_open (consA (vr 2) (consA (vr 1) nilA)))) (vr 2))))))
def f_open_clashes : List D → F := run 2 3 b_open_clashes
/-- names: world 0, state 1 -/
def b_is_calm : S :=
    (seq (drp (cl Fp.f_need_world (consA (vr 0) (consA (Fe.ret (.str "world")) nilA))))
    (seq (drp (cl Fp.f_need_state (consA (vr 0) (consA (vr 1) (consA (Fe.ret (.str "state")) nilA)))))
    (rtn (cl Fp.f_is_calm_in (consA (vr 0) (consA (vr 1) nilA))))))
def f_is_calm : List D → F := run 2 2 b_is_calm
/-- names: world 0, found 1, state 2, own 3 -/
def b_calm_places : S :=
    (seq (drp (cl Fp.f_need_world (consA (vr 0) (consA (Fe.ret (.str "world")) nilA))))
    (seq (asgO 1 (Fe.ret (.dct [] [])))
    (seq (forS (itmA (cl Fp.f_all_states (consA (vr 0) nilA))) (gN 2)
      (iff (tsb (ninO (.v 1) (op2 dIxA (vr 2) (Fe.ret (.int 0))))) (setD (.v 1) (op2 dIxA (vr 2) (Fe.ret (.int 0))) (cl Fp.f_is_calm_in (consA (vr 0) (consA (vr 2) nilA)))) sNx))
    (gho (Fe.frz 1) (rtn (op1 dTuple (lc [3] (itmA (vr 1)) (gN 3) (tst (op2 dIxA (vr 1) (vr 3))) (vr 3))))))))
def f_calm_places : List D → F := run 1 4 b_calm_places
/-- names: some 0, found 1, own 2, row 3 -/
def b_choices : S :=
    (seq (asgO 1 (lstE (consA (tupE nilA) nilA)))
    (seq (forS (itmA (vr 0)) (gN 2)
      (ext (.v 1) (lc [3] (itmA (slcO (.v 1) noP noP)) (gN 3) (Fe.ret true) (op2 dAdd (vr 3) (tupE (consA (vr 2) nilA))))))
    (gho (Fe.frz 1) (rtn (slc (op1 dSorted (vr 1)) (part (Fe.ret (.int 1))) noP)))))
def f_choices : List D → F := run 1 4 b_choices
/-- names: world 0, one 1, other 2 -/
def b_is_linked : S :=
    (rtn (cmp dInA (tupE (consA (op2 dMin2 (vr 1) (vr 2)) (consA (op2 dMax2 (vr 1) (vr 2)) nilA))) (op2 dIxA (vr 0) (Fe.ret (.int 5)))))
def f_is_linked : List D → F := run 3 3 b_is_linked
/-- names: world 0, boat 1, things 2, room 3, load 4, own 5 -/
def b_fits_boat : S :=
    (seq (asg (op2 dIxA (op2 dIxA (vr 0) (Fe.ret (.int 6))) (vr 1)) (gT 2 (gCons (gN 3) (gCons (gN 4) gNil))))
    (seq (iff (orT (tsb (cmp dGt (op1 dLen (vr 2)) (vr 3))) (tsb (cmp dGt (op1 dSum (lc [5] (itmA (vr 2)) (gN 5) (Fe.ret true) (op2 dIxA (op2 dIxA (vr 0) (Fe.ret (.int 3))) (vr 5)))) (vr 4)))) (rtn (Fe.ret (.bl false))) sNx)
    (rtn (op1 dAny (lc [5] (itmA (vr 2)) (gN 5) (Fe.ret true) (cmp dInA (vr 5) (op2 dIxA (vr 0) (Fe.ret (.int 2)))))))))
def f_fits_boat : List D → F := run 3 6 b_fits_boat
/-- names: state 0, crossing 1, boat 2, goal 3, things 4, places 5, at 6, own 7 -/
def b_moved : S :=
    (seq (asg (vr 1) (gT 3 (gCons (gN 2) (gCons (gN 3) (gCons (gN 4) gNil)))))
    (seq (asg (op1 dTuple (lc [6, 7] (itmE (op2 dIxA (vr 0) (Fe.ret (.int 0)))) (gT 2 (gCons (gN 6) (gCons (gN 7) gNil))) (Fe.ret true) (ifE (tsb (cmp dInA (vr 6) (vr 4))) (vr 3) (vr 7)))) (gN 5))
    (rtn (tupE (consA (vr 5) (consA (op1 dTuple (lc [6, 7] (itmE (op2 dIxA (vr 0) (Fe.ret (.int 1)))) (gT 2 (gCons (gN 6) (gCons (gN 7) gNil))) (Fe.ret true) (ifE (tsb (cmp dEq (vr 6) (vr 2))) (vr 3) (vr 7)))) nilA))))))
def f_moved : List D → F := run 2 8 b_moved
/-- names: world 0, state 1, crossing 2, boat 3, goal 4, things 5, start 6, place 7, company 8, left 9, own 10 -/
def b_is_let : S :=
    (seq (asg (vr 2) (gT 3 (gCons (gN 3) (gCons (gN 4) (gCons (gN 5) gNil)))))
    (seq (asg (op2 dIxA (op2 dIxA (vr 1) (Fe.ret (.int 1))) (vr 3)) (gN 6))
    (seq (iff (orT (notT (tst (cl Fp.f_is_linked (consA (vr 0) (consA (vr 6) (consA (vr 4) nilA)))))) (orT (notT (tst (cl Fp.f_fits_boat (consA (vr 0) (consA (vr 3) (consA (vr 5) nilA)))))) (notT (tst (cl Fp.f_is_quiet (consA (vr 0) (consA (vr 5) nilA))))))) (rtn (Fe.ret (.bl false))) sNx)
    (seq (forS (rg1 (op2 dIxA (vr 0) (Fe.ret (.int 1)))) (gN 7)
      (seq (asg (cl Fp.f_company_at (consA (vr 1) (consA (vr 7) nilA))) (gN 8))
    (seq (asg (op1 dTuple (lc [10] (itmA (vr 8)) (gN 10) (tsb (cmp dNotInA (vr 10) (vr 5))) (vr 10))) (gN 9))
    (iff (notT (tst (cl Fp.f_is_quiet (consA (vr 0) (consA (vr 9) nilA))))) (rtn (Fe.ret (.bl false))) sNx))))
    (rtn (cl Fp.f_is_quiet (consA (vr 0) (consA (cl Fp.f_company_at (consA (cl Fp.f_moved (consA (vr 1) (consA (vr 2) nilA))) (consA (vr 4) nilA))) nilA))))))))
def f_is_let : List D → F := run 3 11 b_is_let
/-- names: world 0, state 1, found 2, boat 3, place 4, rows 5, own 6, goal 7, some 8 -/
def b_crossings_in : S :=
    (seq (asgO 2 (lstE nilA))
    (seq (forS (itmE (op2 dIxA (vr 1) (Fe.ret (.int 1)))) (gT 2 (gCons (gN 3) (gCons (gN 4) gNil)))
      (seq (asg (lc [6] (itmA (cl Fp.f_choices (consA (cl Fp.f_company_at (consA (vr 1) (consA (vr 4) nilA))) nilA))) (gN 6) (tst (cl Fp.f_fits_boat (consA (vr 0) (consA (vr 3) (consA (vr 6) nilA))))) (vr 6)) (gN 5))
    (forS (rg1 (op2 dIxA (vr 0) (Fe.ret (.int 1)))) (gN 7)
      (iff (tst (cl Fp.f_is_linked (consA (vr 0) (consA (vr 4) (consA (vr 7) nilA))))) (seq (asg (lc [6] (itmA (vr 5)) (gN 6) (Fe.ret true) (tupE (consA (vr 3) (consA (vr 7) (consA (vr 6) nilA))))) (gN 8))
    (ext (.v 2) (lc [6] (itmA (vr 8)) (gN 6) (tst (cl Fp.f_is_let (consA (vr 0) (consA (vr 1) (consA (vr 6) nilA))))) (vr 6)))) sNx))))
    (gho (Fe.frz 2) (rtn (vr 2)))))
def f_crossings_in : List D → F := run 2 9 b_crossings_in
/-- names: world 0, state 1, value 2, some 3, own 4, boat 5, goal 6, things 7 -/
def b_is_crossing_in : S :=
    (seq (iff (orT (notT (tst (cmp1 (dIsi "tuple") (vr 2)))) (orT (tsb (cmp dNe (op1 dLen (vr 2)) (Fe.ret (.int 3)))) (notT (tst (cmp1 (dIsi "tuple") (op2 dIxA (vr 2) (Fe.ret (.int 2)))))))) (rtn (Fe.ret (.bl false))) sNx)
    (seq (asg (op2 dAdd (op1 dList (slc (vr 2) noP (part (Fe.ret (.int 2))))) (op1 dList (op2 dIxA (vr 2) (Fe.ret (.int 2))))) (gN 3))
    (seq (iff (notT (tst (op1 dAll (lc [4] (itmA (vr 3)) (gN 4) (Fe.ret true) (andV (cmp1 (dIsi "int") (vr 4)) (notV (cmp1 (dIsi "bool") (vr 4)))))))) (rtn (Fe.ret (.bl false))) sNx)
    (seq (asg (vr 2) (gT 3 (gCons (gN 5) (gCons (gN 6) (gCons (gN 7) gNil)))))
    (seq (iff (orT (notT (tsb (chn dLe dLt (Fe.ret (.int 0)) (vr 5) (op1 dLen (op2 dIxA (vr 1) (Fe.ret (.int 1))))))) (orT (notT (tsb (chn dLe dLt (Fe.ret (.int 0)) (vr 6) (op2 dIxA (vr 0) (Fe.ret (.int 1)))))) (tsb (cmp dNe (op1 dList (vr 7)) (op1 dSortSet2 (vr 7)))))) (rtn (Fe.ret (.bl false))) sNx)
    (seq (iff (orT (notT (tst (vr 7))) (notT (tst (op1 dAll (lc [4] (itmA (vr 7)) (gN 4) (Fe.ret true) (cmp dInA (vr 4) (cl Fp.f_company_at (consA (vr 1) (consA (op2 dIxA (op2 dIxA (vr 1) (Fe.ret (.int 1))) (vr 5)) nilA))))))))) (rtn (Fe.ret (.bl false))) sNx)
    (rtn (cl Fp.f_is_let (consA (vr 0) (consA (vr 1) (consA (vr 2) nilA)))))))))))
def f_is_crossing_in : List D → F := run 3 8 b_is_crossing_in
/-- names: world 0, state 1 -/
def b_crossings : S :=
    (seq (drp (cl Fp.f_need_world (consA (vr 0) (consA (Fe.ret (.str "world")) nilA))))
    (seq (drp (cl Fp.f_need_state (consA (vr 0) (consA (vr 1) (consA (Fe.ret (.str "state")) nilA)))))
    (rtn (op1 dTuple (cl Fp.f_crossings_in (consA (vr 0) (consA (vr 1) nilA)))))))
def f_crossings : List D → F := run 2 2 b_crossings
/-- names: world 0, state 1, value 2 -/
def b_is_crossing : S :=
    (seq (drp (cl Fp.f_need_world (consA (vr 0) (consA (Fe.ret (.str "world")) nilA))))
    (seq (drp (cl Fp.f_need_state (consA (vr 0) (consA (vr 1) (consA (Fe.ret (.str "state")) nilA)))))
    (rtn (cl Fp.f_is_crossing_in (consA (vr 0) (consA (vr 1) (consA (vr 2) nilA)))))))
def f_is_crossing : List D → F := run 3 3 b_is_crossing
/-- names: world 0, state 1, crossing 2 -/
def b_after : S :=
    (seq (drp (cl Fp.f_need_world (consA (vr 0) (consA (Fe.ret (.str "world")) nilA))))
    (seq (drp (cl Fp.f_need_state (consA (vr 0) (consA (vr 1) (consA (Fe.ret (.str "state")) nilA)))))
    (seq (drp (cl Fp.f_need (consA (cl Fp.f_is_crossing_in (consA (vr 0) (consA (vr 1) (consA (vr 2) nilA)))) (consA (Fe.ret (.str "crossing")) nilA))))
    (rtn (cl Fp.f_moved (consA (vr 1) (consA (vr 2) nilA)))))))
def f_after : List D → F := run 3 3 b_after
/-- names: world 0, state 1, crossing 2 -/
def b_back : S :=
    (seq (drp (cl Fp.f_need_world (consA (vr 0) (consA (Fe.ret (.str "world")) nilA))))
    (seq (drp (cl Fp.f_need_state (consA (vr 0) (consA (vr 1) (consA (Fe.ret (.str "state")) nilA)))))
    (seq (drp (cl Fp.f_need (consA (cl Fp.f_is_crossing_in (consA (vr 0) (consA (vr 1) (consA (vr 2) nilA)))) (consA (Fe.ret (.str "crossing")) nilA))))
    (rtn (tupE (consA (op2 dIxA (vr 2) (Fe.ret (.int 0))) (consA (op2 dIxA (op2 dIxA (vr 1) (Fe.ret (.int 1))) (op2 dIxA (vr 2) (Fe.ret (.int 0)))) (consA (op2 dIxA (vr 2) (Fe.ret (.int 2))) nilA))))))))
def f_back : List D → F := run 3 3 b_back
/-- names: row 0, many 1, found 2, cell 3 -/
def b__law_taken : S :=
    (seq (iff (tsb (cmp dGt (ixO (.v 0) (Fe.ret (.int 3))) (Fe.ret (.int 0)))) (seq (asg (op2 dMod (op1 dInt (ixO (.v 0) (Fe.ret (.int 3)))) (vr 1)) (gN 2))
    (seq (setO (.v 0) (Fe.ret (.int 3)) (op2 dDiv (ixO (.v 0) (Fe.ret (.int 3))) (vr 1)))
    (rtn (vr 2)))) sNx)
    (seq (setO (.v 0) (Fe.ret (.int 1)) (op2 dAdd (ixO (.v 0) (Fe.ret (.int 1))) (Fe.ret (.int 1))))
    (seq (iff (tsb (cmp dGt (ixO (.v 0) (Fe.ret (.int 1))) (op1 dLen (ixO (.v 0) (Fe.ret (.int 0)))))) (seq (setO (.v 0) (Fe.ret (.int 2)) (op2 dMod (op1 dInt (op2 dAdd (op2 dMul (ixO (.v 0) (Fe.ret (.int 2))) (Fe.ret (.int 48271))) (Fe.ret (.int 11)))) (Fe.ret (.int 2147483647))))
    (rtn (op2 dMod (op1 dInt (op2 dDiv (ixO (.v 0) (Fe.ret (.int 2))) (Fe.ret (.int 7)))) (vr 1)))) sNx)
    (seq (asg (op2 dIxA (ixO (.v 0) (Fe.ret (.int 0))) (op2 dSub (ixO (.v 0) (Fe.ret (.int 1))) (Fe.ret (.int 1)))) (gN 3))
    (seq (setO (.v 0) (Fe.ret (.int 2)) (op2 dMod (op1 dInt (op2 dAdd (op2 dAdd (op2 dMul (ixO (.v 0) (Fe.ret (.int 2))) (Fe.ret (.int 48271))) (op1 dInt (vr 3))) (Fe.ret (.int 11)))) (Fe.ret (.int 2147483647))))
    (seq (iff (tsb (cmp dGe (vr 3) (op2 dPow (Fe.ret (.int 10)) (Fe.ret (.int 18))))) (setO (.v 0) (Fe.ret (.int 3)) (op2 dDiv (op1 dInt (op2 dMod (op1 dInt (vr 3)) (op2 dPow (Fe.ret (.int 10)) (Fe.ret (.int 90))))) (vr 1))) sNx)
    (rtn (op2 dMod (op1 dInt (vr 3)) (vr 1)))))))))
def f__law_taken : C → List D → FO := runO 2 4 b__law_taken
/-- names: row 0, some 1 -/
def b__law_pick : S :=
    (rtn (op2 dIxB (vr 1) (clo Fp.f__law_taken 0 (consA (op1 dLen (vr 1)) nilA))))
def f__law_pick : C → List D → FO := runO 2 2 b__law_pick
/-- names: found 0, due 1, at 2 -/
def b__law_alike (rec : List D → F) : S :=
    (seq (iff (tst (cmp1 (dIsi "tuple") (vr 1))) (seq (iff (orT (notT (tst (cmp1 (dIsi "tuple") (vr 0)))) (tsb (cmp dNe (op1 dLen (vr 0)) (op1 dLen (vr 1))))) (rtn (Fe.ret (.bl false))) sNx)
    (rtn (cmp dEq (lc [2] (rg1 (op1 dLen (vr 1))) (gN 2) (notT (tst (cl rec (consA (op2 dIxA (vr 0) (vr 2)) (consA (op2 dIxA (vr 1) (vr 2)) nilA))))) (vr 2)) (lstE nilA)))) sNx)
    (seq (iff (orT (tsb (cmp dIs (vr 1) (Fe.ret .non))) (tst (cmp1 (dIsi "str") (vr 1)))) (rtn (andV (cmp dEq (vr 0) (vr 1)) (cmp dEq (cmp1 (dIsi "str") (vr 0)) (cmp1 (dIsi "str") (vr 1))))) sNx)
    (rtn (andV (cmp1 (dIsi "int") (vr 0)) (andV (cmp dEq (cmp1 (dIsi "bool") (vr 0)) (cmp1 (dIsi "bool") (vr 1))) (cmp dEq (vr 0) (vr 1)))))))
def f__law_alike : Nat → List D → F
  | 0 => fun _ => .no
  | k + 1 => run 2 3 (b__law_alike (f__law_alike k))
/-- names: world 0, company 1, own 2 -/
def b__law_open : S :=
    (rtn (cmp dNe (lc [2] (itmA (op2 dIxA (vr 0) (Fe.ret (.int 4)))) (gN 2) (andT (tsb (cmp dInA (op2 dIxA (vr 2) (Fe.ret (.int 0))) (vr 1))) (andT (tsb (cmp dInA (op2 dIxA (vr 2) (Fe.ret (.int 1))) (vr 1))) (tsb (cmp dNotInA (op2 dIxA (vr 2) (Fe.ret (.int 2))) (vr 1))))) (vr 2)) (lstE nilA)))
def f__law_open : List D → F := run 2 3 b__law_open
/-- names: world 0, state 1, rows 2, at 3, own 4, place 5 -/
def b__law_calm : S :=
    (seq (asg (lc [5] (rg1 (op2 dIxA (vr 0) (Fe.ret (.int 1)))) (gN 5) (Fe.ret true) (lc [3, 4] (itmE (op2 dIxA (vr 1) (Fe.ret (.int 0)))) (gT 2 (gCons (gN 3) (gCons (gN 4) gNil))) (tsb (cmp dEq (vr 4) (vr 5))) (vr 3))) (gN 2))
    (rtn (cmp dEq (lc [4] (itmA (vr 2)) (gN 4) (tst (cl Fp.f__law_open (consA (vr 0) (consA (vr 4) nilA)))) (vr 4)) (lstE nilA))))
def f__law_calm : List D → F := run 2 6 b__law_calm
/-- names: world 0, state 1, boat 2, goal 3, things 4, start 5, places 6, own 7, rows 8, at 9, place 10 -/
def b__law_let : S :=
    (seq (asg (tupE (consA (op2 dIxA (op2 dIxA (vr 1) (Fe.ret (.int 1))) (vr 2)) (consA (op2 dIxA (vr 1) (Fe.ret (.int 0))) nilA))) (gT 2 (gCons (gN 5) (gCons (gN 6) gNil))))
    (seq (iff (orT (tsb (cmp dNe (lc [7] (itmA (vr 4)) (gN 7) (tsb (cmp dNe (op2 dIxA (vr 6) (vr 7)) (vr 5))) (vr 7)) (lstE nilA))) (tsb (cmp dGt (op1 dLen (vr 4)) (op2 dIxA (op2 dIxA (op2 dIxA (vr 0) (Fe.ret (.int 6))) (vr 2)) (Fe.ret (.int 0)))))) (rtn (Fe.ret (.bl false))) sNx)
    (seq (iff (orT (tsb (cmp dGt (op1 dSum (lc [7] (itmA (vr 4)) (gN 7) (Fe.ret true) (op2 dIxA (op2 dIxA (vr 0) (Fe.ret (.int 3))) (vr 7)))) (op2 dIxA (op2 dIxA (op2 dIxA (vr 0) (Fe.ret (.int 6))) (vr 2)) (Fe.ret (.int 1))))) (tsb (cmp dEq (lc [7] (itmA (vr 4)) (gN 7) (tsb (cmp dInA (vr 7) (op2 dIxA (vr 0) (Fe.ret (.int 2))))) (vr 7)) (lstE nilA)))) (rtn (Fe.ret (.bl false))) sNx)
    (seq (asgO 8 (op2 dCatL (lstE (consA (vr 4) nilA)) (lc [10] (rg1 (op2 dIxA (vr 0) (Fe.ret (.int 1)))) (gN 10) (Fe.ret true) (lc [9] (rg1 (op2 dIxA (vr 0) (Fe.ret (.int 0)))) (gN 9) (andT (tsb (cmp dEq (op2 dIxA (vr 6) (vr 9)) (vr 10))) (tsb (cmp dNotInA (vr 9) (vr 4)))) (vr 9)))))
    (seq (app (.v 8) (lc [9] (rg1 (op2 dIxA (vr 0) (Fe.ret (.int 0)))) (gN 9) (orT (tsb (cmp dEq (op2 dIxA (vr 6) (vr 9)) (vr 3))) (tsb (cmp dInA (vr 9) (vr 4)))) (vr 9)))
    (gho (Fe.frz 8) (rtn (cmp dEq (lc [7] (itmA (vr 8)) (gN 7) (tst (cl Fp.f__law_open (consA (vr 0) (consA (vr 7) nilA)))) (vr 7)) (lstE nilA)))))))))
def f__law_let : List D → F := run 5 11 b__law_let
/-- names: world 0, state 1, found 2, boat 3, start 4, rows 5, own 6, at 7, some 8, goal 9 -/
def b__law_crossings : S :=
    (seq (asg (lstE nilA) (gN 2))
    (seq (forS (rg1 (op1 dLen (op2 dIxA (vr 0) (Fe.ret (.int 6))))) (gN 3)
      (seq (asg (tupE (consA (op2 dIxA (op2 dIxA (vr 1) (Fe.ret (.int 1))) (vr 3)) (consA (lstE (consA (lstE nilA) nilA)) nilA))) (gT 2 (gCons (gN 4) (gCons (gN 5) gNil))))
    (seq (forS (itmA (lc [7] (rg1 (op2 dIxA (vr 0) (Fe.ret (.int 0)))) (gN 7) (tsb (cmp dEq (op2 dIxA (op2 dIxA (vr 1) (Fe.ret (.int 0))) (vr 7)) (vr 4))) (vr 7))) (gN 6)
      (asg (op2 dAdd (vr 5) (lc [8] (itmA (vr 5)) (gN 8) (Fe.ret true) (op2 dAdd (vr 8) (lstE (consA (vr 6) nilA))))) (gN 5)))
    (forS (rg1 (op2 dIxA (vr 0) (Fe.ret (.int 1)))) (gN 9)
      (iff (tsb (cmp dInA (op1 dTuple (op1 dSorted (lstE (consA (vr 4) (consA (vr 9) nilA))))) (op2 dIxA (vr 0) (Fe.ret (.int 5))))) (asg (op2 dAdd (vr 2) (lc [8] (itmA (vr 5)) (gN 8) (andT (tsb (cmp dNe (vr 8) (lstE nilA))) (tst (cl Fp.f__law_let (consA (vr 0) (consA (vr 1) (consA (vr 3) (consA (vr 9) (consA (vr 8) nilA)))))))) (tupE (consA (vr 3) (consA (vr 9) (consA (op1 dTuple (vr 8)) nilA)))))) (gN 2)) sNx)))))
    (rtn (op1 dSorted (vr 2)))))
def f__law_crossings : List D → F := run 2 10 b__law_crossings
/-- names: state 0, crossing 1, boat 2, goal 3, things 4, places 5, at 6, own 7 -/
def b__law_after : S :=
    (seq (asg (vr 1) (gT 3 (gCons (gN 2) (gCons (gN 3) (gCons (gN 4) gNil)))))
    (seq (asg (op1 dTuple (lc [6, 7] (itmE (op2 dIxA (vr 0) (Fe.ret (.int 0)))) (gT 2 (gCons (gN 6) (gCons (gN 7) gNil))) (Fe.ret true) (ifE (tsb (cmp dInA (vr 6) (vr 4))) (vr 3) (vr 7)))) (gN 5))
    (rtn (tupE (consA (vr 5) (consA (op2 dAdd (op2 dAdd (slc (op2 dIxA (vr 0) (Fe.ret (.int 1))) noP (part (vr 2))) (tupE (consA (vr 3) nilA))) (slc (op2 dIxA (vr 0) (Fe.ret (.int 1))) (part (op2 dAdd (vr 2) (Fe.ret (.int 1)))) noP)) nilA))))))
def f__law_after : List D → F := run 2 8 b__law_after
/-- names: row 0, things 1, places 2, boats 3, many 4, size 5, rowers 6, own 7, weights 8, clashes 9, turn 10, one 11, other 12, keeper 13, links 14, ships 15 -/
def b__law_world : S :=
    (seq (asg (tupE (consA (op2 dAdd (Fe.ret (.int 1)) (clo Fp.f__law_taken 0 (consA (vr 1) nilA))) (consA (op2 dAdd (Fe.ret (.int 2)) (clo Fp.f__law_taken 0 (consA (op2 dSub (vr 2) (Fe.ret (.int 1))) nilA))) nilA))) (gT 2 (gCons (gN 4) (gCons (gN 5) gNil))))
    (seq (asg (op1 dTuple (lc [7] (rg1 (vr 4)) (gN 7) (tsb (cmp dEq (clo Fp.f__law_taken 0 (consA (Fe.ret (.int 2)) nilA)) (Fe.ret (.int 0)))) (vr 7))) (gN 6))
    (seq (asg (ifE (tsb (cmp dNe (vr 6) (tupE nilA))) (vr 6) (tupE (consA (clo Fp.f__law_taken 0 (consA (vr 4) nilA)) nilA))) (gN 6))
    (seq (asg (op1 dTuple (lc [7] (rg1 (vr 4)) (gN 7) (Fe.ret true) (op2 dAdd (Fe.ret (.int 1)) (clo Fp.f__law_taken 0 (consA (Fe.ret (.int 3)) nilA))))) (gN 8))
    (seq (asgO 9 (lstE nilA))
    (seq (forS (rg1 (ifE (tsb (cmp dGt (vr 4) (Fe.ret (.int 1)))) (clo Fp.f__law_taken 0 (consA (Fe.ret (.int 4)) nilA)) (Fe.ret (.int 0)))) (gN 10)
      (seq (par3 11 12 13 (consA (clo Fp.f__law_taken 0 (consA (vr 4) nilA)) (consA (clo Fp.f__law_taken 0 (consA (vr 4) nilA)) (consA (op2 dSub (clo Fp.f__law_taken 0 (consA (op2 dAdd (vr 4) (Fe.ret (.int 1))) nilA)) (Fe.ret (.int 1))) nilA))))
    (iff (andT (tsb (cmp dNe (vr 11) (vr 12))) (tsb (cmp dNotInA (vr 13) (tupE (consA (vr 11) (consA (vr 12) nilA)))))) (app (.v 9) (tupE (consA (op2 dMin2 (vr 11) (vr 12)) (consA (op2 dMax2 (vr 11) (vr 12)) (consA (vr 13) nilA))))) sNx)))
    (seq (asg (lc2 [11, 12] [12] (rg1 (vr 5)) (gN 11) (Fe.ret true) (rg2 (op2 dAdd (vr 11) (Fe.ret (.int 1))) (vr 5)) (gN 12) (orT (tsb (cmp dEq (vr 12) (op2 dAdd (vr 11) (Fe.ret (.int 1))))) (tsb (cmp dEq (clo Fp.f__law_taken 0 (consA (Fe.ret (.int 2)) nilA)) (Fe.ret (.int 0))))) (tupE (consA (vr 11) (consA (vr 12) nilA)))) (gN 14))
    (seq (asg (op1 dTuple (lc [7] (rg1 (op2 dAdd (Fe.ret (.int 1)) (clo Fp.f__law_taken 0 (consA (vr 3) nilA)))) (gN 7) (Fe.ret true) (tupE (consA (op2 dAdd (Fe.ret (.int 1)) (clo Fp.f__law_taken 0 (consA (Fe.ret (.int 3)) nilA))) (consA (op2 dAdd (Fe.ret (.int 1)) (clo Fp.f__law_taken 0 (consA (Fe.ret (.int 8)) nilA))) nilA))))) (gN 15))
    (gho (Fe.frz 9) (rtn (tupE (consA (vr 4) (consA (vr 5) (consA (vr 6) (consA (vr 8) (consA (op1 dTuple (op1 dSortSet2 (vr 9))) (consA (op1 dTuple (vr 14)) (consA (vr 15) nilA))))))))))))))))))
def f__law_world : C → List D → FO := runO 4 16 b__law_world
/-- names: row 0, world 1, things 2, places 3, rowers 4, weights 5, clashes 6, links 7, boats 8, odd 9, own 10, good 11, bad 12 -/
def b__law_values : S :=
    (seq (asg (vr 1) (gT 7 (gCons (gN 2) (gCons (gN 3) (gCons (gN 4) (gCons (gN 5) (gCons (gN 6) (gCons (gN 7) (gCons (gN 8) gNil)))))))))
    (seq (asg (lstE (consA (Fe.ret .non) (consA (op1 dList (vr 1)) (consA (slc (vr 1) noP (part (Fe.ret (.int 6)))) (consA (op2 dAdd (tupE (consA (Fe.ret (.int 0)) nilA)) (slc (vr 1) (part (Fe.ret (.int 1))) noP)) (consA (op2 dAdd (tupE (consA (vr 2) (consA (Fe.ret (.int 1)) nilA))) (slc (vr 1) (part (Fe.ret (.int 2))) noP)) (consA (op2 dAdd (tupE (consA (vr 2) (consA (vr 3) (consA (tupE nilA) nilA)))) (slc (vr 1) (part (Fe.ret (.int 3))) noP)) (consA (op2 dAdd (tupE (consA (vr 2) (consA (vr 3) (consA (tupE (consA (vr 2) nilA)) nilA)))) (slc (vr 1) (part (Fe.ret (.int 3))) noP)) (consA (op2 dAdd (tupE (consA (vr 2) (consA (vr 3) (consA (vr 4) (consA (op2 dAdd (vr 5) (tupE (consA (Fe.ret (.int 1)) nilA))) nilA))))) (slc (vr 1) (part (Fe.ret (.int 4))) noP)) (consA (op2 dAdd (tupE (consA (vr 2) (consA (vr 3) (consA (vr 4) (consA (op2 dMulT (tupE (consA (Fe.ret (.int 0)) nilA)) (vr 2)) nilA))))) (slc (vr 1) (part (Fe.ret (.int 4))) noP)) (consA (op2 dAdd (op2 dAdd (slc (vr 1) noP (part (Fe.ret (.int 4)))) (tupE (consA (tupE (consA (tupE (consA (Fe.ret (.int 0)) (consA (Fe.ret (.int 0)) (consA (op1 dNeg (Fe.ret (.int 1))) nilA)))) nilA)) nilA))) (slc (vr 1) (part (Fe.ret (.int 5))) noP)) (consA (op2 dAdd (op2 dAdd (slc (vr 1) noP (part (Fe.ret (.int 4)))) (tupE (consA (tupE (consA (tupE (consA (Fe.ret (.int 0)) (consA (Fe.ret (.int 1)) (consA (Fe.ret (.int 0)) nilA)))) nilA)) nilA))) (slc (vr 1) (part (Fe.ret (.int 5))) noP)) (consA (op2 dAdd (op2 dAdd (slc (vr 1) noP (part (Fe.ret (.int 5)))) (tupE (consA (tupE nilA) nilA))) (slc (vr 1) (part (Fe.ret (.int 6))) noP)) (consA (op2 dAdd (op2 dAdd (slc (vr 1) noP (part (Fe.ret (.int 5)))) (tupE (consA (tupE (consA (tupE (consA (Fe.ret (.int 1)) (consA (Fe.ret (.int 0)) nilA))) nilA)) nilA))) (slc (vr 1) (part (Fe.ret (.int 6))) noP)) (consA (op2 dAdd (op2 dAdd (slc (vr 1) noP (part (Fe.ret (.int 5)))) (tupE (consA (tupE (consA (tupE (consA (Fe.ret (.int 0)) (consA (Fe.ret (.int 1)) nilA))) (consA (tupE (consA (Fe.ret (.int 0)) (consA (Fe.ret (.int 1)) nilA))) nilA))) nilA))) (slc (vr 1) (part (Fe.ret (.int 6))) noP)) (consA (op2 dAdd (slc (vr 1) noP (part (Fe.ret (.int 6)))) (tupE (consA (tupE nilA) nilA))) (consA (op2 dAdd (slc (vr 1) noP (part (Fe.ret (.int 6)))) (tupE (consA (tupE (consA (tupE (consA (Fe.ret (.int 0)) (consA (Fe.ret (.int 5)) nilA))) nilA)) nilA))) (consA (op2 dAdd (slc (vr 1) noP (part (Fe.ret (.int 6)))) (tupE (consA (tupE (consA (tupE (consA (Fe.ret (.int 1)) (consA (Fe.ret (.int 501)) nilA))) nilA)) nilA))) (consA (tupE (consA (Fe.ret (.int 10)) (consA (Fe.ret (.int 3)) (consA (tupE (consA (Fe.ret (.int 0)) nilA)) (consA (op2 dMulT (tupE (consA (Fe.ret (.int 1)) nilA)) (Fe.ret (.int 10))) (consA (tupE nilA) (consA (tupE (consA (tupE (consA (Fe.ret (.int 0)) (consA (Fe.ret (.int 1)) nilA))) nilA)) (consA (tupE (consA (tupE (consA (Fe.ret (.int 1)) (consA (Fe.ret (.int 1)) nilA))) nilA)) nilA)))))))) (consA (op2 dAdd (tupE (consA (Fe.ret (.bl true)) (consA (vr 3) nilA))) (slc (vr 1) (part (Fe.ret (.int 2))) noP)) (consA (op2 dAdd (slc (vr 1) noP (part (Fe.ret (.int 6)))) (tupE (consA (tupE (consA (tupE (consA (Fe.ret (.int 11)) (consA (Fe.ret (.int 5)) nilA))) nilA)) nilA))) nilA))))))))))))))))))))) (gN 9))
    (seq (iff (orT (tsb (cmp dNe (lc [10] (itmA (vr 9)) (gN 10) (tst (cl Fp.f_is_world (consA (vr 10) nilA))) (vr 10)) (lstE nilA))) (tsb (cmp dIsNot (cl Fp.f_is_world (consA (vr 1) nilA)) (Fe.ret (.bl true))))) (rtn (Fe.ret (.bl false))) sNx)
    (seq (asg (tupE (consA (op2 dMulT (tupE (consA (Fe.ret (.int 0)) nilA)) (vr 2)) (consA (op2 dMulT (tupE (consA (op2 dSub (vr 3) (Fe.ret (.int 1))) nilA)) (op1 dLen (vr 8))) nilA))) (gN 11))
    (seq (asg (lstE (consA (Fe.ret .non) (consA (op2 dIxA (vr 11) (Fe.ret (.int 0))) (consA (tupE (consA (op2 dIxA (vr 11) (Fe.ret (.int 0))) nilA)) (consA (tupE (consA (op2 dAdd (op2 dIxA (vr 11) (Fe.ret (.int 0))) (tupE (consA (Fe.ret (.int 0)) nilA))) (consA (op2 dIxA (vr 11) (Fe.ret (.int 1))) nilA))) (consA (tupE (consA (op2 dIxA (vr 11) (Fe.ret (.int 0))) (consA (tupE nilA) nilA))) (consA (tupE (consA (op2 dMulT (tupE (consA (vr 3) nilA)) (vr 2)) (consA (op2 dIxA (vr 11) (Fe.ret (.int 1))) nilA))) (consA (tupE (consA (op2 dMulT (tupE (consA (Fe.ret (.bl true)) nilA)) (vr 2)) (consA (op2 dIxA (vr 11) (Fe.ret (.int 1))) nilA))) nilA)))))))) (gN 12))
    (rtn (andV (cmp dIs (cl Fp.f_is_state (consA (vr 1) (consA (vr 11) nilA))) (Fe.ret (.bl true))) (cmp dEq (lc [10] (itmA (vr 12)) (gN 10) (tst (cl Fp.f_is_state (consA (vr 1) (consA (vr 10) nilA)))) (vr 10)) (lstE nilA)))))))))
def f__law_values : C → List D → FO := runO 2 13 b__law_values
end Fp
namespace K00
/-- names: row 0, world 1, rows 2, turn 3, own 4, place 5, company 6, due 7, state 8, some 9, value 10, goal 11, odd 12, told 13 -/
def b__law_case : S :=
    (seq (asg (clo Fp.f__law_world 0 (consA (Fe.ret (.int 5)) (consA (Fe.ret (.int 3)) (consA (Fe.ret (.int 2)) nilA)))) (gN 1))
    (seq (iff (notT (tst (clo Fp.f__law_values 0 (consA (vr 1) nilA)))) (rtn (Fe.ret (.bl false))) sNx)
    (seq (asg (lstE (consA (tupE nilA) nilA)) (gN 2))
    (seq (forS (rg1 (op2 dIxA (vr 1) (Fe.ret (.int 0)))) (gN 3)
      (asg (lc2 [4, 5] [5] (itmA (vr 2)) (gN 4) (Fe.ret true) (rg1 (op2 dIxA (vr 1) (Fe.ret (.int 1)))) (gN 5) (Fe.ret true) (op2 dAdd (vr 4) (tupE (consA (vr 5) nilA)))) (gN 2)))
    (seq (iff (notT (tst (cl (Fp.f__law_alike 6) (consA (cl Fp.f_calm_places (consA (vr 1) nilA)) (consA (op1 dTuple (lc [4] (itmA (vr 2)) (gN 4) (tst (cl Fp.f__law_calm (consA (vr 1) (consA (tupE (consA (vr 4) (consA (tupE nilA) nilA))) nilA)))) (vr 4))) nilA))))) (rtn (Fe.ret (.bl false))) sNx)
    (seq (forS (rg1 (Fe.ret (.int 3))) (gN 3)
      (seq (asg (op1 dTuple (lc [4] (rg1 (op2 dIxA (vr 1) (Fe.ret (.int 0)))) (gN 4) (tsb (cmp dEq (clo Fp.f__law_taken 0 (consA (Fe.ret (.int 2)) nilA)) (Fe.ret (.int 0)))) (vr 4))) (gN 6))
    (seq (asg (op1 dTuple (lc [4] (itmA (op2 dIxA (vr 1) (Fe.ret (.int 4)))) (gN 4) (tst (cl Fp.f__law_open (consA (tupE (consA (Fe.ret (.int 0)) (consA (Fe.ret (.int 0)) (consA (Fe.ret (.int 0)) (consA (Fe.ret (.int 0)) (consA (tupE (consA (vr 4) nilA)) nilA)))))) (consA (vr 6) nilA)))) (vr 4))) (gN 7))
    (seq (iff (notT (tst (cl (Fp.f__law_alike 6) (consA (clk Fp.f_open_clashes 1 1 (consA (vr 1) nilA) (consA (vr 6) nilA)) (consA (vr 7) nilA))))) (rtn (Fe.ret (.bl false))) sNx)
    (seq (asg (tupE (consA (clo Fp.f__law_pick 0 (consA (vr 2) nilA)) (consA (op1 dTuple (lc [4] (itmA (op2 dIxA (vr 1) (Fe.ret (.int 6)))) (gN 4) (Fe.ret true) (clo Fp.f__law_taken 0 (consA (op2 dIxA (vr 1) (Fe.ret (.int 1))) nilA)))) nilA))) (gN 8))
    (seq (iff (tsb (cmp dIsNot (clk Fp.f_is_calm 1 1 (consA (vr 1) nilA) (consA (vr 8) nilA)) (cl Fp.f__law_calm (consA (vr 1) (consA (vr 8) nilA))))) (rtn (Fe.ret (.bl false))) sNx)
    (seq (asg (cl Fp.f__law_crossings (consA (vr 1) (consA (vr 8) nilA))) (gN 9))
    (seq (iff (notT (tst (cl (Fp.f__law_alike 6) (consA (cl Fp.f_crossings (consA (vr 1) (consA (vr 8) nilA))) (consA (op1 dTuple (vr 9)) nilA))))) (rtn (Fe.ret (.bl false))) sNx)
    (seq (asg (tupE (consA (clo Fp.f__law_taken 0 (consA (op1 dLen (op2 dIxA (vr 1) (Fe.ret (.int 6)))) nilA)) (consA (clo Fp.f__law_taken 0 (consA (op2 dIxA (vr 1) (Fe.ret (.int 1))) nilA)) (consA (vr 6) nilA)))) (gN 10))
    (seq (iff (tsb (cmp dIsNot (clk Fp.f_is_crossing 2 1 (consA (vr 1) (consA (vr 8) nilA)) (consA (vr 10) nilA)) (cmp dInA (vr 10) (vr 9)))) (rtn (Fe.ret (.bl false))) sNx)
    (seq (iff (tsb (cmp dNe (vr 9) (lstE nilA))) (seq (asg (clo Fp.f__law_pick 0 (consA (vr 9) nilA)) (gN 4))
    (seq (asg (cl Fp.f__law_after (consA (vr 8) (consA (vr 4) nilA))) (gN 11))
    (seq (iff (orT (notT (tst (cl (Fp.f__law_alike 6) (consA (clk Fp.f_after 2 1 (consA (vr 1) (consA (vr 8) nilA)) (consA (vr 4) nilA)) (consA (vr 11) nilA))))) (tsb (cmp dIsNot (cl Fp.f_is_crossing (consA (vr 1) (consA (vr 8) (consA (vr 4) nilA)))) (Fe.ret (.bl true))))) (rtn (Fe.ret (.bl false))) sNx)
    (seq (iff (notT (tst (cl (Fp.f__law_alike 6) (consA (cl Fp.f_back (consA (vr 1) (consA (vr 8) (consA (vr 4) nilA)))) (consA (tupE (consA (op2 dIxA (vr 4) (Fe.ret (.int 0))) (consA (op2 dIxA (op2 dIxA (vr 8) (Fe.ret (.int 1))) (op2 dIxA (vr 4) (Fe.ret (.int 0)))) (consA (op2 dIxA (vr 4) (Fe.ret (.int 2))) nilA)))) nilA))))) (rtn (Fe.ret (.bl false))) sNx)
    (iff (andT (tst (cl Fp.f__law_calm (consA (vr 1) (consA (vr 8) nilA)))) (tsb (cmp dNotInA (cl Fp.f_back (consA (vr 1) (consA (vr 8) (consA (vr 4) nilA)))) (cl Fp.f__law_crossings (consA (vr 1) (consA (vr 11) nilA)))))) (rtn (Fe.ret (.bl false))) sNx))))) sNx)
    (seq (asgO 12 (lstE (consA (Fe.ret .non) (consA (lstE nilA) (consA (tupE (consA (Fe.ret (.int 0)) (consA (Fe.ret (.int 0)) nilA))) (consA (tupE (consA (Fe.ret (.int 0)) (consA (Fe.ret (.int 0)) (consA (tupE nilA) nilA)))) (consA (tupE (consA (Fe.ret (.int 0)) (consA (Fe.ret (.int 0)) (consA (lstE (consA (Fe.ret (.int 0)) nilA)) nilA)))) (consA (tupE (consA (op1 dLen (op2 dIxA (vr 1) (Fe.ret (.int 6)))) (consA (Fe.ret (.int 0)) (consA (tupE (consA (Fe.ret (.int 0)) nilA)) nilA)))) (consA (tupE (consA (Fe.ret (.int 0)) (consA (op2 dIxA (vr 1) (Fe.ret (.int 1))) (consA (tupE (consA (Fe.ret (.int 0)) nilA)) nilA)))) (consA (tupE (consA (Fe.ret (.int 0)) (consA (Fe.ret (.int 0)) (consA (tupE (consA (op2 dIxA (vr 1) (Fe.ret (.int 0))) nilA)) nilA)))) nilA))))))))))
    (seq (app (.v 12) (tupE (consA (Fe.ret (.bl true)) (consA (Fe.ret (.int 0)) (consA (tupE (consA (Fe.ret (.int 0)) nilA)) nilA)))))
    (gho (Fe.frz 12) (seq (iff (tsb (cmp dNe (lc [4] (itmA (vr 12)) (gN 4) (tst (cl Fp.f_is_crossing (consA (vr 1) (consA (vr 8) (consA (vr 4) nilA))))) (vr 4)) (lstE nilA))) (rtn (Fe.ret (.bl false))) sNx)
    (seq (asg (lstE (consA (refused "BadArgument" "name" (cl Fp.f_crossings (consA (vr 1) (consA (Fe.ret .non) nilA)))) (consA (refused "BadArgument" "name" (cl Fp.f_after (consA (vr 1) (consA (vr 8) (consA (tupE (consA (Fe.ret (.int 9)) (consA (Fe.ret (.int 9)) (consA (tupE nilA) nilA)))) nilA))))) (consA (refused "BadArgument" "name" (cl Fp.f_open_clashes (consA (vr 1) (consA (tupE (consA (op2 dIxA (vr 1) (Fe.ret (.int 0))) nilA)) nilA)))) (consA (refused "BadArgument" "name" (cl Fp.f_is_calm (consA (Fe.ret .non) (consA (vr 8) nilA)))) (consA (refused "BadArgument" "name" (cl Fp.f_back (consA (vr 1) (consA (vr 8) (consA (Fe.ret .non) nilA))))) (consA (refused "BadArgument" "name" (cl Fp.f_calm_places (consA (Fe.ret (.int 5)) nilA))) nilA))))))) (gN 13))
    (iff (tsb (cmp dNe (vr 13) (lstE (consA (Fe.ret (.str "state")) (consA (Fe.ret (.str "crossing")) (consA (Fe.ret (.str "company")) (consA (Fe.ret (.str "world")) (consA (Fe.ret (.str "crossing")) (consA (Fe.ret (.str "world")) nilA))))))))) (rtn (Fe.ret (.bl false))) sNx)))))))))))))))))
    (rtn (Fe.ret (.bl true)))))))))
def f__law_case : C → List D → FO := runO 1 14 b__law_case
/-- names: script 0, row 1, turn 2 -/
def b_law : S :=
    (seq (asgO 1 (lstE (consA (vr 0) (consA (Fe.ret (.int 0)) (consA (Fe.ret (.int 103007)) (consA (Fe.ret (.int 0)) nilA))))))
    (seq (forS (rg1 (Fe.ret (.int 3))) (gN 2)
      (iff (notT (tst (clo K00.f__law_case 1 nilA))) (rtn (Fe.ret (.bl false))) sNx))
    (rtn (Fe.ret (.bl true)))))
def f_law : List D → F := run 1 3 b_law
end K00
end
section
set_option Elab.async false
set_option linter.all false
set_option maxRecDepth 100000
set_option maxHeartbeats 4000000
open PySem (Str)
open Fe
namespace Fp
/-- names: self 0, form 1, names 2, inner 3 -/
def b_Wish_init : S :=
    (seq (sFd "Wish" 0 "form" (vr 1))
    (seq (sFd "Wish" 0 "names" (vr 2))
    (sFd "Wish" 0 "inner" (vr 3))))
def f_Wish_init : C → List D → FO := runO 4 4 b_Wish_init
/-- names: self 0, text 1, at 2, own 3, place 4 -/
def b_Reader_init : S :=
    (seq (sFd "Reader" 0 "signs" (lc [2, 3] (itmES (vr 1)) (gT 2 (gCons (gN 2) (gCons (gN 3) gNil))) (tsb (cmp dNe (vr 3) (Fe.ret (.str " ")))) (tupE (consA (vr 3) (consA (vr 2) nilA)))))
    (seq (sFd "Reader" 0 "size" (op1 dLen (vr 1)))
    (seq (sFd "Reader" 0 "at" (Fe.ret (.int 0)))
    (seq (sFd "Reader" 0 "deep" (Fe.ret (.int 0)))
    (forS (itmA (fldM "Reader" 0 "signs")) (gT 2 (gCons (gN 3) (gCons (gN 4) gNil)))
      (iff (tsb (cmp dNotInT (vr 3) (op2 dAdd (op2 dAdd (op2 dAdd (op2 dAdd (op2 dAdd (op2 dAdd (op2 dAdd (op2 dAdd (Fe.ret (.str "abcdefghij")) (Fe.ret (.str "0123"))) (Fe.ret (.str "XYZ"))) (Fe.ret (.str "@"))) (Fe.ret (.str "="))) (Fe.ret (.str "~"))) (Fe.ret (.str "&"))) (Fe.ret (.str "|"))) (Fe.ret (.str "()"))))) (rse "Flaw" ["place", "message"] (consA (vr 4) (consA (Fe.ret (.str "this sign cannot stand here")) nilA))) sNx))))))
def f_Reader_init : C → List D → FO := runO 2 5 b_Reader_init
/-- names: self 0 -/
def b_Reader_ahead : S :=
    (rtn (ifE (tsb (cmp dLt (fldM "Reader" 0 "at") (op1 dLen (fldM "Reader" 0 "signs")))) (op2 dIxA (op2 dIxA (fldM "Reader" 0 "signs") (fldM "Reader" 0 "at")) (Fe.ret (.int 0))) (Fe.ret (.str ""))))
def f_Reader_ahead : C → List D → FO := runO 1 1 b_Reader_ahead
/-- names: self 0, message 1 -/
def b_Reader_fail : S :=
    (rse "Flaw" ["place", "message"] (consA (ifE (tsb (cmp dLt (fldM "Reader" 0 "at") (op1 dLen (fldM "Reader" 0 "signs")))) (op2 dIxA (op2 dIxA (fldM "Reader" 0 "signs") (fldM "Reader" 0 "at")) (Fe.ret (.int 1))) (fldM "Reader" 0 "size")) (consA (vr 1) nilA)))
def f_Reader_fail : C → List D → FO := runO 2 2 b_Reader_fail
/-- names: self 0, signs 1, message 2, own 3 -/
def b_Reader_take : S :=
    (seq (asg (clm "Reader" "ahead" Fp.f_Reader_ahead 0 nilA) (gN 3))
    (seq (iff (orT (tsb (cmp dEq (vr 3) (Fe.ret (.str "")))) (tsb (cmp dNotInT (vr 3) (vr 1)))) (drp (clm "Reader" "fail" Fp.f_Reader_fail 0 (consA (vr 2) nilA))) sNx)
    (seq (sFa "Reader" 0 "at" (Fe.ret (.int 1)))
    (rtn (vr 3)))))
def f_Reader_take : C → List D → FO := runO 3 4 b_Reader_take
/-- names: self 0, count 1, found 2, turn 3 -/
def b_Reader_single (r_Reader_ground : C → List D → FO) : S :=
    (seq (asg (Fe.ret (.int 0)) (gN 1))
    (seq (whl (tsb (cmp dEq (clm "Reader" "ahead" Fp.f_Reader_ahead 0 nilA) (Fe.ret (.str "~"))))
      (seq (sFa "Reader" 0 "at" (Fe.ret (.int 1)))
    (asg (op2 dAddI (vr 1) (Fe.ret (.int 1))) (gN 1))))
    (seq (asg (clm "Reader" "ground" r_Reader_ground 0 nilA) (gN 2))
    (seq (forS (rg1 (vr 1)) (gN 3)
      (asg (mkP "Wish" Fp.f_Wish_init (consA (Fe.ret (.str "~")) (consA (Fe.ret (.str "")) (consA (lstE (consA (vr 2) nilA)) nilA)))) (gN 2)))
    (rtn (vr 2))))))
/-- names: self 0, found 1 -/
def b_Reader_both (r_Reader_single : C → List D → FO) : S :=
    (seq (asg (clm "Reader" "single" r_Reader_single 0 nilA) (gN 1))
    (seq (whl (tsb (cmp dEq (clm "Reader" "ahead" Fp.f_Reader_ahead 0 nilA) (Fe.ret (.str "&"))))
      (seq (sFa "Reader" 0 "at" (Fe.ret (.int 1)))
    (asg (mkP "Wish" Fp.f_Wish_init (consA (Fe.ret (.str "&")) (consA (Fe.ret (.str "")) (consA (lstE (consA (vr 1) (consA (clm "Reader" "single" r_Reader_single 0 nilA) nilA))) nilA)))) (gN 1))))
    (rtn (vr 1))))
/-- names: self 0, found 1 -/
def b_Reader_either (r_Reader_both : C → List D → FO) : S :=
    (seq (asg (clm "Reader" "both" r_Reader_both 0 nilA) (gN 1))
    (seq (whl (tsb (cmp dEq (clm "Reader" "ahead" Fp.f_Reader_ahead 0 nilA) (Fe.ret (.str "|"))))
      (seq (sFa "Reader" 0 "at" (Fe.ret (.int 1)))
    (asg (mkP "Wish" Fp.f_Wish_init (consA (Fe.ret (.str "|")) (consA (Fe.ret (.str "")) (consA (lstE (consA (vr 1) (consA (clm "Reader" "both" r_Reader_both 0 nilA) nilA))) nilA)))) (gN 1))))
    (rtn (vr 1))))
/-- names: self 0, found 1, name 2 -/
def b_Reader_ground (r_Reader_either : C → List D → FO) : S :=
    (seq (iff (tsb (cmp dEq (clm "Reader" "ahead" Fp.f_Reader_ahead 0 nilA) (Fe.ret (.str "(")))) (seq (iff (tsb (cmp dEq (fldM "Reader" 0 "deep") (Fe.ret (.int 20)))) (drp (clm "Reader" "fail" Fp.f_Reader_fail 0 (consA (Fe.ret (.str "this is too deep")) nilA))) sNx)
    (seq (sFa "Reader" 0 "at" (Fe.ret (.int 1)))
    (seq (sFa "Reader" 0 "deep" (Fe.ret (.int 1)))
    (seq (asg (clm "Reader" "either" r_Reader_either 0 nilA) (gN 1))
    (seq (drp (clm "Reader" "take" Fp.f_Reader_take 0 (consA (Fe.ret (.str ")")) (consA (Fe.ret (.str "expected )")) nilA))))
    (seq (sFs "Reader" 0 "deep" (Fe.ret (.int 1)))
    (rtn (vr 1)))))))) sNx)
    (seq (asg (clm "Reader" "take" Fp.f_Reader_take 0 (consA (op2 dAdd (Fe.ret (.str "abcdefghij")) (Fe.ret (.str "XYZ"))) (consA (Fe.ret (.str "expected a wish")) nilA))) (gN 2))
    (seq (iff (tsb (cmp dEq (clm "Reader" "take" Fp.f_Reader_take 0 (consA (op2 dAdd (Fe.ret (.str "@")) (Fe.ret (.str "="))) (consA (Fe.ret (.str "expected @ or =")) nilA))) (Fe.ret (.str "@")))) (rtn (mkP "Wish" Fp.f_Wish_init (consA (Fe.ret (.str "@")) (consA (op2 dAdd (vr 2) (clm "Reader" "take" Fp.f_Reader_take 0 (consA (Fe.ret (.str "0123")) (consA (Fe.ret (.str "expected a place")) nilA)))) (consA (lstE nilA) nilA))))) sNx)
    (rtn (mkP "Wish" Fp.f_Wish_init (consA (Fe.ret (.str "=")) (consA (op2 dAdd (vr 2) (clm "Reader" "take" Fp.f_Reader_take 0 (consA (op2 dAdd (Fe.ret (.str "abcdefghij")) (Fe.ret (.str "XYZ"))) (consA (Fe.ret (.str "expected a name")) nilA)))) (consA (lstE nilA) nilA))))))))
def f_Reader_ground : Nat → C → List D → FO
  | 0 => fun _ _ => .no
  | k + 1 => runO 1 3 (b_Reader_ground (runO 1 2 (b_Reader_either (runO 1 2 (b_Reader_both (runO 1 4 (b_Reader_single (f_Reader_ground k))))))))
def f_Reader_single (k : Nat) : C → List D → FO := runO 1 4 (b_Reader_single (f_Reader_ground k))
def f_Reader_both (k : Nat) : C → List D → FO := runO 1 2 (b_Reader_both (f_Reader_single k))
def f_Reader_either (k : Nat) : C → List D → FO := runO 1 2 (b_Reader_either (f_Reader_both k))
/-- names: self 0, found 1 -/
def b_Reader_whole : S :=
    (seq (asg (clm "Reader" "either" (Fp.f_Reader_either 22) 0 nilA) (gN 1))
    (seq (iff (tsb (cmp dLt (fldM "Reader" 0 "at") (op1 dLen (fldM "Reader" 0 "signs")))) (drp (clm "Reader" "fail" Fp.f_Reader_fail 0 (consA (Fe.ret (.str "expected the end")) nilA))) sNx)
    (rtn (vr 1))))
def f_Reader_whole : C → List D → FO := runO 1 2 b_Reader_whole
/-- names: text 0 -/
def b_need_text : S :=
    (drp (cl Fp.f_need (consA (andV (cmp1 (dIsi "str") (vr 0)) (cmp dLe (op1 dLen (vr 0)) (Fe.ret (.int 200)))) (consA (Fe.ret (.str "text")) nilA))))
def f_need_text : List D → F := run 1 1 b_need_text
/-- names: text 0, e 1 -/
def b_flaw : S :=
    (seq (drp (cl Fp.f_need_text (consA (vr 0) nilA)))
    (seq (tryF "Flaw" "place" "message" (tmpC "Reader" "whole" Fp.f_Reader_init Fp.f_Reader_whole (consA (vr 0) nilA)))
    (rtn (Fe.ret .non))))
def f_flaw : List D → F := run 1 2 b_flaw
/-- names: wish 0, level 1, own 2, text 3 -/
def b_written (rec : List D → F) : S :=
    (seq (iff (tsb (cmp dInA (op1 (dFld "Wish" "form") (vr 0)) (tupE (consA (Fe.ret (.str "@")) (consA (Fe.ret (.str "=")) nilA))))) (rtn (op2 dAdd (op2 dAdd (op2 dIxT (op1 (dFld "Wish" "names") (vr 0)) (Fe.ret (.int 0))) (op1 (dFld "Wish" "form") (vr 0))) (op2 dIxT (op1 (dFld "Wish" "names") (vr 0)) (Fe.ret (.int 1))))) sNx)
    (seq (iff (tsb (cmp dEq (op1 (dFld "Wish" "form") (vr 0)) (Fe.ret (.str "~")))) (rtn (op2 dAdd (Fe.ret (.str "~")) (cl rec (consA (op2 dIxA (op1 (dFld "Wish" "inner") (vr 0)) (Fe.ret (.int 0))) (consA (Fe.ret (.int 2)) nilA))))) sNx)
    (seq (asg (ifE (tsb (cmp dEq (op1 (dFld "Wish" "form") (vr 0)) (Fe.ret (.str "|")))) (Fe.ret (.int 0)) (Fe.ret (.int 1))) (gN 2))
    (seq (asg (op2 dAdd (op2 dAdd (cl rec (consA (op2 dIxA (op1 (dFld "Wish" "inner") (vr 0)) (Fe.ret (.int 0))) (consA (vr 2) nilA))) (op1 (dFld "Wish" "form") (vr 0))) (cl rec (consA (op2 dIxA (op1 (dFld "Wish" "inner") (vr 0)) (Fe.ret (.int 1))) (consA (op2 dAdd (vr 2) (Fe.ret (.int 1))) nilA)))) (gN 3))
    (rtn (ifE (tsb (cmp dLt (vr 2) (vr 1))) (op2 dAdd (op2 dAdd (Fe.ret (.str "(")) (vr 3)) (Fe.ret (.str ")"))) (vr 3)))))))
def f_written : Nat → List D → F
  | 0 => fun _ => .no
  | k + 1 => run 2 4 (b_written (f_written k))
/-- names: text 0 -/
def b_plain_text : S :=
    (seq (drp (cl Fp.f_need_text (consA (vr 0) nilA)))
    (rtn (ifE (tsb (cmp dIsNot (cl Fp.f_flaw (consA (vr 0) nilA)) (Fe.ret .non))) (Fe.ret .non) (cl (Fp.f_written 8) (consA (tmpC "Reader" "whole" Fp.f_Reader_init Fp.f_Reader_whole (consA (vr 0) nilA)) (consA (Fe.ret (.int 0)) nilA))))))
def f_plain_text : List D → F := run 1 1 b_plain_text
/-- names: row 0, deep 1, one 2 -/
def b__law_tree (rec : C → List D → FO) : S :=
    (seq (iff (orT (tsb (cmp dEq (vr 1) (Fe.ret (.int 0)))) (tsb (cmp dEq (clo Fp.f__law_taken 0 (consA (Fe.ret (.int 4)) nilA)) (Fe.ret (.int 0))))) (seq (asg (clo Fp.f__law_pick 0 (consA (Fe.ret (.str "abcdefghijXYZ")) nilA)) (gN 2))
    (rtn (ifE (tsb (cmp dEq (clo Fp.f__law_taken 0 (consA (Fe.ret (.int 2)) nilA)) (Fe.ret (.int 0)))) (tupE (consA (Fe.ret (.str "@")) (consA (vr 2) (consA (clo Fp.f__law_pick 0 (consA (Fe.ret (.str "0123")) nilA)) nilA)))) (tupE (consA (Fe.ret (.str "=")) (consA (vr 2) (consA (clo Fp.f__law_pick 0 (consA (Fe.ret (.str "abjXYZ")) nilA)) nilA))))))) sNx)
    (seq (iff (tsb (cmp dEq (clo Fp.f__law_taken 0 (consA (Fe.ret (.int 3)) nilA)) (Fe.ret (.int 0)))) (rtn (tupE (consA (Fe.ret (.str "~")) (consA (clo rec 0 (consA (op2 dSub (vr 1) (Fe.ret (.int 1))) nilA)) (consA (Fe.ret .non) nilA))))) sNx)
    (rtn (tupE (consA (clo Fp.f__law_pick 0 (consA (Fe.ret (.str "&|")) nilA)) (consA (clo rec 0 (consA (op2 dSub (vr 1) (Fe.ret (.int 1))) nilA)) (consA (clo rec 0 (consA (op2 dSub (vr 1) (Fe.ret (.int 1))) nilA)) nilA)))))))
def f__law_tree : Nat → C → List D → FO
  | 0 => fun _ _ => .no
  | k + 1 => runO 2 3 (b__law_tree (f__law_tree k))
/-- names: row 0 -/
def b__law_blank : S :=
    (rtn (op2 dMulS (Fe.ret (.str " ")) (clo Fp.f__law_pick 0 (consA (lstE (consA (Fe.ret (.int 0)) (consA (Fe.ret (.int 0)) (consA (Fe.ret (.int 0)) (consA (Fe.ret (.int 1)) (consA (Fe.ret (.int 2)) nilA)))))) nilA))))
def f__law_blank : C → List D → FO := runO 1 1 b__law_blank
/-- names: row 0, tree 1, level 2, is_plain 3, sign 4, one 5, other 6, gap 7, own 8, found 9, is_more 10 -/
def b__law_text (rec : C → List D → FO) : S :=
    (seq (asg (vr 1) (gT 3 (gCons (gN 4) (gCons (gN 5) (gCons (gN 6) gNil)))))
    (seq (asg (ifE (tst (vr 3)) (Fe.ret (.str "")) (clo Fp.f__law_blank 0 nilA)) (gN 7))
    (seq (iff (tsb (cmp dInA (vr 4) (tupE (consA (Fe.ret (.str "@")) (consA (Fe.ret (.str "=")) nilA))))) (par 8 9 (consA (Fe.ret (.int 3)) (consA (op2 dAdd (op2 dAdd (op2 dAdd (vr 5) (vr 7)) (vr 4)) (vr 6)) nilA))) (iff (tsb (cmp dEq (vr 4) (Fe.ret (.str "~")))) (par 8 9 (consA (Fe.ret (.int 2)) (consA (op2 dAdd (op2 dAdd (Fe.ret (.str "~")) (vr 7)) (clo rec 0 (consA (vr 5) (consA (Fe.ret (.int 2)) (consA (vr 3) nilA))))) nilA))) (seq (asg (ifE (tsb (cmp dEq (vr 4) (Fe.ret (.str "|")))) (Fe.ret (.int 0)) (Fe.ret (.int 1))) (gN 8))
    (asg (op2 dAdd (op2 dAdd (op2 dAdd (clo rec 0 (consA (vr 5) (consA (vr 8) (consA (vr 3) nilA)))) (vr 7)) (vr 4)) (clo rec 0 (consA (vr 6) (consA (op2 dAdd (vr 8) (Fe.ret (.int 1))) (consA (vr 3) nilA))))) (gN 9)))))
    (seq (asg (andV (notV (vr 3)) (cmp dEq (clo Fp.f__law_taken 0 (consA (Fe.ret (.int 5)) nilA)) (Fe.ret (.int 0)))) (gN 10))
    (rtn (ifE (orT (tsb (cmp dLt (vr 8) (vr 2))) (tst (vr 10))) (op2 dAdd (op2 dAdd (Fe.ret (.str "(")) (vr 9)) (Fe.ret (.str ")"))) (op2 dAdd (vr 9) (vr 7))))))))
def f__law_text : Nat → C → List D → FO
  | 0 => fun _ _ => .no
  | k + 1 => runO 4 11 (b__law_text (f__law_text k))
end Fp
namespace K03
/-- names: script 0, row 1, turn 2, tree 3, text 4, due 5, bad 6 -/
def b_law : S :=
    (seq (asgO 1 (lstE (consA (vr 0) (consA (Fe.ret (.int 0)) (consA (Fe.ret (.int 106013)) (consA (Fe.ret (.int 0)) nilA))))))
    (seq (forS (rg1 (Fe.ret (.int 12))) (gN 2)
      (seq (asg (clo (Fp.f__law_tree 6) 1 (consA (clo Fp.f__law_taken 1 (consA (Fe.ret (.int 5)) nilA)) nilA)) (gN 3))
    (seq (par 4 5 (consA (op2 dAdd (clo Fp.f__law_blank 1 nilA) (clo (Fp.f__law_text 6) 1 (consA (vr 3) (consA (Fe.ret (.int 0)) (consA (Fe.ret (.bl false)) nilA))))) (consA (clo (Fp.f__law_text 6) 1 (consA (vr 3) (consA (Fe.ret (.int 0)) (consA (Fe.ret (.bl true)) nilA)))) nilA)))
    (seq (iff (tsb (cmp dGt (op1 dLen (vr 4)) (Fe.ret (.int 200)))) cnt sNx)
    (iff (orT (tsb (cmp dIsNot (cl Fp.f_flaw (consA (vr 4) nilA)) (Fe.ret .non))) (orT (notT (tst (cl (Fp.f__law_alike 6) (consA (cl Fp.f_plain_text (consA (vr 4) nilA)) (consA (vr 5) nilA))))) (notT (tst (cl (Fp.f__law_alike 6) (consA (clk Fp.f_plain_text 0 1 nilA (consA (vr 5) nilA)) (consA (vr 5) nilA))))))) (rtn (Fe.ret (.bl false))) sNx)))))
    (seq (asg (lstE (consA (Fe.ret .non) (consA (Fe.ret (.int 5)) (consA (op2 dMulS (Fe.ret (.str "a")) (Fe.ret (.int 201))) (consA (Fe.ret (.bl true)) (consA (tupE (consA (Fe.ret (.str "a@0")) nilA)) nilA)))))) (gN 6))
    (rtn (cmp dEq (lstE (consA (refused "BadArgument" "name" (cl Fp.f_plain_text (consA (clo Fp.f__law_pick 1 (consA (vr 6) nilA)) nilA))) (consA (refused "BadArgument" "name" (cl Fp.f_flaw (consA (clo Fp.f__law_pick 1 (consA (vr 6) nilA)) nilA))) nilA))) (lstE (consA (Fe.ret (.str "text")) (consA (Fe.ret (.str "text")) nilA))))))))
def f_law : List D → F := run 1 7 b_law
end K03
end
section
set_option Elab.async false
set_option linter.all false
set_option maxRecDepth 100000
set_option maxHeartbeats 4000000
namespace K03
open PySem PySem.Spec PyProof.Rows L2 Fe
/-! ### the text -/
def topS (i : Nat) : Stmt := PySem.Challenge.pw_ferriedover_k03_whole_wishes_and_their_p.main.body.getD i (.Pass ⟨0, 0, 0, 0⟩)
abbrev s_need : Stmt := topS 4
theorem sc_need : FnScope ["is_right", "name"] ["is_right", "name"] (defScope s_need) := ⟨rfl, rfl, rfl, by decide +kernel, rfl, by decide +kernel, by decide +kernel⟩
abbrev s_Wish_init : Stmt := inClass (topS 16) 0
theorem sc_Wish_init : FnScope ["self", "form", "names", "inner"] ["self", "form", "names", "inner"] (defScope s_Wish_init) := ⟨rfl, rfl, rfl, by decide +kernel, rfl, by decide +kernel, by decide +kernel⟩
abbrev s_Reader_init : Stmt := inClass (topS 17) 0
theorem sc_Reader_init : FnScope ["self", "text", "at", "own", "place"] ["self", "text"] (defScope s_Reader_init) := ⟨rfl, rfl, rfl, by decide +kernel, rfl, by decide +kernel, by decide +kernel⟩
abbrev s_Reader_ahead : Stmt := inClass (topS 17) 1
theorem sc_Reader_ahead : FnScope ["self"] ["self"] (defScope s_Reader_ahead) := ⟨rfl, rfl, rfl, by decide +kernel, rfl, by decide +kernel, by decide +kernel⟩
abbrev s_Reader_fail : Stmt := inClass (topS 17) 2
theorem sc_Reader_fail : FnScope ["self", "message"] ["self", "message"] (defScope s_Reader_fail) := ⟨rfl, rfl, rfl, by decide +kernel, rfl, by decide +kernel, by decide +kernel⟩
abbrev s_Reader_take : Stmt := inClass (topS 17) 3
theorem sc_Reader_take : FnScope ["self", "signs", "message", "own"] ["self", "signs", "message"] (defScope s_Reader_take) := ⟨rfl, rfl, rfl, by decide +kernel, rfl, by decide +kernel, by decide +kernel⟩
abbrev s_Reader_single : Stmt := inClass (topS 17) 7
theorem sc_Reader_single : FnScope ["self", "count", "found", "turn"] ["self"] (defScope s_Reader_single) := ⟨rfl, rfl, rfl, by decide +kernel, rfl, by decide +kernel, by decide +kernel⟩
abbrev s_Reader_both : Stmt := inClass (topS 17) 6
theorem sc_Reader_both : FnScope ["self", "found"] ["self"] (defScope s_Reader_both) := ⟨rfl, rfl, rfl, by decide +kernel, rfl, by decide +kernel, by decide +kernel⟩
abbrev s_Reader_either : Stmt := inClass (topS 17) 5
theorem sc_Reader_either : FnScope ["self", "found"] ["self"] (defScope s_Reader_either) := ⟨rfl, rfl, rfl, by decide +kernel, rfl, by decide +kernel, by decide +kernel⟩
abbrev s_Reader_ground : Stmt := inClass (topS 17) 8
theorem sc_Reader_ground : FnScope ["self", "found", "name"] ["self"] (defScope s_Reader_ground) := ⟨rfl, rfl, rfl, by decide +kernel, rfl, by decide +kernel, by decide +kernel⟩
abbrev s_Reader_whole : Stmt := inClass (topS 17) 4
theorem sc_Reader_whole : FnScope ["self", "found"] ["self"] (defScope s_Reader_whole) := ⟨rfl, rfl, rfl, by decide +kernel, rfl, by decide +kernel, by decide +kernel⟩
abbrev s_need_text : Stmt := topS 18
theorem sc_need_text : FnScope ["text"] ["text"] (defScope s_need_text) := ⟨rfl, rfl, rfl, by decide +kernel, rfl, by decide +kernel, by decide +kernel⟩
abbrev s_flaw : Stmt := topS 19
theorem sc_flaw : FnScope ["text", "e"] ["text"] (defScope s_flaw) := ⟨rfl, rfl, rfl, by decide +kernel, rfl, by decide +kernel, by decide +kernel⟩
abbrev s_written : Stmt := topS 20
theorem sc_written : FnScope ["wish", "level", "own", "text"] ["wish", "level"] (defScope s_written) := ⟨rfl, rfl, rfl, by decide +kernel, rfl, by decide +kernel, by decide +kernel⟩
abbrev s_plain_text : Stmt := topS 21
theorem sc_plain_text : FnScope ["text"] ["text"] (defScope s_plain_text) := ⟨rfl, rfl, rfl, by decide +kernel, rfl, by decide +kernel, by decide +kernel⟩
abbrev s__law_taken : Stmt := topS 23
theorem sc__law_taken : FnScope ["row", "many", "found", "cell"] ["row", "many"] (defScope s__law_taken) := ⟨rfl, rfl, rfl, by decide +kernel, rfl, by decide +kernel, by decide +kernel⟩
abbrev s__law_pick : Stmt := topS 24
theorem sc__law_pick : FnScope ["row", "some"] ["row", "some"] (defScope s__law_pick) := ⟨rfl, rfl, rfl, by decide +kernel, rfl, by decide +kernel, by decide +kernel⟩
abbrev s__law_alike : Stmt := topS 26
theorem sc__law_alike : FnScope ["found", "due", "at"] ["found", "due"] (defScope s__law_alike) := ⟨rfl, rfl, rfl, by decide +kernel, rfl, by decide +kernel, by decide +kernel⟩
abbrev s__law_tree : Stmt := topS 27
theorem sc__law_tree : FnScope ["row", "deep", "one"] ["row", "deep"] (defScope s__law_tree) := ⟨rfl, rfl, rfl, by decide +kernel, rfl, by decide +kernel, by decide +kernel⟩
abbrev s__law_blank : Stmt := topS 28
theorem sc__law_blank : FnScope ["row"] ["row"] (defScope s__law_blank) := ⟨rfl, rfl, rfl, by decide +kernel, rfl, by decide +kernel, by decide +kernel⟩
abbrev s__law_text : Stmt := topS 29
theorem sc__law_text : FnScope ["row", "tree", "level", "is_plain", "sign", "one", "other", "gap", "own", "found", "is_more"] ["row", "tree", "level", "is_plain"] (defScope s__law_text) := ⟨rfl, rfl, rfl, by decide +kernel, rfl, by decide +kernel, by decide +kernel⟩
abbrev s_law : Stmt := topS 30
theorem sc_law : FnScope ["script", "row", "turn", "tree", "text", "due", "bad"] ["script"] (defScope s_law) := ⟨rfl, rfl, rfl, by decide +kernel, rfl, by decide +kernel, by decide +kernel⟩
/-- what the module does not shadow, its constants -/
structure Bt (mg : Str → Option Value) : Prop where
  b_bool : mg "bool" = none
  b_enumerate : mg "enumerate" = none
  b_int : mg "int" = none
  b_isinstance : mg "isinstance" = none
  b_len : mg "len" = none
  b_range : mg "range" = none
  b_str : mg "str" = none
  b_tuple : mg "tuple" = none
  c_AND : ∃ t, mg "AND" = some (.str "&" t)
  c_AT : ∃ t, mg "AT" = some (.str "@" t)
  c_BOATS : ∃ t, mg "BOATS" = some (.str "XYZ" t)
  c_DIGITS : ∃ t, mg "DIGITS" = some (.str "0123" t)
  c_LETTERS : ∃ t, mg "LETTERS" = some (.str "abcdefghij" t)
  c_MOST_DEEP : ∃ t, mg "MOST_DEEP" = some (.int (20) t)
  c_MOST_TEXT : ∃ t, mg "MOST_TEXT" = some (.int (200) t)
  c_NOT : ∃ t, mg "NOT" = some (.str "~" t)
  c_OR : ∃ t, mg "OR" = some (.str "|" t)
  c_SAME : ∃ t, mg "SAME" = some (.str "=" t)
section
variable {P : Program} {w : World} {B : Bs} {mg : Str → Option Value} {base : Heap} {f : Addr} {fd : FuncData}
theorem d_need (F0 : Fun B.K "need" "need" s_need f fd) (T : Bt mg) {C_BadArgument : Addr} (XC : XCls P w B mg base 1 "BadArgument" ["name"] C_BadArgument) :
    FnOk P w B.K mg base (L2.CX P w) 3 f fd ["is_right", "name"] (spF B Fp.f_need) := by
  have nd := (sc_need).nd
  exact fn_ok (k := 2) (n := 2) (m := 2) F0 sc_need rfl rfl (by decide) fun cdv A outer s H E c hfx hpin hr =>
    (ss_one (s_if (t_not (t_tr (e_var 0))) (ss_one (s_raise XC rfl rfl tk_def hr (by decide) (a_cons (e_var 1) a_nil) rfl (by decide))) ss_nil))
theorem d_Wish_init (F0 : Fun B.K "__init__" "Wish.__init__" s_Wish_init f fd) (T : Bt mg) (na_inner : NoAt B "inner") (na_names : NoAt B "names") (na_form : NoAt B "form") :
    FnOk P w B.K mg base (L2.CX P w) 2 f fd ["self", "form", "names", "inner"] (spO B Fp.f_Wish_init) := by
  have nd := (sc_Wish_init).nd
  exact fn_okO (k := 1) (n := 4) (m := 4) F0 sc_Wish_init rfl rfl (by decide) fun cdv A outer s H E c hpin hr =>
    (ss_cons (s_fd (cn := "Wish") 0 na_form (e_var 1))
    (ss_cons (s_fd (cn := "Wish") 0 na_names (e_var 2))
    (ss_one (s_fd (cn := "Wish") 0 na_inner (e_var 3)))))
theorem d_Reader_init (F0 : Fun B.K "__init__" "Reader.__init__" s_Reader_init f fd) (T : Bt mg) (na_signs : NoAt B "signs") (na_deep : NoAt B "deep") (na_at : NoAt B "at") (na_size : NoAt B "size") {C_Flaw : Addr} (X_Flaw : XCls P w B mg base 1 "Flaw" ["place", "message"] C_Flaw) :
    FnOk P w B.K mg base (L2.CX P w) 3 f fd ["self", "text"] (spO B Fp.f_Reader_init) := by
  have nd := (sc_Reader_init).nd
  obtain ⟨_, Tc_AND⟩ := T.c_AND
  obtain ⟨_, Tc_AT⟩ := T.c_AT
  obtain ⟨_, Tc_BOATS⟩ := T.c_BOATS
  obtain ⟨_, Tc_DIGITS⟩ := T.c_DIGITS
  obtain ⟨_, Tc_LETTERS⟩ := T.c_LETTERS
  obtain ⟨_, Tc_NOT⟩ := T.c_NOT
  obtain ⟨_, Tc_OR⟩ := T.c_OR
  obtain ⟨_, Tc_SAME⟩ := T.c_SAME
  exact fn_okO (k := 2) (n := 2) (m := 5) F0 sc_Reader_init rfl rfl (by decide) fun cdv A outer s H E c hpin hr =>
    (ss_cons (s_fd (cn := "Reader") 0 na_signs (e_lc (own := [(("at" : Str), 2), (("own" : Str), 3)]) rfl nd (blkOk_by rfl) (by decide) (nx_tup (nx_cons nx_name (nx_cons nx_name nx_nil))) (i_enumS T.b_enumerate (e_var 1)) (fun _ _ _ _ _ _ _ => (g_tup rfl (gs_cons (g_name 2 nd) (gs_cons (g_name 3 nd) gs_nil)))) (fun _ _ _ _ _ => (ts_one fun _ _ => (t_ne hr (e_var 3) e_str))) (fun _ _ _ _ _ _ _ => (e_tup (a_cons (e_var 3) (a_cons (e_var 2) a_nil))))))
    (ss_cons (s_fd (cn := "Reader") 0 na_size (e_len T.b_len (e_var 1)))
    (ss_cons (s_fd (cn := "Reader") 0 na_at e_int)
    (ss_cons (s_fd (cn := "Reader") 0 na_deep e_int)
    (ss_one (s_for po_def rfl (i_seqA (e_fld (cn := "Reader") 0 na_signs)) (g_tup rfl (gs_cons (g_name 3 nd) (gs_cons (g_name 4 nd) gs_nil))) (nx_tup (nx_cons nx_name (nx_cons nx_name nx_nil)))
      (ss_one (s_if (t_notInT (e_var 3) (e_add (e_add (e_add (e_add (e_add (e_add (e_add (e_add (e_gS Tc_LETTERS) (e_gS Tc_DIGITS)) (e_gS Tc_BOATS)) (e_gS Tc_AT)) (e_gS Tc_SAME)) (e_gS Tc_NOT)) (e_gS Tc_AND)) (e_gS Tc_OR)) e_str)) (ss_one (s_raise X_Flaw rfl rfl tk_def hr (by decide) (a_cons (e_var 4) (a_cons e_str a_nil)) rfl (by decide))) ss_nil))))))))
theorem d_Reader_ahead (F0 : Fun B.K "ahead" "Reader.ahead" s_Reader_ahead f fd) (T : Bt mg) (na_at : NoAt B "at") (na_signs : NoAt B "signs") :
    FnOk P w B.K mg base (L2.CX P w) 2 f fd ["self"] (spO B Fp.f_Reader_ahead) := by
  have nd := (sc_Reader_ahead).nd
  exact fn_okO (k := 1) (n := 1) (m := 1) F0 sc_Reader_ahead rfl rfl (by decide) fun cdv A outer s H E c hpin hr =>
    (ss_one (s_ret (e_if (t_lt hr (e_fld (cn := "Reader") 0 na_at) (e_len T.b_len (e_fld (cn := "Reader") 0 na_signs))) (e_ixA hr (e_ixA hr (e_fld (cn := "Reader") 0 na_signs) (e_fld (cn := "Reader") 0 na_at)) e_int) e_str)))
theorem d_Reader_fail (F0 : Fun B.K "fail" "Reader.fail" s_Reader_fail f fd) (T : Bt mg) (na_at : NoAt B "at") (na_signs : NoAt B "signs") (na_size : NoAt B "size") {C_Flaw : Addr} (X_Flaw : XCls P w B mg base 1 "Flaw" ["place", "message"] C_Flaw) :
    FnOk P w B.K mg base (L2.CX P w) 3 f fd ["self", "message"] (spO B Fp.f_Reader_fail) := by
  have nd := (sc_Reader_fail).nd
  exact fn_okO (k := 2) (n := 2) (m := 2) F0 sc_Reader_fail rfl rfl (by decide) fun cdv A outer s H E c hpin hr =>
    (ss_one (s_raise X_Flaw rfl rfl tk_def hr (by decide) (a_cons (e_if (t_lt hr (e_fld (cn := "Reader") 0 na_at) (e_len T.b_len (e_fld (cn := "Reader") 0 na_signs))) (e_ixA hr (e_ixA hr (e_fld (cn := "Reader") 0 na_signs) (e_fld (cn := "Reader") 0 na_at)) e_int) (e_fld (cn := "Reader") 0 na_size)) (a_cons (e_var 1) a_nil)) rfl (by decide)))
theorem d_Reader_take (F0 : Fun B.K "take" "Reader.take" s_Reader_take f fd) (T : Bt mg) (h_Reader_ahead : DfM P w B mg base 2 "Reader" "ahead" Fp.f_Reader_ahead) (h_Reader_fail : DfM P w B mg base 3 "Reader" "fail" Fp.f_Reader_fail) (na_at : NoAt B "at") :
    FnOk P w B.K mg base (L2.CX P w) 4 f fd ["self", "signs", "message"] (spO B Fp.f_Reader_take) := by
  have nd := (sc_Reader_take).nd
  exact fn_okO (k := 3) (n := 3) (m := 4) F0 sc_Reader_take rfl rfl (by decide) fun cdv A outer s H E c hpin hr =>
    (ss_cons (s_set 3 nd (e_clm0 0 h_Reader_ahead rfl hr (by decide) tk_def))
    (ss_cons (s_if (PW.pt (w_or (t_eq hr (e_var 3) e_str) (w_or1 (t_notInT (e_var 3) (e_var 1))))) (ss_one (s_drp (e_clm 0 h_Reader_fail rfl hr (by decide) tk_def (a_cons (e_var 2) a_nil)))) ss_nil)
    (ss_cons (s_fa (cn := "Reader") 0 na_at e_int)
    (ss_one (s_ret (e_var 3))))))
theorem d_Reader_single_step {j : Nat} {r_Reader_ground : C → List D → FO} (hj : 4 ≤ j) (F0 : Fun B.K "single" "Reader.single" s_Reader_single f fd) (T : Bt mg) (h_Reader_ahead : DfM P w B mg base 2 "Reader" "ahead" Fp.f_Reader_ahead) (h_Wish_init : DfI P w B mg base 2 "Wish" Fp.f_Wish_init) (na_at : NoAt B "at") (h_Reader_ground : DfM P w B mg base j "Reader" "ground" r_Reader_ground) :
    FnOk P w B.K mg base (L2.CX P w) (j + 1) f fd ["self"] (spO B (runO 1 4 (Fp.b_Reader_single r_Reader_ground))) := by
  have nd := (sc_Reader_single).nd
  obtain ⟨_, Tc_NOT⟩ := T.c_NOT
  obtain ⟨j, rfl⟩ : ∃ i, j = i + 1 := ⟨j - 1, by omega⟩
  exact fn_okO F0 sc_Reader_single rfl rfl (by decide) fun cdv A outer s H E c hpin hr =>
    (ss_cons (s_set 1 nd e_int)
    (ss_cons (s_while po_def (t_eq hr (e_clm0 0 h_Reader_ahead rfl hr (by omega) tk_def) (e_gS Tc_NOT))
      (ss_cons (s_fa (cn := "Reader") 0 na_at e_int)
    (ss_one (s_aug 1 nd e_int))))
    (ss_cons (s_set 2 nd (e_clm0 0 h_Reader_ground rfl hr (by omega) tk_def))
    (ss_cons (s_for po_def rfl (i_rg1 T.b_range (e_var 1)) (g_name 3 nd) nx_name
      (ss_one (s_set 2 nd (e_mkP h_Wish_init rfl hr (by omega) tk_def (a_cons (e_gS Tc_NOT) (a_cons e_str (a_cons (e_lst (k := 0) (a_cons (e_var 2) a_nil)) a_nil)))))))
    (ss_one (s_ret (e_var 2)))))))
theorem d_Reader_both_step {j : Nat} {r_Reader_single : C → List D → FO} (hj : 4 ≤ j) (F0 : Fun B.K "both" "Reader.both" s_Reader_both f fd) (T : Bt mg) (h_Reader_ahead : DfM P w B mg base 2 "Reader" "ahead" Fp.f_Reader_ahead) (h_Wish_init : DfI P w B mg base 2 "Wish" Fp.f_Wish_init) (na_at : NoAt B "at") (h_Reader_single : DfM P w B mg base j "Reader" "single" r_Reader_single) :
    FnOk P w B.K mg base (L2.CX P w) (j + 1) f fd ["self"] (spO B (runO 1 2 (Fp.b_Reader_both r_Reader_single))) := by
  have nd := (sc_Reader_both).nd
  obtain ⟨_, Tc_AND⟩ := T.c_AND
  obtain ⟨j, rfl⟩ : ∃ i, j = i + 1 := ⟨j - 1, by omega⟩
  exact fn_okO F0 sc_Reader_both rfl rfl (by decide) fun cdv A outer s H E c hpin hr =>
    (ss_cons (s_set 1 nd (e_clm0 0 h_Reader_single rfl hr (by omega) tk_def))
    (ss_cons (s_while po_def (t_eq hr (e_clm0 0 h_Reader_ahead rfl hr (by omega) tk_def) (e_gS Tc_AND))
      (ss_cons (s_fa (cn := "Reader") 0 na_at e_int)
    (ss_one (s_set 1 nd (e_mkP h_Wish_init rfl hr (by omega) tk_def (a_cons (e_gS Tc_AND) (a_cons e_str (a_cons (e_lst (k := 0) (a_cons (e_var 1) (a_cons (e_clm0 0 h_Reader_single rfl hr (by omega) tk_def) a_nil))) a_nil))))))))
    (ss_one (s_ret (e_var 1)))))
theorem d_Reader_either_step {j : Nat} {r_Reader_both : C → List D → FO} (hj : 4 ≤ j) (F0 : Fun B.K "either" "Reader.either" s_Reader_either f fd) (T : Bt mg) (h_Reader_ahead : DfM P w B mg base 2 "Reader" "ahead" Fp.f_Reader_ahead) (h_Wish_init : DfI P w B mg base 2 "Wish" Fp.f_Wish_init) (na_at : NoAt B "at") (h_Reader_both : DfM P w B mg base j "Reader" "both" r_Reader_both) :
    FnOk P w B.K mg base (L2.CX P w) (j + 1) f fd ["self"] (spO B (runO 1 2 (Fp.b_Reader_either r_Reader_both))) := by
  have nd := (sc_Reader_either).nd
  obtain ⟨_, Tc_OR⟩ := T.c_OR
  obtain ⟨j, rfl⟩ : ∃ i, j = i + 1 := ⟨j - 1, by omega⟩
  exact fn_okO F0 sc_Reader_either rfl rfl (by decide) fun cdv A outer s H E c hpin hr =>
    (ss_cons (s_set 1 nd (e_clm0 0 h_Reader_both rfl hr (by omega) tk_def))
    (ss_cons (s_while po_def (t_eq hr (e_clm0 0 h_Reader_ahead rfl hr (by omega) tk_def) (e_gS Tc_OR))
      (ss_cons (s_fa (cn := "Reader") 0 na_at e_int)
    (ss_one (s_set 1 nd (e_mkP h_Wish_init rfl hr (by omega) tk_def (a_cons (e_gS Tc_OR) (a_cons e_str (a_cons (e_lst (k := 0) (a_cons (e_var 1) (a_cons (e_clm0 0 h_Reader_both rfl hr (by omega) tk_def) a_nil))) a_nil))))))))
    (ss_one (s_ret (e_var 1)))))
theorem d_Reader_ground_step {j : Nat} {r_Reader_either : C → List D → FO} (hj : 4 ≤ j) (F0 : Fun B.K "ground" "Reader.ground" s_Reader_ground f fd) (T : Bt mg) (h_Reader_ahead : DfM P w B mg base 2 "Reader" "ahead" Fp.f_Reader_ahead) (h_Reader_fail : DfM P w B mg base 3 "Reader" "fail" Fp.f_Reader_fail) (h_Reader_take : DfM P w B mg base 4 "Reader" "take" Fp.f_Reader_take) (h_Wish_init : DfI P w B mg base 2 "Wish" Fp.f_Wish_init) (na_deep : NoAt B "deep") (na_at : NoAt B "at") (h_Reader_either : DfM P w B mg base j "Reader" "either" r_Reader_either) :
    FnOk P w B.K mg base (L2.CX P w) (j + 1) f fd ["self"] (spO B (runO 1 3 (Fp.b_Reader_ground r_Reader_either))) := by
  have nd := (sc_Reader_ground).nd
  obtain ⟨_, Tc_AT⟩ := T.c_AT
  obtain ⟨_, Tc_BOATS⟩ := T.c_BOATS
  obtain ⟨_, Tc_DIGITS⟩ := T.c_DIGITS
  obtain ⟨_, Tc_LETTERS⟩ := T.c_LETTERS
  obtain ⟨_, Tc_MOST_DEEP⟩ := T.c_MOST_DEEP
  obtain ⟨_, Tc_SAME⟩ := T.c_SAME
  obtain ⟨j, rfl⟩ : ∃ i, j = i + 1 := ⟨j - 1, by omega⟩
  exact fn_okO F0 sc_Reader_ground rfl rfl (by decide) fun cdv A outer s H E c hpin hr =>
    (ss_cons (s_if (t_eq hr (e_clm0 0 h_Reader_ahead rfl hr (by omega) tk_def) e_str) (ss_cons (s_if (t_eq hr (e_fld (cn := "Reader") 0 na_deep) (e_gI Tc_MOST_DEEP)) (ss_one (s_drp (e_clm 0 h_Reader_fail rfl hr (by omega) tk_def (a_cons e_str a_nil)))) ss_nil)
    (ss_cons (s_fa (cn := "Reader") 0 na_at e_int)
    (ss_cons (s_fa (cn := "Reader") 0 na_deep e_int)
    (ss_cons (s_set 1 nd (e_clm0 0 h_Reader_either rfl hr (by omega) tk_def))
    (ss_cons (s_drp (e_clm 0 h_Reader_take rfl hr (by omega) tk_def (a_cons e_str (a_cons e_str a_nil))))
    (ss_cons (s_fs (cn := "Reader") 0 na_deep e_int)
    (ss_one (s_ret (e_var 1))))))))) ss_nil)
    (ss_cons (s_set 2 nd (e_clm 0 h_Reader_take rfl hr (by omega) tk_def (a_cons (e_add (e_gS Tc_LETTERS) (e_gS Tc_BOATS)) (a_cons e_str a_nil))))
    (ss_cons (s_if (t_eq hr (e_clm 0 h_Reader_take rfl hr (by omega) tk_def (a_cons (e_add (e_gS Tc_AT) (e_gS Tc_SAME)) (a_cons e_str a_nil))) (e_gS Tc_AT)) (ss_one (s_ret (e_mkP h_Wish_init rfl hr (by omega) tk_def (a_cons (e_gS Tc_AT) (a_cons (e_add (e_var 2) (e_clm 0 h_Reader_take rfl hr (by omega) tk_def (a_cons (e_gS Tc_DIGITS) (a_cons e_str a_nil)))) (a_cons (e_lst (k := 0) a_nil) a_nil)))))) ss_nil)
    (ss_one (s_ret (e_mkP h_Wish_init rfl hr (by omega) tk_def (a_cons (e_gS Tc_SAME) (a_cons (e_add (e_var 2) (e_clm 0 h_Reader_take rfl hr (by omega) tk_def (a_cons (e_add (e_gS Tc_LETTERS) (e_gS Tc_BOATS)) (a_cons e_str a_nil)))) (a_cons (e_lst (k := 0) a_nil) a_nil)))))))))
theorem d_Reader_whole (F0 : Fun B.K "whole" "Reader.whole" s_Reader_whole f fd) (T : Bt mg) (h_Reader_either : DfM P w B mg base 95 "Reader" "either" (Fp.f_Reader_either 22)) (h_Reader_fail : DfM P w B mg base 3 "Reader" "fail" Fp.f_Reader_fail) (na_at : NoAt B "at") (na_signs : NoAt B "signs") :
    FnOk P w B.K mg base (L2.CX P w) 96 f fd ["self"] (spO B Fp.f_Reader_whole) := by
  have nd := (sc_Reader_whole).nd
  exact fn_okO (k := 95) (n := 1) (m := 2) F0 sc_Reader_whole rfl rfl (by decide) fun cdv A outer s H E c hpin hr =>
    (ss_cons (s_set 1 nd (e_clm0 0 h_Reader_either rfl hr (by decide) tk_def))
    (ss_cons (s_if (t_lt hr (e_fld (cn := "Reader") 0 na_at) (e_len T.b_len (e_fld (cn := "Reader") 0 na_signs))) (ss_one (s_drp (e_clm 0 h_Reader_fail rfl hr (by decide) tk_def (a_cons e_str a_nil)))) ss_nil)
    (ss_one (s_ret (e_var 1)))))
theorem d_need_text (F0 : Fun B.K "need_text" "need_text" s_need_text f fd) (T : Bt mg) (h_need : Df P w B mg base 3 "need" Fp.f_need) :
    FnOk P w B.K mg base (L2.CX P w) 4 f fd ["text"] (spF B Fp.f_need_text) := by
  have nd := (sc_need_text).nd
  obtain ⟨_, Tc_MOST_TEXT⟩ := T.c_MOST_TEXT
  exact fn_ok (k := 3) (n := 1) (m := 1) F0 sc_need_text rfl rfl (by decide) fun cdv A outer s H E c hfx hpin hr =>
    (ss_one (s_drp (e_call h_need rfl hr (by decide) tk_def (a_cons (e_and (e_isi "str" T.b_isinstance T.b_str (e_var 0) (by decide) (by decide +kernel)) (e_one (e_le (e_len T.b_len (e_var 0)) (e_gI Tc_MOST_TEXT)))) (a_cons e_str a_nil)))))
theorem d_flaw (F0 : Fun B.K "flaw" "flaw" s_flaw f fd) (T : Bt mg) (h_need_text : Df P w B mg base 4 "need_text" Fp.f_need_text) (h_Reader_whole : DfM P w B mg base 96 "Reader" "whole" Fp.f_Reader_whole) (h_Reader_init : DfI P w B mg base 3 "Reader" Fp.f_Reader_init) {C_Flaw : Addr} (X_Flaw : XCls P w B mg base 1 "Flaw" ["place", "message"] C_Flaw) :
    FnOk P w B.K mg base (L2.CX P w) 97 f fd ["text"] (spF B Fp.f_flaw) := by
  have nd := (sc_flaw).nd
  exact fn_ok (k := 96) (n := 1) (m := 2) F0 sc_flaw rfl rfl (by decide) fun cdv A outer s H E c hfx hpin hr =>
    (ss_cons (s_drp (e_call h_need_text rfl hr (by decide) tk_def (a_cons (e_var 0) a_nil)))
    (ss_cons (s_tryF 1 X_Flaw rfl nd (fun _ _ _ tk => (e_tmp h_Reader_init h_Reader_whole rfl hr (by decide) (by decide) tk (a_cons (e_var 0) a_nil))) (hi0 := Nat.le_of_ble_eq_true rfl))
    (ss_one (s_ret e_non))))
theorem d_written_step {j : Nat} {rec : List D → F} (hj : 1 ≤ j) (F0 : Fun B.K "written" "written" s_written f fd) (T : Bt mg) (na_form : NoAt B "form") (na_names : NoAt B "names") (na_inner : NoAt B "inner") (h_written : Df P w B mg base j "written" rec) :
    FnOk P w B.K mg base (L2.CX P w) (j + 1) f fd ["wish", "level"] (spF B (run 2 4 (Fp.b_written rec))) := by
  have nd := (sc_written).nd
  obtain ⟨_, Tc_AT⟩ := T.c_AT
  obtain ⟨_, Tc_NOT⟩ := T.c_NOT
  obtain ⟨_, Tc_OR⟩ := T.c_OR
  obtain ⟨_, Tc_SAME⟩ := T.c_SAME
  obtain ⟨j, rfl⟩ : ∃ i, j = i + 1 := ⟨j - 1, by omega⟩
  exact fn_ok F0 sc_written rfl rfl (by decide) fun cdv A outer s H E c hfx hpin hr =>
    (ss_cons (s_if (t_inA hr (e_fldD (cn := "Wish") na_form (e_var 0)) (e_tup (a_cons (e_gS Tc_AT) (a_cons (e_gS Tc_SAME) a_nil)))) (ss_one (s_ret (e_add (e_add (e_ixT (e_fldD (cn := "Wish") na_names (e_var 0)) e_int) (e_fldD (cn := "Wish") na_form (e_var 0))) (e_ixT (e_fldD (cn := "Wish") na_names (e_var 0)) e_int)))) ss_nil)
    (ss_cons (s_if (t_eq hr (e_fldD (cn := "Wish") na_form (e_var 0)) (e_gS Tc_NOT)) (ss_one (s_ret (e_add (e_gS Tc_NOT) (e_call h_written rfl hr (Nat.le_refl _) tk_def (a_cons (e_ixA hr (e_fldD (cn := "Wish") na_inner (e_var 0)) e_int) (a_cons e_int a_nil)))))) ss_nil)
    (ss_cons (s_set 2 nd (e_if (t_eq hr (e_fldD (cn := "Wish") na_form (e_var 0)) (e_gS Tc_OR)) e_int e_int))
    (ss_cons (s_set 3 nd (e_add (e_add (e_call h_written rfl hr (Nat.le_refl _) tk_def (a_cons (e_ixA hr (e_fldD (cn := "Wish") na_inner (e_var 0)) e_int) (a_cons (e_var 2) a_nil))) (e_fldD (cn := "Wish") na_form (e_var 0))) (e_call h_written rfl hr (Nat.le_refl _) tk_def (a_cons (e_ixA hr (e_fldD (cn := "Wish") na_inner (e_var 0)) e_int) (a_cons (e_add (e_var 2) e_int) a_nil)))))
    (ss_one (s_ret (e_if (t_lt hr (e_var 2) (e_var 1)) (e_add (e_add e_str (e_var 3)) e_str) (e_var 3))))))))
theorem d_plain_text (F0 : Fun B.K "plain_text" "plain_text" s_plain_text f fd) (T : Bt mg) (h_need_text : Df P w B mg base 4 "need_text" Fp.f_need_text) (h_flaw : Df P w B mg base 97 "flaw" Fp.f_flaw) (h_written : Df P w B mg base 9 "written" (Fp.f_written 8)) (h_Reader_whole : DfM P w B mg base 96 "Reader" "whole" Fp.f_Reader_whole) (h_Reader_init : DfI P w B mg base 3 "Reader" Fp.f_Reader_init) :
    FnOk P w B.K mg base (L2.CX P w) 98 f fd ["text"] (spF B Fp.f_plain_text) := by
  have nd := (sc_plain_text).nd
  exact fn_ok (k := 97) (n := 1) (m := 1) F0 sc_plain_text rfl rfl (by decide) fun cdv A outer s H E c hfx hpin hr =>
    (ss_cons (s_drp (e_call h_need_text rfl hr (by decide) tk_def (a_cons (e_var 0) a_nil)))
    (ss_one (s_ret (e_if (t_isNot (e_call h_flaw rfl hr (by decide) tk_def (a_cons (e_var 0) a_nil)) e_non) e_non (e_call h_written rfl hr (by decide) tk_def (a_cons (e_tmp h_Reader_init h_Reader_whole rfl hr (by decide) (by decide) tk_def (a_cons (e_var 0) a_nil)) (a_cons e_int a_nil)))))))
theorem d__law_taken (F0 : Fun B.K "_law_taken" "_law_taken" s__law_taken f fd) (T : Bt mg)  :
    FnOk P w B.K mg base (L2.CX P w) 2 f fd ["row", "many"] (spO B Fp.f__law_taken) := by
  have nd := (sc__law_taken).nd
  exact fn_okO (k := 1) (n := 2) (m := 4) F0 sc__law_taken rfl rfl (by decide) fun cdv A outer s H E c hpin hr =>
    (ss_cons (s_if (t_gt hr (e_ixO (av 0) (fun _ => e_int)) e_int) (ss_cons (s_set 2 nd (e_mod (e_intC T.b_int (e_ixO (av 0) (fun _ => e_int))) (e_var 1)))
    (ss_cons (s_setO (av 0) (e_div (e_ixO (av 0) (fun _ => e_int)) (e_var 1)) (fun _ => e_int))
    (ss_one (s_ret (e_var 2))))) ss_nil)
    (ss_cons (s_setO (av 0) (e_add (e_ixO (av 0) (fun _ => e_int)) e_int) (fun _ => e_int))
    (ss_cons (s_if (t_gt hr (e_ixO (av 0) (fun _ => e_int)) (e_len T.b_len (e_ixO (av 0) (fun _ => e_int)))) (ss_cons (s_setO (av 0) (e_mod (e_intC T.b_int (e_add (e_mul (e_ixO (av 0) (fun _ => e_int)) e_int) e_int)) e_int) (fun _ => e_int))
    (ss_one (s_ret (e_mod (e_intC T.b_int (e_div (e_ixO (av 0) (fun _ => e_int)) e_int)) (e_var 1))))) ss_nil)
    (ss_cons (s_set 3 nd (e_ixA hr (e_ixO (av 0) (fun _ => e_int)) (e_sub (e_ixO (av 0) (fun _ => e_int)) e_int)))
    (ss_cons (s_setO (av 0) (e_mod (e_intC T.b_int (e_add (e_add (e_mul (e_ixO (av 0) (fun _ => e_int)) e_int) (e_intC T.b_int (e_var 3))) e_int)) e_int) (fun _ => e_int))
    (ss_cons (s_if (t_ge (e_var 3) (e_pow e_int e_int)) (ss_one (s_setO (av 0) (e_div (e_intC T.b_int (e_mod (e_intC T.b_int (e_var 3)) (e_pow e_int e_int))) (e_var 1)) (fun _ => e_int))) ss_nil)
    (ss_one (s_ret (e_mod (e_intC T.b_int (e_var 3)) (e_var 1))))))))))
theorem d__law_pick (F0 : Fun B.K "_law_pick" "_law_pick" s__law_pick f fd) (T : Bt mg) (h__law_taken : DfO P w B mg base 2 "_law_taken" Fp.f__law_taken) :
    FnOk P w B.K mg base (L2.CX P w) 3 f fd ["row", "some"] (spO B Fp.f__law_pick) := by
  have nd := (sc__law_pick).nd
  exact fn_okO (k := 2) (n := 2) (m := 2) F0 sc__law_pick rfl rfl (by decide) fun cdv A outer s H E c hpin hr =>
    (ss_one (s_ret (e_ixB hr (e_var 1) (e_clo 0 h__law_taken rfl hr (by decide) tk_def (a_cons (e_len T.b_len (e_var 1)) a_nil)))))
theorem d__law_alike_step {j : Nat} {rec : List D → F} (hj : 1 ≤ j) (F0 : Fun B.K "_law_alike" "_law_alike" s__law_alike f fd) (T : Bt mg)  (h__law_alike : Df P w B mg base j "_law_alike" rec) :
    FnOk P w B.K mg base (L2.CX P w) (j + 1) f fd ["found", "due"] (spF B (run 2 3 (Fp.b__law_alike rec))) := by
  have nd := (sc__law_alike).nd
  obtain ⟨j, rfl⟩ : ∃ i, j = i + 1 := ⟨j - 1, by omega⟩
  exact fn_ok F0 sc__law_alike rfl rfl (by decide) fun cdv A outer s H E c hfx hpin hr =>
    (ss_cons (s_if (t_tr (e_isi "tuple" T.b_isinstance T.b_tuple (e_var 1) (by decide) (by decide +kernel))) (ss_cons (s_if (PW.pt (w_or (t_not (t_tr (e_isi "tuple" T.b_isinstance T.b_tuple (e_var 0) (by decide) (by decide +kernel)))) (w_or1 (t_ne hr (e_len T.b_len (e_var 0)) (e_len T.b_len (e_var 1)))))) (ss_one (s_ret e_bl)) ss_nil)
    (ss_one (s_ret (e_eq hr (e_lc (own := [(("at" : Str), 2)]) rfl nd (blkOk_by rfl) (by decide) nx_name (i_rg1 T.b_range (e_len T.b_len (e_var 1))) (fun _ _ _ _ _ _ _ => (g_name 2 nd)) (fun _ _ _ _ _ => (ts_one fun _ _ => (t_not (t_tr (e_call h__law_alike rfl hr (Nat.le_refl _) L2.takes0 (a_cons (e_ixA hr (e_var 0) (e_var 2)) (a_cons (e_ixA hr (e_var 1) (e_var 2)) a_nil))))))) (fun _ _ _ _ _ _ _ => (e_var 2))) (e_lst (k := 0) a_nil))))) ss_nil)
    (ss_cons (s_if (PW.pt (w_or (t_is (e_var 1) e_non) (w_or1 (t_tr (e_isi "str" T.b_isinstance T.b_str (e_var 1) (by decide) (by decide +kernel)))))) (ss_one (s_ret (e_and (e_eq hr (e_var 0) (e_var 1)) (e_one (e_eq hr (e_isi "str" T.b_isinstance T.b_str (e_var 0) (by decide) (by decide +kernel)) (e_isi "str" T.b_isinstance T.b_str (e_var 1) (by decide) (by decide +kernel))))))) ss_nil)
    (ss_one (s_ret (e_and (e_isi "int" T.b_isinstance T.b_int (e_var 0) (by decide) (by decide +kernel)) (e_and (e_eq hr (e_isi "bool" T.b_isinstance T.b_bool (e_var 0) (by decide) (by decide +kernel)) (e_isi "bool" T.b_isinstance T.b_bool (e_var 1) (by decide) (by decide +kernel))) (e_one (e_eq hr (e_var 0) (e_var 1)))))))))
theorem d__law_tree_step {j : Nat} {rec : C → List D → FO} (hj : 3 ≤ j) (F0 : Fun B.K "_law_tree" "_law_tree" s__law_tree f fd) (T : Bt mg) (h__law_taken : DfO P w B mg base 2 "_law_taken" Fp.f__law_taken) (h__law_pick : DfO P w B mg base 3 "_law_pick" Fp.f__law_pick) (h__law_tree : DfO P w B mg base j "_law_tree" rec) :
    FnOk P w B.K mg base (L2.CX P w) (j + 1) f fd ["row", "deep"] (spO B (runO 2 3 (Fp.b__law_tree rec))) := by
  have nd := (sc__law_tree).nd
  obtain ⟨j, rfl⟩ : ∃ i, j = i + 1 := ⟨j - 1, by omega⟩
  exact fn_okO F0 sc__law_tree rfl rfl (by decide) fun cdv A outer s H E c hpin hr =>
    (ss_cons (s_if (PW.pt (w_or (t_eq hr (e_var 1) e_int) (w_or1 (t_eq hr (e_clo 0 h__law_taken rfl hr (by omega) tk_def (a_cons e_int a_nil)) e_int)))) (ss_cons (s_set 2 nd (e_clo 0 h__law_pick rfl hr (by omega) tk_def (a_cons e_str a_nil)))
    (ss_one (s_ret (e_if (t_eq hr (e_clo 0 h__law_taken rfl hr (by omega) tk_def (a_cons e_int a_nil)) e_int) (e_tup (a_cons e_str (a_cons (e_var 2) (a_cons (e_clo 0 h__law_pick rfl hr (by omega) tk_def (a_cons e_str a_nil)) a_nil)))) (e_tup (a_cons e_str (a_cons (e_var 2) (a_cons (e_clo 0 h__law_pick rfl hr (by omega) tk_def (a_cons e_str a_nil)) a_nil)))))))) ss_nil)
    (ss_cons (s_if (t_eq hr (e_clo 0 h__law_taken rfl hr (by omega) tk_def (a_cons e_int a_nil)) e_int) (ss_one (s_ret (e_tup (a_cons e_str (a_cons (e_clo 0 h__law_tree rfl hr (Nat.le_refl _) tk_def (a_cons (e_sub (e_var 1) e_int) a_nil)) (a_cons e_non a_nil)))))) ss_nil)
    (ss_one (s_ret (e_tup (a_cons (e_clo 0 h__law_pick rfl hr (by omega) tk_def (a_cons e_str a_nil)) (a_cons (e_clo 0 h__law_tree rfl hr (Nat.le_refl _) tk_def (a_cons (e_sub (e_var 1) e_int) a_nil)) (a_cons (e_clo 0 h__law_tree rfl hr (Nat.le_refl _) tk_def (a_cons (e_sub (e_var 1) e_int) a_nil)) a_nil))))))))
theorem d__law_blank (F0 : Fun B.K "_law_blank" "_law_blank" s__law_blank f fd) (T : Bt mg) (h__law_pick : DfO P w B mg base 3 "_law_pick" Fp.f__law_pick) :
    FnOk P w B.K mg base (L2.CX P w) 4 f fd ["row"] (spO B Fp.f__law_blank) := by
  have nd := (sc__law_blank).nd
  exact fn_okO (k := 3) (n := 1) (m := 1) F0 sc__law_blank rfl rfl (by decide) fun cdv A outer s H E c hpin hr =>
    (ss_one (s_ret (e_mulS e_str (e_clo 0 h__law_pick rfl hr (by decide) tk_def (a_cons (e_lst (k := 0) (a_cons e_int (a_cons e_int (a_cons e_int (a_cons e_int (a_cons e_int a_nil)))))) a_nil)))))
theorem d__law_text_step {j : Nat} {rec : C → List D → FO} (hj : 4 ≤ j) (F0 : Fun B.K "_law_text" "_law_text" s__law_text f fd) (T : Bt mg) (h__law_blank : DfO P w B mg base 4 "_law_blank" Fp.f__law_blank) (h__law_taken : DfO P w B mg base 2 "_law_taken" Fp.f__law_taken) (h__law_text : DfO P w B mg base j "_law_text" rec) :
    FnOk P w B.K mg base (L2.CX P w) (j + 1) f fd ["row", "tree", "level", "is_plain"] (spO B (runO 4 11 (Fp.b__law_text rec))) := by
  have nd := (sc__law_text).nd
  obtain ⟨j, rfl⟩ : ∃ i, j = i + 1 := ⟨j - 1, by omega⟩
  exact fn_okO F0 sc__law_text rfl rfl (by decide) fun cdv A outer s H E c hpin hr =>
    (ss_cons (s_asg (e_var 1) (g_tup rfl (gs_cons (g_name 4 nd) (gs_cons (g_name 5 nd) (gs_cons (g_name 6 nd) gs_nil)))) (nx_tup (nx_cons nx_name (nx_cons nx_name (nx_cons nx_name nx_nil)))))
    (ss_cons (s_set 7 nd (e_if (t_tr (e_var 3)) e_str (e_clo 0 h__law_blank rfl hr (by omega) tk_def a_nil)))
    (ss_cons (s_if (t_inA hr (e_var 4) (e_tup (a_cons e_str (a_cons e_str a_nil)))) (ss_one (s_par 8 9 rfl nd (by decide) e_int (e_add (e_add (e_add (e_var 5) (e_var 7)) (e_var 4)) (e_var 6)))) (ss_one (s_if (t_eq hr (e_var 4) e_str) (ss_one (s_par 8 9 rfl nd (by decide) e_int (e_add (e_add e_str (e_var 7)) (e_clo 0 h__law_text rfl hr (Nat.le_refl _) tk_def (a_cons (e_var 5) (a_cons e_int (a_cons (e_var 3) a_nil))))))) (ss_cons (s_set 8 nd (e_if (t_eq hr (e_var 4) e_str) e_int e_int))
    (ss_one (s_set 9 nd (e_add (e_add (e_add (e_clo 0 h__law_text rfl hr (Nat.le_refl _) tk_def (a_cons (e_var 5) (a_cons (e_var 8) (a_cons (e_var 3) a_nil)))) (e_var 7)) (e_var 4)) (e_clo 0 h__law_text rfl hr (Nat.le_refl _) tk_def (a_cons (e_var 6) (a_cons (e_add (e_var 8) e_int) (a_cons (e_var 3) a_nil)))))))))))
    (ss_cons (s_set 10 nd (e_and (e_not (e_var 3)) (e_one (e_eq hr (e_clo 0 h__law_taken rfl hr (by omega) tk_def (a_cons e_int a_nil)) e_int))))
    (ss_one (s_ret (e_if (PW.pt (w_or (t_lt hr (e_var 8) (e_var 2)) (w_or1 (t_tr (e_var 10))))) (e_add (e_add e_str (e_var 9)) e_str) (e_add (e_var 9) (e_var 7)))))))))
theorem d_law (T : Bt mg) (h__law_tree : DfO P w B mg base 9 "_law_tree" (Fp.f__law_tree 6)) (h__law_taken : DfO P w B mg base 2 "_law_taken" Fp.f__law_taken) (h__law_blank : DfO P w B mg base 4 "_law_blank" Fp.f__law_blank) (h__law_text : DfO P w B mg base 10 "_law_text" (Fp.f__law_text 6)) (h__law_alike : Df P w B mg base 7 "_law_alike" (Fp.f__law_alike 6)) (h_plain_text : Df P w B mg base 98 "plain_text" Fp.f_plain_text) (h_flaw : Df P w B mg base 97 "flaw" Fp.f_flaw) (h__law_pick : DfO P w B mg base 3 "_law_pick" Fp.f__law_pick) (k_plain_text_0_text : DfK P w B mg base 98 "plain_text" 0 ["text"] Fp.f_plain_text) {oc : Value} {od an : Option Addr} {kV doc pm ct : Value} {osl : Array (Option Value)} {cc PP : Addr} (lk : B.K.lookup f = some ⟨oc, od, .func (PySem.W.fnOf "law" "law" (defArgs s_law) (defBody s_law) (defScope s_law) .none kV doc pm an (.ref cc) ct), osl⟩) (hcd : PySem.W.codeIn B.K (.ref cc) "law" = true)
    {CB : Addr} (XC : XCls P w B mg base 1 "BadArgument" ["name"] CB) (TB : LamX.TabB base mg cc PP) (bT : (PP, ("law" : Str) ++ ".<locals>." ++ "<lambda>") ∈ B.T) (hu : ∀ p ∈ B.T, p.1 = PP → p.2 = ("law" : Str) ++ ".<locals>." ++ "<lambda>")
    (RF0 : ∀ X : Cx, X.K = B.K → X.mg = mg → RefD X "_law_refused" "call" "BadArgument" "name" CB 98) :
    FnOk P w B.K mg base (L2.CX P w) 101 f (PySem.W.fnOf "law" "law" (defArgs s_law) (defBody s_law) (defScope s_law) .none kV doc pm an (.ref cc) ct) ["script"] (spF B K03.f_law) := by
  have nd := (sc_law).nd
  exact fn_okL (k := 100) (n := 1) (m := 7) lk hcd sc_law rfl rfl (by decide) fun A outer s H E c hfx hpin hr =>
    (ss_cons (s_lstO 1 nd (a_cons (e_var 0) (a_cons e_int (a_cons e_int (a_cons e_int a_nil)))))
    (ss_cons (s_for po_def rfl (i_rg1 T.b_range e_int) (g_name 2 nd) nx_name
      (ss_cons (s_set 3 nd (e_clo 1 h__law_tree rfl hr (by decide) tk_def (a_cons (e_clo 1 h__law_taken rfl hr (by decide) tk_def (a_cons e_int a_nil)) a_nil)))
    (ss_cons (s_par 4 5 rfl nd (by decide) (e_add (e_clo 1 h__law_blank rfl hr (by decide) tk_def a_nil) (e_clo 1 h__law_text rfl hr (by decide) tk_def (a_cons (e_var 3) (a_cons e_int (a_cons e_bl a_nil))))) (e_clo 1 h__law_text rfl hr (by decide) tk_def (a_cons (e_var 3) (a_cons e_int (a_cons e_bl a_nil)))))
    (ss_cons (s_if (t_gt hr (e_len T.b_len (e_var 4)) e_int) (ss_one s_cnt) ss_nil)
    (ss_one (s_if (PW.pt (w_or (t_isNot (e_call h_flaw rfl hr (by decide) tk_def (a_cons (e_var 4) a_nil)) e_non) (w_or (t_not (t_tr (e_call h__law_alike rfl hr (by decide) tk_def (a_cons (e_call h_plain_text rfl hr (by decide) tk_def (a_cons (e_var 4) a_nil)) (a_cons (e_var 5) a_nil))))) (w_or1 (t_not (t_tr (e_call h__law_alike rfl hr (by decide) tk_def (a_cons (e_callK0 k_plain_text_0_text rfl hr (by decide) (k_cons (e_var 5) k_nil) rfl rfl) (a_cons (e_var 5) a_nil))))))))) (ss_one (s_ret e_bl)) ss_nil))))))
    (ss_cons (s_set 6 nd (e_lst (k := 0) (a_cons e_non (a_cons e_int (a_cons (e_mulS e_str e_int) (a_cons e_bl (a_cons (e_tup (a_cons e_str a_nil)) a_nil)))))))
    (ss_one (s_ret (e_eq hr (e_lst (k := 0) (a_cons (e_ref (k := 98) (RF0 _ rfl rfl) rfl XC.bx rfl TB rfl bT hu hr (LamX.lamS_by rfl) rfl (fun _ _ _ _ _ => rfl) (fun _ _ _ _ _ _ _ hr => (e_call h_plain_text rfl hr (by decide) tk_lam (a_cons (e_clo 1 h__law_pick rfl hr (by decide) tk_lam (a_cons (e_var 6) a_nil)) a_nil)))) (a_cons (e_ref (k := 98) (RF0 _ rfl rfl) rfl XC.bx rfl TB rfl bT hu hr (LamX.lamS_by rfl) rfl (fun _ _ _ _ _ => rfl) (fun _ _ _ _ _ _ _ hr => (e_call h_flaw rfl hr (by decide) tk_lam (a_cons (e_clo 1 h__law_pick rfl hr (by decide) tk_lam (a_cons (e_var 6) a_nil)) a_nil)))) a_nil))) (e_lst (k := 0) (a_cons e_str (a_cons e_str a_nil)))))))))
end
end K03
end
section
set_option Elab.async false
set_option linter.all false
set_option maxRecDepth 100000
set_option maxHeartbeats 4000000
open PySem (Str)
open Fe
namespace Fp
def g_is_whole (v_value v_low v_high : D) : Ms Unit D :=
    (andV (cmp1 (dIsi "int") (Fe.ret v_value)) (andV (notV (cmp1 (dIsi "bool") (Fe.ret v_value))) (chn dLe dLe (Fe.ret v_low) (Fe.ret v_value) (Fe.ret v_high))))
theorem lk_is_whole (v_value v_low v_high : D) : LeF (g_is_whole v_value v_low v_high ()) (run 3 3 (b_is_whole) [v_value, v_low, v_high]) :=
  run_sim () rfl (show SimT [.p v_value, .p v_low, .p v_high] (b_is_whole) (g_is_whole v_value v_low v_high) postF from
    (t_last (t_retF pf_rt (sm_andV (sm_cmp1 (sm_vr rfl)) (sm_andV (sm_notV (sm_cmp1 (sm_vr rfl))) (sm_chn (sm_vr rfl) (sm_vr rfl) (sm_vr rfl)))))))
theorem ok_is_whole {v_value v_low v_high d : D} (e : g_is_whole v_value v_low v_high = Fe.ret d) : f_is_whole [v_value, v_low, v_high] = .ok d := LeF.ok (s := ()) (lk_is_whole v_value v_low v_high) e
def g_are_whole (v_value v_low v_high : D) : Ms Unit D :=
    (andV (cmp1 (dIsi "tuple") (Fe.ret v_value)) (op1 dAll (lcP (itmA (Fe.ret v_value)) (fun v_own => (it1 (cl Fp.f_is_whole (consA (Fe.ret v_own) (consA (Fe.ret v_low) (consA (Fe.ret v_high) nilA)))))))))
theorem lk_are_whole (v_value v_low v_high : D) : LeF (g_are_whole v_value v_low v_high ()) (run 3 4 (b_are_whole) [v_value, v_low, v_high]) :=
  run_sim () rfl (show SimT [.p v_value, .p v_low, .p v_high, .nown] (b_are_whole) (g_are_whole v_value v_low v_high) postF from
    (t_last (t_retF pf_rt (sm_andV (sm_cmp1 (sm_vr rfl)) (sm_op1 (sm_lc rfl (sm_itmA (sm_vr rfl)) (fun v_own => sg_name (sg_1 rfl (sm_cl (sm_consA (sm_vr rfl) (sm_consA (sm_vr rfl) (sm_consA (sm_vr rfl) sm_nilA))))))))))))
theorem ok_are_whole {v_value v_low v_high d : D} (e : g_are_whole v_value v_low v_high = Fe.ret d) : f_are_whole [v_value, v_low, v_high] = .ok d := LeF.ok (s := ()) (lk_are_whole v_value v_low v_high) e
def g_is_rising (v_value v_low v_high : D) : Ms Unit D :=
    (andV (cl Fp.f_are_whole (consA (Fe.ret v_value) (consA (Fe.ret v_low) (consA (Fe.ret v_high) nilA)))) (cmp dEq (op1 dList (Fe.ret v_value)) (op1 dSortSet2 (Fe.ret v_value))))
theorem lk_is_rising (v_value v_low v_high : D) : LeF (g_is_rising v_value v_low v_high ()) (run 3 3 (b_is_rising) [v_value, v_low, v_high]) :=
  run_sim () rfl (show SimT [.p v_value, .p v_low, .p v_high] (b_is_rising) (g_is_rising v_value v_low v_high) postF from
    (t_last (t_retF pf_rt (sm_andV (sm_cl (sm_consA (sm_vr rfl) (sm_consA (sm_vr rfl) (sm_consA (sm_vr rfl) sm_nilA)))) (sm_cmp (sm_op1 (sm_vr rfl)) (sm_op1 (sm_vr rfl)))))))
theorem ok_is_rising {v_value v_low v_high d : D} (e : g_is_rising v_value v_low v_high = Fe.ret d) : f_is_rising [v_value, v_low, v_high] = .ok d := LeF.ok (s := ()) (lk_is_rising v_value v_low v_high) e
def g_is_clash (v_value v_things : D) : Ms Unit D :=
    (ifC (orT (notT (tst (cl Fp.f_are_whole (consA (Fe.ret v_value) (consA (Fe.ret (.int (-1))) (consA (op2 dSub (Fe.ret v_things) (Fe.ret (.int 1))) nilA)))))) (tsb (cmp dNe (op1 dLen (Fe.ret v_value)) (Fe.ret (.int 3))))) (Fe.ret (.bl false))
    (andV (chn dLe dLt (Fe.ret (.int 0)) (op2 dIxA (Fe.ret v_value) (Fe.ret (.int 0))) (op2 dIxA (Fe.ret v_value) (Fe.ret (.int 1)))) (cmp dNotInA (op2 dIxA (Fe.ret v_value) (Fe.ret (.int 2))) (slc (Fe.ret v_value) noP (part (Fe.ret (.int 2)))))))
theorem lk_is_clash (v_value v_things : D) : LeF (g_is_clash v_value v_things ()) (run 2 2 (b_is_clash) [v_value, v_things]) :=
  run_sim () rfl (show SimT [.p v_value, .p v_things] (b_is_clash) (g_is_clash v_value v_things) postF from
    (t_ifd (sm_orT (sm_notT (sm_tst (sm_cl (sm_consA (sm_vr rfl) (sm_consA sm_ret (sm_consA (sm_op2 (sm_vr rfl) sm_ret) sm_nilA)))))) (sm_tsb (sm_cmp (sm_op1 (sm_vr rfl)) sm_ret))) (t_retF pf_rt sm_ret) (t_skip (t_last (t_retF pf_rt (sm_andV (sm_chn sm_ret (sm_op2 (sm_vr rfl) sm_ret) (sm_op2 (sm_vr rfl) sm_ret)) (sm_cmp (sm_op2 (sm_vr rfl) sm_ret) (sm_slc (sm_vr rfl) sm_noP (sm_part sm_ret)))))))))
theorem ok_is_clash {v_value v_things d : D} (e : g_is_clash v_value v_things = Fe.ret d) : f_is_clash [v_value, v_things] = .ok d := LeF.ok (s := ()) (lk_is_clash v_value v_things) e
def g_are_clashes (v_value v_things : D) : Ms Unit D :=
    (ifC (orT (notT (tst (cmp1 (dIsi "tuple") (Fe.ret v_value)))) (tsb (cmp dGt (op1 dLen (Fe.ret v_value)) (Fe.ret (.int 40))))) (Fe.ret (.bl false))
    (andV (op1 dAll (lcP (itmA (Fe.ret v_value)) (fun v_own => (it1 (cl Fp.f_is_clash (consA (Fe.ret v_own) (consA (Fe.ret v_things) nilA))))))) (cmp dEq (op1 dList (Fe.ret v_value)) (op1 dSortSet2 (Fe.ret v_value)))))
theorem lk_are_clashes (v_value v_things : D) : LeF (g_are_clashes v_value v_things ()) (run 2 3 (b_are_clashes) [v_value, v_things]) :=
  run_sim () rfl (show SimT [.p v_value, .p v_things, .nown] (b_are_clashes) (g_are_clashes v_value v_things) postF from
    (t_ifd (sm_orT (sm_notT (sm_tst (sm_cmp1 (sm_vr rfl)))) (sm_tsb (sm_cmp (sm_op1 (sm_vr rfl)) sm_ret))) (t_retF pf_rt sm_ret) (t_skip (t_last (t_retF pf_rt (sm_andV (sm_op1 (sm_lc rfl (sm_itmA (sm_vr rfl)) (fun v_own => sg_name (sg_1 rfl (sm_cl (sm_consA (sm_vr rfl) (sm_consA (sm_vr rfl) sm_nilA))))))) (sm_cmp (sm_op1 (sm_vr rfl)) (sm_op1 (sm_vr rfl)))))))))
theorem ok_are_clashes {v_value v_things d : D} (e : g_are_clashes v_value v_things = Fe.ret d) : f_are_clashes [v_value, v_things] = .ok d := LeF.ok (s := ()) (lk_are_clashes v_value v_things) e
def g_are_links (v_value v_places : D) : Ms Unit D :=
    (ifC (orT (notT (tst (cmp1 (dIsi "tuple") (Fe.ret v_value)))) (notT (tst (Fe.ret v_value)))) (Fe.ret (.bl false))
    (ifC (notT (tst (op1 dAll (lcP (itmA (Fe.ret v_value)) (fun v_own => (it1 (andV (cl Fp.f_are_whole (consA (Fe.ret v_own) (consA (Fe.ret (.int 0)) (consA (op2 dSub (Fe.ret v_places) (Fe.ret (.int 1))) nilA)))) (andV (cmp dEq (op1 dLen (Fe.ret v_own)) (Fe.ret (.int 2))) (cmp dLt (op2 dIxA (Fe.ret v_own) (Fe.ret (.int 0))) (op2 dIxA (Fe.ret v_own) (Fe.ret (.int 1)))))))))))) (Fe.ret (.bl false))
    (cmp dEq (op1 dList (Fe.ret v_value)) (op1 dSortSet2 (Fe.ret v_value)))))
theorem lk_are_links (v_value v_places : D) : LeF (g_are_links v_value v_places ()) (run 2 3 (b_are_links) [v_value, v_places]) :=
  run_sim () rfl (show SimT [.p v_value, .p v_places, .nown] (b_are_links) (g_are_links v_value v_places) postF from
    (t_ifd (sm_orT (sm_notT (sm_tst (sm_cmp1 (sm_vr rfl)))) (sm_notT (sm_tst (sm_vr rfl)))) (t_retF pf_rt sm_ret) (t_skip (t_ifd (sm_notT (sm_tst (sm_op1 (sm_lc rfl (sm_itmA (sm_vr rfl)) (fun v_own => sg_name (sg_1 rfl (sm_andV (sm_cl (sm_consA (sm_vr rfl) (sm_consA sm_ret (sm_consA (sm_op2 (sm_vr rfl) sm_ret) sm_nilA)))) (sm_andV (sm_cmp (sm_op1 (sm_vr rfl)) sm_ret) (sm_cmp (sm_op2 (sm_vr rfl) sm_ret) (sm_op2 (sm_vr rfl) sm_ret)))))))))) (t_retF pf_rt sm_ret) (t_skip (t_last (t_retF pf_rt (sm_cmp (sm_op1 (sm_vr rfl)) (sm_op1 (sm_vr rfl))))))))))
theorem ok_are_links {v_value v_places d : D} (e : g_are_links v_value v_places = Fe.ret d) : f_are_links [v_value, v_places] = .ok d := LeF.ok (s := ()) (lk_are_links v_value v_places) e
def g_is_boat (v_value : D) : Ms Unit D :=
    (ifC (orT (notT (tst (cl Fp.f_are_whole (consA (Fe.ret v_value) (consA (Fe.ret (.int 1)) (consA (Fe.ret (.int 500)) nilA)))))) (tsb (cmp dNe (op1 dLen (Fe.ret v_value)) (Fe.ret (.int 2))))) (Fe.ret (.bl false))
    (cmp dLe (op2 dIxA (Fe.ret v_value) (Fe.ret (.int 0))) (Fe.ret (.int 10))))
theorem lk_is_boat (v_value : D) : LeF (g_is_boat v_value ()) (run 1 1 (b_is_boat) [v_value]) :=
  run_sim () rfl (show SimT [.p v_value] (b_is_boat) (g_is_boat v_value) postF from
    (t_ifd (sm_orT (sm_notT (sm_tst (sm_cl (sm_consA (sm_vr rfl) (sm_consA sm_ret (sm_consA sm_ret sm_nilA)))))) (sm_tsb (sm_cmp (sm_op1 (sm_vr rfl)) sm_ret))) (t_retF pf_rt sm_ret) (t_skip (t_last (t_retF pf_rt (sm_cmp (sm_op2 (sm_vr rfl) sm_ret) sm_ret))))))
theorem ok_is_boat {v_value d : D} (e : g_is_boat v_value = Fe.ret d) : f_is_boat [v_value] = .ok d := LeF.ok (s := ()) (lk_is_boat v_value) e
def g_power (v_one v_many : D) : Ms Unit D :=
    (bnd (Fe.ret (.int 1)) fun v_found =>
    (bnd (rg1 (Fe.ret v_many)) fun l => bnd (forN (τ := D) (fun v_turn t1 => (bnd (op2 dMul (Fe.ret t1) (Fe.ret v_one)) fun v_found =>
    (Fe.ret v_found))) l v_found) fun t1 =>
    (Fe.ret t1)))
theorem lk_power (v_one v_many : D) : LeF (g_power v_one v_many ()) (run 2 4 (b_power) [v_one, v_many]) :=
  run_sim () rfl (show SimT [.p v_one, .p v_many, .nown, .nown] (b_power) (g_power v_one v_many) postF from
    (t_asg sm_ret fun v_found => (t_for (KL := (fun (t1 : D) => [.p v_one, .p v_many, .p t1, .nown])) (sm_rg1 (sm_vr rfl)) (by repeat' constructor) (fun v_turn t1 => (t_tgt (t_last (t_asg (sm_op2 (sm_vr rfl) (sm_vr rfl)) fun v_found => (t_end (pn_nx (by repeat' constructor))))))) fun t1 => (t_last (t_retF pf_rt (sm_vr rfl))))))
theorem ok_power {v_one v_many d : D} (e : g_power v_one v_many = Fe.ret d) : f_power [v_one, v_many] = .ok d := LeF.ok (s := ()) (lk_power v_one v_many) e
def g_is_world (v_value : D) : Ms Unit D :=
    (ifC (orT (notT (tst (cmp1 (dIsi "tuple") (Fe.ret v_value)))) (tsb (cmp dNe (op1 dLen (Fe.ret v_value)) (Fe.ret (.int 7))))) (Fe.ret (.bl false))
    (bnd (Fe.ret v_value) (fun w => un7 w fun v_things v_places v_rowers v_weights v_clashes v_links v_boats => (ifC (orT (notT (tst (cl Fp.f_is_whole (consA (Fe.ret v_things) (consA (Fe.ret (.int 1)) (consA (Fe.ret (.int 10)) nilA)))))) (notT (tst (cl Fp.f_is_whole (consA (Fe.ret v_places) (consA (Fe.ret (.int 2)) (consA (Fe.ret (.int 4)) nilA))))))) (Fe.ret (.bl false))
    (ifC (orT (notT (tst (cl Fp.f_is_rising (consA (Fe.ret v_rowers) (consA (Fe.ret (.int 0)) (consA (op2 dSub (Fe.ret v_things) (Fe.ret (.int 1))) nilA)))))) (notT (tst (Fe.ret v_rowers)))) (Fe.ret (.bl false))
    (ifC (orT (notT (tst (cl Fp.f_are_whole (consA (Fe.ret v_weights) (consA (Fe.ret (.int 1)) (consA (Fe.ret (.int 50)) nilA)))))) (tsb (cmp dNe (op1 dLen (Fe.ret v_weights)) (Fe.ret v_things)))) (Fe.ret (.bl false))
    (ifC (orT (notT (tst (cl Fp.f_are_clashes (consA (Fe.ret v_clashes) (consA (Fe.ret v_things) nilA))))) (notT (tst (cl Fp.f_are_links (consA (Fe.ret v_links) (consA (Fe.ret v_places) nilA)))))) (Fe.ret (.bl false))
    (ifC (orT (notT (tst (cmp1 (dIsi "tuple") (Fe.ret v_boats)))) (orT (notT (tsb (chn dLe dLe (Fe.ret (.int 1)) (op1 dLen (Fe.ret v_boats)) (Fe.ret (.int 3))))) (notT (tst (op1 dAll (lcP (itmA (Fe.ret v_boats)) (fun v_own => (it1 (cl Fp.f_is_boat (consA (Fe.ret v_own) nilA)))))))))) (Fe.ret (.bl false))
    (cmp dLe (cl Fp.f_power (consA (Fe.ret v_places) (consA (op2 dAdd (Fe.ret v_things) (op1 dLen (Fe.ret v_boats))) nilA))) (Fe.ret (.int 9000)))))))))))
theorem lk_is_world (v_value : D) : LeF (g_is_world v_value ()) (run 1 9 (b_is_world) [v_value]) :=
  run_sim () rfl (show SimT [.p v_value, .nown, .nown, .nown, .nown, .nown, .nown, .nown, .nown] (b_is_world) (g_is_world v_value) postF from
    (t_ifd (sm_orT (sm_notT (sm_tst (sm_cmp1 (sm_vr rfl)))) (sm_tsb (sm_cmp (sm_op1 (sm_vr rfl)) sm_ret))) (t_retF pf_rt sm_ret) (t_skip (t_asgT (sm_vr rfl) (fun w => t_un7 fun v_things v_places v_rowers v_weights v_clashes v_links v_boats => (t_ifd (sm_orT (sm_notT (sm_tst (sm_cl (sm_consA (sm_vr rfl) (sm_consA sm_ret (sm_consA sm_ret sm_nilA)))))) (sm_notT (sm_tst (sm_cl (sm_consA (sm_vr rfl) (sm_consA sm_ret (sm_consA sm_ret sm_nilA))))))) (t_retF pf_rt sm_ret) (t_skip (t_ifd (sm_orT (sm_notT (sm_tst (sm_cl (sm_consA (sm_vr rfl) (sm_consA sm_ret (sm_consA (sm_op2 (sm_vr rfl) sm_ret) sm_nilA)))))) (sm_notT (sm_tst (sm_vr rfl)))) (t_retF pf_rt sm_ret) (t_skip (t_ifd (sm_orT (sm_notT (sm_tst (sm_cl (sm_consA (sm_vr rfl) (sm_consA sm_ret (sm_consA sm_ret sm_nilA)))))) (sm_tsb (sm_cmp (sm_op1 (sm_vr rfl)) (sm_vr rfl)))) (t_retF pf_rt sm_ret) (t_skip (t_ifd (sm_orT (sm_notT (sm_tst (sm_cl (sm_consA (sm_vr rfl) (sm_consA (sm_vr rfl) sm_nilA))))) (sm_notT (sm_tst (sm_cl (sm_consA (sm_vr rfl) (sm_consA (sm_vr rfl) sm_nilA)))))) (t_retF pf_rt sm_ret) (t_skip (t_ifd (sm_orT (sm_notT (sm_tst (sm_cmp1 (sm_vr rfl)))) (sm_orT (sm_notT (sm_tsb (sm_chn sm_ret (sm_op1 (sm_vr rfl)) sm_ret))) (sm_notT (sm_tst (sm_op1 (sm_lc rfl (sm_itmA (sm_vr rfl)) (fun v_own => sg_name (sg_1 rfl (sm_cl (sm_consA (sm_vr rfl) sm_nilA)))))))))) (t_retF pf_rt sm_ret) (t_skip (t_last (t_retF pf_rt (sm_cmp (sm_cl (sm_consA (sm_vr rfl) (sm_consA (sm_op2 (sm_vr rfl) (sm_op1 (sm_vr rfl))) sm_nilA))) sm_ret))))))))))))))))))
theorem ok_is_world {v_value d : D} (e : g_is_world v_value = Fe.ret d) : f_is_world [v_value] = .ok d := LeF.ok (s := ()) (lk_is_world v_value) e
def g_is_state (v_world v_value : D) : Ms Unit D :=
    (ifC (orT (notT (tst (cmp1 (dIsi "tuple") (Fe.ret v_value)))) (tsb (cmp dNe (op1 dLen (Fe.ret v_value)) (Fe.ret (.int 2))))) (Fe.ret (.bl false))
    (ifC (orT (notT (tst (cl Fp.f_are_whole (consA (op2 dIxA (Fe.ret v_value) (Fe.ret (.int 0))) (consA (Fe.ret (.int 0)) (consA (op2 dSub (op2 dIxA (Fe.ret v_world) (Fe.ret (.int 1))) (Fe.ret (.int 1))) nilA)))))) (notT (tst (cl Fp.f_are_whole (consA (op2 dIxA (Fe.ret v_value) (Fe.ret (.int 1))) (consA (Fe.ret (.int 0)) (consA (op2 dSub (op2 dIxA (Fe.ret v_world) (Fe.ret (.int 1))) (Fe.ret (.int 1))) nilA))))))) (Fe.ret (.bl false))
    (andV (cmp dEq (op1 dLen (op2 dIxA (Fe.ret v_value) (Fe.ret (.int 0)))) (op2 dIxA (Fe.ret v_world) (Fe.ret (.int 0)))) (cmp dEq (op1 dLen (op2 dIxA (Fe.ret v_value) (Fe.ret (.int 1)))) (op1 dLen (op2 dIxA (Fe.ret v_world) (Fe.ret (.int 6))))))))
theorem lk_is_state (v_world v_value : D) : LeF (g_is_state v_world v_value ()) (run 2 2 (b_is_state) [v_world, v_value]) :=
  run_sim () rfl (show SimT [.p v_world, .p v_value] (b_is_state) (g_is_state v_world v_value) postF from
    (t_ifd (sm_orT (sm_notT (sm_tst (sm_cmp1 (sm_vr rfl)))) (sm_tsb (sm_cmp (sm_op1 (sm_vr rfl)) sm_ret))) (t_retF pf_rt sm_ret) (t_skip (t_ifd (sm_orT (sm_notT (sm_tst (sm_cl (sm_consA (sm_op2 (sm_vr rfl) sm_ret) (sm_consA sm_ret (sm_consA (sm_op2 (sm_op2 (sm_vr rfl) sm_ret) sm_ret) sm_nilA)))))) (sm_notT (sm_tst (sm_cl (sm_consA (sm_op2 (sm_vr rfl) sm_ret) (sm_consA sm_ret (sm_consA (sm_op2 (sm_op2 (sm_vr rfl) sm_ret) sm_ret) sm_nilA))))))) (t_retF pf_rt sm_ret) (t_skip (t_last (t_retF pf_rt (sm_andV (sm_cmp (sm_op1 (sm_op2 (sm_vr rfl) sm_ret)) (sm_op2 (sm_vr rfl) sm_ret)) (sm_cmp (sm_op1 (sm_op2 (sm_vr rfl) sm_ret)) (sm_op1 (sm_op2 (sm_vr rfl) sm_ret)))))))))))
theorem ok_is_state {v_world v_value d : D} (e : g_is_state v_world v_value = Fe.ret d) : f_is_state [v_world, v_value] = .ok d := LeF.ok (s := ()) (lk_is_state v_world v_value) e
def g_need (v_is_right v_name : D) : Ms Unit D :=
    (ifC (notT (tst (Fe.ret v_is_right))) (rse "BadArgument" ["name"] (consA (Fe.ret v_name) nilA))
    (Fe.ret .non))
theorem lk_need (v_is_right v_name : D) : LeF (g_need v_is_right v_name ()) (run 2 2 (b_need) [v_is_right, v_name]) :=
  run_sim () rfl (show SimT [.p v_is_right, .p v_name] (b_need) (g_need v_is_right v_name) postF from
    (t_last (t_ifd (sm_notT (sm_tst (sm_vr rfl))) (t_rse (sm_consA (sm_vr rfl) sm_nilA)) (t_skip (t_end pf_nx)))))
theorem ok_need {v_is_right v_name d : D} (e : g_need v_is_right v_name = Fe.ret d) : f_need [v_is_right, v_name] = .ok d := LeF.ok (s := ()) (lk_need v_is_right v_name) e
theorem ex_need {v_is_right v_name : D} {x : Ex} (e : g_need v_is_right v_name = raise x) : f_need [v_is_right, v_name] = .ex x := LeF.ex (s := ()) (lk_need v_is_right v_name) e
def g_need_world (v_value v_name : D) : Ms Unit D :=
    (bnd (cl Fp.f_need (consA (cl Fp.f_is_world (consA (Fe.ret v_value) nilA)) (consA (Fe.ret v_name) nilA))) fun _ =>
    (Fe.ret .non))
theorem lk_need_world (v_value v_name : D) : LeF (g_need_world v_value v_name ()) (run 2 2 (b_need_world) [v_value, v_name]) :=
  run_sim () rfl (show SimT [.p v_value, .p v_name] (b_need_world) (g_need_world v_value v_name) postF from
    (t_last (t_drp (sm_cl (sm_consA (sm_cl (sm_consA (sm_vr rfl) sm_nilA)) (sm_consA (sm_vr rfl) sm_nilA))) (t_end pf_nx))))
theorem ok_need_world {v_value v_name d : D} (e : g_need_world v_value v_name = Fe.ret d) : f_need_world [v_value, v_name] = .ok d := LeF.ok (s := ()) (lk_need_world v_value v_name) e
def g_need_state (v_world v_value v_name : D) : Ms Unit D :=
    (bnd (cl Fp.f_need (consA (cl Fp.f_is_state (consA (Fe.ret v_world) (consA (Fe.ret v_value) nilA))) (consA (Fe.ret v_name) nilA))) fun _ =>
    (Fe.ret .non))
theorem lk_need_state (v_world v_value v_name : D) : LeF (g_need_state v_world v_value v_name ()) (run 3 3 (b_need_state) [v_world, v_value, v_name]) :=
  run_sim () rfl (show SimT [.p v_world, .p v_value, .p v_name] (b_need_state) (g_need_state v_world v_value v_name) postF from
    (t_last (t_drp (sm_cl (sm_consA (sm_cl (sm_consA (sm_vr rfl) (sm_consA (sm_vr rfl) sm_nilA))) (sm_consA (sm_vr rfl) sm_nilA))) (t_end pf_nx))))
theorem ok_need_state {v_world v_value v_name d : D} (e : g_need_state v_world v_value v_name = Fe.ret d) : f_need_state [v_world, v_value, v_name] = .ok d := LeF.ok (s := ()) (lk_need_state v_world v_value v_name) e
def g_rows_of (v_places v_many : D) : Ms Unit D :=
    (bnd (lstE (consA (tupE nilA) nilA)) fun v_found =>
    (bnd (rg1 (Fe.ret v_many)) fun l => bnd (forN (τ := D) (fun v_turn t1 => (bnd (lstE nilA) fun v_longer =>
    (bnd (itmA (Fe.ret t1)) fun l => bnd (forN (τ := D) (fun v_own t2 => (bnd (extP t2 (lcP (rg1 (Fe.ret v_places)) (fun v_place => (it1 (op2 dAdd (Fe.ret v_own) (tupE (consA (Fe.ret v_place) nilA))))))) fun v_longer =>
    (Fe.ret v_longer))) l v_longer) fun t2 =>
    (bnd (Fe.ret t2) fun v_found =>
    (Fe.ret v_found))))) l v_found) fun t1 =>
    (Fe.ret t1)))
theorem lk_rows_of (v_places v_many : D) : LeF (g_rows_of v_places v_many ()) (run 2 7 (b_rows_of) [v_places, v_many]) :=
  run_sim () rfl (show SimT [.p v_places, .p v_many, .nown, .nown, .nown, .nown, .nown] (b_rows_of) (g_rows_of v_places v_many) postF from
    (t_asg (sm_lstE (sm_consA (sm_tupE sm_nilA) sm_nilA)) fun v_found => (t_for (KL := (fun (t1 : D) => [.p v_places, .p v_many, .p t1, .nown, .junk, .nown, .nown])) (sm_rg1 (sm_vr rfl)) (by repeat' constructor) (fun v_turn t1 => (t_tgt (t_new (sm_lstE sm_nilA) fun v_longer => (t_for (KL := (fun (t2 : D) => [.p v_places, .p v_many, .p t1, .p v_turn, .oc t2, .nown, .nown])) (sm_itmA (sm_vr rfl)) (by repeat' constructor) (fun v_own t2 => (t_tgt (t_last (t_ext rfl (sm_lc rfl (sm_rg1 (sm_vr rfl)) (fun v_place => sg_name (sg_1 rfl (sm_op2 (sm_vr rfl) (sm_tupE (sm_consA (sm_vr rfl) sm_nilA)))))) fun v_longer => (t_end (pn_nx (by repeat' constructor))))))) fun t2 => (t_frz rfl (t_last (t_asg (sm_vr rfl) fun v_found => (t_end (pn_nx (by repeat' constructor)))))))))) fun t1 => (t_last (t_retF pf_rt (sm_vr rfl))))))
theorem ok_rows_of {v_places v_many d : D} (e : g_rows_of v_places v_many = Fe.ret d) : f_rows_of [v_places, v_many] = .ok d := LeF.ok (s := ()) (lk_rows_of v_places v_many) e
def g_all_states (v_world : D) : Ms Unit D :=
    (bnd (op2 dIxA (Fe.ret v_world) (Fe.ret (.int 0))) fun u1 => bnd (op2 dIxA (Fe.ret v_world) (Fe.ret (.int 1))) fun u2 => bnd (op1 dLen (op2 dIxA (Fe.ret v_world) (Fe.ret (.int 6)))) fun u3 => (fun v_things v_places v_boats =>
    (bnd (cl Fp.f_rows_of (consA (Fe.ret v_places) (consA (Fe.ret v_things) nilA))) fun v_rows =>
    (bnd (cl Fp.f_rows_of (consA (Fe.ret v_places) (consA (Fe.ret v_boats) nilA))) fun v_ends =>
    (bnd (lstE nilA) fun v_found =>
    (bnd (itmA (Fe.ret v_rows)) fun l => bnd (forN (τ := D) (fun v_own t1 => (bnd (extP t1 (lcP (itmA (Fe.ret v_ends)) (fun v_end => (it1 (tupE (consA (Fe.ret v_own) (consA (Fe.ret v_end) nilA))))))) fun v_found =>
    (Fe.ret v_found))) l v_found) fun t1 =>
    (Fe.ret t1)))))) u1 u2 u3)
theorem lk_all_states (v_world : D) : LeF (g_all_states v_world ()) (run 1 9 (b_all_states) [v_world]) :=
  run_sim () rfl (show SimT [.p v_world, .nown, .nown, .nown, .nown, .nown, .nown, .nown, .nown] (b_all_states) (g_all_states v_world) postF from
    (t_par3 (sm_op2 (sm_vr rfl) sm_ret) (sm_op2 (sm_vr rfl) sm_ret) (sm_op1 (sm_op2 (sm_vr rfl) sm_ret)) fun v_things v_places v_boats => (t_asg (sm_cl (sm_consA (sm_vr rfl) (sm_consA (sm_vr rfl) sm_nilA))) fun v_rows => (t_asg (sm_cl (sm_consA (sm_vr rfl) (sm_consA (sm_vr rfl) sm_nilA))) fun v_ends => (t_new (sm_lstE sm_nilA) fun v_found => (t_for (KL := (fun (t1 : D) => [.p v_world, .p v_things, .p v_places, .p v_boats, .p v_rows, .p v_ends, .oc t1, .nown, .nown])) (sm_itmA (sm_vr rfl)) (by repeat' constructor) (fun v_own t1 => (t_tgt (t_last (t_ext rfl (sm_lc rfl (sm_itmA (sm_vr rfl)) (fun v_end => sg_name (sg_1 rfl (sm_tupE (sm_consA (sm_vr rfl) (sm_consA (sm_vr rfl) sm_nilA)))))) fun v_found => (t_end (pn_nx (by repeat' constructor))))))) fun t1 => (t_frz rfl (t_last (t_retF pf_rt (sm_vr rfl))))))))))
theorem ok_all_states {v_world d : D} (e : g_all_states v_world = Fe.ret d) : f_all_states [v_world] = .ok d := LeF.ok (s := ()) (lk_all_states v_world) e
def g_is_open (v_clash v_company : D) : Ms Unit D :=
    (bnd (Fe.ret v_clash) (fun w => un3 w fun v_one v_other v_keeper => (andV (cmp dInA (Fe.ret v_one) (Fe.ret v_company)) (andV (cmp dInA (Fe.ret v_other) (Fe.ret v_company)) (orV (cmp dEq (Fe.ret v_keeper) (Fe.ret (.int (-1)))) (cmp dNotInA (Fe.ret v_keeper) (Fe.ret v_company)))))))
theorem lk_is_open (v_clash v_company : D) : LeF (g_is_open v_clash v_company ()) (run 2 5 (b_is_open) [v_clash, v_company]) :=
  run_sim () rfl (show SimT [.p v_clash, .p v_company, .nown, .nown, .nown] (b_is_open) (g_is_open v_clash v_company) postF from
    (t_asgT (sm_vr rfl) (fun w => t_un3 fun v_one v_other v_keeper => (t_last (t_retF pf_rt (sm_andV (sm_cmp (sm_vr rfl) (sm_vr rfl)) (sm_andV (sm_cmp (sm_vr rfl) (sm_vr rfl)) (sm_orV (sm_cmp (sm_vr rfl) sm_ret) (sm_cmp (sm_vr rfl) (sm_vr rfl))))))))))
theorem ok_is_open {v_clash v_company d : D} (e : g_is_open v_clash v_company = Fe.ret d) : f_is_open [v_clash, v_company] = .ok d := LeF.ok (s := ()) (lk_is_open v_clash v_company) e
def g_is_quiet (v_world v_company : D) : Ms Unit D :=
    (notV (op1 dAny (lcP (itmA (op2 dIxA (Fe.ret v_world) (Fe.ret (.int 4)))) (fun v_own => (it1 (cl Fp.f_is_open (consA (Fe.ret v_own) (consA (Fe.ret v_company) nilA))))))))
theorem lk_is_quiet (v_world v_company : D) : LeF (g_is_quiet v_world v_company ()) (run 2 3 (b_is_quiet) [v_world, v_company]) :=
  run_sim () rfl (show SimT [.p v_world, .p v_company, .nown] (b_is_quiet) (g_is_quiet v_world v_company) postF from
    (t_last (t_retF pf_rt (sm_notV (sm_op1 (sm_lc rfl (sm_itmA (sm_op2 (sm_vr rfl) sm_ret)) (fun v_own => sg_name (sg_1 rfl (sm_cl (sm_consA (sm_vr rfl) (sm_consA (sm_vr rfl) sm_nilA)))))))))))
theorem ok_is_quiet {v_world v_company d : D} (e : g_is_quiet v_world v_company = Fe.ret d) : f_is_quiet [v_world, v_company] = .ok d := LeF.ok (s := ()) (lk_is_quiet v_world v_company) e
def g_company_at (v_state v_place : D) : Ms Unit D :=
    (op1 dTuple (lcP (itmE (op2 dIxA (Fe.ret v_state) (Fe.ret (.int 0)))) (fun w => un2 w fun v_at v_own => (itP (tsb (cmp dEq (Fe.ret v_own) (Fe.ret v_place))) (Fe.ret v_at)))))
theorem lk_company_at (v_state v_place : D) : LeF (g_company_at v_state v_place ()) (run 2 4 (b_company_at) [v_state, v_place]) :=
  run_sim () rfl (show SimT [.p v_state, .p v_place, .nown, .nown] (b_company_at) (g_company_at v_state v_place) postF from
    (t_last (t_retF pf_rt (sm_op1 (sm_lc rfl (sm_itmE (sm_op2 (sm_vr rfl) sm_ret)) (fun w => sg_un2 fun v_at v_own => (sg_it rfl (sm_tsb (sm_cmp (sm_vr rfl) (sm_vr rfl))) (sm_vr rfl))))))))
theorem ok_company_at {v_state v_place d : D} (e : g_company_at v_state v_place = Fe.ret d) : f_company_at [v_state, v_place] = .ok d := LeF.ok (s := ()) (lk_company_at v_state v_place) e
def g_is_calm_in (v_world v_state : D) : Ms Unit D :=
    (op1 dAll (lcP (rg1 (op2 dIxA (Fe.ret v_world) (Fe.ret (.int 1)))) (fun v_place => (it1 (cl Fp.f_is_quiet (consA (Fe.ret v_world) (consA (cl Fp.f_company_at (consA (Fe.ret v_state) (consA (Fe.ret v_place) nilA))) nilA)))))))
theorem lk_is_calm_in (v_world v_state : D) : LeF (g_is_calm_in v_world v_state ()) (run 2 3 (b_is_calm_in) [v_world, v_state]) :=
  run_sim () rfl (show SimT [.p v_world, .p v_state, .nown] (b_is_calm_in) (g_is_calm_in v_world v_state) postF from
    (t_last (t_retF pf_rt (sm_op1 (sm_lc rfl (sm_rg1 (sm_op2 (sm_vr rfl) sm_ret)) (fun v_place => sg_name (sg_1 rfl (sm_cl (sm_consA (sm_vr rfl) (sm_consA (sm_cl (sm_consA (sm_vr rfl) (sm_consA (sm_vr rfl) sm_nilA))) sm_nilA))))))))))
theorem ok_is_calm_in {v_world v_state d : D} (e : g_is_calm_in v_world v_state = Fe.ret d) : f_is_calm_in [v_world, v_state] = .ok d := LeF.ok (s := ()) (lk_is_calm_in v_world v_state) e
def g_open_clashes (v_world v_company : D) : Ms Unit D :=
    (bnd (cl Fp.f_need_world (consA (Fe.ret v_world) (consA (Fe.ret (.str "world")) nilA))) fun _ =>
    (bnd (cl Fp.f_need (consA (cl Fp.f_is_rising (consA (Fe.ret v_company) (consA (Fe.ret (.int 0)) (consA (op2 dSub (op2 dIxA (Fe.ret v_world) (Fe.ret (.int 0))) (Fe.ret (.int 1))) nilA)))) (consA (Fe.ret (.str "company")) nilA))) fun _ =>
    (op1 dTuple (lcP (itmA (op2 dIxA (Fe.ret v_world) (Fe.ret (.int 4)))) (fun v_own => (itP (tst (cl Fp.f_is_open (consA (Fe.ret v_own) (consA (Fe.ret v_company) nilA)))) (Fe.ret v_own)))))))
theorem lk_open_clashes (v_world v_company : D) : LeF (g_open_clashes v_world v_company ()) (run 2 3 (b_open_clashes) [v_world, v_company]) :=
  run_sim () rfl (show SimT [.p v_world, .p v_company, .nown] (b_open_clashes) (g_open_clashes v_world v_company) postF from
    (t_drp (sm_cl (sm_consA (sm_vr rfl) (sm_consA sm_ret sm_nilA))) (t_drp (sm_cl (sm_consA (sm_cl (sm_consA (sm_vr rfl) (sm_consA sm_ret (sm_consA (sm_op2 (sm_op2 (sm_vr rfl) sm_ret) sm_ret) sm_nilA)))) (sm_consA sm_ret sm_nilA))) (t_last (t_retF pf_rt (sm_op1 (sm_lc rfl (sm_itmA (sm_op2 (sm_vr rfl) sm_ret)) (fun v_own => sg_name (sg_it rfl (sm_tst (sm_cl (sm_consA (sm_vr rfl) (sm_consA (sm_vr rfl) sm_nilA)))) (sm_vr rfl))))))))))
theorem ok_open_clashes {v_world v_company d : D} (e : g_open_clashes v_world v_company = Fe.ret d) : f_open_clashes [v_world, v_company] = .ok d := LeF.ok (s := ()) (lk_open_clashes v_world v_company) e
def g_is_calm (v_world v_state : D) : Ms Unit D :=
    (bnd (cl Fp.f_need_world (consA (Fe.ret v_world) (consA (Fe.ret (.str "world")) nilA))) fun _ =>
    (bnd (cl Fp.f_need_state (consA (Fe.ret v_world) (consA (Fe.ret v_state) (consA (Fe.ret (.str "state")) nilA)))) fun _ =>
    (cl Fp.f_is_calm_in (consA (Fe.ret v_world) (consA (Fe.ret v_state) nilA)))))
theorem lk_is_calm (v_world v_state : D) : LeF (g_is_calm v_world v_state ()) (run 2 2 (b_is_calm) [v_world, v_state]) :=
  run_sim () rfl (show SimT [.p v_world, .p v_state] (b_is_calm) (g_is_calm v_world v_state) postF from
    (t_drp (sm_cl (sm_consA (sm_vr rfl) (sm_consA sm_ret sm_nilA))) (t_drp (sm_cl (sm_consA (sm_vr rfl) (sm_consA (sm_vr rfl) (sm_consA sm_ret sm_nilA)))) (t_last (t_retF pf_rt (sm_cl (sm_consA (sm_vr rfl) (sm_consA (sm_vr rfl) sm_nilA))))))))
theorem ok_is_calm {v_world v_state d : D} (e : g_is_calm v_world v_state = Fe.ret d) : f_is_calm [v_world, v_state] = .ok d := LeF.ok (s := ()) (lk_is_calm v_world v_state) e
def g_calm_places (v_world : D) : Ms Unit D :=
    (bnd (cl Fp.f_need_world (consA (Fe.ret v_world) (consA (Fe.ret (.str "world")) nilA))) fun _ =>
    (bnd (Fe.ret (.dct [] [])) fun v_found =>
    (bnd (itmA (cl Fp.f_all_states (consA (Fe.ret v_world) nilA))) fun l => bnd (forN (τ := D) (fun v_state t1 => (ifC (tsb (ninP t1 (op2 dIxA (Fe.ret v_state) (Fe.ret (.int 0))))) (bnd (setDP t1 (op2 dIxA (Fe.ret v_state) (Fe.ret (.int 0))) (cl Fp.f_is_calm_in (consA (Fe.ret v_world) (consA (Fe.ret v_state) nilA)))) fun v_found =>
    (Fe.ret v_found))
    (Fe.ret t1))) l v_found) fun t1 =>
    (op1 dTuple (lcP (itmA (Fe.ret t1)) (fun v_own => (itP (tst (op2 dIxA (Fe.ret t1) (Fe.ret v_own))) (Fe.ret v_own))))))))
theorem lk_calm_places (v_world : D) : LeF (g_calm_places v_world ()) (run 1 4 (b_calm_places) [v_world]) :=
  run_sim () rfl (show SimT [.p v_world, .nown, .nown, .nown] (b_calm_places) (g_calm_places v_world) postF from
    (t_drp (sm_cl (sm_consA (sm_vr rfl) (sm_consA sm_ret sm_nilA))) (t_new sm_ret fun v_found => (t_for (KL := (fun (t1 : D) => [.p v_world, .oc t1, .nown, .nown])) (sm_itmA (sm_cl (sm_consA (sm_vr rfl) sm_nilA))) (by repeat' constructor) (fun v_state t1 => (t_tgt (t_last (t_ifd (sm_tsb (sm_ninO rfl (sm_op2 (sm_vr rfl) sm_ret))) (t_setD rfl (sm_cl (sm_consA (sm_vr rfl) (sm_consA (sm_vr rfl) sm_nilA))) (sm_op2 (sm_vr rfl) sm_ret) fun v_found => (t_end (pn_nx (by repeat' constructor)))) (t_skip (t_end (pn_nx (by repeat' constructor)))))))) fun t1 => (t_frz rfl (t_last (t_retF pf_rt (sm_op1 (sm_lc rfl (sm_itmA (sm_vr rfl)) (fun v_own => sg_name (sg_it rfl (sm_tst (sm_op2 (sm_vr rfl) (sm_vr rfl))) (sm_vr rfl))))))))))))
theorem ok_calm_places {v_world d : D} (e : g_calm_places v_world = Fe.ret d) : f_calm_places [v_world] = .ok d := LeF.ok (s := ()) (lk_calm_places v_world) e
def g_choices (v_some : D) : Ms Unit D :=
    (bnd (lstE (consA (tupE nilA) nilA)) fun v_found =>
    (bnd (itmA (Fe.ret v_some)) fun l => bnd (forN (τ := D) (fun v_own t1 => (bnd (extP t1 (lcP (itmA (slcP t1 noP noP)) (fun v_row => (it1 (op2 dAdd (Fe.ret v_row) (tupE (consA (Fe.ret v_own) nilA))))))) fun v_found =>
    (Fe.ret v_found))) l v_found) fun t1 =>
    (slc (op1 dSorted (Fe.ret t1)) (part (Fe.ret (.int 1))) noP)))
theorem lk_choices (v_some : D) : LeF (g_choices v_some ()) (run 1 4 (b_choices) [v_some]) :=
  run_sim () rfl (show SimT [.p v_some, .nown, .nown, .nown] (b_choices) (g_choices v_some) postF from
    (t_new (sm_lstE (sm_consA (sm_tupE sm_nilA) sm_nilA)) fun v_found => (t_for (KL := (fun (t1 : D) => [.p v_some, .oc t1, .nown, .nown])) (sm_itmA (sm_vr rfl)) (by repeat' constructor) (fun v_own t1 => (t_tgt (t_last (t_ext rfl (sm_lc rfl (sm_itmA (sm_slcO rfl sm_noP sm_noP)) (fun v_row => sg_name (sg_1 rfl (sm_op2 (sm_vr rfl) (sm_tupE (sm_consA (sm_vr rfl) sm_nilA)))))) fun v_found => (t_end (pn_nx (by repeat' constructor))))))) fun t1 => (t_frz rfl (t_last (t_retF pf_rt (sm_slc (sm_op1 (sm_vr rfl)) (sm_part sm_ret) sm_noP)))))))
theorem ok_choices {v_some d : D} (e : g_choices v_some = Fe.ret d) : f_choices [v_some] = .ok d := LeF.ok (s := ()) (lk_choices v_some) e
def g_is_linked (v_world v_one v_other : D) : Ms Unit D :=
    (cmp dInA (tupE (consA (op2 dMin2 (Fe.ret v_one) (Fe.ret v_other)) (consA (op2 dMax2 (Fe.ret v_one) (Fe.ret v_other)) nilA))) (op2 dIxA (Fe.ret v_world) (Fe.ret (.int 5))))
theorem lk_is_linked (v_world v_one v_other : D) : LeF (g_is_linked v_world v_one v_other ()) (run 3 3 (b_is_linked) [v_world, v_one, v_other]) :=
  run_sim () rfl (show SimT [.p v_world, .p v_one, .p v_other] (b_is_linked) (g_is_linked v_world v_one v_other) postF from
    (t_last (t_retF pf_rt (sm_cmp (sm_tupE (sm_consA (sm_op2 (sm_vr rfl) (sm_vr rfl)) (sm_consA (sm_op2 (sm_vr rfl) (sm_vr rfl)) sm_nilA))) (sm_op2 (sm_vr rfl) sm_ret)))))
theorem ok_is_linked {v_world v_one v_other d : D} (e : g_is_linked v_world v_one v_other = Fe.ret d) : f_is_linked [v_world, v_one, v_other] = .ok d := LeF.ok (s := ()) (lk_is_linked v_world v_one v_other) e
def g_fits_boat (v_world v_boat v_things : D) : Ms Unit D :=
    (bnd (op2 dIxA (op2 dIxA (Fe.ret v_world) (Fe.ret (.int 6))) (Fe.ret v_boat)) (fun w => un2 w fun v_room v_load => (ifC (orT (tsb (cmp dGt (op1 dLen (Fe.ret v_things)) (Fe.ret v_room))) (tsb (cmp dGt (op1 dSum (lcP (itmA (Fe.ret v_things)) (fun v_own => (it1 (op2 dIxA (op2 dIxA (Fe.ret v_world) (Fe.ret (.int 3))) (Fe.ret v_own)))))) (Fe.ret v_load)))) (Fe.ret (.bl false))
    (op1 dAny (lcP (itmA (Fe.ret v_things)) (fun v_own => (it1 (cmp dInA (Fe.ret v_own) (op2 dIxA (Fe.ret v_world) (Fe.ret (.int 2)))))))))))
theorem lk_fits_boat (v_world v_boat v_things : D) : LeF (g_fits_boat v_world v_boat v_things ()) (run 3 6 (b_fits_boat) [v_world, v_boat, v_things]) :=
  run_sim () rfl (show SimT [.p v_world, .p v_boat, .p v_things, .nown, .nown, .nown] (b_fits_boat) (g_fits_boat v_world v_boat v_things) postF from
    (t_asgT (sm_op2 (sm_op2 (sm_vr rfl) sm_ret) (sm_vr rfl)) (fun w => t_un2 fun v_room v_load => (t_ifd (sm_orT (sm_tsb (sm_cmp (sm_op1 (sm_vr rfl)) (sm_vr rfl))) (sm_tsb (sm_cmp (sm_op1 (sm_lc rfl (sm_itmA (sm_vr rfl)) (fun v_own => sg_name (sg_1 rfl (sm_op2 (sm_op2 (sm_vr rfl) sm_ret) (sm_vr rfl)))))) (sm_vr rfl)))) (t_retF pf_rt sm_ret) (t_skip (t_last (t_retF pf_rt (sm_op1 (sm_lc rfl (sm_itmA (sm_vr rfl)) (fun v_own => sg_name (sg_1 rfl (sm_cmp (sm_vr rfl) (sm_op2 (sm_vr rfl) sm_ret)))))))))))))
theorem ok_fits_boat {v_world v_boat v_things d : D} (e : g_fits_boat v_world v_boat v_things = Fe.ret d) : f_fits_boat [v_world, v_boat, v_things] = .ok d := LeF.ok (s := ()) (lk_fits_boat v_world v_boat v_things) e
def g_moved (v_state v_crossing : D) : Ms Unit D :=
    (bnd (Fe.ret v_crossing) (fun w => un3 w fun v_boat v_goal v_things => (bnd (op1 dTuple (lcP (itmE (op2 dIxA (Fe.ret v_state) (Fe.ret (.int 0)))) (fun w => un2 w fun v_at v_own => (it1 (ifE (tsb (cmp dInA (Fe.ret v_at) (Fe.ret v_things))) (Fe.ret v_goal) (Fe.ret v_own)))))) fun v_places =>
    (tupE (consA (Fe.ret v_places) (consA (op1 dTuple (lcP (itmE (op2 dIxA (Fe.ret v_state) (Fe.ret (.int 1)))) (fun w => un2 w fun v_at v_own => (it1 (ifE (tsb (cmp dEq (Fe.ret v_at) (Fe.ret v_boat))) (Fe.ret v_goal) (Fe.ret v_own)))))) nilA))))))
theorem lk_moved (v_state v_crossing : D) : LeF (g_moved v_state v_crossing ()) (run 2 8 (b_moved) [v_state, v_crossing]) :=
  run_sim () rfl (show SimT [.p v_state, .p v_crossing, .nown, .nown, .nown, .nown, .nown, .nown] (b_moved) (g_moved v_state v_crossing) postF from
    (t_asgT (sm_vr rfl) (fun w => t_un3 fun v_boat v_goal v_things => (t_asg (sm_op1 (sm_lc rfl (sm_itmE (sm_op2 (sm_vr rfl) sm_ret)) (fun w => sg_un2 fun v_at v_own => (sg_1 rfl (sm_ifE (sm_tsb (sm_cmp (sm_vr rfl) (sm_vr rfl))) (sm_vr rfl) (sm_vr rfl)))))) fun v_places => (t_last (t_retF pf_rt (sm_tupE (sm_consA (sm_vr rfl) (sm_consA (sm_op1 (sm_lc rfl (sm_itmE (sm_op2 (sm_vr rfl) sm_ret)) (fun w => sg_un2 fun v_at v_own => (sg_1 rfl (sm_ifE (sm_tsb (sm_cmp (sm_vr rfl) (sm_vr rfl))) (sm_vr rfl) (sm_vr rfl)))))) sm_nilA)))))))))
theorem ok_moved {v_state v_crossing d : D} (e : g_moved v_state v_crossing = Fe.ret d) : f_moved [v_state, v_crossing] = .ok d := LeF.ok (s := ()) (lk_moved v_state v_crossing) e
def g_is_let (v_world v_state v_crossing : D) : Ms Unit D :=
    (bnd (Fe.ret v_crossing) (fun w => un3 w fun v_boat v_goal v_things => (bnd (op2 dIxA (op2 dIxA (Fe.ret v_state) (Fe.ret (.int 1))) (Fe.ret v_boat)) fun v_start =>
    (ifC (orT (notT (tst (cl Fp.f_is_linked (consA (Fe.ret v_world) (consA (Fe.ret v_start) (consA (Fe.ret v_goal) nilA)))))) (orT (notT (tst (cl Fp.f_fits_boat (consA (Fe.ret v_world) (consA (Fe.ret v_boat) (consA (Fe.ret v_things) nilA)))))) (notT (tst (cl Fp.f_is_quiet (consA (Fe.ret v_world) (consA (Fe.ret v_things) nilA))))))) (Fe.ret (.bl false))
    (bnd (rg1 (op2 dIxA (Fe.ret v_world) (Fe.ret (.int 1)))) fun l => bnd (forX (τ := Unit) (fun v_place t1 => (bnd (cl Fp.f_company_at (consA (Fe.ret v_state) (consA (Fe.ret v_place) nilA))) fun v_company =>
    (bnd (op1 dTuple (lcP (itmA (Fe.ret v_company)) (fun v_own => (itP (tsb (cmp dNotInA (Fe.ret v_own) (Fe.ret v_things))) (Fe.ret v_own))))) fun v_left =>
    (ifC (notT (tst (cl Fp.f_is_quiet (consA (Fe.ret v_world) (consA (Fe.ret v_left) nilA))))) (bnd (Fe.ret (.bl false)) fun w => Fe.ret (.rt w))
    (Fe.ret (.nx ())))))) l ()) fun r => lpK r (fun t1 =>
    (cl Fp.f_is_quiet (consA (Fe.ret v_world) (consA (cl Fp.f_company_at (consA (cl Fp.f_moved (consA (Fe.ret v_state) (consA (Fe.ret v_crossing) nilA))) (consA (Fe.ret v_goal) nilA))) nilA)))) (fun d => Fe.ret d))))))
theorem lk_is_let (v_world v_state v_crossing : D) : LeF (g_is_let v_world v_state v_crossing ()) (run 3 11 (b_is_let) [v_world, v_state, v_crossing]) :=
  run_sim () rfl (show SimT [.p v_world, .p v_state, .p v_crossing, .nown, .nown, .nown, .nown, .nown, .nown, .nown, .nown] (b_is_let) (g_is_let v_world v_state v_crossing) postF from
    (t_asgT (sm_vr rfl) (fun w => t_un3 fun v_boat v_goal v_things => (t_asg (sm_op2 (sm_op2 (sm_vr rfl) sm_ret) (sm_vr rfl)) fun v_start => (t_ifd (sm_orT (sm_notT (sm_tst (sm_cl (sm_consA (sm_vr rfl) (sm_consA (sm_vr rfl) (sm_consA (sm_vr rfl) sm_nilA)))))) (sm_orT (sm_notT (sm_tst (sm_cl (sm_consA (sm_vr rfl) (sm_consA (sm_vr rfl) (sm_consA (sm_vr rfl) sm_nilA)))))) (sm_notT (sm_tst (sm_cl (sm_consA (sm_vr rfl) (sm_consA (sm_vr rfl) sm_nilA))))))) (t_retF pf_rt sm_ret) (t_skip (t_forX (Q := qT) (KL := (fun (t1 : Unit) => [.p v_world, .p v_state, .p v_crossing, .p v_boat, .p v_goal, .p v_things, .p v_start, .nown, .nown, .nown, .nown])) (KB := (fun (t1 : Unit) => [.p v_world, .p v_state, .p v_crossing, .p v_boat, .p v_goal, .p v_things, .p v_start, .nown, .nown, .nown, .nown])) (sm_rg1 (sm_op2 (sm_vr rfl) sm_ret)) (by repeat' constructor) (fun _ => (by repeat' constructor)) (fun v_place t1 => (t_tgt (t_asg (sm_cl (sm_consA (sm_vr rfl) (sm_consA (sm_vr rfl) sm_nilA))) fun v_company => (t_asg (sm_op1 (sm_lc rfl (sm_itmA (sm_vr rfl)) (fun v_own => sg_name (sg_it rfl (sm_tsb (sm_cmp (sm_vr rfl) (sm_vr rfl))) (sm_vr rfl))))) fun v_left => (t_last (t_ifd (sm_notT (sm_tst (sm_cl (sm_consA (sm_vr rfl) (sm_consA (sm_vr rfl) sm_nilA))))) (t_ret (r := Lp.rt) pl_rt sm_ret) (t_skip (t_end (pl_nx (by repeat' constructor)))))))))) (fun t1 => (t_last (t_retF pf_rt (sm_cl (sm_consA (sm_vr rfl) (sm_consA (sm_cl (sm_consA (sm_cl (sm_consA (sm_vr rfl) (sm_consA (sm_vr rfl) sm_nilA))) (sm_consA (sm_vr rfl) sm_nilA))) sm_nilA)))))) hd_f)))))))
theorem ok_is_let {v_world v_state v_crossing d : D} (e : g_is_let v_world v_state v_crossing = Fe.ret d) : f_is_let [v_world, v_state, v_crossing] = .ok d := LeF.ok (s := ()) (lk_is_let v_world v_state v_crossing) e
def g_crossings_in (v_world v_state : D) : Ms Unit D :=
    (bnd (lstE nilA) fun v_found =>
    (bnd (itmE (op2 dIxA (Fe.ret v_state) (Fe.ret (.int 1)))) fun l => bnd (forN (τ := D) (fun w t1 => un2 w fun v_boat v_place => (bnd (lcP (itmA (cl Fp.f_choices (consA (cl Fp.f_company_at (consA (Fe.ret v_state) (consA (Fe.ret v_place) nilA))) nilA))) (fun v_own => (itP (tst (cl Fp.f_fits_boat (consA (Fe.ret v_world) (consA (Fe.ret v_boat) (consA (Fe.ret v_own) nilA))))) (Fe.ret v_own)))) fun v_rows =>
    (bnd (rg1 (op2 dIxA (Fe.ret v_world) (Fe.ret (.int 1)))) fun l => bnd (forN (τ := D) (fun v_goal t2 => (ifC (tst (cl Fp.f_is_linked (consA (Fe.ret v_world) (consA (Fe.ret v_place) (consA (Fe.ret v_goal) nilA))))) (bnd (lcP (itmA (Fe.ret v_rows)) (fun v_own => (it1 (tupE (consA (Fe.ret v_boat) (consA (Fe.ret v_goal) (consA (Fe.ret v_own) nilA))))))) fun v_some =>
    (bnd (extP t2 (lcP (itmA (Fe.ret v_some)) (fun v_own => (itP (tst (cl Fp.f_is_let (consA (Fe.ret v_world) (consA (Fe.ret v_state) (consA (Fe.ret v_own) nilA))))) (Fe.ret v_own))))) fun v_found =>
    (Fe.ret v_found)))
    (Fe.ret t2))) l t1) fun t2 =>
    (Fe.ret t2)))) l v_found) fun t1 =>
    (Fe.ret t1)))
theorem lk_crossings_in (v_world v_state : D) : LeF (g_crossings_in v_world v_state ()) (run 2 9 (b_crossings_in) [v_world, v_state]) :=
  run_sim () rfl (show SimT [.p v_world, .p v_state, .nown, .nown, .nown, .nown, .nown, .nown, .nown] (b_crossings_in) (g_crossings_in v_world v_state) postF from
    (t_new (sm_lstE sm_nilA) fun v_found => (t_for (KL := (fun (t1 : D) => [.p v_world, .p v_state, .oc t1, .nown, .nown, .nown, .nown, .nown, .nown])) (sm_itmE (sm_op2 (sm_vr rfl) sm_ret)) (by repeat' constructor) (fun w t1 => (t_un2 fun v_boat v_place => (t_asg (sm_lc rfl (sm_itmA (sm_cl (sm_consA (sm_cl (sm_consA (sm_vr rfl) (sm_consA (sm_vr rfl) sm_nilA))) sm_nilA))) (fun v_own => sg_name (sg_it rfl (sm_tst (sm_cl (sm_consA (sm_vr rfl) (sm_consA (sm_vr rfl) (sm_consA (sm_vr rfl) sm_nilA))))) (sm_vr rfl)))) fun v_rows => (t_last (t_for (KL := (fun (t2 : D) => [.p v_world, .p v_state, .oc t2, .p v_boat, .p v_place, .p v_rows, .nown, .nown, .nown])) (sm_rg1 (sm_op2 (sm_vr rfl) sm_ret)) (by repeat' constructor) (fun v_goal t2 => (t_tgt (t_last (t_ifd (sm_tst (sm_cl (sm_consA (sm_vr rfl) (sm_consA (sm_vr rfl) (sm_consA (sm_vr rfl) sm_nilA))))) (t_assoc (t_asg (sm_lc rfl (sm_itmA (sm_vr rfl)) (fun v_own => sg_name (sg_1 rfl (sm_tupE (sm_consA (sm_vr rfl) (sm_consA (sm_vr rfl) (sm_consA (sm_vr rfl) sm_nilA))))))) fun v_some => (t_ext rfl (sm_lc rfl (sm_itmA (sm_vr rfl)) (fun v_own => sg_name (sg_it rfl (sm_tst (sm_cl (sm_consA (sm_vr rfl) (sm_consA (sm_vr rfl) (sm_consA (sm_vr rfl) sm_nilA))))) (sm_vr rfl)))) fun v_found => (t_end (pn_nx (by repeat' constructor)))))) (t_skip (t_end (pn_nx (by repeat' constructor)))))))) fun t2 => (t_end (pn_nx (by repeat' constructor)))))))) fun t1 => (t_frz rfl (t_last (t_retF pf_rt (sm_vr rfl)))))))
theorem ok_crossings_in {v_world v_state d : D} (e : g_crossings_in v_world v_state = Fe.ret d) : f_crossings_in [v_world, v_state] = .ok d := LeF.ok (s := ()) (lk_crossings_in v_world v_state) e
def g_is_crossing_in (v_world v_state v_value : D) : Ms Unit D :=
    (ifC (orT (notT (tst (cmp1 (dIsi "tuple") (Fe.ret v_value)))) (orT (tsb (cmp dNe (op1 dLen (Fe.ret v_value)) (Fe.ret (.int 3)))) (notT (tst (cmp1 (dIsi "tuple") (op2 dIxA (Fe.ret v_value) (Fe.ret (.int 2)))))))) (Fe.ret (.bl false))
    (bnd (op2 dAdd (op1 dList (slc (Fe.ret v_value) noP (part (Fe.ret (.int 2))))) (op1 dList (op2 dIxA (Fe.ret v_value) (Fe.ret (.int 2))))) fun v_some =>
    (ifC (notT (tst (op1 dAll (lcP (itmA (Fe.ret v_some)) (fun v_own => (it1 (andV (cmp1 (dIsi "int") (Fe.ret v_own)) (notV (cmp1 (dIsi "bool") (Fe.ret v_own)))))))))) (Fe.ret (.bl false))
    (bnd (Fe.ret v_value) (fun w => un3 w fun v_boat v_goal v_things => (ifC (orT (notT (tsb (chn dLe dLt (Fe.ret (.int 0)) (Fe.ret v_boat) (op1 dLen (op2 dIxA (Fe.ret v_state) (Fe.ret (.int 1))))))) (orT (notT (tsb (chn dLe dLt (Fe.ret (.int 0)) (Fe.ret v_goal) (op2 dIxA (Fe.ret v_world) (Fe.ret (.int 1)))))) (tsb (cmp dNe (op1 dList (Fe.ret v_things)) (op1 dSortSet2 (Fe.ret v_things)))))) (Fe.ret (.bl false))
    (ifC (orT (notT (tst (Fe.ret v_things))) (notT (tst (op1 dAll (lcP (itmA (Fe.ret v_things)) (fun v_own => (it1 (cmp dInA (Fe.ret v_own) (cl Fp.f_company_at (consA (Fe.ret v_state) (consA (op2 dIxA (op2 dIxA (Fe.ret v_state) (Fe.ret (.int 1))) (Fe.ret v_boat)) nilA))))))))))) (Fe.ret (.bl false))
    (cl Fp.f_is_let (consA (Fe.ret v_world) (consA (Fe.ret v_state) (consA (Fe.ret v_value) nilA)))))))))))
theorem lk_is_crossing_in (v_world v_state v_value : D) : LeF (g_is_crossing_in v_world v_state v_value ()) (run 3 8 (b_is_crossing_in) [v_world, v_state, v_value]) :=
  run_sim () rfl (show SimT [.p v_world, .p v_state, .p v_value, .nown, .nown, .nown, .nown, .nown] (b_is_crossing_in) (g_is_crossing_in v_world v_state v_value) postF from
    (t_ifd (sm_orT (sm_notT (sm_tst (sm_cmp1 (sm_vr rfl)))) (sm_orT (sm_tsb (sm_cmp (sm_op1 (sm_vr rfl)) sm_ret)) (sm_notT (sm_tst (sm_cmp1 (sm_op2 (sm_vr rfl) sm_ret)))))) (t_retF pf_rt sm_ret) (t_skip (t_asg (sm_op2 (sm_op1 (sm_slc (sm_vr rfl) sm_noP (sm_part sm_ret))) (sm_op1 (sm_op2 (sm_vr rfl) sm_ret))) fun v_some => (t_ifd (sm_notT (sm_tst (sm_op1 (sm_lc rfl (sm_itmA (sm_vr rfl)) (fun v_own => sg_name (sg_1 rfl (sm_andV (sm_cmp1 (sm_vr rfl)) (sm_notV (sm_cmp1 (sm_vr rfl)))))))))) (t_retF pf_rt sm_ret) (t_skip (t_asgT (sm_vr rfl) (fun w => t_un3 fun v_boat v_goal v_things => (t_ifd (sm_orT (sm_notT (sm_tsb (sm_chn sm_ret (sm_vr rfl) (sm_op1 (sm_op2 (sm_vr rfl) sm_ret))))) (sm_orT (sm_notT (sm_tsb (sm_chn sm_ret (sm_vr rfl) (sm_op2 (sm_vr rfl) sm_ret)))) (sm_tsb (sm_cmp (sm_op1 (sm_vr rfl)) (sm_op1 (sm_vr rfl)))))) (t_retF pf_rt sm_ret) (t_skip (t_ifd (sm_orT (sm_notT (sm_tst (sm_vr rfl))) (sm_notT (sm_tst (sm_op1 (sm_lc rfl (sm_itmA (sm_vr rfl)) (fun v_own => sg_name (sg_1 rfl (sm_cmp (sm_vr rfl) (sm_cl (sm_consA (sm_vr rfl) (sm_consA (sm_op2 (sm_op2 (sm_vr rfl) sm_ret) (sm_vr rfl)) sm_nilA))))))))))) (t_retF pf_rt sm_ret) (t_skip (t_last (t_retF pf_rt (sm_cl (sm_consA (sm_vr rfl) (sm_consA (sm_vr rfl) (sm_consA (sm_vr rfl) sm_nilA))))))))))))))))))
theorem ok_is_crossing_in {v_world v_state v_value d : D} (e : g_is_crossing_in v_world v_state v_value = Fe.ret d) : f_is_crossing_in [v_world, v_state, v_value] = .ok d := LeF.ok (s := ()) (lk_is_crossing_in v_world v_state v_value) e
def g_crossings (v_world v_state : D) : Ms Unit D :=
    (bnd (cl Fp.f_need_world (consA (Fe.ret v_world) (consA (Fe.ret (.str "world")) nilA))) fun _ =>
    (bnd (cl Fp.f_need_state (consA (Fe.ret v_world) (consA (Fe.ret v_state) (consA (Fe.ret (.str "state")) nilA)))) fun _ =>
    (op1 dTuple (cl Fp.f_crossings_in (consA (Fe.ret v_world) (consA (Fe.ret v_state) nilA))))))
theorem lk_crossings (v_world v_state : D) : LeF (g_crossings v_world v_state ()) (run 2 2 (b_crossings) [v_world, v_state]) :=
  run_sim () rfl (show SimT [.p v_world, .p v_state] (b_crossings) (g_crossings v_world v_state) postF from
    (t_drp (sm_cl (sm_consA (sm_vr rfl) (sm_consA sm_ret sm_nilA))) (t_drp (sm_cl (sm_consA (sm_vr rfl) (sm_consA (sm_vr rfl) (sm_consA sm_ret sm_nilA)))) (t_last (t_retF pf_rt (sm_op1 (sm_cl (sm_consA (sm_vr rfl) (sm_consA (sm_vr rfl) sm_nilA)))))))))
theorem ok_crossings {v_world v_state d : D} (e : g_crossings v_world v_state = Fe.ret d) : f_crossings [v_world, v_state] = .ok d := LeF.ok (s := ()) (lk_crossings v_world v_state) e
def g_is_crossing (v_world v_state v_value : D) : Ms Unit D :=
    (bnd (cl Fp.f_need_world (consA (Fe.ret v_world) (consA (Fe.ret (.str "world")) nilA))) fun _ =>
    (bnd (cl Fp.f_need_state (consA (Fe.ret v_world) (consA (Fe.ret v_state) (consA (Fe.ret (.str "state")) nilA)))) fun _ =>
    (cl Fp.f_is_crossing_in (consA (Fe.ret v_world) (consA (Fe.ret v_state) (consA (Fe.ret v_value) nilA))))))
theorem lk_is_crossing (v_world v_state v_value : D) : LeF (g_is_crossing v_world v_state v_value ()) (run 3 3 (b_is_crossing) [v_world, v_state, v_value]) :=
  run_sim () rfl (show SimT [.p v_world, .p v_state, .p v_value] (b_is_crossing) (g_is_crossing v_world v_state v_value) postF from
    (t_drp (sm_cl (sm_consA (sm_vr rfl) (sm_consA sm_ret sm_nilA))) (t_drp (sm_cl (sm_consA (sm_vr rfl) (sm_consA (sm_vr rfl) (sm_consA sm_ret sm_nilA)))) (t_last (t_retF pf_rt (sm_cl (sm_consA (sm_vr rfl) (sm_consA (sm_vr rfl) (sm_consA (sm_vr rfl) sm_nilA)))))))))
theorem ok_is_crossing {v_world v_state v_value d : D} (e : g_is_crossing v_world v_state v_value = Fe.ret d) : f_is_crossing [v_world, v_state, v_value] = .ok d := LeF.ok (s := ()) (lk_is_crossing v_world v_state v_value) e
def g_after (v_world v_state v_crossing : D) : Ms Unit D :=
    (bnd (cl Fp.f_need_world (consA (Fe.ret v_world) (consA (Fe.ret (.str "world")) nilA))) fun _ =>
    (bnd (cl Fp.f_need_state (consA (Fe.ret v_world) (consA (Fe.ret v_state) (consA (Fe.ret (.str "state")) nilA)))) fun _ =>
    (bnd (cl Fp.f_need (consA (cl Fp.f_is_crossing_in (consA (Fe.ret v_world) (consA (Fe.ret v_state) (consA (Fe.ret v_crossing) nilA)))) (consA (Fe.ret (.str "crossing")) nilA))) fun _ =>
    (cl Fp.f_moved (consA (Fe.ret v_state) (consA (Fe.ret v_crossing) nilA))))))
theorem lk_after (v_world v_state v_crossing : D) : LeF (g_after v_world v_state v_crossing ()) (run 3 3 (b_after) [v_world, v_state, v_crossing]) :=
  run_sim () rfl (show SimT [.p v_world, .p v_state, .p v_crossing] (b_after) (g_after v_world v_state v_crossing) postF from
    (t_drp (sm_cl (sm_consA (sm_vr rfl) (sm_consA sm_ret sm_nilA))) (t_drp (sm_cl (sm_consA (sm_vr rfl) (sm_consA (sm_vr rfl) (sm_consA sm_ret sm_nilA)))) (t_drp (sm_cl (sm_consA (sm_cl (sm_consA (sm_vr rfl) (sm_consA (sm_vr rfl) (sm_consA (sm_vr rfl) sm_nilA)))) (sm_consA sm_ret sm_nilA))) (t_last (t_retF pf_rt (sm_cl (sm_consA (sm_vr rfl) (sm_consA (sm_vr rfl) sm_nilA)))))))))
theorem ok_after {v_world v_state v_crossing d : D} (e : g_after v_world v_state v_crossing = Fe.ret d) : f_after [v_world, v_state, v_crossing] = .ok d := LeF.ok (s := ()) (lk_after v_world v_state v_crossing) e
def g_back (v_world v_state v_crossing : D) : Ms Unit D :=
    (bnd (cl Fp.f_need_world (consA (Fe.ret v_world) (consA (Fe.ret (.str "world")) nilA))) fun _ =>
    (bnd (cl Fp.f_need_state (consA (Fe.ret v_world) (consA (Fe.ret v_state) (consA (Fe.ret (.str "state")) nilA)))) fun _ =>
    (bnd (cl Fp.f_need (consA (cl Fp.f_is_crossing_in (consA (Fe.ret v_world) (consA (Fe.ret v_state) (consA (Fe.ret v_crossing) nilA)))) (consA (Fe.ret (.str "crossing")) nilA))) fun _ =>
    (tupE (consA (op2 dIxA (Fe.ret v_crossing) (Fe.ret (.int 0))) (consA (op2 dIxA (op2 dIxA (Fe.ret v_state) (Fe.ret (.int 1))) (op2 dIxA (Fe.ret v_crossing) (Fe.ret (.int 0)))) (consA (op2 dIxA (Fe.ret v_crossing) (Fe.ret (.int 2))) nilA)))))))
theorem lk_back (v_world v_state v_crossing : D) : LeF (g_back v_world v_state v_crossing ()) (run 3 3 (b_back) [v_world, v_state, v_crossing]) :=
  run_sim () rfl (show SimT [.p v_world, .p v_state, .p v_crossing] (b_back) (g_back v_world v_state v_crossing) postF from
    (t_drp (sm_cl (sm_consA (sm_vr rfl) (sm_consA sm_ret sm_nilA))) (t_drp (sm_cl (sm_consA (sm_vr rfl) (sm_consA (sm_vr rfl) (sm_consA sm_ret sm_nilA)))) (t_drp (sm_cl (sm_consA (sm_cl (sm_consA (sm_vr rfl) (sm_consA (sm_vr rfl) (sm_consA (sm_vr rfl) sm_nilA)))) (sm_consA sm_ret sm_nilA))) (t_last (t_retF pf_rt (sm_tupE (sm_consA (sm_op2 (sm_vr rfl) sm_ret) (sm_consA (sm_op2 (sm_op2 (sm_vr rfl) sm_ret) (sm_op2 (sm_vr rfl) sm_ret)) (sm_consA (sm_op2 (sm_vr rfl) sm_ret) sm_nilA))))))))))
theorem ok_back {v_world v_state v_crossing d : D} (e : g_back v_world v_state v_crossing = Fe.ret d) : f_back [v_world, v_state, v_crossing] = .ok d := LeF.ok (s := ()) (lk_back v_world v_state v_crossing) e
def g__law_taken (v_many : D) : Ms D D :=
    (ifC (tsb (cmp dGt (ixS (Fe.ret (.int 3))) (Fe.ret (.int 0)))) (bnd (op2 dMod (op1 dInt (ixS (Fe.ret (.int 3)))) (Fe.ret v_many)) fun v_found =>
    (bnd (setS (Fe.ret (.int 3)) (op2 dDiv (ixS (Fe.ret (.int 3))) (Fe.ret v_many))) fun _ =>
    (Fe.ret v_found)))
    (bnd (setS (Fe.ret (.int 1)) (op2 dAdd (ixS (Fe.ret (.int 1))) (Fe.ret (.int 1)))) fun _ =>
    (ifC (tsb (cmp dGt (ixS (Fe.ret (.int 1))) (op1 dLen (ixS (Fe.ret (.int 0)))))) (bnd (setS (Fe.ret (.int 2)) (op2 dMod (op1 dInt (op2 dAdd (op2 dMul (ixS (Fe.ret (.int 2))) (Fe.ret (.int 48271))) (Fe.ret (.int 11)))) (Fe.ret (.int 2147483647)))) fun _ =>
    (op2 dMod (op1 dInt (op2 dDiv (ixS (Fe.ret (.int 2))) (Fe.ret (.int 7)))) (Fe.ret v_many)))
    (bnd (op2 dIxA (ixS (Fe.ret (.int 0))) (op2 dSub (ixS (Fe.ret (.int 1))) (Fe.ret (.int 1)))) fun v_cell =>
    (bnd (setS (Fe.ret (.int 2)) (op2 dMod (op1 dInt (op2 dAdd (op2 dAdd (op2 dMul (ixS (Fe.ret (.int 2))) (Fe.ret (.int 48271))) (op1 dInt (Fe.ret v_cell))) (Fe.ret (.int 11)))) (Fe.ret (.int 2147483647)))) fun _ =>
    (bnd (ifC (tsb (cmp dGe (Fe.ret v_cell) (op2 dPow (Fe.ret (.int 10)) (Fe.ret (.int 18))))) (bnd (setS (Fe.ret (.int 3)) (op2 dDiv (op1 dInt (op2 dMod (op1 dInt (Fe.ret v_cell)) (op2 dPow (Fe.ret (.int 10)) (Fe.ret (.int 90))))) (Fe.ret v_many))) fun _ =>
    (Fe.ret ())) (Fe.ret ())) fun (t1 : Unit) =>
    (op2 dMod (op1 dInt (Fe.ret v_cell)) (Fe.ret v_many))))))))
theorem lk__law_taken (v_many : D) (s : D) : LeO (g__law_taken v_many s) (runO 2 4 (b__law_taken) (.o s) [v_many]) :=
  runO_sim (n := 2) (m := 4) (b := b__law_taken) (ds := [v_many]) (g := (g__law_taken v_many)) rfl (show SimT [.os id, .p v_many, .nown, .nown] (b__law_taken) (g__law_taken v_many) postO from
    (t_ifd (sm_tsb (sm_cmp (sm_ixS rfl sm_ret) sm_ret)) (t_assoc (t_asg (sm_op2 (sm_op1 (sm_ixS rfl sm_ret)) (sm_vr rfl)) fun v_found => (t_assoc (t_setS rfl rfl (sm_op2 (sm_ixS rfl sm_ret) (sm_vr rfl)) sm_ret (t_retF (po_rt rfl) (sm_vr rfl)))))) (t_skip (t_setS rfl rfl (sm_op2 (sm_ixS rfl sm_ret) sm_ret) sm_ret (t_ifd (sm_tsb (sm_cmp (sm_ixS rfl sm_ret) (sm_op1 (sm_ixS rfl sm_ret)))) (t_assoc (t_setS rfl rfl (sm_op2 (sm_op1 (sm_op2 (sm_op2 (sm_ixS rfl sm_ret) sm_ret) sm_ret)) sm_ret) sm_ret (t_retF (po_rt rfl) (sm_op2 (sm_op1 (sm_op2 (sm_ixS rfl sm_ret) sm_ret)) (sm_vr rfl))))) (t_skip (t_asg (sm_op2 (sm_ixS rfl sm_ret) (sm_op2 (sm_ixS rfl sm_ret) sm_ret)) fun v_cell => (t_setS rfl rfl (sm_op2 (sm_op1 (sm_op2 (sm_op2 (sm_op2 (sm_ixS rfl sm_ret) sm_ret) (sm_op1 (sm_vr rfl))) sm_ret)) sm_ret) sm_ret (t_join (τ := Unit) (fun (t1 : Unit) => [.os id, .p v_many, .nown, .p v_cell]) (sm_tsb (sm_cmp (sm_vr rfl) (sm_op2 sm_ret sm_ret))) (t_last (t_setS rfl rfl (sm_op2 (sm_op1 (sm_op2 (sm_op1 (sm_vr rfl)) (sm_op2 sm_ret sm_ret))) (sm_vr rfl)) sm_ret (t_end (pj_nx (by repeat' constructor))))) (t_end (pj_nx (by repeat' constructor))) fun t1 => (t_last (t_retF (po_rt rfl) (sm_op2 (sm_op1 (sm_vr rfl)) (sm_vr rfl))))))))))))) s
def g__law_pick (v_some : D) : Ms D D :=
    (op2 dIxB (Fe.ret v_some) (cloS Fp.f__law_taken (consA (op1 dLen (Fe.ret v_some)) nilA)))
theorem lk__law_pick (v_some : D) (s : D) : LeO (g__law_pick v_some s) (runO 2 2 (b__law_pick) (.o s) [v_some]) :=
  runO_sim (n := 2) (m := 2) (b := b__law_pick) (ds := [v_some]) (g := (g__law_pick v_some)) rfl (show SimT [.os id, .p v_some] (b__law_pick) (g__law_pick v_some) postO from
    (t_last (t_retF (po_rt rfl) (sm_op2 (sm_vr rfl) (sm_clo rfl rfl (sm_consA (sm_op1 (sm_vr rfl)) sm_nilA)))))) s
def g__law_alike (rec : List D → F) (v_found v_due : D) : Ms Unit D :=
    (ifC (tst (cmp1 (dIsi "tuple") (Fe.ret v_due))) (ifC (orT (notT (tst (cmp1 (dIsi "tuple") (Fe.ret v_found)))) (tsb (cmp dNe (op1 dLen (Fe.ret v_found)) (op1 dLen (Fe.ret v_due))))) (Fe.ret (.bl false))
    (cmp dEq (lcP (rg1 (op1 dLen (Fe.ret v_due))) (fun v_at => (itP (notT (tst (cl rec (consA (op2 dIxA (Fe.ret v_found) (Fe.ret v_at)) (consA (op2 dIxA (Fe.ret v_due) (Fe.ret v_at)) nilA))))) (Fe.ret v_at)))) (lstE nilA)))
    (ifC (orT (tsb (cmp dIs (Fe.ret v_due) (Fe.ret .non))) (tst (cmp1 (dIsi "str") (Fe.ret v_due)))) (andV (cmp dEq (Fe.ret v_found) (Fe.ret v_due)) (cmp dEq (cmp1 (dIsi "str") (Fe.ret v_found)) (cmp1 (dIsi "str") (Fe.ret v_due))))
    (andV (cmp1 (dIsi "int") (Fe.ret v_found)) (andV (cmp dEq (cmp1 (dIsi "bool") (Fe.ret v_found)) (cmp1 (dIsi "bool") (Fe.ret v_due))) (cmp dEq (Fe.ret v_found) (Fe.ret v_due))))))
theorem lk__law_alike (rec : List D → F) (v_found v_due : D) : LeF (g__law_alike rec v_found v_due ()) (run 2 3 (b__law_alike rec) [v_found, v_due]) :=
  run_sim () rfl (show SimT [.p v_found, .p v_due, .nown] (b__law_alike rec) (g__law_alike rec v_found v_due) postF from
    (t_ifd (sm_tst (sm_cmp1 (sm_vr rfl))) (t_assoc (t_ifd (sm_orT (sm_notT (sm_tst (sm_cmp1 (sm_vr rfl)))) (sm_tsb (sm_cmp (sm_op1 (sm_vr rfl)) (sm_op1 (sm_vr rfl))))) (t_retF pf_rt sm_ret) (t_skip (t_retF pf_rt (sm_cmp (sm_lc rfl (sm_rg1 (sm_op1 (sm_vr rfl))) (fun v_at => sg_name (sg_it rfl (sm_notT (sm_tst (sm_cl (sm_consA (sm_op2 (sm_vr rfl) (sm_vr rfl)) (sm_consA (sm_op2 (sm_vr rfl) (sm_vr rfl)) sm_nilA))))) (sm_vr rfl)))) (sm_lstE sm_nilA)))))) (t_skip (t_ifd (sm_orT (sm_tsb (sm_cmp (sm_vr rfl) sm_ret)) (sm_tst (sm_cmp1 (sm_vr rfl)))) (t_retF pf_rt (sm_andV (sm_cmp (sm_vr rfl) (sm_vr rfl)) (sm_cmp (sm_cmp1 (sm_vr rfl)) (sm_cmp1 (sm_vr rfl))))) (t_skip (t_last (t_retF pf_rt (sm_andV (sm_cmp1 (sm_vr rfl)) (sm_andV (sm_cmp (sm_cmp1 (sm_vr rfl)) (sm_cmp1 (sm_vr rfl))) (sm_cmp (sm_vr rfl) (sm_vr rfl)))))))))))
end Fp
namespace K00
def g_law (v_script : D) : Ms D D :=
    (bnd (lstE (consA (Fe.ret v_script) (consA (Fe.ret (.int 0)) (consA (Fe.ret (.int 103007)) (consA (Fe.ret (.int 0)) nilA))))) fun w => bnd (putS w) fun _ =>
    (bnd (rg1 (Fe.ret (.int 3))) fun l => bnd (forX (τ := Unit) (fun v_turn t1 => (ifC (notT (tst (cloS K00.f__law_case nilA))) (bnd (Fe.ret (.bl false)) fun w => Fe.ret (.rt w))
    (Fe.ret (.nx ())))) l ()) fun r => lpK r (fun t1 =>
    (Fe.ret (.bl true))) (fun d => Fe.ret d)))
theorem lk_law (v_script : D) (s : D) : LeF (g_law v_script s) (run 1 3 (b_law) [v_script]) :=
  run_sim s rfl (show SimT [.p v_script, .nown, .nown] (b_law) (g_law v_script) postF from
    (t_newS rfl (sm_lstE (sm_consA (sm_vr rfl) (sm_consA sm_ret (sm_consA sm_ret (sm_consA sm_ret sm_nilA))))) (t_forX (Q := qT) (KL := (fun (t1 : Unit) => [.p v_script, .os id, .nown])) (KB := (fun (t1 : Unit) => [.p v_script, .os id, .nown])) (sm_rg1 sm_ret) (by repeat' constructor) (fun _ => (by repeat' constructor)) (fun v_turn t1 => (t_tgt (t_last (t_ifd (sm_notT (sm_tst (sm_clo rfl rfl sm_nilA))) (t_ret (r := Lp.rt) pl_rt sm_ret) (t_skip (t_end (pl_nx (by repeat' constructor)))))))) (fun t1 => (t_last (t_retF pf_rt sm_ret))) hd_f)))
end K00
end
section
set_option Elab.async false
set_option linter.all false
set_option maxRecDepth 100000
set_option maxHeartbeats 4000000
open PySem (Str)
open Fe
namespace Fp
def g_Wish_init (v_form v_names v_inner : D) : Ms C D :=
    (bnd (fdS "Wish" "form" (Fe.ret v_form)) fun _ =>
    (bnd (fdS "Wish" "names" (Fe.ret v_names)) fun _ =>
    (bnd (fdS "Wish" "inner" (Fe.ret v_inner)) fun _ =>
    (Fe.ret .non))))
theorem lk_Wish_init (v_form v_names v_inner : D) (s : C) : LeC (g_Wish_init v_form v_names v_inner s) (runO 4 4 (b_Wish_init) s [v_form, v_names, v_inner]) :=
  runC_sim (n := 4) (m := 4) (b := b_Wish_init) (ds := [v_form, v_names, v_inner]) (g := (g_Wish_init v_form v_names v_inner)) rfl (show SimT [.ost id, .p v_form, .p v_names, .p v_inner] (b_Wish_init) (g_Wish_init v_form v_names v_inner) postC from
    (t_sFd rfl rfl (sm_vr rfl) (t_sFd rfl rfl (sm_vr rfl) (t_last (t_sFd rfl rfl (sm_vr rfl) (t_end (pc_nx rfl))))))) s
def g_Reader_init (v_text : D) : Ms C D :=
    (bnd (fdS "Reader" "signs" (lcP (itmES (Fe.ret v_text)) (fun w => un2 w fun v_at v_own => (itP (tsb (cmp dNe (Fe.ret v_own) (Fe.ret (.str " ")))) (tupE (consA (Fe.ret v_own) (consA (Fe.ret v_at) nilA))))))) fun _ =>
    (bnd (fdS "Reader" "size" (op1 dLen (Fe.ret v_text))) fun _ =>
    (bnd (fdS "Reader" "at" (Fe.ret (.int 0))) fun _ =>
    (bnd (fdS "Reader" "deep" (Fe.ret (.int 0))) fun _ =>
    (bnd (itmA (fldS "Reader" "signs")) fun l => bnd (forN (τ := Unit) (fun w t1 => un2 w fun v_own v_place => (ifC (tsb (cmp dNotInT (Fe.ret v_own) (op2 dAdd (op2 dAdd (op2 dAdd (op2 dAdd (op2 dAdd (op2 dAdd (op2 dAdd (op2 dAdd (Fe.ret (.str "abcdefghij")) (Fe.ret (.str "0123"))) (Fe.ret (.str "XYZ"))) (Fe.ret (.str "@"))) (Fe.ret (.str "="))) (Fe.ret (.str "~"))) (Fe.ret (.str "&"))) (Fe.ret (.str "|"))) (Fe.ret (.str "()"))))) (rse "Flaw" ["place", "message"] (consA (Fe.ret v_place) (consA (Fe.ret (.str "this sign cannot stand here")) nilA)))
    (Fe.ret ()))) l ()) fun t1 =>
    (Fe.ret .non))))))
theorem lk_Reader_init (v_text : D) (s : C) : LeC (g_Reader_init v_text s) (runO 2 5 (b_Reader_init) s [v_text]) :=
  runC_sim (n := 2) (m := 5) (b := b_Reader_init) (ds := [v_text]) (g := (g_Reader_init v_text)) rfl (show SimT [.ost id, .p v_text, .nown, .nown, .nown] (b_Reader_init) (g_Reader_init v_text) postC from
    (t_sFd rfl rfl (sm_lc rfl (sm_itmES (sm_vr rfl)) (fun w => sg_un2 fun v_at v_own => (sg_it rfl (sm_tsb (sm_cmp (sm_vr rfl) sm_ret)) (sm_tupE (sm_consA (sm_vr rfl) (sm_consA (sm_vr rfl) sm_nilA)))))) (t_sFd rfl rfl (sm_op1 (sm_vr rfl)) (t_sFd rfl rfl sm_ret (t_sFd rfl rfl sm_ret (t_last (t_for (KL := (fun (t1 : Unit) => [.ost id, .p v_text, .nown, .nown, .nown])) (sm_itmA (sm_fldS rfl)) (by repeat' constructor) (fun w t1 => (t_un2 fun v_own v_place => (t_last (t_ifd (sm_tsb (sm_cmp (sm_vr rfl) (sm_op2 (sm_op2 (sm_op2 (sm_op2 (sm_op2 (sm_op2 (sm_op2 (sm_op2 sm_ret sm_ret) sm_ret) sm_ret) sm_ret) sm_ret) sm_ret) sm_ret) sm_ret))) (t_rse (sm_consA (sm_vr rfl) (sm_consA sm_ret sm_nilA))) (t_skip (t_end (pn_nx (by repeat' constructor)))))))) fun t1 => (t_end (pc_nx rfl))))))))) s
def g_Reader_ahead : Ms C D :=
    (ifE (tsb (cmp dLt (fldS "Reader" "at") (op1 dLen (fldS "Reader" "signs")))) (op2 dIxA (op2 dIxA (fldS "Reader" "signs") (fldS "Reader" "at")) (Fe.ret (.int 0))) (Fe.ret (.str "")))
theorem lk_Reader_ahead (s : C) : LeC (g_Reader_ahead s) (runO 1 1 (b_Reader_ahead) s []) :=
  runC_sim (n := 1) (m := 1) (b := b_Reader_ahead) (ds := []) (g := (g_Reader_ahead)) rfl (show SimT [.ost id] (b_Reader_ahead) (g_Reader_ahead) postC from
    (t_last (t_retF (pc_rt rfl) (sm_ifE (sm_tsb (sm_cmp (sm_fldS rfl) (sm_op1 (sm_fldS rfl)))) (sm_op2 (sm_op2 (sm_fldS rfl) (sm_fldS rfl)) sm_ret) sm_ret)))) s
def g_Reader_fail (v_message : D) : Ms C D :=
    (rse "Flaw" ["place", "message"] (consA (ifE (tsb (cmp dLt (fldS "Reader" "at") (op1 dLen (fldS "Reader" "signs")))) (op2 dIxA (op2 dIxA (fldS "Reader" "signs") (fldS "Reader" "at")) (Fe.ret (.int 1))) (fldS "Reader" "size")) (consA (Fe.ret v_message) nilA)))
theorem lk_Reader_fail (v_message : D) (s : C) : LeC (g_Reader_fail v_message s) (runO 2 2 (b_Reader_fail) s [v_message]) :=
  runC_sim (n := 2) (m := 2) (b := b_Reader_fail) (ds := [v_message]) (g := (g_Reader_fail v_message)) rfl (show SimT [.ost id, .p v_message] (b_Reader_fail) (g_Reader_fail v_message) postC from
    (t_last (t_rse (sm_consA (sm_ifE (sm_tsb (sm_cmp (sm_fldS rfl) (sm_op1 (sm_fldS rfl)))) (sm_op2 (sm_op2 (sm_fldS rfl) (sm_fldS rfl)) sm_ret) (sm_fldS rfl)) (sm_consA (sm_vr rfl) sm_nilA))))) s
def g_Reader_take (v_signs v_message : D) : Ms C D :=
    (bnd (clmS "Reader" "ahead" Fp.f_Reader_ahead nilA) fun v_own =>
    (bnd (ifC (orT (tsb (cmp dEq (Fe.ret v_own) (Fe.ret (.str "")))) (tsb (cmp dNotInT (Fe.ret v_own) (Fe.ret v_signs)))) (bnd (clmS "Reader" "fail" Fp.f_Reader_fail (consA (Fe.ret v_message) nilA)) fun _ =>
    (Fe.ret ())) (Fe.ret ())) fun (t1 : Unit) =>
    (bnd (faS "Reader" "at" (Fe.ret (.int 1))) fun _ =>
    (Fe.ret v_own))))
theorem lk_Reader_take (v_signs v_message : D) (s : C) : LeC (g_Reader_take v_signs v_message s) (runO 3 4 (b_Reader_take) s [v_signs, v_message]) :=
  runC_sim (n := 3) (m := 4) (b := b_Reader_take) (ds := [v_signs, v_message]) (g := (g_Reader_take v_signs v_message)) rfl (show SimT [.ost id, .p v_signs, .p v_message, .nown] (b_Reader_take) (g_Reader_take v_signs v_message) postC from
    (t_asg (sm_clmS rfl rfl sm_nilA) fun v_own => (t_join (τ := Unit) (fun (t1 : Unit) => [.ost id, .p v_signs, .p v_message, .p v_own]) (sm_orT (sm_tsb (sm_cmp (sm_vr rfl) sm_ret)) (sm_tsb (sm_cmp (sm_vr rfl) (sm_vr rfl)))) (t_last (t_drp (sm_clmS rfl rfl (sm_consA (sm_vr rfl) sm_nilA)) (t_end (pj_nx (by repeat' constructor))))) (t_end (pj_nx (by repeat' constructor))) fun t1 => (t_sFa rfl rfl sm_ret (t_last (t_retF (pc_rt rfl) (sm_vr rfl))))))) s
def g_Reader_single (r_Reader_ground : C → List D → FO) : Ms C D :=
    (bnd (Fe.ret (.int 0)) fun v_count =>
    (bnd (whN (τ := D) (fun t1 => (tsb (cmp dEq (clmS "Reader" "ahead" Fp.f_Reader_ahead nilA) (Fe.ret (.str "~"))))) (fun t1 => (bnd (faS "Reader" "at" (Fe.ret (.int 1))) fun _ =>
    (bnd (op2 dAddI (Fe.ret t1) (Fe.ret (.int 1))) fun v_count =>
    (Fe.ret v_count)))) fuel v_count) fun t1 =>
    (bnd (clmS "Reader" "ground" r_Reader_ground nilA) fun v_found =>
    (bnd (rg1 (Fe.ret t1)) fun l => bnd (forN (τ := D) (fun v_turn t2 => (bnd (mkP "Wish" Fp.f_Wish_init (consA (Fe.ret (.str "~")) (consA (Fe.ret (.str "")) (consA (lstE (consA (Fe.ret t2) nilA)) nilA)))) fun v_found =>
    (Fe.ret v_found))) l v_found) fun t2 =>
    (Fe.ret t2)))))
theorem lk_Reader_single (r_Reader_ground : C → List D → FO) (s : C) : LeC (g_Reader_single r_Reader_ground s) (runO 1 4 (b_Reader_single r_Reader_ground) s []) :=
  runC_sim (n := 1) (m := 4) (b := b_Reader_single r_Reader_ground) (ds := []) (g := (g_Reader_single r_Reader_ground)) rfl (show SimT [.ost id, .nown, .nown, .nown] (b_Reader_single r_Reader_ground) (g_Reader_single r_Reader_ground) postC from
    (t_asg sm_ret fun v_count => (t_while (KL := (fun (t1 : D) => [.ost id, .p t1, .nown, .nown])) (by repeat' constructor) (fun t1 => (sm_tsb (sm_cmp (sm_clmS rfl rfl sm_nilA) sm_ret))) (fun t1 => (t_sFa rfl rfl sm_ret (t_last (t_asg (sm_op2 (sm_vr rfl) sm_ret) fun v_count => (t_end (pn_nx (by repeat' constructor))))))) fun t1 => (t_asg (sm_clmS rfl rfl sm_nilA) fun v_found => (t_for (KL := (fun (t2 : D) => [.ost id, .p t1, .p t2, .nown])) (sm_rg1 (sm_vr rfl)) (by repeat' constructor) (fun v_turn t2 => (t_tgt (t_last (t_asg (sm_mkP (sm_consA sm_ret (sm_consA sm_ret (sm_consA (sm_lstE (sm_consA (sm_vr rfl) sm_nilA)) sm_nilA)))) fun v_found => (t_end (pn_nx (by repeat' constructor))))))) fun t2 => (t_last (t_retF (pc_rt rfl) (sm_vr rfl)))))))) s
def g_Reader_both (r_Reader_single : C → List D → FO) : Ms C D :=
    (bnd (clmS "Reader" "single" r_Reader_single nilA) fun v_found =>
    (bnd (whN (τ := D) (fun t1 => (tsb (cmp dEq (clmS "Reader" "ahead" Fp.f_Reader_ahead nilA) (Fe.ret (.str "&"))))) (fun t1 => (bnd (faS "Reader" "at" (Fe.ret (.int 1))) fun _ =>
    (bnd (mkP "Wish" Fp.f_Wish_init (consA (Fe.ret (.str "&")) (consA (Fe.ret (.str "")) (consA (lstE (consA (Fe.ret t1) (consA (clmS "Reader" "single" r_Reader_single nilA) nilA))) nilA)))) fun v_found =>
    (Fe.ret v_found)))) fuel v_found) fun t1 =>
    (Fe.ret t1)))
theorem lk_Reader_both (r_Reader_single : C → List D → FO) (s : C) : LeC (g_Reader_both r_Reader_single s) (runO 1 2 (b_Reader_both r_Reader_single) s []) :=
  runC_sim (n := 1) (m := 2) (b := b_Reader_both r_Reader_single) (ds := []) (g := (g_Reader_both r_Reader_single)) rfl (show SimT [.ost id, .nown] (b_Reader_both r_Reader_single) (g_Reader_both r_Reader_single) postC from
    (t_asg (sm_clmS rfl rfl sm_nilA) fun v_found => (t_while (KL := (fun (t1 : D) => [.ost id, .p t1])) (by repeat' constructor) (fun t1 => (sm_tsb (sm_cmp (sm_clmS rfl rfl sm_nilA) sm_ret))) (fun t1 => (t_sFa rfl rfl sm_ret (t_last (t_asg (sm_mkP (sm_consA sm_ret (sm_consA sm_ret (sm_consA (sm_lstE (sm_consA (sm_vr rfl) (sm_consA (sm_clmS rfl rfl sm_nilA) sm_nilA))) sm_nilA)))) fun v_found => (t_end (pn_nx (by repeat' constructor))))))) fun t1 => (t_last (t_retF (pc_rt rfl) (sm_vr rfl)))))) s
def g_Reader_either (r_Reader_both : C → List D → FO) : Ms C D :=
    (bnd (clmS "Reader" "both" r_Reader_both nilA) fun v_found =>
    (bnd (whN (τ := D) (fun t1 => (tsb (cmp dEq (clmS "Reader" "ahead" Fp.f_Reader_ahead nilA) (Fe.ret (.str "|"))))) (fun t1 => (bnd (faS "Reader" "at" (Fe.ret (.int 1))) fun _ =>
    (bnd (mkP "Wish" Fp.f_Wish_init (consA (Fe.ret (.str "|")) (consA (Fe.ret (.str "")) (consA (lstE (consA (Fe.ret t1) (consA (clmS "Reader" "both" r_Reader_both nilA) nilA))) nilA)))) fun v_found =>
    (Fe.ret v_found)))) fuel v_found) fun t1 =>
    (Fe.ret t1)))
theorem lk_Reader_either (r_Reader_both : C → List D → FO) (s : C) : LeC (g_Reader_either r_Reader_both s) (runO 1 2 (b_Reader_either r_Reader_both) s []) :=
  runC_sim (n := 1) (m := 2) (b := b_Reader_either r_Reader_both) (ds := []) (g := (g_Reader_either r_Reader_both)) rfl (show SimT [.ost id, .nown] (b_Reader_either r_Reader_both) (g_Reader_either r_Reader_both) postC from
    (t_asg (sm_clmS rfl rfl sm_nilA) fun v_found => (t_while (KL := (fun (t1 : D) => [.ost id, .p t1])) (by repeat' constructor) (fun t1 => (sm_tsb (sm_cmp (sm_clmS rfl rfl sm_nilA) sm_ret))) (fun t1 => (t_sFa rfl rfl sm_ret (t_last (t_asg (sm_mkP (sm_consA sm_ret (sm_consA sm_ret (sm_consA (sm_lstE (sm_consA (sm_vr rfl) (sm_consA (sm_clmS rfl rfl sm_nilA) sm_nilA))) sm_nilA)))) fun v_found => (t_end (pn_nx (by repeat' constructor))))))) fun t1 => (t_last (t_retF (pc_rt rfl) (sm_vr rfl)))))) s
def g_Reader_ground (r_Reader_either : C → List D → FO) : Ms C D :=
    (ifC (tsb (cmp dEq (clmS "Reader" "ahead" Fp.f_Reader_ahead nilA) (Fe.ret (.str "(")))) (bnd (ifC (tsb (cmp dEq (fldS "Reader" "deep") (Fe.ret (.int 20)))) (bnd (clmS "Reader" "fail" Fp.f_Reader_fail (consA (Fe.ret (.str "this is too deep")) nilA)) fun _ =>
    (Fe.ret ())) (Fe.ret ())) fun (t1 : Unit) =>
    (bnd (faS "Reader" "at" (Fe.ret (.int 1))) fun _ =>
    (bnd (faS "Reader" "deep" (Fe.ret (.int 1))) fun _ =>
    (bnd (clmS "Reader" "either" r_Reader_either nilA) fun v_found =>
    (bnd (clmS "Reader" "take" Fp.f_Reader_take (consA (Fe.ret (.str ")")) (consA (Fe.ret (.str "expected )")) nilA))) fun _ =>
    (bnd (fsS "Reader" "deep" (Fe.ret (.int 1))) fun _ =>
    (Fe.ret v_found)))))))
    (bnd (clmS "Reader" "take" Fp.f_Reader_take (consA (op2 dAdd (Fe.ret (.str "abcdefghij")) (Fe.ret (.str "XYZ"))) (consA (Fe.ret (.str "expected a wish")) nilA))) fun v_name =>
    (ifC (tsb (cmp dEq (clmS "Reader" "take" Fp.f_Reader_take (consA (op2 dAdd (Fe.ret (.str "@")) (Fe.ret (.str "="))) (consA (Fe.ret (.str "expected @ or =")) nilA))) (Fe.ret (.str "@")))) (mkP "Wish" Fp.f_Wish_init (consA (Fe.ret (.str "@")) (consA (op2 dAdd (Fe.ret v_name) (clmS "Reader" "take" Fp.f_Reader_take (consA (Fe.ret (.str "0123")) (consA (Fe.ret (.str "expected a place")) nilA)))) (consA (lstE nilA) nilA))))
    (mkP "Wish" Fp.f_Wish_init (consA (Fe.ret (.str "=")) (consA (op2 dAdd (Fe.ret v_name) (clmS "Reader" "take" Fp.f_Reader_take (consA (op2 dAdd (Fe.ret (.str "abcdefghij")) (Fe.ret (.str "XYZ"))) (consA (Fe.ret (.str "expected a name")) nilA)))) (consA (lstE nilA) nilA)))))))
theorem lk_Reader_ground (r_Reader_either : C → List D → FO) (s : C) : LeC (g_Reader_ground r_Reader_either s) (runO 1 3 (b_Reader_ground r_Reader_either) s []) :=
  runC_sim (n := 1) (m := 3) (b := b_Reader_ground r_Reader_either) (ds := []) (g := (g_Reader_ground r_Reader_either)) rfl (show SimT [.ost id, .nown, .nown] (b_Reader_ground r_Reader_either) (g_Reader_ground r_Reader_either) postC from
    (t_ifd (sm_tsb (sm_cmp (sm_clmS rfl rfl sm_nilA) sm_ret)) (t_assoc (t_join (τ := Unit) (fun (t1 : Unit) => [.ost id, .nown, .nown]) (sm_tsb (sm_cmp (sm_fldS rfl) sm_ret)) (t_last (t_drp (sm_clmS rfl rfl (sm_consA sm_ret sm_nilA)) (t_end (pj_nx (by repeat' constructor))))) (t_end (pj_nx (by repeat' constructor))) fun t1 => (t_assoc (t_sFa rfl rfl sm_ret (t_assoc (t_sFa rfl rfl sm_ret (t_assoc (t_asg (sm_clmS rfl rfl sm_nilA) fun v_found => (t_assoc (t_drp (sm_clmS rfl rfl (sm_consA sm_ret (sm_consA sm_ret sm_nilA))) (t_assoc (t_sFs rfl rfl sm_ret (t_retF (pc_rt rfl) (sm_vr rfl)))))))))))))) (t_skip (t_asg (sm_clmS rfl rfl (sm_consA (sm_op2 sm_ret sm_ret) (sm_consA sm_ret sm_nilA))) fun v_name => (t_ifd (sm_tsb (sm_cmp (sm_clmS rfl rfl (sm_consA (sm_op2 sm_ret sm_ret) (sm_consA sm_ret sm_nilA))) sm_ret)) (t_retF (pc_rt rfl) (sm_mkP (sm_consA sm_ret (sm_consA (sm_op2 (sm_vr rfl) (sm_clmS rfl rfl (sm_consA sm_ret (sm_consA sm_ret sm_nilA)))) (sm_consA (sm_lstE sm_nilA) sm_nilA))))) (t_skip (t_last (t_retF (pc_rt rfl) (sm_mkP (sm_consA sm_ret (sm_consA (sm_op2 (sm_vr rfl) (sm_clmS rfl rfl (sm_consA (sm_op2 sm_ret sm_ret) (sm_consA sm_ret sm_nilA)))) (sm_consA (sm_lstE sm_nilA) sm_nilA)))))))))))) s
def g_Reader_whole : Ms C D :=
    (bnd (clmS "Reader" "either" (Fp.f_Reader_either 22) nilA) fun v_found =>
    (bnd (ifC (tsb (cmp dLt (fldS "Reader" "at") (op1 dLen (fldS "Reader" "signs")))) (bnd (clmS "Reader" "fail" Fp.f_Reader_fail (consA (Fe.ret (.str "expected the end")) nilA)) fun _ =>
    (Fe.ret ())) (Fe.ret ())) fun (t1 : Unit) =>
    (Fe.ret v_found)))
theorem lk_Reader_whole (s : C) : LeC (g_Reader_whole s) (runO 1 2 (b_Reader_whole) s []) :=
  runC_sim (n := 1) (m := 2) (b := b_Reader_whole) (ds := []) (g := (g_Reader_whole)) rfl (show SimT [.ost id, .nown] (b_Reader_whole) (g_Reader_whole) postC from
    (t_asg (sm_clmS rfl rfl sm_nilA) fun v_found => (t_join (τ := Unit) (fun (t1 : Unit) => [.ost id, .p v_found]) (sm_tsb (sm_cmp (sm_fldS rfl) (sm_op1 (sm_fldS rfl)))) (t_last (t_drp (sm_clmS rfl rfl (sm_consA sm_ret sm_nilA)) (t_end (pj_nx (by repeat' constructor))))) (t_end (pj_nx (by repeat' constructor))) fun t1 => (t_last (t_retF (pc_rt rfl) (sm_vr rfl)))))) s
def g_need_text (v_text : D) : Ms Unit D :=
    (bnd (cl Fp.f_need (consA (andV (cmp1 (dIsi "str") (Fe.ret v_text)) (cmp dLe (op1 dLen (Fe.ret v_text)) (Fe.ret (.int 200)))) (consA (Fe.ret (.str "text")) nilA))) fun _ =>
    (Fe.ret .non))
theorem lk_need_text (v_text : D) : LeF (g_need_text v_text ()) (run 1 1 (b_need_text) [v_text]) :=
  run_sim () rfl (show SimT [.p v_text] (b_need_text) (g_need_text v_text) postF from
    (t_last (t_drp (sm_cl (sm_consA (sm_andV (sm_cmp1 (sm_vr rfl)) (sm_cmp (sm_op1 (sm_vr rfl)) sm_ret)) (sm_consA sm_ret sm_nilA))) (t_end pf_nx))))
theorem ok_need_text {v_text d : D} (e : g_need_text v_text = Fe.ret d) : f_need_text [v_text] = .ok d := LeF.ok (s := ()) (lk_need_text v_text) e
theorem ex_need_text {v_text : D} {x : Ex} (e : g_need_text v_text = raise x) : f_need_text [v_text] = .ex x := LeF.ex (s := ()) (lk_need_text v_text) e
def g_flaw (v_text : D) : Ms Unit D :=
    (bnd (cl Fp.f_need_text (consA (Fe.ret v_text) nilA)) fun _ =>
    (tryP "Flaw" "place" "message" (tmpC "Reader" "whole" Fp.f_Reader_init Fp.f_Reader_whole (consA (Fe.ret v_text) nilA))
    (Fe.ret .non)))
theorem lk_flaw (v_text : D) : LeF (g_flaw v_text ()) (run 1 2 (b_flaw) [v_text]) :=
  run_sim () rfl (show SimT [.p v_text, .nown] (b_flaw) (g_flaw v_text) postF from
    (t_drp (sm_cl (sm_consA (sm_vr rfl) sm_nilA)) (t_tryF pf_rt (sm_tmpC (sm_consA (sm_vr rfl) sm_nilA)) (t_last (t_retF pf_rt sm_ret)))))
theorem ok_flaw {v_text d : D} (e : g_flaw v_text = Fe.ret d) : f_flaw [v_text] = .ok d := LeF.ok (s := ()) (lk_flaw v_text) e
theorem ex_flaw {v_text : D} {x : Ex} (e : g_flaw v_text = raise x) : f_flaw [v_text] = .ex x := LeF.ex (s := ()) (lk_flaw v_text) e
def g_written (rec : List D → F) (v_wish v_level : D) : Ms Unit D :=
    (ifC (tsb (cmp dInA (op1 (dFld "Wish" "form") (Fe.ret v_wish)) (tupE (consA (Fe.ret (.str "@")) (consA (Fe.ret (.str "=")) nilA))))) (op2 dAdd (op2 dAdd (op2 dIxT (op1 (dFld "Wish" "names") (Fe.ret v_wish)) (Fe.ret (.int 0))) (op1 (dFld "Wish" "form") (Fe.ret v_wish))) (op2 dIxT (op1 (dFld "Wish" "names") (Fe.ret v_wish)) (Fe.ret (.int 1))))
    (ifC (tsb (cmp dEq (op1 (dFld "Wish" "form") (Fe.ret v_wish)) (Fe.ret (.str "~")))) (op2 dAdd (Fe.ret (.str "~")) (cl rec (consA (op2 dIxA (op1 (dFld "Wish" "inner") (Fe.ret v_wish)) (Fe.ret (.int 0))) (consA (Fe.ret (.int 2)) nilA))))
    (bnd (ifE (tsb (cmp dEq (op1 (dFld "Wish" "form") (Fe.ret v_wish)) (Fe.ret (.str "|")))) (Fe.ret (.int 0)) (Fe.ret (.int 1))) fun v_own =>
    (bnd (op2 dAdd (op2 dAdd (cl rec (consA (op2 dIxA (op1 (dFld "Wish" "inner") (Fe.ret v_wish)) (Fe.ret (.int 0))) (consA (Fe.ret v_own) nilA))) (op1 (dFld "Wish" "form") (Fe.ret v_wish))) (cl rec (consA (op2 dIxA (op1 (dFld "Wish" "inner") (Fe.ret v_wish)) (Fe.ret (.int 1))) (consA (op2 dAdd (Fe.ret v_own) (Fe.ret (.int 1))) nilA)))) fun v_text =>
    (ifE (tsb (cmp dLt (Fe.ret v_own) (Fe.ret v_level))) (op2 dAdd (op2 dAdd (Fe.ret (.str "(")) (Fe.ret v_text)) (Fe.ret (.str ")"))) (Fe.ret v_text))))))
theorem lk_written (rec : List D → F) (v_wish v_level : D) : LeF (g_written rec v_wish v_level ()) (run 2 4 (b_written rec) [v_wish, v_level]) :=
  run_sim () rfl (show SimT [.p v_wish, .p v_level, .nown, .nown] (b_written rec) (g_written rec v_wish v_level) postF from
    (t_ifd (sm_tsb (sm_cmp (sm_op1 (sm_vr rfl)) (sm_tupE (sm_consA sm_ret (sm_consA sm_ret sm_nilA))))) (t_retF pf_rt (sm_op2 (sm_op2 (sm_op2 (sm_op1 (sm_vr rfl)) sm_ret) (sm_op1 (sm_vr rfl))) (sm_op2 (sm_op1 (sm_vr rfl)) sm_ret))) (t_skip (t_ifd (sm_tsb (sm_cmp (sm_op1 (sm_vr rfl)) sm_ret)) (t_retF pf_rt (sm_op2 sm_ret (sm_cl (sm_consA (sm_op2 (sm_op1 (sm_vr rfl)) sm_ret) (sm_consA sm_ret sm_nilA))))) (t_skip (t_asg (sm_ifE (sm_tsb (sm_cmp (sm_op1 (sm_vr rfl)) sm_ret)) sm_ret sm_ret) fun v_own => (t_asg (sm_op2 (sm_op2 (sm_cl (sm_consA (sm_op2 (sm_op1 (sm_vr rfl)) sm_ret) (sm_consA (sm_vr rfl) sm_nilA))) (sm_op1 (sm_vr rfl))) (sm_cl (sm_consA (sm_op2 (sm_op1 (sm_vr rfl)) sm_ret) (sm_consA (sm_op2 (sm_vr rfl) sm_ret) sm_nilA)))) fun v_text => (t_last (t_retF pf_rt (sm_ifE (sm_tsb (sm_cmp (sm_vr rfl) (sm_vr rfl))) (sm_op2 (sm_op2 sm_ret (sm_vr rfl)) sm_ret) (sm_vr rfl)))))))))))
def g_plain_text (v_text : D) : Ms Unit D :=
    (bnd (cl Fp.f_need_text (consA (Fe.ret v_text) nilA)) fun _ =>
    (ifE (tsb (cmp dIsNot (cl Fp.f_flaw (consA (Fe.ret v_text) nilA)) (Fe.ret .non))) (Fe.ret .non) (cl (Fp.f_written 8) (consA (tmpC "Reader" "whole" Fp.f_Reader_init Fp.f_Reader_whole (consA (Fe.ret v_text) nilA)) (consA (Fe.ret (.int 0)) nilA)))))
theorem lk_plain_text (v_text : D) : LeF (g_plain_text v_text ()) (run 1 1 (b_plain_text) [v_text]) :=
  run_sim () rfl (show SimT [.p v_text] (b_plain_text) (g_plain_text v_text) postF from
    (t_drp (sm_cl (sm_consA (sm_vr rfl) sm_nilA)) (t_last (t_retF pf_rt (sm_ifE (sm_tsb (sm_cmp (sm_cl (sm_consA (sm_vr rfl) sm_nilA)) sm_ret)) sm_ret (sm_cl (sm_consA (sm_tmpC (sm_consA (sm_vr rfl) sm_nilA)) (sm_consA sm_ret sm_nilA))))))))
theorem ok_plain_text {v_text d : D} (e : g_plain_text v_text = Fe.ret d) : f_plain_text [v_text] = .ok d := LeF.ok (s := ()) (lk_plain_text v_text) e
theorem ex_plain_text {v_text : D} {x : Ex} (e : g_plain_text v_text = raise x) : f_plain_text [v_text] = .ex x := LeF.ex (s := ()) (lk_plain_text v_text) e
def g__law_tree (rec : C → List D → FO) (v_deep : D) : Ms D D :=
    (ifC (orT (tsb (cmp dEq (Fe.ret v_deep) (Fe.ret (.int 0)))) (tsb (cmp dEq (cloS Fp.f__law_taken (consA (Fe.ret (.int 4)) nilA)) (Fe.ret (.int 0))))) (bnd (cloS Fp.f__law_pick (consA (Fe.ret (.str "abcdefghijXYZ")) nilA)) fun v_one =>
    (ifE (tsb (cmp dEq (cloS Fp.f__law_taken (consA (Fe.ret (.int 2)) nilA)) (Fe.ret (.int 0)))) (tupE (consA (Fe.ret (.str "@")) (consA (Fe.ret v_one) (consA (cloS Fp.f__law_pick (consA (Fe.ret (.str "0123")) nilA)) nilA)))) (tupE (consA (Fe.ret (.str "=")) (consA (Fe.ret v_one) (consA (cloS Fp.f__law_pick (consA (Fe.ret (.str "abjXYZ")) nilA)) nilA))))))
    (ifC (tsb (cmp dEq (cloS Fp.f__law_taken (consA (Fe.ret (.int 3)) nilA)) (Fe.ret (.int 0)))) (tupE (consA (Fe.ret (.str "~")) (consA (cloS rec (consA (op2 dSub (Fe.ret v_deep) (Fe.ret (.int 1))) nilA)) (consA (Fe.ret .non) nilA))))
    (tupE (consA (cloS Fp.f__law_pick (consA (Fe.ret (.str "&|")) nilA)) (consA (cloS rec (consA (op2 dSub (Fe.ret v_deep) (Fe.ret (.int 1))) nilA)) (consA (cloS rec (consA (op2 dSub (Fe.ret v_deep) (Fe.ret (.int 1))) nilA)) nilA))))))
theorem lk__law_tree (rec : C → List D → FO) (v_deep : D) (s : D) : LeO (g__law_tree rec v_deep s) (runO 2 3 (b__law_tree rec) (.o s) [v_deep]) :=
  runO_sim (n := 2) (m := 3) (b := b__law_tree rec) (ds := [v_deep]) (g := (g__law_tree rec v_deep)) rfl (show SimT [.os id, .p v_deep, .nown] (b__law_tree rec) (g__law_tree rec v_deep) postO from
    (t_ifd (sm_orT (sm_tsb (sm_cmp (sm_vr rfl) sm_ret)) (sm_tsb (sm_cmp (sm_clo rfl rfl (sm_consA sm_ret sm_nilA)) sm_ret))) (t_assoc (t_asg (sm_clo rfl rfl (sm_consA sm_ret sm_nilA)) fun v_one => (t_retF (po_rt rfl) (sm_ifE (sm_tsb (sm_cmp (sm_clo rfl rfl (sm_consA sm_ret sm_nilA)) sm_ret)) (sm_tupE (sm_consA sm_ret (sm_consA (sm_vr rfl) (sm_consA (sm_clo rfl rfl (sm_consA sm_ret sm_nilA)) sm_nilA)))) (sm_tupE (sm_consA sm_ret (sm_consA (sm_vr rfl) (sm_consA (sm_clo rfl rfl (sm_consA sm_ret sm_nilA)) sm_nilA)))))))) (t_skip (t_ifd (sm_tsb (sm_cmp (sm_clo rfl rfl (sm_consA sm_ret sm_nilA)) sm_ret)) (t_retF (po_rt rfl) (sm_tupE (sm_consA sm_ret (sm_consA (sm_clo rfl rfl (sm_consA (sm_op2 (sm_vr rfl) sm_ret) sm_nilA)) (sm_consA sm_ret sm_nilA))))) (t_skip (t_last (t_retF (po_rt rfl) (sm_tupE (sm_consA (sm_clo rfl rfl (sm_consA sm_ret sm_nilA)) (sm_consA (sm_clo rfl rfl (sm_consA (sm_op2 (sm_vr rfl) sm_ret) sm_nilA)) (sm_consA (sm_clo rfl rfl (sm_consA (sm_op2 (sm_vr rfl) sm_ret) sm_nilA)) sm_nilA))))))))))) s
def g__law_blank : Ms D D :=
    (op2 dMulS (Fe.ret (.str " ")) (cloS Fp.f__law_pick (consA (lstE (consA (Fe.ret (.int 0)) (consA (Fe.ret (.int 0)) (consA (Fe.ret (.int 0)) (consA (Fe.ret (.int 1)) (consA (Fe.ret (.int 2)) nilA)))))) nilA)))
theorem lk__law_blank (s : D) : LeO (g__law_blank s) (runO 1 1 (b__law_blank) (.o s) []) :=
  runO_sim (n := 1) (m := 1) (b := b__law_blank) (ds := []) (g := (g__law_blank)) rfl (show SimT [.os id] (b__law_blank) (g__law_blank) postO from
    (t_last (t_retF (po_rt rfl) (sm_op2 sm_ret (sm_clo rfl rfl (sm_consA (sm_lstE (sm_consA sm_ret (sm_consA sm_ret (sm_consA sm_ret (sm_consA sm_ret (sm_consA sm_ret sm_nilA)))))) sm_nilA)))))) s
def g__law_text (rec : C → List D → FO) (v_tree v_level v_is_plain : D) : Ms D D :=
    (bnd (Fe.ret v_tree) (fun w => un3 w fun v_sign v_one v_other => (bnd (ifE (tst (Fe.ret v_is_plain)) (Fe.ret (.str "")) (cloS Fp.f__law_blank nilA)) fun v_gap =>
    (bnd (ifC (tsb (cmp dInA (Fe.ret v_sign) (tupE (consA (Fe.ret (.str "@")) (consA (Fe.ret (.str "=")) nilA))))) (bnd (Fe.ret (.int 3)) fun u1 => bnd (op2 dAdd (op2 dAdd (op2 dAdd (Fe.ret v_one) (Fe.ret v_gap)) (Fe.ret v_sign)) (Fe.ret v_other)) fun u2 => (fun v_own v_found =>
    (Fe.ret (v_own, v_found))) u1 u2) (ifC (tsb (cmp dEq (Fe.ret v_sign) (Fe.ret (.str "~")))) (bnd (Fe.ret (.int 2)) fun u1 => bnd (op2 dAdd (op2 dAdd (Fe.ret (.str "~")) (Fe.ret v_gap)) (cloS rec (consA (Fe.ret v_one) (consA (Fe.ret (.int 2)) (consA (Fe.ret v_is_plain) nilA))))) fun u2 => (fun v_own v_found =>
    (Fe.ret (v_own, v_found))) u1 u2)
    (bnd (ifE (tsb (cmp dEq (Fe.ret v_sign) (Fe.ret (.str "|")))) (Fe.ret (.int 0)) (Fe.ret (.int 1))) fun v_own =>
    (bnd (op2 dAdd (op2 dAdd (op2 dAdd (cloS rec (consA (Fe.ret v_one) (consA (Fe.ret v_own) (consA (Fe.ret v_is_plain) nilA)))) (Fe.ret v_gap)) (Fe.ret v_sign)) (cloS rec (consA (Fe.ret v_other) (consA (op2 dAdd (Fe.ret v_own) (Fe.ret (.int 1))) (consA (Fe.ret v_is_plain) nilA))))) fun v_found =>
    (Fe.ret (v_own, v_found)))))) fun (t1 : D × D) =>
    (bnd (andV (notV (Fe.ret v_is_plain)) (cmp dEq (cloS Fp.f__law_taken (consA (Fe.ret (.int 5)) nilA)) (Fe.ret (.int 0)))) fun v_is_more =>
    (ifE (orT (tsb (cmp dLt (Fe.ret t1.1) (Fe.ret v_level))) (tst (Fe.ret v_is_more))) (op2 dAdd (op2 dAdd (Fe.ret (.str "(")) (Fe.ret t1.2)) (Fe.ret (.str ")"))) (op2 dAdd (Fe.ret t1.2) (Fe.ret v_gap))))))))
theorem lk__law_text (rec : C → List D → FO) (v_tree v_level v_is_plain : D) (s : D) : LeO (g__law_text rec v_tree v_level v_is_plain s) (runO 4 11 (b__law_text rec) (.o s) [v_tree, v_level, v_is_plain]) :=
  runO_sim (n := 4) (m := 11) (b := b__law_text rec) (ds := [v_tree, v_level, v_is_plain]) (g := (g__law_text rec v_tree v_level v_is_plain)) rfl (show SimT [.os id, .p v_tree, .p v_level, .p v_is_plain, .nown, .nown, .nown, .nown, .nown, .nown, .nown] (b__law_text rec) (g__law_text rec v_tree v_level v_is_plain) postO from
    (t_asgT (sm_vr rfl) (fun w => t_un3 fun v_sign v_one v_other => (t_asg (sm_ifE (sm_tst (sm_vr rfl)) sm_ret (sm_clo rfl rfl sm_nilA)) fun v_gap => (t_join (τ := D × D) (fun (t1 : D × D) => [.os id, .p v_tree, .p v_level, .p v_is_plain, .p v_sign, .p v_one, .p v_other, .p v_gap, .p t1.1, .p t1.2, .nown]) (sm_tsb (sm_cmp (sm_vr rfl) (sm_tupE (sm_consA sm_ret (sm_consA sm_ret sm_nilA))))) (t_last (t_par sm_ret (sm_op2 (sm_op2 (sm_op2 (sm_vr rfl) (sm_vr rfl)) (sm_vr rfl)) (sm_vr rfl)) fun v_own v_found => (t_end (pj_nx (by repeat' constructor))))) (t_last (t_ifd (sm_tsb (sm_cmp (sm_vr rfl) sm_ret)) (t_par sm_ret (sm_op2 (sm_op2 sm_ret (sm_vr rfl)) (sm_clo rfl rfl (sm_consA (sm_vr rfl) (sm_consA sm_ret (sm_consA (sm_vr rfl) sm_nilA))))) fun v_own v_found => (t_end (pj_nx (by repeat' constructor)))) (t_assoc (t_asg (sm_ifE (sm_tsb (sm_cmp (sm_vr rfl) sm_ret)) sm_ret sm_ret) fun v_own => (t_asg (sm_op2 (sm_op2 (sm_op2 (sm_clo rfl rfl (sm_consA (sm_vr rfl) (sm_consA (sm_vr rfl) (sm_consA (sm_vr rfl) sm_nilA)))) (sm_vr rfl)) (sm_vr rfl)) (sm_clo rfl rfl (sm_consA (sm_vr rfl) (sm_consA (sm_op2 (sm_vr rfl) sm_ret) (sm_consA (sm_vr rfl) sm_nilA))))) fun v_found => (t_end (pj_nx (by repeat' constructor)))))))) fun t1 => (t_asg (sm_andV (sm_notV (sm_vr rfl)) (sm_cmp (sm_clo rfl rfl (sm_consA sm_ret sm_nilA)) sm_ret)) fun v_is_more => (t_last (t_retF (po_rt rfl) (sm_ifE (sm_orT (sm_tsb (sm_cmp (sm_vr rfl) (sm_vr rfl))) (sm_tst (sm_vr rfl))) (sm_op2 (sm_op2 sm_ret (sm_vr rfl)) sm_ret) (sm_op2 (sm_vr rfl) (sm_vr rfl))))))))))) s
end Fp
namespace K03
def g_law (v_script : D) : Ms D D :=
    (bnd (lstE (consA (Fe.ret v_script) (consA (Fe.ret (.int 0)) (consA (Fe.ret (.int 106013)) (consA (Fe.ret (.int 0)) nilA))))) fun w => bnd (putS w) fun _ =>
    (bnd (rg1 (Fe.ret (.int 12))) fun l => bnd (forX (τ := Unit) (fun v_turn t1 => (bnd (cloS (Fp.f__law_tree 6) (consA (cloS Fp.f__law_taken (consA (Fe.ret (.int 5)) nilA)) nilA)) fun v_tree =>
    (bnd (op2 dAdd (cloS Fp.f__law_blank nilA) (cloS (Fp.f__law_text 6) (consA (Fe.ret v_tree) (consA (Fe.ret (.int 0)) (consA (Fe.ret (.bl false)) nilA))))) fun u1 => bnd (cloS (Fp.f__law_text 6) (consA (Fe.ret v_tree) (consA (Fe.ret (.int 0)) (consA (Fe.ret (.bl true)) nilA)))) fun u2 => (fun v_text v_due =>
    (ifC (tsb (cmp dGt (op1 dLen (Fe.ret v_text)) (Fe.ret (.int 200)))) (Fe.ret (.nx ()))
    (ifC (orT (tsb (cmp dIsNot (cl Fp.f_flaw (consA (Fe.ret v_text) nilA)) (Fe.ret .non))) (orT (notT (tst (cl (Fp.f__law_alike 6) (consA (cl Fp.f_plain_text (consA (Fe.ret v_text) nilA)) (consA (Fe.ret v_due) nilA))))) (notT (tst (cl (Fp.f__law_alike 6) (consA (clk Fp.f_plain_text 0 1 nilA (consA (Fe.ret v_due) nilA)) (consA (Fe.ret v_due) nilA))))))) (bnd (Fe.ret (.bl false)) fun w => Fe.ret (.rt w))
    (Fe.ret (.nx ()))))) u1 u2))) l ()) fun r => lpK r (fun t1 =>
    (bnd (lstE (consA (Fe.ret .non) (consA (Fe.ret (.int 5)) (consA (op2 dMulS (Fe.ret (.str "a")) (Fe.ret (.int 201))) (consA (Fe.ret (.bl true)) (consA (tupE (consA (Fe.ret (.str "a@0")) nilA)) nilA)))))) fun v_bad =>
    (cmp dEq (lstE (consA (refused "BadArgument" "name" (cl Fp.f_plain_text (consA (cloS Fp.f__law_pick (consA (Fe.ret v_bad) nilA)) nilA))) (consA (refused "BadArgument" "name" (cl Fp.f_flaw (consA (cloS Fp.f__law_pick (consA (Fe.ret v_bad) nilA)) nilA))) nilA))) (lstE (consA (Fe.ret (.str "text")) (consA (Fe.ret (.str "text")) nilA)))))) (fun d => Fe.ret d)))
theorem lk_law (v_script : D) (s : D) : LeF (g_law v_script s) (run 1 7 (b_law) [v_script]) :=
  run_sim s rfl (show SimT [.p v_script, .nown, .nown, .nown, .nown, .nown, .nown] (b_law) (g_law v_script) postF from
    (t_newS rfl (sm_lstE (sm_consA (sm_vr rfl) (sm_consA sm_ret (sm_consA sm_ret (sm_consA sm_ret sm_nilA))))) (t_forX (Q := qT) (KL := (fun (t1 : Unit) => [.p v_script, .os id, .nown, .nown, .nown, .nown, .nown])) (KB := (fun (t1 : Unit) => [.p v_script, .os id, .nown, .nown, .nown, .nown, .nown])) (sm_rg1 sm_ret) (by repeat' constructor) (fun _ => (by repeat' constructor)) (fun v_turn t1 => (t_tgt (t_asg (sm_clo rfl rfl (sm_consA (sm_clo rfl rfl (sm_consA sm_ret sm_nilA)) sm_nilA)) fun v_tree => (t_par (sm_op2 (sm_clo rfl rfl sm_nilA) (sm_clo rfl rfl (sm_consA (sm_vr rfl) (sm_consA sm_ret (sm_consA sm_ret sm_nilA))))) (sm_clo rfl rfl (sm_consA (sm_vr rfl) (sm_consA sm_ret (sm_consA sm_ret sm_nilA)))) fun v_text v_due => (t_ifd (sm_tsb (sm_cmp (sm_op1 (sm_vr rfl)) sm_ret)) (t_cnt (pl_ct (by repeat' constructor))) (t_skip (t_last (t_ifd (sm_orT (sm_tsb (sm_cmp (sm_cl (sm_consA (sm_vr rfl) sm_nilA)) sm_ret)) (sm_orT (sm_notT (sm_tst (sm_cl (sm_consA (sm_cl (sm_consA (sm_vr rfl) sm_nilA)) (sm_consA (sm_vr rfl) sm_nilA))))) (sm_notT (sm_tst (sm_cl (sm_consA (sm_clk sm_nilA (sm_consA (sm_vr rfl) sm_nilA)) (sm_consA (sm_vr rfl) sm_nilA))))))) (t_ret (r := Lp.rt) pl_rt sm_ret) (t_skip (t_end (pl_nx (by repeat' constructor)))))))))))) (fun t1 => (t_asg (sm_lstE (sm_consA sm_ret (sm_consA sm_ret (sm_consA (sm_op2 sm_ret sm_ret) (sm_consA sm_ret (sm_consA (sm_tupE (sm_consA sm_ret sm_nilA)) sm_nilA)))))) fun v_bad => (t_last (t_retF pf_rt (sm_cmp (sm_lstE (sm_consA (sm_ref (sm_cl (sm_consA (sm_clo rfl rfl (sm_consA (sm_vr rfl) sm_nilA)) sm_nilA))) (sm_consA (sm_ref (sm_cl (sm_consA (sm_clo rfl rfl (sm_consA (sm_vr rfl) sm_nilA)) sm_nilA))) sm_nilA))) (sm_lstE (sm_consA sm_ret (sm_consA sm_ret sm_nilA)))))))) hd_f)))
end K03
end
section
set_option Elab.async false
set_option linter.all false
set_option maxRecDepth 100000
set_option maxHeartbeats 1000000
namespace Fe
open PySem (Str)
section
variable {σ α β τ : Type}
theorem bnd_ret {a : α} {k : α → Ms σ β} : bnd (Fe.ret a) k = k a := rfl
theorem lft_some {a : α} : (lft (some a) : Ms σ α) = Fe.ret a := rfl
theorem cl_ok {f : List D → F} {l : List D} {d : D} (h : f l = .ok d) : (cl f (Fe.ret l) : Ms σ D) = Fe.ret d := by unfold cl; rw [bnd_ret, h]; rfl
/-! ### comprehensions -/
theorem cmpP_map {γ : Type} {enc : γ → D} {f : D → Ms σ (List D)} {h : γ → List D} : ∀ {l : List γ}, (∀ x ∈ l, f (enc x) = Fe.ret (h x)) → cmpP f (l.map enc) = Fe.ret (l.flatMap h)
  | [], _ => rfl
  | x :: l, e => by
    rw [List.map_cons, cmpP, e x (.head _), bnd_ret, cmpP_map fun y hy => e y (.tail _ hy), bnd_ret]
    rfl
theorem flatMap_length_le {γ δ : Type} {h : γ → List δ} {n : Nat} : ∀ {l : List γ}, (∀ x ∈ l, (h x).length ≤ n) → (l.flatMap h).length ≤ l.length * n
  | [], _ => by simp
  | x :: l, e => by
    rw [List.flatMap_cons, List.length_append, List.length_cons, Nat.succ_mul]
    have := e x (.head _)
    have := flatMap_length_le (l := l) fun y hy => e y (.tail _ hy)
    omega
theorem lcP_map {γ : Type} {enc : γ → D} {f : D → Ms σ (List D)} {h : γ → List D} {l : List γ} (e : ∀ x ∈ l, f (enc x) = Fe.ret (h x)) (hl : (l.flatMap h).length ≤ lim) : lcP (Fe.ret (l.map enc)) f = Fe.ret (.lst (l.flatMap h)) := by
  unfold lcP
  rw [bnd_ret, cmpP_map e]
  show bnd (Fe.ret _) _ = _
  rw [bnd_ret, if_pos hl]
/-- [h x for x in l] -/
theorem lc_map {γ : Type} {enc : γ → D} {f : D → Ms σ D} {h : γ → D} {l : List γ} (e : ∀ x ∈ l, f (enc x) = Fe.ret (h x)) (hl : l.length ≤ lim) : lcP (Fe.ret (l.map enc)) (fun v => it1 (f v)) = Fe.ret (.lst (l.map h)) := by
  have e2 : (l.flatMap fun x => [h x]) = l.map h := by
    clear e hl
    induction l with
    | nil => rfl
    | cons x l ih => rw [List.flatMap_cons, ih]; rfl
  rw [← e2]
  exact lcP_map (fun x hx => by unfold it1; rw [e x hx, bnd_ret]) (by rw [e2, List.length_map]; exact hl)
/-- .. told item by item -/
theorem lc_map' {γ : Type} {enc : γ → D} {f : D → Ms σ (List D)} {h : γ → D} {l : List γ} (e : ∀ x ∈ l, f (enc x) = Fe.ret [h x]) (hl : l.length ≤ lim) : lcP (Fe.ret (l.map enc)) f = Fe.ret (.lst (l.map h)) := by
  have e2 : (l.flatMap fun x => [h x]) = l.map h := by
    clear e hl
    induction l with
    | nil => rfl
    | cons x l ih => rw [List.flatMap_cons, ih]; rfl
  rw [← e2]
  exact lcP_map e (by rw [e2, List.length_map]; exact hl)
theorem flatMap_if {γ δ : Type} {p : γ → Bool} {h : γ → δ} : ∀ l : List γ, (l.flatMap fun x => if p x = true then [h x] else []) = (l.filter p).map h
  | [] => rfl
  | x :: l => by
    rw [List.flatMap_cons, flatMap_if l]
    cases hp : p x with
    | true => rw [if_pos rfl, List.filter_cons_of_pos hp]; rfl
    | false => rw [if_neg (by decide), List.filter_cons_of_neg (by rw [hp]; decide)]; rfl
theorem lc_filter' {γ : Type} {enc : γ → D} {f : D → Ms σ (List D)} {h : γ → D} {p : γ → Bool} {l : List γ} (e : ∀ x ∈ l, f (enc x) = Fe.ret (if p x = true then [h x] else [])) (hl : l.length ≤ lim) : lcP (Fe.ret (l.map enc)) f = Fe.ret (.lst ((l.filter p).map h)) := by
  rw [← flatMap_if]
  exact lcP_map e (by rw [flatMap_if, List.length_map]; exact Nat.le_trans (List.length_filter_le _ _) hl)
theorem itP_ret {t : Ms σ Bool} {e : Ms σ D} {k : Bool} {d : D} (ht : t = Fe.ret k) (he : e = Fe.ret d) : itP t e = Fe.ret (if k = true then [d] else []) := by
  subst ht he
  cases k <;> rfl
theorem boolsOf_mapT : ∀ (l : List Bool), boolsOf (l.map .bl) = some l
  | [] => rfl
  | b :: l => by rw [List.map_cons, boolsOf, boolsOf_mapT l]; rfl
theorem dAll_map {γ : Type} {p : γ → Bool} {l : List γ} : dAll (.lst (l.map fun x => .bl (p x))) = some (.bl (l.all p)) := by
  have : (l.map fun x => D.bl (p x)) = (l.map p).map .bl := by rw [List.map_map]; rfl
  rw [this]
  show (boolsOf ((l.map p).map .bl)).map _ = _
  rw [boolsOf_mapT]
  simp [List.all_map]
theorem dAny_map {γ : Type} {p : γ → Bool} {l : List γ} : dAny (.lst (l.map fun x => .bl (p x))) = some (.bl (l.any p)) := by
  have : (l.map fun x => D.bl (p x)) = (l.map p).map .bl := by rw [List.map_map]; rfl
  rw [this]
  show (boolsOf ((l.map p).map .bl)).map _ = _
  rw [boolsOf_mapT]
  simp [List.any_map]
/-- all([p x for x in l]) -/
theorem all_lc {γ : Type} {enc : γ → D} {f : D → Ms σ D} {p : γ → Bool} {l : List γ} (e : ∀ x ∈ l, f (enc x) = Fe.ret (.bl (p x))) (hl : l.length ≤ lim) : op1 dAll (lcP (Fe.ret (l.map enc)) (fun v => it1 (f v))) = Fe.ret (.bl (l.all p)) := by
  rw [lc_map e hl, op1, bnd_ret, dAll_map]; rfl
theorem any_lc {γ : Type} {enc : γ → D} {f : D → Ms σ D} {p : γ → Bool} {l : List γ} (e : ∀ x ∈ l, f (enc x) = Fe.ret (.bl (p x))) (hl : l.length ≤ lim) : op1 dAny (lcP (Fe.ret (l.map enc)) (fun v => it1 (f v))) = Fe.ret (.bl (l.any p)) := by
  rw [lc_map e hl, op1, bnd_ret, dAny_map]; rfl
/-- .. as a fold -/
theorem forN_fold {γ υ : Type} {enc : γ → D} {et : υ → τ} {f : D → τ → Ms σ τ} {g : υ → γ → υ} : ∀ {l : List γ} {u : υ}, (∀ u, ∀ x ∈ l, f (enc x) (et u) = Fe.ret (et (g u x))) → forN f (l.map enc) (et u) = Fe.ret (et (l.foldl g u))
  | [], u, _ => rfl
  | x :: l, u, e => by
    rw [List.map_cons, forN, e u x (.head _), bnd_ret]
    exact forN_fold fun u y hy => e u y (.tail _ hy)
/-- a loop that may return: it returns at the first x where p says so -/
theorem forX_find {γ : Type} {enc : γ → D} {f : D → τ → Ms σ (Lp τ)} {p : γ → Bool} {d : D} {t : τ} : ∀ {l : List γ}, (∀ x ∈ l, f (enc x) t = if p x = true then Fe.ret (.rt d) else Fe.ret (.nx t)) → forX f (l.map enc) t = if l.any p = true then Fe.ret (.rt d) else Fe.ret (.nx t)
  | [], _ => rfl
  | x :: l, e => by
    rw [List.map_cons, forX, e x (.head _), List.any_cons]
    cases hp : p x with
    | true => rfl
    | false =>
      rw [if_neg (by decide), bnd_ret, Bool.false_or]
      exact forX_find fun y hy => e y (.tail _ hy)
end
/-! ### ints, tuples of ints -/
def eT (l : List Int) : D := .tup (l.map .int)
def eL (l : List Int) : D := .lst (l.map .int)
def e2 (p : Int × Int) : D := .tup [.int p.1, .int p.2]
def e3 (p : Int × Int × Int) : D := .tup [.int p.1, .int p.2.1, .int p.2.2]
theorem deps_ints : ∀ l : List Int, deps (l.map .int) = 0
  | [] => rfl
  | i :: l => by rw [List.map_cons, deps, deps_ints l]; rfl
theorem lays_ints : ∀ l : List Int, lays (l.map .int) = true
  | [] => rfl
  | i :: l => by rw [List.map_cons, lays, lays_ints l]; rfl
theorem any_ints (x : Int) : ∀ l : List Int, ((l.map D.int).any fun z => eqv z (.int x)) = decide (x ∈ l)
  | [] => rfl
  | i :: l => by
    rw [List.map_cons, List.any_cons, any_ints x l]
    show ((i == x) || _) = _
    by_cases h : i = x
    · subst h; simp
    · have h' : (i == x) = false := by simpa using h
      rw [h', Bool.false_or]
      have : ¬ x = i := fun z => h z.symm
      simp [this]
theorem dIn_tup (x : Int) (l : List Int) : dIn (.int x) (eT l) = some (decide (x ∈ l)) := by
  unfold dIn eT
  show (if _ then _ else _) = _
  rw [if_pos ⟨by simp [dep], by rw [deps_ints]; decide, rfl, lays_ints l⟩, any_ints]
theorem dIn_lst (x : Int) (l : List Int) : dIn (.int x) (eL l) = some (decide (x ∈ l)) := by
  unfold dIn eL
  show (if _ then _ else _) = _
  rw [if_pos ⟨by simp [dep], by rw [deps_ints]; decide, rfl, lays_ints l⟩, any_ints]
theorem dInA_tup (x : Int) (l : List Int) : dInA (.int x) (eT l) = some (decide (x ∈ l)) := dIn_tup x l
theorem dInA_lst (x : Int) (l : List Int) : dInA (.int x) (eL l) = some (decide (x ∈ l)) := dIn_lst x l
theorem dNotInA_tup (x : Int) (l : List Int) : dNotInA (.int x) (eT l) = some (!decide (x ∈ l)) := by unfold dNotInA; rw [dInA_tup]; rfl
theorem dEq_int (x y : Int) : dEq (.int x) (.int y) = some (x == y) := rfl
/-- a company: a tuple or a list of ints -/
structure Cmy (d : D) (l : List Int) : Prop where
  isin : ∀ x : Int, dInA (.int x) d = some (decide (x ∈ l))
theorem Cmy.tup (l : List Int) : Cmy (eT l) l := ⟨fun x => dInA_tup x l⟩
theorem Cmy.lst (l : List Int) : Cmy (eL l) l := ⟨fun x => dInA_lst x l⟩
theorem Cmy.nin {d : D} {l : List Int} (c : Cmy d l) (x : Int) : dNotInA (.int x) d = some (!decide (x ∈ l)) := by unfold dNotInA; rw [c.isin]; rfl
/-! indices -/
theorem dIx_tup {l : List D} {i : Nat} {d : D} (h : l[i]? = some d) : dIxA (.tup l) (.int i) = some d := by
  have hi : i < l.length := (List.getElem?_eq_some_iff.mp h).1
  show (ixN l.length (i : Int)).bind _ = _
  unfold ixN
  rw [if_pos (by omega), if_pos (by omega)]
  exact h
theorem dIx_lst {l : List D} {i : Nat} {d : D} (h : l[i]? = some d) : dIxA (.lst l) (.int i) = some d := by
  have hi : i < l.length := (List.getElem?_eq_some_iff.mp h).1
  show (ixN l.length (i : Int)).bind _ = _
  unfold ixN
  rw [if_pos (by omega), if_pos (by omega)]
  exact h
/-! range -/
def upto (n : Nat) : List Int := (List.range n).map fun (k : Nat) => (k : Int)
theorem rng_upto (n : Int) : rng 0 n = (upto n.toNat).map .int := by
  unfold rng upto
  rw [Int.sub_zero, List.map_map]
  refine List.map_congr_left fun k _ => ?_
  show D.int (0 + (k : Int)) = .int k
  rw [Int.zero_add]
theorem rg1_upto {σ : Type} {n : Int} (h : n < 1000000) (h0 : -1000000 < n) : (rg1 (Fe.ret (.int n)) : Ms σ (List D)) = Fe.ret ((upto n.toNat).map .int) := by
  unfold rg1
  rw [bnd_ret]
  have hb : bigI n = true := by unfold bigI; exact decide_eq_true ⟨by omega, by omega⟩
  show lft (if bigI n = true then some (rng 0 n) else none) = _
  rw [if_pos hb, rng_upto]
  rfl
theorem upto_mem {n : Nat} {x : Int} : x ∈ upto n ↔ 0 ≤ x ∧ x < n := by
  unfold upto
  rw [List.mem_map]
  constructor
  · rintro ⟨k, hk, rfl⟩
    have := List.mem_range.mp hk
    omega
  · intro h
    exact ⟨x.toNat, List.mem_range.mpr (by omega), by omega⟩
theorem upto_len (n : Nat) : (upto n).length = n := by unfold upto; rw [List.length_map, List.length_range]
end Fe
end
section
set_option Elab.async false
set_option linter.all false
set_option maxRecDepth 100000
set_option maxHeartbeats 1000000
namespace Ty
open PySem (Str)
open Fe
structure Wd where
  things : Nat
  places : Nat
  rowers : List Int
  weights : List Int
  clashes : List (Int × Int × Int)
  links : List (Int × Int)
  boats : List (Int × Int)
def eW (w : Wd) : D := .tup [.int w.things, .int w.places, eT w.rowers, eT w.weights, .tup (w.clashes.map e3), .tup (w.links.map e2), .tup (w.boats.map e2)]
abbrev Sta := List Int × List Int
def eS (s : Sta) : D := .tup [eT s.1, eT s.2]
abbrev Crs := Int × Int × List Int
def eC (c : Crs) : D := .tup [.int c.1, .int c.2.1, eT c.2.2]
/-- sizes -/
structure Sm (w : Wd) : Prop where
  th : w.things ≤ 10
  pl : w.places ≤ 4
  rw' : w.rowers.length ≤ 100
  we : w.weights.length = w.things
  cl : w.clashes.length ≤ 40
  li : w.links.length ≤ 100
  bo : w.boats.length ≤ 3
def isOpen (c : Int × Int × Int) (l : List Int) : Bool := decide (c.1 ∈ l) && (decide (c.2.1 ∈ l) && (c.2.2 == -1 || !decide (c.2.2 ∈ l)))
section
variable {d : D} {l : List Int}
theorem g_open (c : Int × Int × Int) (h : Cmy d l) : Fp.g_is_open (e3 c) d = Fe.ret (.bl (isOpen c l)) := by
  unfold Fp.g_is_open isOpen
  simp only [e3, bnd_ret, un3, andV, orV, cmp, op2, mbl, h.isin, h.nin, Option.map_some, lft_some, asBool, dEq_int]
  cases decide (c.1 ∈ l) <;> cases decide (c.2.1 ∈ l) <;> cases (c.2.2 == -1) <;> rfl
theorem f_open (c : Int × Int × Int) (h : Cmy d l) : Fp.f_is_open [e3 c, d] = .ok (.bl (isOpen c l)) := Fp.ok_is_open (g_open c h)
def isQuiet (w : Wd) (l : List Int) : Bool := !(w.clashes.any fun c => isOpen c l)
variable {w : Wd}
theorem ix4 (w : Wd) : dIxA (eW w) (.int 4) = some (.tup (w.clashes.map e3)) := rfl
theorem ix0 (w : Wd) : dIxA (eW w) (.int 0) = some (.int w.things) := rfl
theorem ix1 (w : Wd) : dIxA (eW w) (.int 1) = some (.int w.places) := rfl
theorem ix2 (w : Wd) : dIxA (eW w) (.int 2) = some (eT w.rowers) := rfl
theorem ix3 (w : Wd) : dIxA (eW w) (.int 3) = some (eT w.weights) := rfl
theorem ix5 (w : Wd) : dIxA (eW w) (.int 5) = some (.tup (w.links.map e2)) := rfl
theorem ix6 (w : Wd) : dIxA (eW w) (.int 6) = some (.tup (w.boats.map e2)) := rfl
theorem ixS0 (s : Sta) : dIxA (eS s) (.int 0) = some (eT s.1) := rfl
theorem ixS1 (s : Sta) : dIxA (eS s) (.int 1) = some (eT s.2) := rfl
theorem le_lim {n : Nat} (h : n ≤ 100000) : n ≤ lim := Nat.le_trans h (by unfold lim; decide)
theorem g_quiet (sm : Sm w) (h : Cmy d l) : Fp.g_is_quiet (eW w) d = Fe.ret (.bl (isQuiet w l)) := by
  unfold Fp.g_is_quiet isQuiet
  simp only [op2, bnd_ret, ix4, lft_some, itmA, itemsA, consA, nilA]
  rw [any_lc (p := fun c => isOpen c l) (fun c _ => cl_ok (f_open c h)) (le_lim (by have := sm.cl; omega))]
  rfl
theorem f_quiet (sm : Sm w) (h : Cmy d l) : Fp.f_is_quiet [eW w, d] = .ok (.bl (isQuiet w l)) := Fp.ok_is_quiet (g_quiet sm h)
/-- the things at a place -/
def compAt (s : List Int) (p : Int) : List Int := ((s.zipIdx.filter fun q => q.1 == p).map fun q => (q.2 : Int))
theorem g_comp (s : Sta) (p : Int) (hs : s.1.length ≤ 100) : Fp.g_company_at (eS s) (.int p) = Fe.ret (eT (compAt s.1 p)) := by
  unfold Fp.g_company_at
  simp only [op2, bnd_ret, ixS0, lft_some, itmE]
  have e : dEnum (eT s.1) = some (s.1.zipIdx.map fun q => .tup [.int q.2, .int q.1]) := by
    show some ((s.1.map D.int).zipIdx.map _) = _
    rw [List.zipIdx_map, List.map_map]
    rfl
  rw [e, lft_some, lc_filter' (p := fun q => q.1 == p) (h := fun q => .int q.2) (fun q _ => itP_ret rfl rfl) (le_lim (by rw [List.length_zipIdx]; omega))]
  show Fe.ret (D.tup _) = _
  unfold eT compAt
  rw [List.map_map]
  rfl
theorem f_comp (s : Sta) (p : Int) (hs : s.1.length ≤ 100) : Fp.f_company_at [eS s, .int p] = .ok (eT (compAt s.1 p)) := Fp.ok_company_at (g_comp s p hs)
/-- whether no clash is open at any place -/
def calmIn (w : Wd) (s : Sta) : Bool := (upto w.places).all fun p => isQuiet w (compAt s.1 p)
theorem g_calm_in (sm : Sm w) (s : Sta) (hs : s.1.length ≤ 100) : Fp.g_is_calm_in (eW w) (eS s) = Fe.ret (.bl (calmIn w s)) := by
  unfold Fp.g_is_calm_in calmIn
  simp only [op2, bnd_ret, ix1, lft_some, consA, nilA]
  rw [rg1_upto (by have := sm.pl; omega) (by omega), Int.toNat_natCast]
  refine all_lc (p := fun p => isQuiet w (compAt s.1 p)) (fun p _ => ?_) (le_lim ?_)
  · rw [cl_ok (f_comp s p hs), bnd_ret]
    exact cl_ok (f_quiet sm (Cmy.tup _))
  · rw [upto_len]; have := sm.pl; omega
theorem f_calm_in (sm : Sm w) (s : Sta) (hs : s.1.length ≤ 100) : Fp.f_is_calm_in [eW w, eS s] = .ok (.bl (calmIn w s)) := Fp.ok_is_calm_in (g_calm_in sm s hs)
/-! ### refusals -/
def bad (x : Str) : Ex := ⟨"BadArgument", [("name", .str x)]⟩
theorem f_need_ok (n : D) : Fp.f_need [.bl true, n] = .ok .non := Fp.ok_need rfl
theorem f_need_no (x : Str) : Fp.f_need [.bl false, .str x] = .ex (bad x) := Fp.ex_need rfl
theorem cl_ex {σ : Type} {f : List D → F} {l : List D} {x : Ex} (h : f l = .ex x) : (cl f (Fe.ret l) : Ms σ D) = raise x := by unfold cl; rw [bnd_ret, h]; rfl
theorem bnd_raise {σ α β : Type} {x : Ex} {k : α → Ms σ β} : bnd (raise x) k = raise x := rfl
/-! ### links, boats -/
def isLinked (w : Wd) (a b : Int) : Bool := decide ((min a b, max a b) ∈ w.links)
theorem any_e2 (x : Int × Int) : ∀ l : List (Int × Int), ((l.map e2).any fun z => eqv z (e2 x)) = decide (x ∈ l)
  | [] => rfl
  | p :: l => by
    rw [List.map_cons, List.any_cons, any_e2 x l]
    show ((p.1 == x.1) && ((p.2 == x.2) && true) || _) = _
    by_cases h : p = x
    · subst h; simp
    · have h' : ((p.1 == x.1) && ((p.2 == x.2) && true)) = false := by
        rw [Bool.and_true]
        by_cases h1 : p.1 = x.1
        · by_cases h2 : p.2 = x.2
          · exact absurd (Prod.ext h1 h2) h
          · simp [h2]
        · simp [h1]
      rw [h', Bool.false_or]
      have : ¬ x = p := fun z => h z.symm
      simp [this]
theorem deps_e2 : ∀ l : List (Int × Int), deps (l.map e2) ≤ 1
  | [] => by simp [deps]
  | p :: l => by
    have := deps_e2 l
    rw [List.map_cons, deps]
    have : dep (e2 p) = 1 := rfl
    omega
theorem lays_e2 : ∀ l : List (Int × Int), lays (l.map e2) = true
  | [] => rfl
  | p :: l => by rw [List.map_cons, lays, lays_e2 l]; rfl
theorem dInA_e2 (x : Int × Int) (l : List (Int × Int)) : dInA (e2 x) (.tup (l.map e2)) = some (decide (x ∈ l)) := by
  show (if _ then _ else _) = _
  rw [if_pos ⟨by simp [dep, e2, deps], by have := deps_e2 l; omega, rfl, lays_e2 l⟩, any_e2]
theorem dMin2_int (a b : Int) : dMin2 (.int a) (.int b) = some (.int (min a b)) := by
  show some (D.int (if b < a then b else a)) = _
  congr 2
  by_cases h : b < a
  · rw [if_pos h]; omega
  · rw [if_neg h]; omega
theorem dMax2_int (a b : Int) : dMax2 (.int a) (.int b) = some (.int (max a b)) := by
  show some (D.int (if b > a then b else a)) = _
  congr 2
  by_cases h : b > a
  · rw [if_pos h]; omega
  · rw [if_neg h]; omega
theorem fewT_le {l : List D} (h : l.length ≤ 100000) : fewT l = some (.tup l) := by unfold fewT; rw [if_pos (le_lim h)]
theorem g_linked (a b : Int) : Fp.g_is_linked (eW w) (.int a) (.int b) = Fe.ret (.bl (isLinked w a b)) := by
  unfold Fp.g_is_linked isLinked
  simp only [op2, bnd_ret, dMin2_int, dMax2_int, lft_some, consA, nilA, tupE, cmp, mbl, ix5]
  rw [fewT_le (by simp), lft_some, bnd_ret]
  rw [show (D.tup [.int (min a b), .int (max a b)]) = e2 (min a b, max a b) from rfl, dInA_e2]
  rfl
theorem f_linked (a b : Int) : Fp.f_is_linked [eW w, .int a, .int b] = .ok (.bl (isLinked w a b)) := Fp.ok_is_linked (g_linked a b)
end
end Ty
end
section
set_option Elab.async false
set_option linter.all false
set_option maxRecDepth 100000
set_option maxHeartbeats 1000000
namespace Ty
open PySem (Str)
open Fe
def inR (lo hi v : Int) : Bool := decide (lo ≤ v) && decide (v ≤ hi)
theorem f_whole (v lo hi : Int) : Fp.f_is_whole [.int v, .int lo, .int hi] = .ok (.bl (inR lo hi v)) := Fp.ok_is_whole (by
  show (if decide (lo ≤ v) = true then (Fe.ret (.bl (decide (v ≤ hi))) : Ms Unit D) else Fe.ret (.bl false)) = _
  unfold inR
  cases decide (lo ≤ v) <;> rfl)
/-- a tuple whose items are told whole or not -/
theorem f_wholes {γ : Type} {enc : γ → D} {p : γ → Bool} {l : List γ} {lo hi : D} (e : ∀ x ∈ l, Fp.f_is_whole [enc x, lo, hi] = .ok (.bl (p x))) (hl : l.length ≤ 100000) : Fp.f_are_whole [.tup (l.map enc), lo, hi] = .ok (.bl (l.all p)) := Fp.ok_are_whole (by
  unfold Fp.g_are_whole
  simp only [cmp1, op1, bnd_ret, itmA, itemsA, lft_some, consA, nilA]
  rw [show dIsi "tuple" (.tup (l.map enc)) = some true from rfl]
  simp only [Option.map_some, lft_some, andV, bnd_ret, asBool, if_true]
  have := all_lc (σ := Unit) (f := fun v => cl Fp.f_is_whole (Fe.ret [v, lo, hi])) (p := p) (enc := enc) (l := l) (fun x hx => cl_ok (e x hx)) (le_lim hl)
  exact this)
theorem f_ints (l : List Int) (lo hi : Int) (hl : l.length ≤ 100000) : Fp.f_are_whole [eT l, .int lo, .int hi] = .ok (.bl (l.all (inR lo hi))) := f_wholes (fun x _ => f_whole x lo hi) hl
theorem intsOf_map : ∀ l : List Int, intsOf (l.map .int) = some l
  | [] => rfl
  | i :: l => by rw [List.map_cons, intsOf, intsOf_map l]; rfl
theorem eqvs_ints : ∀ l m : List Int, eqvs (l.map .int) (m.map .int) = (l == m)
  | [], [] => rfl
  | [], _ :: _ => rfl
  | _ :: _, [] => rfl
  | x :: l, y :: m => by
    show ((x == y) && eqvs (l.map .int) (m.map .int)) = _
    rw [eqvs_ints l m]
    rfl
theorem dEq_eL (l m : List Int) : dEq (eL l) (eL m) = some (l == m) := by
  unfold dEq eL
  rw [if_pos ⟨by show deps _ + 1 ≤ 64; rw [deps_ints]; decide, by show deps _ + 1 ≤ 64; rw [deps_ints]; decide, lays_ints l, lays_ints m⟩]
  exact congrArg some (eqvs_ints l m)
theorem dSortSet2_eT (l : List Int) (h : l.length < 64) : dSortSet2 (eT l) = some (eL (sortI l)) := by
  show (if (l.map D.int).length < 64 then (match intsOf (l.map .int) with
    | some ns => some (D.lst ((sortI ns).map .int))
    | none => dSortT2 (l.map .int)) else none) = _
  rw [if_pos (by rw [List.length_map]; exact h), intsOf_map]
  rfl
def isRising (l : List Int) (lo hi : Int) : Bool := l.all (inR lo hi) && (l == sortI l)
theorem f_rising (l : List Int) (lo hi : Int) (h : l.length < 64) : Fp.f_is_rising [eT l, .int lo, .int hi] = .ok (.bl (isRising l lo hi)) := Fp.ok_is_rising (by
  unfold Fp.g_is_rising isRising
  simp only [andV, consA, nilA, bnd_ret]
  rw [cl_ok (f_ints l lo hi (by omega)), bnd_ret]
  simp only [asBool, lft_some, bnd_ret, cmp, op2, op1, mbl, dSortSet2_eT l h]
  show (if l.all (inR lo hi) = true then lft ((dEq (eL l) (eL (sortI l))).map D.bl) else _) = _
  rw [dEq_eL]
  cases l.all (inR lo hi) <;> rfl)
theorem foldl_pow (p : Int) : ∀ (l : List Int) (u : Int), l.foldl (fun u _ => u * p) u = u * p ^ l.length
  | [], u => by simp
  | x :: l, u => by
    rw [List.foldl_cons, foldl_pow p l, List.length_cons, Int.pow_succ, Int.mul_assoc, Int.mul_comm p]
theorem f_power (p : Int) (k : Nat) (hp : 0 ≤ p ∧ p < 1000) (hk : k < 1000) : Fp.f_power [.int p, .int k] = .ok (.int (p ^ k)) := Fp.ok_power (by
  unfold Fp.g_power
  rw [bnd_ret, rg1_upto (by omega) (by omega), bnd_ret, Int.toNat_natCast]
  have e := forN_fold (σ := Unit) (enc := D.int) (et := fun n : Int => D.int n) (f := fun v_turn t1 => bnd (op2 dMul (Fe.ret t1) (Fe.ret (.int p))) fun v_found => Fe.ret v_found) (g := fun u _ => u * p) (l := upto k) (u := 1) (fun u x _ => by
    show bnd (lft (if (smallI u || smallI p) = true then some (D.int (u * p)) else none)) _ = _
    have : smallI p = true := by unfold smallI; exact decide_eq_true ⟨by omega, by omega⟩
    rw [this, Bool.or_true, if_pos rfl, lft_some, bnd_ret])
  rw [foldl_pow, upto_len, Int.one_mul] at e
  show bnd (forN _ _ _) _ = _
  rw [e, bnd_ret])
end Ty
end
section
set_option Elab.async false
set_option linter.all false
set_option maxRecDepth 100000
set_option maxHeartbeats 1000000
namespace Ty
open PySem (Str)
open Fe
theorem ifC_ret {σ α : Type} {b : Bool} {x y : Ms σ α} : ifC (Fe.ret b) x y = if b = true then x else y := rfl
theorem orT_ret {σ : Type} {b : Bool} {y : Ms σ Bool} : orT (Fe.ret b) y = if b = true then Fe.ret true else y := rfl
theorem notT_ret {σ : Type} {b : Bool} : (notT (Fe.ret b) : Ms σ Bool) = Fe.ret (!b) := rfl
theorem tst_bl {σ : Type} {b : Bool} : (tst (Fe.ret (.bl b)) : Ms σ Bool) = Fe.ret b := rfl
theorem tsb_bl {σ : Type} {b : Bool} : (tsb (Fe.ret (.bl b)) : Ms σ Bool) = Fe.ret b := rfl
theorem tst_tup {σ : Type} {l : List D} : (tst (Fe.ret (.tup l)) : Ms σ Bool) = Fe.ret (!l.isEmpty) := rfl
theorem andV_bl {σ : Type} {b : Bool} {y : Ms σ D} : andV (Fe.ret (.bl b)) y = if b = true then y else Fe.ret (.bl false) := rfl
theorem cons_ret {σ : Type} {x : D} {l : List D} : (consA (Fe.ret x) (Fe.ret l) : Ms σ (List D)) = Fe.ret (x :: l) := rfl
theorem nil_ret {σ : Type} : (nilA : Ms σ (List D)) = Fe.ret [] := rfl
theorem op1_ret {σ : Type} {g : D → Option D} {x : D} : (op1 g (Fe.ret x) : Ms σ D) = lft (g x) := rfl
theorem op2_ret {σ : Type} {g : D → D → Option D} {x y : D} : (op2 g (Fe.ret x) (Fe.ret y) : Ms σ D) = lft (g x y) := rfl
theorem cmp_ret {σ : Type} {g : D → D → Option Bool} {x y : D} : (cmp g (Fe.ret x) (Fe.ret y) : Ms σ D) = lft ((g x y).map .bl) := rfl
theorem cmp1_ret {σ : Type} {g : D → Option Bool} {x : D} : (cmp1 g (Fe.ret x) : Ms σ D) = lft ((g x).map .bl) := rfl
theorem itmA_tup {σ : Type} {l : List D} : (itmA (Fe.ret (.tup l)) : Ms σ (List D)) = Fe.ret l := rfl
theorem itmA_lst {σ : Type} {l : List D} : (itmA (Fe.ret (.lst l)) : Ms σ (List D)) = Fe.ret l := rfl
theorem dLen_tup {l : List D} : dLen (.tup l) = some (.int l.length) := rfl
theorem dLen_lst {l : List D} : dLen (.lst l) = some (.int l.length) := rfl
theorem dNe_ints {a b : Int} : dNe (.int a) (.int b) = some (a != b) := rfl
theorem dLe_ints {a b : Int} : dLe (.int a) (.int b) = some (decide (a ≤ b)) := rfl
theorem dLt_ints {a b : Int} : dLt (.int a) (.int b) = some (decide (a < b)) := rfl
theorem dGt_ints {a b : Int} : dGt (.int a) (.int b) = some (decide (b < a)) := rfl
theorem dIsi_tup {l : List D} : dIsi "tuple" (.tup l) = some true := rfl
theorem isClash_aux (c : Int × Int × Int) : e3 c = eT [c.1, c.2.1, c.2.2] := rfl
def isClash (c : Int × Int × Int) (th : Int) : Bool := [c.1, c.2.1, c.2.2].all (inR (-1) (th - 1)) && (decide (0 ≤ c.1) && decide (c.1 < c.2.1) && !decide (c.2.2 ∈ [c.1, c.2.1]))
theorem f_clash (c : Int × Int × Int) (th : Int) : Fp.f_is_clash [e3 c, .int th] = .ok (.bl (isClash c th)) := Fp.ok_is_clash (by
  unfold Fp.g_is_clash isClash
  have h1 : (op2 dSub (Fe.ret (.int th)) (Fe.ret (.int 1)) : Ms Unit D) = Fe.ret (.int (th - 1)) := rfl
  rw [h1, nil_ret, cons_ret, cons_ret, cons_ret, isClash_aux, cl_ok (f_ints [c.1, c.2.1, c.2.2] (-1) (th - 1) (by simp)), tst_bl, notT_ret, orT_ret]
  cases [c.1, c.2.1, c.2.2].all (inR (-1) (th - 1)) with
  | false => rfl
  | true =>
    show andV _ _ = _
    have h2 : (slc (Fe.ret (eT [c.1, c.2.1, c.2.2])) noP (part (Fe.ret (.int 2))) : Ms Unit D) = Fe.ret (eT [c.1, c.2.1]) := rfl
    have h3 : (op2 dIxA (Fe.ret (eT [c.1, c.2.1, c.2.2])) (Fe.ret (.int 2)) : Ms Unit D) = Fe.ret (.int c.2.2) := rfl
    have h4 : (chn dLe dLt (Fe.ret (.int 0)) (op2 dIxA (Fe.ret (eT [c.1, c.2.1, c.2.2])) (Fe.ret (.int 0))) (op2 dIxA (Fe.ret (eT [c.1, c.2.1, c.2.2])) (Fe.ret (.int 1))) : Ms Unit D) = Fe.ret (.bl (decide (0 ≤ c.1) && decide (c.1 < c.2.1))) := by
      show (if decide (0 ≤ c.1) = true then (Fe.ret (.bl (decide (c.1 < c.2.1))) : Ms Unit D) else Fe.ret (.bl false)) = _
      cases decide (0 ≤ c.1) <;> rfl
    rw [h2, h3, h4, andV_bl, cmp_ret, dNotInA_tup, Option.map_some, lft_some]
    cases (decide (0 ≤ c.1) && decide (c.1 < c.2.1)) <;> rfl)
theorem eqvs_tups : ∀ l m : List (List Int), eqvs (l.map ofTup) (m.map ofTup) = (l == m)
  | [], [] => rfl
  | [], _ :: _ => rfl
  | _ :: _, [] => rfl
  | x :: l, y :: m => by
    show (eqvs (x.map .int) (y.map .int) && eqvs (l.map ofTup) (m.map ofTup)) = _
    rw [eqvs_ints, eqvs_tups l m]
    rfl
theorem deps_tups : ∀ l : List (List Int), deps (l.map ofTup) ≤ 1
  | [] => by simp [deps]
  | x :: l => by
    have := deps_tups l
    rw [List.map_cons, deps]
    have : dep (ofTup x) = 1 := by show deps _ + 1 = 1; rw [deps_ints]
    omega
theorem lays_tups : ∀ l : List (List Int), lays (l.map ofTup) = true
  | [] => rfl
  | x :: l => by rw [List.map_cons, lays, lays_tups l]; show (lays (x.map .int) && true) = true; rw [lays_ints]; rfl
theorem dEq_tups (l m : List (List Int)) : dEq (.lst (l.map ofTup)) (.lst (m.map ofTup)) = some (l == m) := by
  unfold dEq
  have h1 := deps_tups l
  have h2 := deps_tups m
  rw [if_pos ⟨by show deps _ + 1 ≤ 64; omega, by show deps _ + 1 ≤ 64; omega, lays_tups l, lays_tups m⟩]
  exact congrArg some (eqvs_tups l m)
/-- sorted(set(xs)) of a tuple of tuples -/
theorem dSortSet2_tups (l : List (List Int)) (h : l.length < 64) : dSortSet2 (.tup (l.map ofTup)) = some (.lst ((sortT l).map ofTup)) := by
  have ht : ∀ l : List (List Int), tupsOf (l.map ofTup) = some l := fun l => by
    induction l with
    | nil => rfl
    | cons x l ih => rw [List.map_cons, show ofTup x = D.tup (x.map .int) from rfl, tupsOf, intsOf_map, ih]; rfl
  show (if (l.map ofTup).length < 64 then (match intsOf (l.map ofTup) with
    | some ns => some (D.lst ((sortI ns).map .int))
    | none => dSortT2 (l.map ofTup)) else none) = _
  rw [if_pos (by rw [List.length_map]; exact h)]
  cases l with
  | nil => rfl
  | cons x l =>
    show dSortT2 ((x :: l).map ofTup) = _
    unfold dSortT2
    rw [ht]
    rfl
def t3 (c : Int × Int × Int) : List Int := [c.1, c.2.1, c.2.2]
def t2 (c : Int × Int) : List Int := [c.1, c.2]
theorem map_e3 (l : List (Int × Int × Int)) : l.map e3 = (l.map t3).map ofTup := by rw [List.map_map]; rfl
theorem map_e2 (l : List (Int × Int)) : l.map e2 = (l.map t2).map ofTup := by rw [List.map_map]; rfl
theorem eqSort {l : List (List Int)} (h : l.length < 64) : (cmp dEq (op1 dList (Fe.ret (.tup (l.map ofTup)))) (op1 dSortSet2 (Fe.ret (.tup (l.map ofTup)))) : Ms Unit D) = Fe.ret (.bl (l == sortT l)) := by
  rw [op1_ret, op1_ret, dSortSet2_tups l h, lft_some, show dList (.tup (l.map ofTup)) = some (.lst (l.map ofTup)) from rfl, lft_some, cmp_ret, dEq_tups]
  rfl
def areClashes (l : List (Int × Int × Int)) (th : Int) : Bool := decide (l.length ≤ 40) && (l.all (fun c => isClash c th) && (l.map t3 == sortT (l.map t3)))
theorem f_clashes (l : List (Int × Int × Int)) (th : Int) (h : l.length < 64) : Fp.f_are_clashes [.tup (l.map e3), .int th] = .ok (.bl (areClashes l th)) := Fp.ok_are_clashes (by
  unfold Fp.g_are_clashes areClashes
  rw [cmp1_ret, dIsi_tup, Option.map_some, lft_some, tst_bl, notT_ret, orT_ret, if_neg (by decide), op1_ret, dLen_tup, lft_some, cmp_ret, dGt_ints, Option.map_some, lft_some, tsb_bl, ifC_ret, List.length_map]
  have e : decide ((40 : Int) < (l.length : Int)) = !decide (l.length ≤ 40) := by
    by_cases h : l.length ≤ 40
    · simp [h]; omega
    · simp [h]; omega
  rw [e]
  cases decide (l.length ≤ 40) with
  | false => rfl
  | true =>
    rw [if_neg (by decide), itmA_tup]
    have h1 := all_lc (σ := Unit) (f := fun v => cl Fp.f_is_clash (Fe.ret [v, .int th])) (p := fun c => isClash c th) (enc := e3) (l := l) (fun x hx => cl_ok (f_clash x th)) (le_lim (by omega))
    show andV (op1 dAll (lcP (Fe.ret (l.map e3)) fun v => it1 (cl Fp.f_is_clash (Fe.ret [v, .int th])))) _ = _
    rw [h1, andV_bl, map_e3, eqSort (by rw [List.length_map]; exact h)]
    cases l.all (fun c => isClash c th) <;> rfl)
end Ty
end
section
set_option Elab.async false
set_option linter.all false
set_option maxRecDepth 100000
set_option maxHeartbeats 1000000
namespace Ty
open PySem (Str)
open Fe
theorem e2_eT (c : Int × Int) : e2 c = eT [c.1, c.2] := rfl
theorem dEq_ints {a b : Int} : dEq (.int a) (.int b) = some (a == b) := rfl
def isLink (c : Int × Int) (pl : Int) : Bool := [c.1, c.2].all (inR 0 (pl - 1)) && decide (c.1 < c.2)
def areLinks (l : List (Int × Int)) (pl : Int) : Bool := !l.isEmpty && (l.all (fun c => isLink c pl) && (l.map t2 == sortT (l.map t2)))
theorem f_links (l : List (Int × Int)) (pl : Int) (h : l.length < 64) : Fp.f_are_links [.tup (l.map e2), .int pl] = .ok (.bl (areLinks l pl)) := Fp.ok_are_links (by
  unfold Fp.g_are_links areLinks
  rw [cmp1_ret, dIsi_tup, Option.map_some, lft_some, tst_bl, notT_ret, orT_ret, if_neg (by decide), tst_tup, notT_ret, ifC_ret]
  have e0 : (l.map e2).isEmpty = l.isEmpty := by cases l <;> rfl
  rw [e0]
  cases l.isEmpty with
  | true => rfl
  | false =>
    rw [if_neg (by decide), itmA_tup]
    have h1 : op1 dAll (lcP (Fe.ret (l.map e2)) fun v_own => it1 (andV (cl Fp.f_are_whole (consA (Fe.ret v_own) (consA (Fe.ret (.int 0)) (consA (op2 dSub (Fe.ret (.int pl)) (Fe.ret (.int 1))) nilA)))) (andV (cmp dEq (op1 dLen (Fe.ret v_own)) (Fe.ret (.int 2))) (cmp dLt (op2 dIxA (Fe.ret v_own) (Fe.ret (.int 0))) (op2 dIxA (Fe.ret v_own) (Fe.ret (.int 1))))))) = (Fe.ret (.bl (l.all fun c => isLink c pl)) : Ms Unit D) := by
      refine all_lc (p := fun c => isLink c pl) (fun c _ => ?_) (le_lim (by omega))
      rw [show (op2 dSub (Fe.ret (.int pl)) (Fe.ret (.int 1)) : Ms Unit D) = Fe.ret (.int (pl - 1)) from rfl, nil_ret, cons_ret, cons_ret, cons_ret, e2_eT, cl_ok (f_ints [c.1, c.2] 0 (pl - 1) (by simp)), andV_bl]
      have h2 : (andV (cmp dEq (op1 dLen (Fe.ret (eT [c.1, c.2]))) (Fe.ret (.int 2))) (cmp dLt (op2 dIxA (Fe.ret (eT [c.1, c.2])) (Fe.ret (.int 0))) (op2 dIxA (Fe.ret (eT [c.1, c.2])) (Fe.ret (.int 1)))) : Ms Unit D) = Fe.ret (.bl (decide (c.1 < c.2))) := rfl
      rw [h2]
      unfold isLink
      cases [c.1, c.2].all (inR 0 (pl - 1)) <;> rfl
    rw [h1, tst_bl, notT_ret, ifC_ret, map_e2, eqSort (by rw [List.length_map]; exact h)]
    cases l.all (fun c => isLink c pl) <;> rfl)
def isBoat (c : Int × Int) : Bool := [c.1, c.2].all (inR 1 500) && decide (c.1 ≤ 10)
theorem f_boat (c : Int × Int) : Fp.f_is_boat [e2 c] = .ok (.bl (isBoat c)) := Fp.ok_is_boat (by
  unfold Fp.g_is_boat isBoat
  rw [nil_ret, cons_ret, cons_ret, cons_ret, e2_eT, cl_ok (f_ints [c.1, c.2] 1 500 (by simp)), tst_bl, notT_ret, orT_ret]
  cases [c.1, c.2].all (inR 1 500) <;> rfl)
theorem sub1 (n : Nat) : (op2 dSub (Fe.ret (.int n)) (Fe.ret (.int 1)) : Ms Unit D) = Fe.ret (.int (n - 1)) := rfl
/-- what is a world, for typed ones -/
structure IsW (w : Wd) : Prop where
  th : 1 ≤ w.things ∧ w.things ≤ 10
  pl : 2 ≤ w.places ∧ w.places ≤ 4
  ro : isRising w.rowers 0 (w.things - 1) = true
  rn : w.rowers ≠ []
  we : w.weights.all (inR 1 50) = true
  wl : w.weights.length = w.things
  cl : areClashes w.clashes w.things = true
  li : areLinks w.links w.places = true
  bo : w.boats.all isBoat = true
  bl : 1 ≤ w.boats.length ∧ w.boats.length ≤ 3
  po : w.places ^ (w.things + w.boats.length) ≤ 9000
  -- few enough that the sorts are short
  rl : w.rowers.length < 64
  ll : w.links.length < 64
  kl : w.clashes.length < 64
theorem inR_true {a b c : Int} (h1 : a ≤ c) (h2 : c ≤ b) : inR a b c = true := by unfold inR; rw [decide_eq_true h1, decide_eq_true h2]; rfl
theorem f_world {w : Wd} (h : IsW w) : Fp.f_is_world [eW w] = .ok (.bl true) := Fp.ok_is_world (by
  unfold Fp.g_is_world
  have hc : (cmp1 (dIsi "tuple") (Fe.ret (eW w)) : Ms Unit D) = Fe.ret (.bl true) := rfl
  have hl : (cmp dNe (op1 dLen (Fe.ret (eW w))) (Fe.ret (.int 7)) : Ms Unit D) = Fe.ret (.bl false) := rfl
  rw [hc, hl, tst_bl, notT_ret, orT_ret, if_neg (by decide), tsb_bl, ifC_ret, if_neg (by decide), bnd_ret]
  show ifC _ _ _ = _
  simp only [nil_ret, cons_ret]
  have hth : inR 1 10 (w.things : Int) = true := inR_true (by have := h.th; omega) (by have := h.th; omega)
  have hpl : inR 2 4 (w.places : Int) = true := inR_true (by have := h.pl; omega) (by have := h.pl; omega)
  rw [cl_ok (f_whole _ _ _), hth, tst_bl, notT_ret, orT_ret, if_neg (by decide), cl_ok (f_whole _ _ _), hpl, tst_bl, notT_ret, ifC_ret, if_neg (by decide)]
  rw [sub1, cons_ret, cons_ret, cons_ret, cl_ok (f_rising w.rowers 0 (w.things - 1) h.rl), h.ro, tst_bl, notT_ret, orT_ret, if_neg (by decide)]
  have hrn : (tst (Fe.ret (eT w.rowers)) : Ms Unit Bool) = Fe.ret true := by
    have := h.rn
    unfold eT
    rw [tst_tup]
    cases hr : w.rowers with
    | nil => exact absurd hr this
    | cons x r => rfl
  rw [hrn, notT_ret, ifC_ret, if_neg (by decide)]
  rw [cl_ok (f_ints w.weights 1 50 (by rw [h.wl]; have := h.th; omega)), h.we, tst_bl, notT_ret, orT_ret, if_neg (by decide)]
  have hwl : (cmp dNe (op1 dLen (Fe.ret (eT w.weights))) (Fe.ret (.int w.things)) : Ms Unit D) = Fe.ret (.bl false) := by
    unfold eT
    rw [op1_ret, dLen_tup, lft_some, cmp_ret, dNe_ints, List.length_map, h.wl]
    simp [lft_some]
  rw [hwl, tsb_bl, ifC_ret, if_neg (by decide)]
  rw [cl_ok (f_clashes w.clashes w.things h.kl), h.cl, tst_bl, notT_ret, orT_ret, if_neg (by decide), cl_ok (f_links w.links w.places h.ll), h.li, tst_bl, notT_ret, ifC_ret, if_neg (by decide)]
  rw [cmp1_ret, dIsi_tup, Option.map_some, lft_some, tst_bl, notT_ret, orT_ret, if_neg (by decide)]
  have hbl : (chn dLe dLe (Fe.ret (.int 1)) (op1 dLen (Fe.ret (.tup (w.boats.map e2)))) (Fe.ret (.int 3)) : Ms Unit D) = Fe.ret (.bl true) := by
    rw [op1_ret, dLen_tup, lft_some]
    show (if decide ((1 : Int) ≤ ((w.boats.map e2).length : Int)) = true then (Fe.ret (.bl (decide (((w.boats.map e2).length : Int) ≤ 3))) : Ms Unit D) else Fe.ret (.bl false)) = _
    rw [List.length_map, if_pos (decide_eq_true (by have := h.bl; omega)), decide_eq_true (by have := h.bl; omega : ((w.boats.length : Int) ≤ 3))]
  rw [hbl, tsb_bl, notT_ret, orT_ret, if_neg (by decide), itmA_tup]
  have hbo := all_lc (σ := Unit) (f := fun v => cl Fp.f_is_boat (Fe.ret [v])) (p := isBoat) (enc := e2) (l := w.boats) (fun x hx => cl_ok (f_boat x)) (le_lim (by have := h.bl; omega))
  rw [hbo, h.bo, tst_bl, notT_ret, ifC_ret, if_neg (by decide), op1_ret, dLen_tup, lft_some, op2_ret, List.length_map]
  rw [show dAdd (.int w.things) (.int w.boats.length) = some (.int ((w.things + w.boats.length : Nat) : Int)) from by show some (D.int _) = _; congr 2; ]
  rw [lft_some, cons_ret, cons_ret, cl_ok (f_power w.places (w.things + w.boats.length) (by have := h.pl; omega) (by have := h.th; have := h.bl; omega)), cmp_ret, dLe_ints]
  have : ((w.places : Int) ^ (w.things + w.boats.length)) ≤ 9000 := by have := h.po; exact_mod_cast this
  rw [decide_eq_true this]
  rfl)
end Ty
end
section
set_option Elab.async false
set_option linter.all false
set_option maxRecDepth 100000
set_option maxHeartbeats 1000000
namespace Ty
open PySem (Str)
open Fe
theorem IsW.sm {w : Wd} (h : IsW w) : Sm w where
  th := h.th.2
  pl := h.pl.2
  rw' := by have := h.rl; omega
  we := h.wl
  cl := by
    have := h.cl
    unfold areClashes at this
    rw [Bool.and_eq_true] at this
    exact of_decide_eq_true this.1
  li := by have := h.ll; omega
  bo := h.bl.2
structure IsS (w : Wd) (s : Sta) : Prop where
  p1 : s.1.all (inR 0 (w.places - 1)) = true
  p2 : s.2.all (inR 0 (w.places - 1)) = true
  l1 : s.1.length = w.things
  l2 : s.2.length = w.boats.length
variable {w : Wd} {s : Sta}
theorem f_state (h : IsW w) (q : IsS w s) : Fp.f_is_state [eW w, eS s] = .ok (.bl true) := Fp.ok_is_state (by
  unfold Fp.g_is_state
  have hc : (cmp1 (dIsi "tuple") (Fe.ret (eS s)) : Ms Unit D) = Fe.ret (.bl true) := rfl
  have hl : (cmp dNe (op1 dLen (Fe.ret (eS s))) (Fe.ret (.int 2)) : Ms Unit D) = Fe.ret (.bl false) := rfl
  rw [hc, hl, tst_bl, notT_ret, orT_ret, if_neg (by decide), tsb_bl, ifC_ret, if_neg (by decide)]
  rw [op2_ret, ixS0, lft_some, op2_ret, ix1, lft_some, sub1, op2_ret, ixS1, lft_some]
  simp only [nil_ret, cons_ret]
  rw [cl_ok (f_ints s.1 0 (w.places - 1) (by rw [q.l1]; have := h.th; omega)), q.p1, tst_bl, notT_ret, orT_ret, if_neg (by decide)]
  rw [cl_ok (f_ints s.2 0 (w.places - 1) (by rw [q.l2]; have := h.bl; omega)), q.p2, tst_bl, notT_ret, ifC_ret, if_neg (by decide)]
  rw [op2_ret, ix0, lft_some, op2_ret, ix6, lft_some]
  unfold eT
  rw [op1_ret, dLen_tup, lft_some, op1_ret, dLen_tup, lft_some, op1_ret, dLen_tup, lft_some, cmp_ret, cmp_ret, dEq_ints, dEq_ints, List.length_map, List.length_map, List.length_map, q.l1, q.l2]
  simp [lft_some, andV_bl])
theorem f_need_world (h : IsW w) (n : D) : Fp.f_need_world [eW w, n] = .ok .non := Fp.ok_need_world (by
  unfold Fp.g_need_world
  rw [nil_ret, cons_ret, cons_ret, cl_ok (f_world h), cons_ret, cl_ok (f_need_ok n), bnd_ret])
theorem f_need_state (h : IsW w) (q : IsS w s) (n : D) : Fp.f_need_state [eW w, eS s, n] = .ok .non := Fp.ok_need_state (by
  unfold Fp.g_need_state
  rw [nil_ret, cons_ret, cons_ret, cons_ret, cl_ok (f_state h q), cons_ret, cl_ok (f_need_ok n), bnd_ret])
theorem IsS.len (h : IsW w) (q : IsS w s) : s.1.length ≤ 100 := by rw [q.l1]; have := h.th; omega
theorem f_is_calm (h : IsW w) (q : IsS w s) : Fp.f_is_calm [eW w, eS s] = .ok (.bl (calmIn w s)) := Fp.ok_is_calm (by
  unfold Fp.g_is_calm
  rw [nil_ret, cons_ret, cons_ret, cl_ok (f_need_world h _), bnd_ret, cons_ret, cons_ret, cons_ret, cl_ok (f_need_state h q _), bnd_ret, cons_ret, cons_ret]
  exact cl_ok (f_calm_in h.sm s (q.len h)))
theorem f_open_clashes (h : IsW w) {l : List Int} (hl : l.length < 64) (r : isRising l 0 (w.things - 1) = true) : Fp.f_open_clashes [eW w, eT l] = .ok (.tup ((w.clashes.filter fun c => isOpen c l).map e3)) := Fp.ok_open_clashes (by
  unfold Fp.g_open_clashes
  rw [nil_ret, cons_ret, cons_ret, cl_ok (f_need_world h _), bnd_ret, op2_ret, ix0, lft_some, sub1, cons_ret, cons_ret, cons_ret, cons_ret, cl_ok (f_rising l 0 (w.things - 1) hl), r, cons_ret, cl_ok (f_need_ok _), bnd_ret, op2_ret, ix4, lft_some, itmA_tup]
  have e := lc_filter' (σ := Unit) (enc := e3) (f := fun v => itP (tst (cl Fp.f_is_open (Fe.ret [v, eT l]))) (Fe.ret v)) (p := fun c => isOpen c l) (h := e3) (l := w.clashes) (fun c _ => itP_ret (by rw [cl_ok (f_open c (Cmy.tup l)), tst_bl]) rfl) (le_lim (by have := h.sm.cl; omega))
  show op1 dTuple (lcP (Fe.ret (w.clashes.map e3)) fun v => itP (tst (cl Fp.f_is_open (Fe.ret [v, eT l]))) (Fe.ret v)) = _
  rw [e]
  rfl)
/-! ### boats -/
theorem ixi {l : List Int} {i : Int} {v : Int} (h0 : 0 ≤ i) (h : l[i.toNat]? = some v) : dIxA (eT l) (.int i) = some (.int v) := by
  have : (i : Int) = ((i.toNat : Nat) : Int) := by omega
  rw [this]
  exact dIx_tup (by rw [List.getElem?_map, h]; rfl)
theorem ixb {l : List (Int × Int)} {i : Int} {v : Int × Int} (h0 : 0 ≤ i) (h : l[i.toNat]? = some v) : dIxA (.tup (l.map e2)) (.int i) = some (e2 v) := by
  have : (i : Int) = ((i.toNat : Nat) : Int) := by omega
  rw [this]
  exact dIx_tup (by rw [List.getElem?_map, h]; rfl)
def wsum (w : Wd) (l : List Int) : Int := (l.map fun i => w.weights.getD i.toNat 0).sum
theorem intsOf_mapf {γ : Type} (f : γ → Int) (l : List γ) : intsOf (l.map fun x => .int (f x)) = some (l.map f) := by
  rw [← intsOf_map (l.map f), List.map_map]; rfl
def fits (w : Wd) (b : Int × Int) (l : List Int) : Bool := decide ((l.length : Int) ≤ b.1) && (decide (wsum w l ≤ b.2) && l.any fun i => decide (i ∈ w.rowers))
theorem f_fits (h : IsW w) {i : Int} {b : Int × Int} {l : List Int} (h0 : 0 ≤ i) (hb : w.boats[i.toNat]? = some b) (hl : l.length ≤ 100) (hr : ∀ x ∈ l, 0 ≤ x ∧ x < w.things) : Fp.f_fits_boat [eW w, .int i, eT l] = .ok (.bl (fits w b l)) := Fp.ok_fits_boat (by
  unfold Fp.g_fits_boat fits
  rw [op2_ret, ix6, lft_some, op2_ret, ixb h0 hb, lft_some, bnd_ret]
  show ifC _ _ _ = _
  have e1 : (cmp dGt (op1 dLen (Fe.ret (eT l))) (Fe.ret (.int b.1)) : Ms Unit D) = Fe.ret (.bl (!decide ((l.length : Int) ≤ b.1))) := by
    unfold eT
    rw [op1_ret, dLen_tup, lft_some, cmp_ret, dGt_ints, List.length_map, Option.map_some, lft_some]
    congr 2
    by_cases q : (l.length : Int) ≤ b.1
    · simp [q] <;> omega
    · simp [q] <;> omega
  rw [e1, tsb_bl, orT_ret]
  cases decide ((l.length : Int) ≤ b.1) with
  | false => rfl
  | true =>
    rw [if_neg (by decide)]
    have e2' : (op1 dSum (lcP (itmA (Fe.ret (eT l))) fun v_own => it1 (op2 dIxA (op2 dIxA (Fe.ret (eW w)) (Fe.ret (.int 3))) (Fe.ret v_own))) : Ms Unit D) = Fe.ret (.int (wsum w l)) := by
      have e := lc_map (σ := Unit) (enc := D.int) (f := fun v => op2 dIxA (op2 dIxA (Fe.ret (eW w)) (Fe.ret (.int 3))) (Fe.ret v)) (h := fun x => .int (w.weights.getD x.toNat 0)) (l := l) (fun x hx => by
        have q := hr x hx
        rw [op2_ret, ix3, lft_some, op2_ret, ixi q.1 (v := w.weights.getD x.toNat 0) (by rw [List.getD_eq_getElem?_getD, List.getElem?_eq_getElem (by rw [h.wl]; omega)]; rfl), lft_some]) (le_lim (by omega))
      show op1 dSum (lcP (Fe.ret (l.map .int)) _) = _
      rw [e, op1_ret]
      show lft ((intsOf _).map _) = _
      rw [intsOf_mapf]
      rfl
    rw [e2', cmp_ret, dGt_ints, Option.map_some, lft_some, tsb_bl, ifC_ret]
    have e3' : decide (b.2 < wsum w l) = !decide (wsum w l ≤ b.2) := by
      by_cases q : wsum w l ≤ b.2
      · simp [q]
      · simp [q] <;> omega
    rw [e3']
    cases decide (wsum w l ≤ b.2) with
    | false => rfl
    | true =>
      rw [if_neg (by decide)]
      have e := any_lc (σ := Unit) (enc := D.int) (f := fun v => cmp dInA (Fe.ret v) (op2 dIxA (Fe.ret (eW w)) (Fe.ret (.int 2)))) (p := fun i => decide (i ∈ w.rowers)) (l := l) (fun x hx => by rw [op2_ret, ix2, lft_some, cmp_ret, dInA_tup]; rfl) (le_lim (by omega))
      exact e)
end Ty
end
section
set_option Elab.async false
set_option linter.all false
set_option maxRecDepth 100000
set_option maxHeartbeats 1000000
namespace Ty
open PySem (Str)
open Fe
variable {w : Wd} {s : Sta}
theorem dEnum_eT (l : List Int) : dEnum (eT l) = some (l.zipIdx.map fun q => .tup [.int q.2, .int q.1]) := by
  show some ((l.map D.int).zipIdx.map _) = _
  rw [List.zipIdx_map, List.map_map]
  rfl
theorem itmE_eT {σ : Type} (l : List Int) : (itmE (Fe.ret (eT l)) : Ms σ (List D)) = Fe.ret (l.zipIdx.map fun q => .tup [.int q.2, .int q.1]) := by
  unfold itmE
  rw [bnd_ret, dEnum_eT, lft_some]
def putAll (s : List Int) (p : Nat → Bool) (g : Int) : List Int := s.zipIdx.map fun q => if p q.2 = true then g else q.1
def movedS (s : Sta) (c : Crs) : Sta := (putAll s.1 (fun i => decide ((i : Int) ∈ c.2.2)) c.2.1, putAll s.2 (fun i => (i : Int) == c.1) c.2.1)
theorem putAll_lc (l : List Int) (p : Nat → Bool) (g : Int) {t : D → Ms Unit Bool} (ht : ∀ i : Nat, t (.int i) = Fe.ret (p i)) (hl : l.length ≤ 100) :
    op1 dTuple (lcP (itmE (Fe.ret (eT l))) (fun w => un2 w fun v_at v_own => it1 (ifE (t v_at) (Fe.ret (.int g)) (Fe.ret v_own)))) = (Fe.ret (eT (putAll l p g)) : Ms Unit D) := by
  rw [itmE_eT, lc_map' (h := fun q : Int × Nat => .int (if p q.2 = true then g else q.1)) (fun q _ => by
    show it1 (ifE (t (.int q.2)) (Fe.ret (.int g)) (Fe.ret (.int q.1))) = _
    rw [ht]
    cases hp : p q.2 with
    | true => rw [if_pos rfl]; rfl
    | false => rw [if_neg (by decide)]; rfl) (le_lim (by rw [List.length_zipIdx]; omega))]
  show Fe.ret (D.tup _) = _
  unfold eT putAll
  rw [List.map_map]
  rfl
theorem f_moved (s : Sta) (c : Crs) (h1 : s.1.length ≤ 100) (h2 : s.2.length ≤ 100) : Fp.f_moved [eS s, eC c] = .ok (eS (movedS s c)) := Fp.ok_moved (by
  unfold Fp.g_moved
  rw [bnd_ret]
  show bnd _ _ = _
  rw [op2_ret, ixS0, lft_some, putAll_lc s.1 (fun i => decide ((i : Int) ∈ c.2.2)) c.2.1 (t := fun v => tsb (cmp dInA (Fe.ret v) (Fe.ret (eT c.2.2)))) (fun i => by rw [cmp_ret, dInA_tup]; rfl) h1, bnd_ret]
  rw [op2_ret, ixS1, lft_some, putAll_lc s.2 (fun i => (i : Int) == c.1) c.2.1 (t := fun v => tsb (cmp dEq (Fe.ret v) (Fe.ret (.int c.1)))) (fun i => rfl) h2]
  rfl)
theorem filter_lc (l m : List Int) (hl : l.length ≤ 1000) : op1 dTuple (lcP (itmA (Fe.ret (eT l))) (fun v_own => itP (tsb (cmp dNotInA (Fe.ret v_own) (Fe.ret (eT m)))) (Fe.ret v_own))) = (Fe.ret (eT (l.filter fun x => !decide (x ∈ m))) : Ms Unit D) := by
  have e := lc_filter' (σ := Unit) (enc := D.int) (f := fun v => itP (tsb (cmp dNotInA (Fe.ret v) (Fe.ret (eT m)))) (Fe.ret v)) (p := fun x => !decide (x ∈ m)) (h := D.int) (l := l) (fun x _ => itP_ret (by rw [cmp_ret, dNotInA_tup]; rfl) rfl) (le_lim (by omega))
  show op1 dTuple (lcP (Fe.ret (l.map .int)) _) = _
  rw [e]
  rfl
theorem compAt_len (l : List Int) (p : Int) : (compAt l p).length ≤ l.length := by
  unfold compAt
  rw [List.length_map]
  exact Nat.le_trans (List.length_filter_le _ _) (by rw [List.length_zipIdx]; exact Nat.le_refl _)
theorem putAll_len (s : List Int) (p : Nat → Bool) (g : Int) : (putAll s p g).length = s.length := by unfold putAll; rw [List.length_map, List.length_zipIdx]
def leftAt (s : Sta) (c : Crs) (p : Int) : List Int := (compAt s.1 p).filter fun x => !decide (x ∈ c.2.2)
def isLet (w : Wd) (s : Sta) (c : Crs) (st : Int) (b : Int × Int) : Bool := isLinked w st c.2.1 && (fits w b c.2.2 && (isQuiet w c.2.2 && ((upto w.places).all (fun p => isQuiet w (leftAt s c p)) && isQuiet w (compAt (movedS s c).1 c.2.1))))
theorem f_let (h : IsW w) (q : IsS w s) {c : Crs} {st : Int} {b : Int × Int} (h0 : 0 ≤ c.1) (hs : s.2[c.1.toNat]? = some st) (hb : w.boats[c.1.toNat]? = some b) (hl : c.2.2.length ≤ 100) (hr : ∀ x ∈ c.2.2, 0 ≤ x ∧ x < w.things) :
    Fp.f_is_let [eW w, eS s, eC c] = .ok (.bl (isLet w s c st b)) := Fp.ok_is_let (by
  unfold Fp.g_is_let isLet
  rw [bnd_ret]
  show bnd _ _ = _
  simp only [op2_ret, ixS1, lft_some, ixi h0 hs, bnd_ret, nil_ret, cons_ret, ix1]
  rw [cl_ok (f_linked st c.2.1), tst_bl, notT_ret, orT_ret]
  cases isLinked w st c.2.1 with
  | false => rfl
  | true =>
    rw [Bool.not_true, if_neg (by decide), cl_ok (f_fits h h0 hb hl hr), tst_bl, notT_ret, orT_ret]
    cases fits w b c.2.2 with
    | false => rfl
    | true =>
      rw [Bool.not_true, if_neg (by decide), cl_ok (f_quiet h.sm (Cmy.tup c.2.2)), tst_bl, notT_ret, ifC_ret]
      cases isQuiet w c.2.2 with
      | false => rfl
      | true =>
        rw [Bool.not_true, if_neg (by decide), rg1_upto (by have := h.pl; omega) (by omega), Int.toNat_natCast, bnd_ret]
        have ln := q.len h
        have e := forX_find (σ := Unit) (τ := Unit) (enc := D.int) (p := fun p => !isQuiet w (leftAt s c p)) (d := .bl false) (t := ()) (l := upto w.places)
          (f := fun v_place t1 => bnd (cl Fp.f_company_at (Fe.ret [eS s, v_place])) fun v_company => bnd (op1 dTuple (lcP (itmA (Fe.ret v_company)) (fun v_own => (itP (tsb (cmp dNotInA (Fe.ret v_own) (Fe.ret (eT c.2.2)))) (Fe.ret v_own))))) fun v_left => ifC (notT (tst (cl Fp.f_is_quiet (Fe.ret [eW w, v_left])))) (Fe.ret (Lp.rt (.bl false))) (Fe.ret (.nx ()))) (fun p _ => by
            show bnd (cl Fp.f_company_at (Fe.ret [eS s, .int p])) _ = _
            rw [cl_ok (f_comp s p ln), bnd_ret, filter_lc _ _ (by have := compAt_len s.1 p; omega), bnd_ret, cl_ok (f_quiet h.sm (Cmy.tup _)), tst_bl, notT_ret, ifC_ret]
            rfl)
        have e2 : (upto w.places).any (fun p => !isQuiet w (leftAt s c p)) = !(upto w.places).all (fun p => isQuiet w (leftAt s c p)) := by
          rw [List.not_all_eq_any_not]
        rw [e2] at e
        show bnd (forX _ _ _) _ = _
        rw [e]
        cases (upto w.places).all (fun p => isQuiet w (leftAt s c p)) with
        | false => rfl
        | true =>
          rw [Bool.not_true, if_neg (by decide), bnd_ret]
          show cl Fp.f_is_quiet _ = _
          have ln2 : s.2.length ≤ 100 := by rw [q.l2]; have := h.bl; omega
          rw [cl_ok (f_moved s c ln ln2), cons_ret, cl_ok (f_comp (movedS s c) c.2.1 (by have e : (movedS s c).1.length = s.1.length := putAll_len s.1 (fun i => decide ((i : Int) ∈ c.2.2)) c.2.1; rw [e]; exact ln)), cons_ret, cons_ret, cl_ok (f_quiet h.sm (Cmy.tup _))]
          rfl)
/-! ### companies to choose from -/
def leT (a b : List Int) : Bool := !lexLt b a
theorem rowLt_lexT : ∀ (xs ys : List Int), PySem.W.rowLt (xs.map .int) (ys.map .int) = lexLt xs ys
  | [], [] => by rw [PySem.W.dataLt_ints]; rfl
  | [], _ :: _ => by rw [PySem.W.dataLt_ints]; rfl
  | _ :: _, [] => by rw [PySem.W.dataLt_ints]; rfl
  | x :: xs, y :: ys => by
    show PySem.W.rowLt (.int x :: xs.map .int) (.int y :: ys.map .int) = _
    unfold PySem.W.rowLt
    rw [PySem.W.dataLt_cons (by simp [PySem.W.alike]), PySem.W.dataLt_int]
    unfold lexLt
    by_cases h : x = y
    · rw [if_pos (by simp [PySem.PyData.eqv, h]), if_pos h]
      exact rowLt_lexT xs ys
    · rw [if_neg (by simp [PySem.PyData.eqv, h]), if_neg h]
theorem py_ofTup (x : List Int) : py (ofTup x) = .tuple (x.map .int) := by
  show PySem.PyData.tuple (pys (x.map .int)) = _
  rw [pys_map, List.map_map]
  rfl
theorem leD_tups (a b : List Int) : leD (ofTup a) (ofTup b) = leT a b := by
  unfold leD leT
  rw [py_ofTup, py_ofTup, PySem.W.dataLt_tuple]
  exact congrArg (!·) (rowLt_lexT b a)
theorem sortOk_tups (l : List (List Int)) (h : l.length ≤ 100000) : sortOk (l.map ofTup) = true := by
  unfold sortOk
  simp only [Bool.and_eq_true, decide_eq_true_eq, Bool.or_eq_true]
  refine ⟨⟨⟨⟨lays_tups l, by have := deps_tups l; omega⟩, ?_⟩, .inl ?_⟩, by rw [List.length_map]; exact le_lim h⟩
  · unfold allAlike
    rw [List.all_eq_true]
    intro a ha
    rw [List.all_eq_true]
    intro b hb
    obtain ⟨x, _, rfl⟩ := List.mem_map.mp ha
    obtain ⟨y, _, rfl⟩ := List.mem_map.mp hb
    rw [py_ofTup, py_ofTup, PySem.W.alike]
    exact PySem.W.alike_ints x y
  · rw [List.all_eq_true]
    intro a ha
    obtain ⟨x, _, rfl⟩ := List.mem_map.mp ha
    rfl
theorem dSorted_tups (l : List (List Int)) (h : l.length ≤ 100000) : dSorted (.lst (l.map ofTup)) = some (.lst ((l.mergeSort leT).map ofTup)) := by
  show (if sortOk (l.map ofTup) = true then _ else _) = _
  rw [if_pos (sortOk_tups l h), PySem.W.sort_maps (r := leT) (s := leD) ofTup fun a _ b _ => (leD_tups a b).symm]
def subs (l : List Int) : List (List Int) := l.foldl (fun t x => t ++ t.map (· ++ [x])) [[]]
theorem subs_len (l : List Int) : ∀ t : List (List Int), (l.foldl (fun t x => t ++ t.map (· ++ [x])) t).length = t.length * 2 ^ l.length := by
  induction l with
  | nil => intro t; simp
  | cons x l ih =>
    intro t
    rw [List.foldl_cons, ih, List.length_append, List.length_map, List.length_cons, Nat.pow_succ, ← Nat.two_mul, Nat.mul_comm 2, Nat.mul_assoc, Nat.mul_comm 2]
/-- the companies to choose from, rising -/
def choicesT (l : List Int) : List (List Int) := ((subs l).mergeSort leT).drop 1
theorem pow_le_1024 {n : Nat} (h : n ≤ 10) : 2 ^ n ≤ 1024 := Nat.le_trans (Nat.pow_le_pow_right (by decide) h) (by decide)
def turnB (v_own t1 : D) : Ms Unit D := bnd (extP t1 (lcP (itmA (slcP t1 noP noP)) (fun v_row => (it1 (op2 dAdd (Fe.ret v_row) (tupE (consA (Fe.ret v_own) nilA))))))) fun v_found => Fe.ret v_found
theorem turnB_ok (t : List (List Int)) (x : Int) (ht : t.length ≤ 1024) (hr : ∀ r ∈ t, r.length ≤ 1000) : turnB (.int x) (.lst (t.map ofTup)) = Fe.ret (.lst ((t ++ t.map (· ++ [x])).map ofTup)) := by
  unfold turnB
  have e1 : (slcP (.lst (t.map ofTup)) noP noP : Ms Unit D) = Fe.ret (.lst (t.map ofTup)) := by
    show Fe.ret (D.lst (((t.map ofTup).drop 0).take ((t.map ofTup).length - 0))) = _
    rw [List.drop_zero, Nat.sub_zero, List.take_length]
  rw [e1, itmA_lst, lc_map (σ := Unit) (enc := ofTup) (f := fun v => op2 dAdd (Fe.ret v) (tupE (consA (Fe.ret (.int x)) nilA))) (h := fun r => ofTup (r ++ [x])) (l := t) (fun r hm => by
    show (lft (if (r.map D.int).length + 1 ≤ lim then some (D.tup (r.map .int ++ [.int x])) else none) : Ms Unit D) = _
    rw [if_pos (le_lim (by rw [List.length_map]; have := hr r hm; omega)), lft_some]
    show Fe.ret (D.tup _) = Fe.ret (D.tup ((r ++ [x]).map .int))
    rw [List.map_append]
    rfl) (le_lim (by omega))]
  show bnd (bnd (Fe.ret _) _) _ = _
  rw [bnd_ret]
  show bnd (if (t.map ofTup).length + (t.map fun r => ofTup (r ++ [x])).length ≤ lim then _ else _) _ = _
  rw [if_pos (le_lim (by rw [List.length_map, List.length_map]; omega)), bnd_ret, List.map_append, List.map_map]
  rfl
theorem turns_ok : ∀ (l : List Int) (t : List (List Int)), t.length * 2 ^ l.length ≤ 1024 → (∀ r ∈ t, r.length + l.length ≤ 1000) → forN turnB (l.map .int) (.lst (t.map ofTup)) = Fe.ret (.lst ((l.foldl (fun t x => t ++ t.map (· ++ [x])) t).map ofTup))
  | [], t, _, _ => rfl
  | x :: l, t, h, hr => by
    have hp : 1 ≤ 2 ^ l.length := Nat.one_le_two_pow
    have hk : t.length * 2 * 2 ^ l.length ≤ 1024 := by
      rw [List.length_cons, Nat.pow_succ, Nat.mul_comm (2 ^ l.length), ← Nat.mul_assoc] at h
      exact h
    have ht : t.length * 2 ≤ 1024 := Nat.le_trans (Nat.le_mul_of_pos_right _ hp) hk
    rw [List.map_cons, forN, turnB_ok t x (by omega) (fun r hm => by have := hr r hm; omega), bnd_ret, List.foldl_cons]
    refine turns_ok l _ (by rw [List.length_append, List.length_map, ← Nat.two_mul, Nat.mul_comm 2]; exact hk) fun r hm => ?_
    rcases List.mem_append.mp hm with hm | hm
    · have := hr r hm
      rw [List.length_cons] at this
      omega
    · obtain ⟨r', hm', rfl⟩ := List.mem_map.mp hm
      have := hr r' hm'
      rw [List.length_cons] at this
      rw [List.length_append]
      show r'.length + 1 + l.length ≤ 1000
      omega
theorem slc1 (X : List D) : (slc (Fe.ret (.lst X)) (part (Fe.ret (.int 1))) noP : Ms Unit D) = Fe.ret (.lst (X.drop 1)) := by
  show Fe.ret (D.lst ((X.drop (min 1 X.length)).take (X.length - min 1 X.length))) = _
  cases X with
  | nil => rfl
  | cons x r =>
    have : min 1 (x :: r).length = 1 := by rw [List.length_cons]; omega
    rw [this]
    show Fe.ret (D.lst (r.take ((x :: r).length - 1))) = _
    rw [show (x :: r).length - 1 = r.length from rfl, List.take_length]
    rfl
theorem f_choices (l : List Int) (hl : l.length ≤ 10) : Fp.f_choices [eT l] = .ok (.lst ((choicesT l).map ofTup)) := Fp.ok_choices (by
  unfold Fp.g_choices
  have e0 : (lstE (consA (tupE nilA) nilA) : Ms Unit D) = Fe.ret (.lst (([[]] : List (List Int)).map ofTup)) := rfl
  rw [e0, bnd_ret]
  show bnd (Fe.ret (l.map D.int)) _ = _
  rw [bnd_ret]
  have e := turns_ok l [[]] (by have := pow_le_1024 hl; simpa using this) (fun r hm => by rw [List.mem_singleton.mp hm]; show 0 + l.length ≤ 1000; omega)
  show bnd (forN turnB (l.map D.int) (.lst (([[]] : List (List Int)).map ofTup))) _ = _
  rw [e, bnd_ret]
  show slc (op1 dSorted (Fe.ret (.lst ((subs l).map ofTup)))) _ _ = _
  have hs : (subs l).length = 2 ^ l.length := by
    unfold subs
    rw [subs_len]
    exact Nat.one_mul _
  have hk := pow_le_1024 hl
  rw [op1_ret, dSorted_tups (subs l) (by omega), lft_some]
  rw [slc1]
  unfold choicesT
  rw [List.map_drop])
end Ty
end
section
set_option Elab.async false
set_option linter.all false
set_option maxRecDepth 100000
set_option maxHeartbeats 1000000
namespace Ty
open PySem (Str)
open Fe
variable {w : Wd} {s : Sta}
theorem tupE_ret {σ : Type} {l : List D} : (tupE (Fe.ret l) : Ms σ D) = lft (fewT l) := rfl
/-- a loop that appends to a list -/
theorem forN_app {σ γ δ : Type} {enc : γ → D} {e : δ → D} {f : D → D → Ms σ D} {h : γ → List δ} {n : Nat} : ∀ (l : List γ) (t : List δ), t.length + l.length * n ≤ 100000 → (∀ x ∈ l, (h x).length ≤ n) →
    (∀ x ∈ l, ∀ t : List δ, t.length + n ≤ 100000 → f (enc x) (.lst (t.map e)) = Fe.ret (.lst ((t ++ h x).map e))) → forN f (l.map enc) (.lst (t.map e)) = Fe.ret (.lst ((t ++ l.flatMap h).map e))
  | [], t, _, _, _ => by simp [forN]
  | x :: l, t, hl, hn, hf => by
    rw [List.length_cons, Nat.succ_mul] at hl
    rw [List.map_cons, forN, hf x (.head _) t (by omega), bnd_ret, forN_app l _ (by rw [List.length_append]; have := hn x (.head _); omega) (fun y hy => hn y (.tail _ hy)) (fun y hy => hf y (.tail _ hy)), List.flatMap_cons, List.append_assoc]
theorem extP_ret {δ : Type} {e : δ → D} {t h : List δ} {m : Ms Unit D} (hm : m = Fe.ret (.lst (h.map e))) (hl : t.length + h.length ≤ 100000) : extP (.lst (t.map e)) m = Fe.ret (.lst ((t ++ h).map e)) := by
  subst hm
  show (if (t.map e).length + (h.map e).length ≤ lim then _ else _) = _
  rw [if_pos (le_lim (by rw [List.length_map, List.length_map]; exact hl)), List.map_append]
theorem subs_mem (l : List Int) : ∀ (t : List (List Int)) (r : List Int), r ∈ l.foldl (fun t x => t ++ t.map (· ++ [x])) t → ∃ r0 ∈ t, ∃ m, m.Sublist l ∧ r = r0 ++ m := by
  induction l with
  | nil => exact fun t r h => ⟨r, h, [], .slnil, by rw [List.append_nil]⟩
  | cons x l ih =>
    intro t r h
    obtain ⟨r0, h0, m, hm, rfl⟩ := ih _ r h
    rcases List.mem_append.mp h0 with h0 | h0
    · exact ⟨r0, h0, m, hm.cons x, rfl⟩
    · obtain ⟨r1, h1, rfl⟩ := List.mem_map.mp h0
      exact ⟨r1, h1, x :: m, hm.cons₂ x, by show r1 ++ [x] ++ m = _; rw [List.append_assoc]; rfl⟩
theorem choices_sub {l r : List Int} (h : r ∈ choicesT l) : r.Sublist l := by
  have h1 := List.mem_of_mem_drop h
  have h2 := (List.mergeSort_perm _ _).mem_iff.mp h1
  obtain ⟨r0, h0, m, hm, rfl⟩ := subs_mem l [[]] r h2
  rw [List.mem_singleton.mp h0]
  exact hm
theorem choices_len {l : List Int} (h : l.length ≤ 10) : (choicesT l).length ≤ 1024 := by
  unfold choicesT
  rw [List.length_drop, List.length_mergeSort]
  have e : (subs l).length = 2 ^ l.length := by unfold subs; rw [subs_len]; exact Nat.one_mul _
  have := pow_le_1024 h
  omega
theorem comp_mem {l : List Int} {p x : Int} (h : x ∈ compAt l p) : 0 ≤ x ∧ x < l.length ∧ l[x.toNat]? = some p := by
  unfold compAt at h
  obtain ⟨q, hq, rfl⟩ := List.mem_map.mp h
  obtain ⟨h1, h2⟩ := List.mem_filter.mp hq
  have h3 := List.mk_mem_zipIdx_iff_getElem?.mp (show (q.1, q.2) ∈ l.zipIdx from h1)
  have h4 := (List.getElem?_eq_some_iff.mp h3).1
  have h5 : q.1 = p := by simpa using h2
  exact ⟨by omega, by omega, by rw [Int.toNat_natCast, h3, h5]⟩
/-- the crossings of a boat from a place to a goal -/
def crossG (w : Wd) (s : Sta) (i : Nat) (st : Int) (g : Int) : List Crs :=
  if isLinked w st g = true then ((((choicesT (compAt s.1 st)).filter fun r => fits w (w.boats.getD i (0, 0)) r).map fun r => ((i : Int), g, r)).filter fun c => isLet w s c st (w.boats.getD i (0, 0))) else []
def crossB (w : Wd) (s : Sta) (q : Int × Nat) : List Crs := (upto w.places).flatMap (crossG w s q.2 q.1)
/-- all crossings that are let -/
def crossT (w : Wd) (s : Sta) : List Crs := s.2.zipIdx.flatMap (crossB w s)
theorem crossG_len (w : Wd) (s : Sta) (h : s.1.length ≤ 10) (i : Nat) (st g : Int) : (crossG w s i st g).length ≤ 1024 := by
  unfold crossG
  split
  · refine Nat.le_trans (List.length_filter_le _ _) ?_
    rw [List.length_map]
    exact Nat.le_trans (List.length_filter_le _ _) (choices_len (Nat.le_trans (compAt_len _ _) h))
  · exact Nat.zero_le _
theorem crossB_len (h : IsW w) (q : IsS w s) (p : Int × Nat) : (crossB w s p).length ≤ 4096 := by
  unfold crossB
  refine Nat.le_trans (flatMap_length_le fun g _ => crossG_len w s (by rw [q.l1]; exact h.th.2) p.2 p.1 g) ?_
  rw [upto_len]
  have := h.pl
  omega
theorem f_crossings_in (h : IsW w) (q : IsS w s) : Fp.f_crossings_in [eW w, eS s] = .ok (.lst ((crossT w s).map eC)) := Fp.ok_crossings_in (by
  unfold Fp.g_crossings_in
  have e0 : (lstE nilA : Ms Unit D) = Fe.ret (.lst (([] : List Crs).map eC)) := rfl
  rw [e0, bnd_ret, op2_ret, ixS1, lft_some, itmE_eT, bnd_ret]
  have hs1 : s.1.length ≤ 10 := by rw [q.l1]; exact h.th.2
  have e := forN_app (σ := Unit) (enc := fun q : Int × Nat => D.tup [.int q.2, .int q.1]) (e := eC) (h := crossB w s) (n := 4096) s.2.zipIdx []
    (f := fun w' t1 => un2 w' fun v_boat v_place => (bnd (lcP (itmA (cl Fp.f_choices (consA (cl Fp.f_company_at (consA (Fe.ret (eS s)) (consA (Fe.ret v_place) nilA))) nilA))) (fun v_own => (itP (tst (cl Fp.f_fits_boat (consA (Fe.ret (eW w)) (consA (Fe.ret v_boat) (consA (Fe.ret v_own) nilA))))) (Fe.ret v_own)))) fun v_rows =>
      (bnd (rg1 (op2 dIxA (Fe.ret (eW w)) (Fe.ret (.int 1)))) fun l => bnd (forN (τ := D) (fun v_goal t2 => (ifC (tst (cl Fp.f_is_linked (consA (Fe.ret (eW w)) (consA (Fe.ret v_place) (consA (Fe.ret v_goal) nilA))))) (bnd (lcP (itmA (Fe.ret v_rows)) (fun v_own => (it1 (tupE (consA (Fe.ret v_boat) (consA (Fe.ret v_goal) (consA (Fe.ret v_own) nilA))))))) fun v_some =>
      (bnd (extP t2 (lcP (itmA (Fe.ret v_some)) (fun v_own => (itP (tst (cl Fp.f_is_let (consA (Fe.ret (eW w)) (consA (Fe.ret (eS s)) (consA (Fe.ret v_own) nilA))))) (Fe.ret v_own))))) fun v_found => (Fe.ret v_found))) (Fe.ret t2))) l t1) fun t2 => (Fe.ret t2))))
    (by rw [List.length_zipIdx, q.l2]; have := h.bl; simp; omega) (fun p _ => crossB_len h q p) (fun p hp t ht => ?_)
  · rw [e, bnd_ret]; rfl
  · have hp' := List.mk_mem_zipIdx_iff_getElem?.mp (show (p.1, p.2) ∈ s.2.zipIdx from hp)
    have hpl := (List.getElem?_eq_some_iff.mp hp').1
    rw [q.l2] at hpl
    have hb : w.boats[p.2]? = some (w.boats.getD p.2 (0, 0)) := by rw [List.getD_eq_getElem?_getD, List.getElem?_eq_getElem hpl]; rfl
    have hcm : ∀ r ∈ choicesT (compAt s.1 p.1), (∀ x ∈ r, 0 ≤ x ∧ x < w.things) ∧ r.length ≤ 10 := fun r hr => by
      have sb := choices_sub hr
      refine ⟨fun x hx => ?_, Nat.le_trans sb.length_le (Nat.le_trans (compAt_len _ _) hs1)⟩
      have := comp_mem (sb.subset hx)
      rw [q.l1] at this
      omega
    show bnd (lcP (itmA (cl Fp.f_choices (consA (cl Fp.f_company_at (Fe.ret [eS s, .int p.1])) nilA))) _) _ = _
    rw [cl_ok (f_comp s p.1 (by omega)), nil_ret, cons_ret, cl_ok (f_choices _ (Nat.le_trans (compAt_len _ _) hs1)), itmA_lst]
    have e1 := lc_filter' (σ := Unit) (enc := ofTup) (f := fun v_own => itP (tst (cl Fp.f_fits_boat (Fe.ret [eW w, .int p.2, v_own]))) (Fe.ret v_own)) (p := fun r => fits w (w.boats.getD p.2 (0, 0)) r) (h := ofTup) (l := choicesT (compAt s.1 p.1)) (fun r hr => itP_ret (by
      show tst (cl Fp.f_fits_boat (Fe.ret [eW w, .int p.2, eT r])) = _
      rw [cl_ok (f_fits h (by omega) (by rw [Int.toNat_natCast]; exact hb) (by have := (hcm r hr).2; omega) (hcm r hr).1), tst_bl]) rfl) (le_lim (by have := choices_len (Nat.le_trans (compAt_len s.1 p.1) hs1); omega))
    show bnd (lcP (Fe.ret ((choicesT (compAt s.1 p.1)).map ofTup)) fun v_own => itP (tst (cl Fp.f_fits_boat (Fe.ret [eW w, .int p.2, v_own]))) (Fe.ret v_own)) _ = _
    rw [e1, bnd_ret, op2_ret, ix1, lft_some, rg1_upto (by have := h.pl; omega) (by omega), Int.toNat_natCast, bnd_ret]
    have e2 := forN_app (σ := Unit) (enc := D.int) (e := eC) (h := crossG w s p.2 p.1) (n := 1024) (upto w.places) t
      (f := fun v_goal t2 => (ifC (tst (cl Fp.f_is_linked (consA (Fe.ret (eW w)) (consA (Fe.ret (.int p.1)) (consA (Fe.ret v_goal) nilA))))) (bnd (lcP (itmA (Fe.ret (.lst (((choicesT (compAt s.1 p.1)).filter fun r => fits w (w.boats.getD p.2 (0, 0)) r).map ofTup)))) (fun v_own => (it1 (tupE (consA (Fe.ret (.int p.2)) (consA (Fe.ret v_goal) (consA (Fe.ret v_own) nilA))))))) fun v_some =>
        (bnd (extP t2 (lcP (itmA (Fe.ret v_some)) (fun v_own => (itP (tst (cl Fp.f_is_let (consA (Fe.ret (eW w)) (consA (Fe.ret (eS s)) (consA (Fe.ret v_own) nilA))))) (Fe.ret v_own))))) fun v_found => (Fe.ret v_found))) (Fe.ret t2)))
      (by rw [upto_len]; have := h.pl; omega) (fun g _ => crossG_len w s hs1 p.2 p.1 g) (fun g hg t' ht' => ?_)
    · exact (congrArg (fun m => bnd m fun t2 => Fe.ret t2) e2).trans rfl
    · have hg' := upto_mem.mp hg
      show ifC (tst (cl Fp.f_is_linked (Fe.ret [eW w, .int p.1, .int g]))) _ _ = _
      rw [cl_ok (f_linked p.1 g), tst_bl, ifC_ret]
      unfold crossG
      cases isLinked w p.1 g with
      | false => rw [if_neg (by decide), if_neg (by decide), List.append_nil]
      | true =>
        rw [if_pos rfl, if_pos rfl, itmA_lst]
        have hrl : ((choicesT (compAt s.1 p.1)).filter fun r => fits w (w.boats.getD p.2 (0, 0)) r).length ≤ 1024 := Nat.le_trans (List.length_filter_le _ _) (choices_len (Nat.le_trans (compAt_len s.1 p.1) hs1))
        generalize hR : ((choicesT (compAt s.1 p.1)).filter fun r => fits w (w.boats.getD p.2 (0, 0)) r) = R at hrl
        have hRm : ∀ r ∈ R, (∀ x ∈ r, 0 ≤ x ∧ x < w.things) ∧ r.length ≤ 10 := fun r hr => by
          rw [← hR] at hr
          exact hcm r (List.mem_filter.mp hr).1
        have e3 := lc_map (σ := Unit) (enc := ofTup) (f := fun v => tupE (consA (Fe.ret (.int p.2)) (consA (Fe.ret (.int g)) (consA (Fe.ret v) nilA)))) (h := fun r => eC ((p.2 : Int), g, r)) (l := R) (fun r _ => by
          rw [nil_ret, cons_ret, cons_ret, cons_ret, tupE_ret, fewT_le (by simp)]
          rfl) (le_lim (by omega))
        rw [e3, bnd_ret, show (R.map fun r => eC ((p.2 : Int), g, r)) = (R.map fun r => ((p.2 : Int), g, r)).map eC from by rw [List.map_map]; rfl, itmA_lst]
        have e4 := lc_filter' (σ := Unit) (enc := eC) (f := fun v_own => itP (tst (cl Fp.f_is_let (Fe.ret [eW w, eS s, v_own]))) (Fe.ret v_own)) (p := fun c => isLet w s c p.1 (w.boats.getD p.2 (0, 0))) (h := eC) (l := R.map fun r => ((p.2 : Int), g, r)) (fun c hc => itP_ret (by
          obtain ⟨r, hr, rfl⟩ := List.mem_map.mp hc
          have m := hRm r hr
          rw [cl_ok (f_let h q (c := ((p.2 : Int), g, r)) (by show (0 : Int) ≤ p.2; omega) (by show s.2[((p.2 : Int)).toNat]? = _; rw [Int.toNat_natCast]; exact hp') (by show w.boats[((p.2 : Int)).toNat]? = _; rw [Int.toNat_natCast]; exact hb) (by show r.length ≤ 100; omega) m.1), tst_bl]) rfl) (le_lim (by rw [List.length_map]; omega))
        exact (congrArg (fun m => bnd m fun v_found => Fe.ret v_found) (extP_ret (h := (R.map fun r => ((p.2 : Int), g, r)).filter fun c => isLet w s c p.1 (w.boats.getD p.2 (0, 0))) e4 (by
          have := List.length_filter_le (fun c => isLet w s c p.1 (w.boats.getD p.2 (0, 0))) (R.map fun r => ((p.2 : Int), g, r))
          rw [List.length_map] at this
          omega))).trans rfl)
end Ty
end
section
set_option Elab.async false
set_option linter.all false
set_option maxRecDepth 100000
set_option maxHeartbeats 1000000
namespace Ty
open PySem (Str)
open Fe
variable {w : Wd} {s : Sta}
theorem f_crossings (h : IsW w) (q : IsS w s) : Fp.f_crossings [eW w, eS s] = .ok (.tup ((crossT w s).map eC)) := Fp.ok_crossings (by
  unfold Fp.g_crossings
  rw [nil_ret, cons_ret, cons_ret, cl_ok (f_need_world h _), bnd_ret, cons_ret, cons_ret, cons_ret, cl_ok (f_need_state h q _), bnd_ret, cons_ret, cons_ret, cl_ok (f_crossings_in h q)]
  rfl)
/-! ### rows of places -/
def rowsT (pl : Nat) : Nat → List (List Int)
  | 0 => [[]]
  | n + 1 => (rowsT pl n).flatMap fun r => (upto pl).map fun p => r ++ [p]
theorem rowsT_len (pl : Nat) : ∀ n, (rowsT pl n).length = pl ^ n
  | 0 => rfl
  | n + 1 => by
    unfold rowsT
    have : ∀ l : List (List Int), (l.flatMap fun r => (upto pl).map fun p => r ++ [p]).length = l.length * pl := fun l => by
      induction l with
      | nil => simp
      | cons x l ih => rw [List.flatMap_cons, List.length_append, ih, List.length_map, upto_len, List.length_cons, Nat.succ_mul, Nat.add_comm]
    rw [this, rowsT_len pl n, Nat.pow_succ]
theorem rowsT_each (pl : Nat) : ∀ n, ∀ r ∈ rowsT pl n, r.length = n ∧ ∀ x ∈ r, 0 ≤ x ∧ x < pl
  | 0, r, h => by
    rw [List.mem_singleton.mp h]
    exact ⟨rfl, fun x hx => nomatch hx⟩
  | n + 1, r, h => by
    obtain ⟨r', h1, h2⟩ := List.mem_flatMap.mp h
    obtain ⟨p, hp, rfl⟩ := List.mem_map.mp h2
    obtain ⟨e, q⟩ := rowsT_each pl n r' h1
    refine ⟨by rw [List.length_append, e]; rfl, fun x hx => ?_⟩
    rcases List.mem_append.mp hx with hx | hx
    · exact q x hx
    · rw [List.mem_singleton.mp hx]
      exact upto_mem.mp hp
def rowB (pl : Nat) (v_turn t1 : D) : Ms Unit D := bnd (lstE nilA) fun v_longer =>
  (bnd (itmA (Fe.ret t1)) fun l => bnd (forN (τ := D) (fun v_own t2 => (bnd (extP t2 (lcP (rg1 (Fe.ret (.int pl))) (fun v_place => (it1 (op2 dAdd (Fe.ret v_own) (tupE (consA (Fe.ret v_place) nilA))))))) fun v_longer =>
  (Fe.ret v_longer))) l v_longer) fun t2 =>
  (bnd (Fe.ret t2) fun v_found => (Fe.ret v_found)))
theorem rowB_ok (pl : Nat) (hp : pl ≤ 10) (x : D) (t : List (List Int)) (ht : t.length * pl ≤ 100000) (hr : ∀ r ∈ t, r.length ≤ 1000) : rowB pl x (.lst (t.map ofTup)) = Fe.ret (.lst ((t.flatMap fun r => (upto pl).map fun p => r ++ [p]).map ofTup)) := by
  unfold rowB
  have e0 : (lstE nilA : Ms Unit D) = Fe.ret (.lst (([] : List (List Int)).map ofTup)) := rfl
  rw [e0, bnd_ret, itmA_lst, bnd_ret]
  have e := forN_app (σ := Unit) (enc := ofTup) (e := ofTup) (h := fun r => (upto pl).map fun p => r ++ [p]) (n := pl) t []
    (f := fun v_own t2 => bnd (extP t2 (lcP (rg1 (Fe.ret (.int pl))) (fun v_place => (it1 (op2 dAdd (Fe.ret v_own) (tupE (consA (Fe.ret v_place) nilA))))))) fun v_longer => Fe.ret v_longer)
    (by simpa using ht) (fun r _ => by rw [List.length_map, upto_len]; exact Nat.le_refl _) (fun r hm u hu => by
      rw [rg1_upto (by omega) (by omega), Int.toNat_natCast]
      have e1 := lc_map (σ := Unit) (enc := D.int) (f := fun v => op2 dAdd (Fe.ret (ofTup r)) (tupE (consA (Fe.ret v) nilA))) (h := fun p => ofTup (r ++ [p])) (l := upto pl) (fun p _ => by
        show (lft (if (r.map D.int).length + 1 ≤ lim then some (D.tup (r.map .int ++ [.int p])) else none) : Ms Unit D) = _
        rw [if_pos (le_lim (by rw [List.length_map]; have := hr r hm; omega)), lft_some]
        show Fe.ret (D.tup _) = Fe.ret (D.tup ((r ++ [p]).map .int))
        rw [List.map_append]
        rfl) (le_lim (by rw [upto_len]; omega))
      have e2 : lcP (Fe.ret ((upto pl).map D.int)) (fun v => it1 (op2 dAdd (Fe.ret (ofTup r)) (tupE (consA (Fe.ret v) nilA)))) = (Fe.ret (.lst (((upto pl).map fun p => r ++ [p]).map ofTup)) : Ms Unit D) := by
        rw [e1, List.map_map]
        rfl
      exact (congrArg (fun m => bnd m fun v => Fe.ret v) (extP_ret e2 (by rw [List.length_map, upto_len]; exact hu))).trans rfl)
  rw [e, bnd_ret, bnd_ret]
  rfl
theorem f_rows_of (pl n : Nat) (hp : pl ≤ 10) (hp1 : 1 ≤ pl) (hn : n ≤ 100) (hs : pl ^ n ≤ 10000) : Fp.f_rows_of [.int pl, .int n] = .ok (.lst ((rowsT pl n).map ofTup)) := Fp.ok_rows_of (by
  unfold Fp.g_rows_of
  have e0 : (lstE (consA (tupE nilA) nilA) : Ms Unit D) = Fe.ret (.lst (([[]] : List (List Int)).map ofTup)) := rfl
  rw [e0, bnd_ret, rg1_upto (by omega) (by omega), Int.toNat_natCast, bnd_ret]
  have turns : ∀ (k : Nat) (l : List Int) (j : Nat), l.length = k → j + k = n → forN (rowB pl) (l.map D.int) (.lst ((rowsT pl j).map ofTup)) = Fe.ret (.lst ((rowsT pl n).map ofTup)) := by
    intro k
    induction k with
    | zero =>
      intro l j hl hj
      rw [List.length_eq_zero_iff.mp hl]
      have : j = n := by omega
      rw [this]
      rfl
    | succ k ih =>
      intro l j hl hj
      cases l with
      | nil => cases hl
      | cons x l =>
        have hj2 : pl ^ (j + 1) ≤ pl ^ n := Nat.pow_le_pow_right (by omega) (by omega)
        rw [List.map_cons, forN, rowB_ok pl hp _ _ (by rw [rowsT_len, ← Nat.pow_succ]; show pl ^ (j + 1) ≤ _; omega) (fun r hr => by rw [(rowsT_each pl j r hr).1]; omega), bnd_ret]
        exact ih l (j + 1) (by simpa using hl) (by omega)
  have e := turns n (upto n) 0 (upto_len n) (by omega)
  exact (congrArg (fun m => bnd m fun t1 => Fe.ret t1) e).trans rfl)
/-- all states, as the program lists them -/
def statesT (w : Wd) : List Sta := (rowsT w.places w.things).flatMap fun r => (rowsT w.places w.boats.length).map fun e => (r, e)
end Ty
end
section
set_option Elab.async false
set_option linter.all false
set_option maxRecDepth 100000
set_option maxHeartbeats 1000000
namespace Ty
open PySem (Str)
open Fe
variable {w : Wd} {s : Sta}
theorem IsW.rows (h : IsW w) : w.places ^ w.things ≤ 9000 := Nat.le_trans (Nat.pow_le_pow_right (by have := h.pl; omega) (Nat.le_add_right _ _)) h.po
theorem IsW.ends (h : IsW w) : w.places ^ w.boats.length ≤ 9000 := Nat.le_trans (Nat.pow_le_pow_right (by have := h.pl; omega) (Nat.le_add_left _ _)) h.po
theorem f_all_states (h : IsW w) : Fp.f_all_states [eW w] = .ok (.lst ((statesT w).map eS)) := Fp.ok_all_states (by
  unfold Fp.g_all_states
  rw [op2_ret, ix0, lft_some, bnd_ret, op2_ret, ix1, lft_some, bnd_ret, op2_ret, ix6, lft_some, op1_ret, dLen_tup, lft_some, bnd_ret, List.length_map]
  show bnd (cl Fp.f_rows_of (Fe.ret [.int w.places, .int w.things])) _ = _
  have p1 := h.pl
  rw [cl_ok (f_rows_of w.places w.things (by omega) (by omega) (by have := h.th; omega) (by have := h.rows; omega)), bnd_ret]
  show bnd (cl Fp.f_rows_of (Fe.ret [.int w.places, .int w.boats.length])) _ = _
  rw [cl_ok (f_rows_of w.places w.boats.length (by omega) (by omega) (by have := h.bl; omega) (by have := h.ends; omega)), bnd_ret]
  have e0 : (lstE nilA : Ms Unit D) = Fe.ret (.lst (([] : List Sta).map eS)) := rfl
  rw [e0, bnd_ret, itmA_lst, bnd_ret]
  have hp : (rowsT w.places w.things).length * (rowsT w.places w.boats.length).length ≤ 9000 := by
    rw [rowsT_len, rowsT_len, ← Nat.pow_add]
    exact h.po
  have e := forN_app (σ := Unit) (enc := ofTup) (e := eS) (h := fun r => (rowsT w.places w.boats.length).map fun e => (r, e)) (n := (rowsT w.places w.boats.length).length) (rowsT w.places w.things) []
    (f := fun v_own t1 => bnd (extP t1 (lcP (itmA (Fe.ret (.lst ((rowsT w.places w.boats.length).map ofTup)))) (fun v_end => (it1 (tupE (consA (Fe.ret v_own) (consA (Fe.ret v_end) nilA))))))) fun v_found => Fe.ret v_found)
    (by show 0 + _ ≤ _; omega) (fun r _ => by rw [List.length_map]; exact Nat.le_refl _) (fun r hr t ht => by
      have e1 := lc_map (σ := Unit) (enc := ofTup) (f := fun v => tupE (consA (Fe.ret (ofTup r)) (consA (Fe.ret v) nilA))) (h := fun e => eS (r, e)) (l := rowsT w.places w.boats.length) (fun e _ => by
        rw [nil_ret, cons_ret, cons_ret, tupE_ret, fewT_le (by simp)]
        rfl) (le_lim (by rw [rowsT_len]; have := h.ends; omega))
      have e2 : lcP (Fe.ret ((rowsT w.places w.boats.length).map ofTup)) (fun v => it1 (tupE (consA (Fe.ret (ofTup r)) (consA (Fe.ret v) nilA)))) = (Fe.ret (.lst (((rowsT w.places w.boats.length).map fun e => (r, e)).map eS)) : Ms Unit D) := by
        rw [e1, List.map_map]
        rfl
      exact (congrArg (fun m => bnd m fun v => Fe.ret v) (extP_ret e2 (by rw [List.length_map]; exact ht))).trans rfl)
  exact (congrArg (fun m => bnd m fun t1 => Fe.ret t1) e).trans rfl)
/-! ### calm places -/
theorem kys_ints : ∀ l : List Int, kys (l.map .int) = true
  | [] => rfl
  | i :: l => by rw [List.map_cons, kys, kys_ints l]; rfl
theorem keyOk_tup (r : List Int) : keyOk (ofTup r) = true := by
  show (kys (r.map .int) && decide (deps (r.map .int) + 1 ≤ 8)) = true
  rw [kys_ints, deps_ints]
  rfl
theorem eqv_tup (a b : List Int) : eqv (ofTup a) (ofTup b) = (a == b) := by
  show eqvs (a.map .int) (b.map .int) = _
  exact eqvs_ints a b
theorem keyAt_map (ks : List (List Int)) (r : List Int) : keyAt (ks.map ofTup) (ofTup r) = ks.findIdx? (· == r) := by
  unfold keyAt
  rw [List.findIdx?_map]
  congr 1
  funext a
  exact eqv_tup a r
def dicT (w : Wd) (ks : List (List Int)) : D := .dct (ks.map ofTup) (ks.map fun r => .bl (calmIn w (r, [])))
theorem dctIn_T (ks : List (List Int)) (r : List Int) : dctIn (ks.map ofTup) (ofTup r) = some (decide (r ∈ ks)) := by
  unfold dctIn
  rw [if_pos (keyOk_tup r), keyAt_map]
  congr 1
  rw [List.findIdx?_isSome]
  by_cases hm : r ∈ ks
  · rw [decide_eq_true hm, List.any_eq_true]
    exact ⟨r, hm, by simp⟩
  · rw [decide_eq_false hm, ← Bool.not_eq_true, List.any_eq_true]
    rintro ⟨x, hx, q⟩
    exact hm ((by simpa using q : x = r) ▸ hx)
theorem dctSet_T {ks : List (List Int)} {r : List Int} (hm : r ∉ ks) (hl : ks.length ≤ 10000) : dctSet (ks.map ofTup) (ks.map fun r => .bl (calmIn w (r, []))) (ofTup r) (.bl (calmIn w (r, []))) = some (dicT w (ks ++ [r])) := by
  unfold dctSet
  rw [if_pos (keyOk_tup r), keyAt_map, List.findIdx?_eq_none_iff.mpr (fun x hx => by
    have : x ≠ r := fun q => hm (q ▸ hx)
    simpa using this)]
  show (if (ks.map ofTup).length < lim then _ else _) = _
  rw [if_pos (by rw [List.length_map]; have := le_lim (show ks.length + 1 ≤ 100000 by omega); omega)]
  unfold dicT
  rw [List.map_append, List.map_append]
  rfl
theorem dctGet_T : ∀ {ks : List (List Int)} {r : List Int} (f : List Int → D), r ∈ ks → dctGet (ks.map ofTup) (ks.map f) (ofTup r) = some (f r) := by
  intro ks r f hm
  unfold dctGet
  rw [if_pos (keyOk_tup r), keyAt_map]
  induction ks with
  | nil => cases hm
  | cons x ks ih =>
    rw [List.findIdx?_cons]
    by_cases q : x = r
    · subst q
      simp
    · have q' : (x == r) = false := by simpa using q
      rw [q']
      have hm' : r ∈ ks := (List.mem_cons.mp hm).resolve_left fun z => q z.symm
      have := ih hm'
      cases hf : ks.findIdx? (· == r) with
      | none => rw [hf] at this; cases this
      | some i =>
        rw [hf] at this
        simpa using this
def dicB (w : Wd) (v_state t1 : D) : Ms Unit D := ifC (tsb (ninP t1 (op2 dIxA (Fe.ret v_state) (Fe.ret (.int 0))))) (bnd (setDP t1 (op2 dIxA (Fe.ret v_state) (Fe.ret (.int 0))) (cl Fp.f_is_calm_in (consA (Fe.ret (eW w)) (consA (Fe.ret v_state) nilA)))) fun v_found => Fe.ret v_found) (Fe.ret t1)
theorem dicB_old {ks : List (List Int)} {r e : List Int} (hm : r ∈ ks) : dicB w (eS (r, e)) (dicT w ks) = Fe.ret (dicT w ks) := by
  unfold dicB dicT
  rw [op2_ret, ixS0, lft_some]
  show ifC (tsb (lft ((dctIn (ks.map ofTup) (ofTup r)).map fun b => .bl (!b)))) _ _ = _
  rw [dctIn_T, decide_eq_true hm]
  rfl
theorem dicB_new (h : IsW w) {ks : List (List Int)} {r e : List Int} (hm : r ∉ ks) (hl : ks.length ≤ 10000) (hr : r.length ≤ 100) : dicB w (eS (r, e)) (dicT w ks) = Fe.ret (dicT w (ks ++ [r])) := by
  have hc : (cl Fp.f_is_calm_in (consA (Fe.ret (eW w)) (consA (Fe.ret (eS (r, e))) nilA)) : Ms Unit D) = Fe.ret (.bl (calmIn w (r, []))) := by
    rw [nil_ret, cons_ret, cons_ret]
    exact cl_ok (f_calm_in h.sm (r, e) hr)
  have hk : (op2 dIxA (Fe.ret (eS (r, e))) (Fe.ret (.int 0)) : Ms Unit D) = Fe.ret (ofTup r) := rfl
  unfold dicB
  rw [hc, hk]
  have e1 := dctSet_T (w := w) hm hl
  generalize calmIn w (r, []) = b at e1 ⊢
  have hs : (setDP (dicT w ks) (Fe.ret (ofTup r)) (Fe.ret (.bl b)) : Ms Unit D) = Fe.ret (dicT w (ks ++ [r])) := by
    show lft (dctSet (ks.map ofTup) _ (ofTup r) (.bl b)) = _
    rw [e1]
    rfl
  rw [hs]
  have hn : (ninP (dicT w ks) (Fe.ret (ofTup r)) : Ms Unit D) = Fe.ret (.bl true) := by
    show lft ((dctIn (ks.map ofTup) (ofTup r)).map fun b => D.bl (!b)) = _
    rw [dctIn_T, decide_eq_false hm]
    rfl
  rw [hn]
  rfl
theorem bnd_assoc {σ α β γ : Type} {m : Ms σ α} {f : α → Ms σ β} {g : β → Ms σ γ} : bnd (bnd m f) g = bnd m fun a => bnd (f a) g := by
  funext s
  unfold bnd
  cases m s <;> rfl
theorem forN_append {σ τ : Type} {f : D → τ → Ms σ τ} : ∀ (a b : List D) (t : τ), forN f (a ++ b) t = bnd (forN f a t) fun t' => forN f b t'
  | [], b, t => rfl
  | x :: a, b, t => by
    rw [List.cons_append, forN, forN, bnd_assoc]
    congr 1
    funext t1
    exact forN_append a b t1
theorem ends_old {ks : List (List Int)} {r : List Int} (hm : r ∈ ks) : ∀ es : List (List Int), forN (dicB w) ((es.map fun e => (r, e)).map eS) (dicT w ks) = Fe.ret (dicT w ks)
  | [] => rfl
  | e :: es => by
    rw [List.map_cons, List.map_cons, forN, dicB_old hm, bnd_ret]
    exact ends_old hm es
theorem rows_loop (h : IsW w) {es : List (List Int)} (he : es ≠ []) : ∀ (rs ks : List (List Int)), (ks ++ rs).Nodup → ks.length + rs.length ≤ 10000 → (∀ r ∈ rs, r.length ≤ 100) →
    forN (dicB w) ((rs.flatMap fun r => es.map fun e => (r, e)).map eS) (dicT w ks) = Fe.ret (dicT w (ks ++ rs))
  | [], ks, _, _, _ => by rw [List.append_nil]; rfl
  | r :: rs, ks, hn, hl, hr => by
    rw [List.length_cons] at hl
    have hm : r ∉ ks := fun q => (List.nodup_append.mp hn).2.2 r q r (.head _) rfl
    rw [List.flatMap_cons, List.map_append, forN_append]
    obtain ⟨e, es', rfl⟩ : ∃ e es', es = e :: es' := by
      cases es with
      | nil => exact absurd rfl he
      | cons e es' => exact ⟨e, es', rfl⟩
    rw [List.map_cons, List.map_cons, forN, dicB_new h hm (by omega) (hr r (.head _)), bnd_ret, ends_old (List.mem_append_right _ (.head _)), bnd_ret]
    have e1 := rows_loop h he rs (ks ++ [r]) (by rw [List.append_assoc]; exact hn) (by rw [List.length_append]; show ks.length + 1 + rs.length ≤ 10000; omega) (fun x hx => hr x (.tail _ hx))
    rw [List.append_assoc] at e1
    exact e1
theorem rowsT_nodup (pl : Nat) : ∀ n, (rowsT pl n).Nodup
  | 0 => by unfold rowsT; simp
  | n + 1 => by
    unfold rowsT
    have un : (upto pl).Nodup := by
      unfold upto
      exact List.Pairwise.map _ (fun a b q z => q (Int.ofNat.inj z)) List.nodup_range
    have ih := rowsT_nodup pl n
    refine List.pairwise_flatMap.mpr ⟨fun r _ => List.pairwise_map.mpr (un.imp fun {a b} q z => q (List.cons.inj (List.append_cancel_left z)).1), ih.imp fun {a b} q x hx y hy z => ?_⟩
    obtain ⟨p, _, rfl⟩ := List.mem_map.mp hx
    obtain ⟨p', _, rfl⟩ := List.mem_map.mp hy
    exact q (List.append_inj_left' z rfl)
theorem f_calm_places (h : IsW w) : Fp.f_calm_places [eW w] = .ok (.tup (((rowsT w.places w.things).filter fun r => calmIn w (r, [])).map ofTup)) := Fp.ok_calm_places (by
  unfold Fp.g_calm_places
  rw [nil_ret, cons_ret, cons_ret, cl_ok (f_need_world h _), bnd_ret, bnd_ret, cons_ret, cl_ok (f_all_states h), itmA_lst, bnd_ret]
  have hne : rowsT w.places w.boats.length ≠ [] := by
    intro z
    have e := rowsT_len w.places w.boats.length
    rw [z] at e
    have : 0 < w.places ^ w.boats.length := Nat.pow_pos (by have := h.pl; omega)
    rw [← e] at this
    exact absurd this (by decide)
  have hl : (rowsT w.places w.things).length ≤ 9000 := by rw [rowsT_len]; exact h.rows
  have e := rows_loop h hne (rowsT w.places w.things) [] (rowsT_nodup _ _) (by show 0 + _ ≤ _; omega) (fun r hr => by rw [(rowsT_each _ _ r hr).1]; have := h.th; omega)
  refine (congrArg (fun m => bnd m fun t1 => op1 dTuple (lcP (itmA (Fe.ret t1)) (fun v_own => (itP (tst (op2 dIxA (Fe.ret t1) (Fe.ret v_own))) (Fe.ret v_own))))) e).trans ?_
  rw [bnd_ret, List.nil_append]
  have e2 := lc_filter' (σ := Unit) (enc := ofTup) (f := fun v => itP (tst (op2 dIxA (Fe.ret (dicT w (rowsT w.places w.things))) (Fe.ret v))) (Fe.ret v)) (p := fun r => calmIn w (r, [])) (h := ofTup) (l := rowsT w.places w.things) (fun r hr => itP_ret (by
    rw [op2_ret]
    show tst (lft (dctGet _ _ _)) = _
    rw [dctGet_T (fun r => .bl (calmIn w (r, []))) hr]
    rfl) rfl) (le_lim (by omega))
  exact (congrArg (fun m => op1 dTuple m) e2).trans rfl)
end Ty
end
section
set_option Elab.async false
set_option linter.all false
set_option maxRecDepth 100000
set_option maxHeartbeats 1000000
namespace Ty
open PySem (Str)
open Fe
variable {w : Wd} {s : Sta}
/-- whether (boat, goal, company) is a crossing -/
def isCrs (w : Wd) (s : Sta) (c : Crs) : Bool :=
  (decide (0 ≤ c.1) && decide (c.1 < s.2.length)) && ((decide (0 ≤ c.2.1) && decide (c.2.1 < w.places)) && ((c.2.2 == sortI c.2.2) && (!c.2.2.isEmpty && (c.2.2.all (fun x => decide (x ∈ compAt s.1 (s.2.getD c.1.toNat 0))) && isLet w s c (s.2.getD c.1.toNat 0) (w.boats.getD c.1.toNat (0, 0))))))
theorem chn_le_lt {a b c : Int} : (chn dLe dLt (Fe.ret (.int a)) (Fe.ret (.int b)) (Fe.ret (.int c)) : Ms Unit D) = Fe.ret (.bl (decide (a ≤ b) && decide (b < c))) := by
  show (if decide (a ≤ b) = true then (Fe.ret (.bl (decide (b < c))) : Ms Unit D) else Fe.ret (.bl false)) = _
  cases decide (a ≤ b) <;> rfl
theorem f_crossing_in (h : IsW w) (q : IsS w s) (c : Crs) (hl : c.2.2.length < 64) : Fp.f_is_crossing_in [eW w, eS s, eC c] = .ok (.bl (isCrs w s c)) := Fp.ok_is_crossing_in (by
  unfold Fp.g_is_crossing_in isCrs
  have h1 : (cmp1 (dIsi "tuple") (Fe.ret (eC c)) : Ms Unit D) = Fe.ret (.bl true) := rfl
  have h2 : (cmp dNe (op1 dLen (Fe.ret (eC c))) (Fe.ret (.int 3)) : Ms Unit D) = Fe.ret (.bl false) := rfl
  have h3 : (op2 dIxA (Fe.ret (eC c)) (Fe.ret (.int 2)) : Ms Unit D) = Fe.ret (eT c.2.2) := rfl
  have h4 : (cmp1 (dIsi "tuple") (Fe.ret (eT c.2.2)) : Ms Unit D) = Fe.ret (.bl true) := rfl
  rw [h1, h2, h3, h4, tst_bl, notT_ret, orT_ret, if_neg (by decide), tsb_bl, orT_ret, if_neg (by decide), ifC_ret, if_neg (by decide)]
  have h5 : (op2 dAdd (op1 dList (slc (Fe.ret (eC c)) noP (part (Fe.ret (.int 2))))) (op1 dList (Fe.ret (eT c.2.2))) : Ms Unit D) = Fe.ret (.lst ((c.1 :: c.2.1 :: c.2.2).map D.int)) := by
    show lft (if 2 + (c.2.2.map D.int).length ≤ lim then some (D.lst ([.int c.1, .int c.2.1] ++ c.2.2.map .int)) else none) = _
    rw [if_pos (le_lim (by rw [List.length_map]; omega))]
    rfl
  rw [h5, bnd_ret, itmA_lst]
  have h6 := all_lc (σ := Unit) (enc := D.int) (f := fun v => andV (cmp1 (dIsi "int") (Fe.ret v)) (notV (cmp1 (dIsi "bool") (Fe.ret v)))) (p := fun _ => true) (l := c.1 :: c.2.1 :: c.2.2) (fun x _ => rfl) (le_lim (by simp; omega))
  rw [h6]
  have h7 : ((c.1 :: c.2.1 :: c.2.2).all fun _ => true) = true := by simp
  rw [h7, tst_bl, notT_ret, ifC_ret, if_neg (by decide), bnd_ret]
  show ifC _ _ _ = _
  have h8 : (op1 dLen (op2 dIxA (Fe.ret (eS s)) (Fe.ret (.int 1))) : Ms Unit D) = Fe.ret (.int s.2.length) := by
    rw [op2_ret, ixS1, lft_some]
    unfold eT
    rw [op1_ret, dLen_tup, lft_some, List.length_map]
  rw [h8, op2_ret, ix1, lft_some, chn_le_lt, tsb_bl, notT_ret, orT_ret]
  cases hb : (decide (0 ≤ c.1) && decide (c.1 < s.2.length)) with
  | false => rfl
  | true =>
    rw [Bool.not_true, if_neg (by decide), chn_le_lt, tsb_bl, notT_ret, orT_ret]
    cases hg : (decide (0 ≤ c.2.1) && decide (c.2.1 < (w.places : Int))) with
    | false => rfl
    | true =>
      rw [Bool.not_true, if_neg (by decide)]
      have h9 : (cmp dNe (op1 dList (Fe.ret (eT c.2.2))) (op1 dSortSet2 (Fe.ret (eT c.2.2))) : Ms Unit D) = Fe.ret (.bl (!(c.2.2 == sortI c.2.2))) := by
        rw [op1_ret, op1_ret, dSortSet2_eT _ hl, lft_some, show dList (eT c.2.2) = some (eL c.2.2) from rfl, lft_some, cmp_ret]
        unfold dNe
        rw [dEq_eL]
        rfl
      rw [h9, tsb_bl, ifC_ret]
      cases (c.2.2 == sortI c.2.2) with
      | false => rfl
      | true =>
        rw [Bool.not_true, if_neg (by decide)]
        have h10 : (tst (Fe.ret (eT c.2.2)) : Ms Unit Bool) = Fe.ret (!c.2.2.isEmpty) := by
          unfold eT
          rw [tst_tup]
          cases c.2.2 <;> rfl
        rw [h10, notT_ret, orT_ret]
        cases c.2.2.isEmpty with
        | true => rfl
        | false =>
          rw [Bool.not_false, Bool.not_true, if_neg (by decide), op2_ret, ixS1, lft_some]
          rw [Bool.and_eq_true, decide_eq_true_eq, decide_eq_true_eq] at hb
          have hlt : c.1.toNat < s.2.length := by omega
          have hst : s.2[c.1.toNat]? = some (s.2.getD c.1.toNat 0) := by rw [List.getD_eq_getElem?_getD, List.getElem?_eq_getElem hlt]; rfl
          have hbt : w.boats[c.1.toNat]? = some (w.boats.getD c.1.toNat (0, 0)) := by rw [List.getD_eq_getElem?_getD, List.getElem?_eq_getElem (by rw [← q.l2]; exact hlt)]; rfl
          rw [op2_ret, ixi hb.1 hst, lft_some]
          have h11 := all_lc (σ := Unit) (enc := D.int) (f := fun v => cmp dInA (Fe.ret v) (cl Fp.f_company_at (Fe.ret [eS s, .int (s.2.getD c.1.toNat 0)]))) (p := fun x => decide (x ∈ compAt s.1 (s.2.getD c.1.toNat 0))) (l := c.2.2) (fun x _ => by
            rw [cl_ok (f_comp s _ (q.len h)), cmp_ret, dInA_tup]
            rfl) (le_lim (by omega))
          show ifC (notT (tst (op1 dAll (lcP (Fe.ret (c.2.2.map D.int)) fun v => it1 (cmp dInA (Fe.ret v) (cl Fp.f_company_at (Fe.ret [eS s, .int (s.2.getD c.1.toNat 0)]))))))) _ (cl Fp.f_is_let (Fe.ret [eW w, eS s, eC c])) = _
          rw [h11, tst_bl, notT_ret, ifC_ret]
          cases ha : c.2.2.all (fun x => decide (x ∈ compAt s.1 (s.2.getD c.1.toNat 0))) with
          | false => rfl
          | true =>
            rw [Bool.not_true, if_neg (by decide), cl_ok (f_let h q hb.1 hst hbt (by omega) (fun x hx => by
              have m := comp_mem (of_decide_eq_true (List.all_eq_true.mp ha x hx))
              rw [q.l1] at m
              omega))]
            rfl)
theorem f_is_crossing (h : IsW w) (q : IsS w s) (c : Crs) (hl : c.2.2.length < 64) : Fp.f_is_crossing [eW w, eS s, eC c] = .ok (.bl (isCrs w s c)) := Fp.ok_is_crossing (by
  unfold Fp.g_is_crossing
  rw [nil_ret, cons_ret, cons_ret, cl_ok (f_need_world h _), bnd_ret, cons_ret, cons_ret, cons_ret, cl_ok (f_need_state h q _), bnd_ret, cons_ret, cons_ret, cons_ret]
  exact cl_ok (f_crossing_in h q c hl))
theorem f_after (h : IsW w) (q : IsS w s) (c : Crs) (hl : c.2.2.length < 64) (hc : isCrs w s c = true) : Fp.f_after [eW w, eS s, eC c] = .ok (eS (movedS s c)) := Fp.ok_after (by
  unfold Fp.g_after
  rw [nil_ret, cons_ret, cons_ret, cl_ok (f_need_world h _), bnd_ret, cons_ret, cons_ret, cons_ret, cl_ok (f_need_state h q _), bnd_ret, cons_ret, cons_ret, cons_ret, cl_ok (f_crossing_in h q c hl), hc]
  simp only [cons_ret]
  rw [cl_ok (f_need_ok _), bnd_ret]
  exact cl_ok (f_moved s c (q.len h) (by rw [q.l2]; have := h.bl; omega)))
/-- the crossing back -/
def backT (s : Sta) (c : Crs) : Crs := (c.1, s.2.getD c.1.toNat 0, c.2.2)
theorem f_back (h : IsW w) (q : IsS w s) (c : Crs) (hl : c.2.2.length < 64) (hc : isCrs w s c = true) : Fp.f_back [eW w, eS s, eC c] = .ok (eC (backT s c)) := Fp.ok_back (by
  unfold Fp.g_back
  have hb : 0 ≤ c.1 ∧ c.1 < s.2.length := by
    unfold isCrs at hc
    simp only [Bool.and_eq_true, decide_eq_true_eq] at hc
    exact hc.1
  have hlt : c.1.toNat < s.2.length := by omega
  have hst : s.2[c.1.toNat]? = some (s.2.getD c.1.toNat 0) := by rw [List.getD_eq_getElem?_getD, List.getElem?_eq_getElem hlt]; rfl
  rw [nil_ret, cons_ret, cons_ret, cl_ok (f_need_world h _), bnd_ret, cons_ret, cons_ret, cons_ret, cl_ok (f_need_state h q _), bnd_ret, cons_ret, cons_ret, cons_ret, cl_ok (f_crossing_in h q c hl), hc]
  simp only [cons_ret]
  rw [cl_ok (f_need_ok _), bnd_ret]
  have h0 : (op2 dIxA (Fe.ret (eC c)) (Fe.ret (.int 0)) : Ms Unit D) = Fe.ret (.int c.1) := rfl
  have h2 : (op2 dIxA (Fe.ret (eC c)) (Fe.ret (.int 2)) : Ms Unit D) = Fe.ret (eT c.2.2) := rfl
  have h1 : (op2 dIxA (op2 dIxA (Fe.ret (eS s)) (Fe.ret (.int 1))) (Fe.ret (.int c.1)) : Ms Unit D) = Fe.ret (.int (s.2.getD c.1.toNat 0)) := by
    rw [op2_ret, ixS1, lft_some, op2_ret, ixi hb.1 hst, lft_some]
  rw [h0, h1, h2]
  simp only [cons_ret]
  rw [tupE_ret, fewT_le (by simp), lft_some]
  rfl)
end Ty
end
section
set_option Elab.async false
set_option linter.all false
set_option maxRecDepth 100000
set_option maxHeartbeats 1000000
namespace Ty
open PySem (Str)
open Fe
variable {w : Wd} {s : Sta} {d : D} {l : List Int}
end Ty
end
section
set_option Elab.async false
set_option linter.all false
set_option maxRecDepth 100000
set_option maxHeartbeats 1000000
namespace Ty
open PySem (Str)
open Fe
variable {w : Wd} {s : Sta}
end Ty
end
section
set_option Elab.async false
set_option linter.all false
set_option maxRecDepth 100000
set_option maxHeartbeats 1000000
namespace Ty
open PySem (Str)
open Fe
variable {w : Wd} {s : Sta}
end Ty
end
section
set_option Elab.async false
set_option linter.all false
set_option maxRecDepth 100000
set_option maxHeartbeats 1000000
namespace Ty
open PySem (Str)
open Fe
variable {w : Wd} {s : Sta}
end Ty
end
section
set_option Elab.async false
set_option linter.all false
set_option maxRecDepth 100000
set_option maxHeartbeats 1000000
namespace Ty
open PySem (Str)
open Fe
/-- nested tuples of ints, bools, None, so deep at most -/
def plain : Nat → D → Bool
  | _, .non => true
  | _, .bl _ => true
  | _, .int _ => true
  | k + 1, .tup l => l.all (plain k) && decide (l.length ≤ 1000)
  | _, _ => false
end Ty
end
section
set_option Elab.async false
set_option linter.all false
set_option maxRecDepth 100000
set_option maxHeartbeats 1000000
namespace Ty
open PySem (Str)
open Fe
def row (ns : List Int) (a b c : Int) : D := .lst [eL ns, .int a, .int b, .int c]
theorem dDiv_ok {x y : Int} (h : 0 < y ∧ y < 1073741824) : dDiv (.int x) (.int y) = some (.int (x / y)) := by
  show (if decide (0 < y ∧ y < 1073741824) = true then some (D.int (x / y)) else none) = _
  rw [if_pos (decide_eq_true h)]
theorem dMod_ok {x y : Int} (h : 0 < y) : dMod (.int x) (.int y) = some (.int (x % y)) := by
  show (if decide (0 < y) = true then some (D.int (x % y)) else none) = _
  rw [if_pos (decide_eq_true h)]
theorem taken_great {ns : List Int} {a b c m : Int} (hc : 0 < c) (hm : 0 < m ∧ m < 1073741824) : Fp.g__law_taken (.int m) (row ns a b c) = .ok (.int (c % m)) (row ns a b (c / m)) := by
  unfold Fp.g__law_taken
  have h1 : tsb (cmp dGt (ixS (Fe.ret (.int 3))) (Fe.ret (.int 0))) (row ns a b c) = .ok true (row ns a b c) := by
    show Rs.ok (decide (0 < c)) (row ns a b c) = _
    rw [decide_eq_true hc]
  have h2 : op2 dMod (op1 dInt (ixS (Fe.ret (.int 3)))) (Fe.ret (.int m)) (row ns a b c) = .ok (.int (c % m)) (row ns a b c) := by
    show lft (dMod (.int c) (.int m)) (row ns a b c) = _
    rw [dMod_ok hm.1]
    rfl
  have h3 : setS (Fe.ret (.int 3)) (op2 dDiv (ixS (Fe.ret (.int 3))) (Fe.ret (.int m))) (row ns a b c) = .ok () (row ns a b (c / m)) := by
    have : op2 dDiv (ixS (Fe.ret (.int 3))) (Fe.ret (.int m)) (row ns a b c) = .ok (.int (c / m)) (row ns a b c) := by
      show lft (dDiv (.int c) (.int m)) (row ns a b c) = _
      rw [dDiv_ok hm]
      rfl
    unfold setS bnd
    rw [this]
    rfl
  unfold ifC bnd
  rw [h1]
  dsimp only
  rw [if_pos rfl, h2]
  dsimp only
  rw [h3]
  rfl
theorem dMul_48271 (b : Int) : dMul (.int b) (.int 48271) = some (.int (b * 48271)) := by
  show (if (smallI b || smallI 48271) = true then some (D.int (b * 48271)) else none) = _
  have : smallI 48271 = true := by unfold smallI; exact decide_eq_true (by omega)
  rw [this, Bool.or_true, if_pos rfl]
theorem taken_end {ns : List Int} {a b c m : Int} (hc : ¬ 0 < c) (ha : (ns.length : Int) < a + 1) (hm : 0 < m) :
    Fp.g__law_taken (.int m) (row ns a b c) = .ok (.int ((b * 48271 + 11) % 2147483647 / 7 % m)) (row ns (a + 1) ((b * 48271 + 11) % 2147483647) c) := by
  unfold Fp.g__law_taken
  have h1 : tsb (cmp dGt (ixS (Fe.ret (.int 3))) (Fe.ret (.int 0))) (row ns a b c) = .ok false (row ns a b c) := by
    show Rs.ok (decide (0 < c)) (row ns a b c) = _
    rw [decide_eq_false hc]
  have h2 : setS (Fe.ret (.int 1)) (op2 dAdd (ixS (Fe.ret (.int 1))) (Fe.ret (.int 1))) (row ns a b c) = .ok () (row ns (a + 1) b c) := rfl
  have h3 : tsb (cmp dGt (ixS (Fe.ret (.int 1))) (op1 dLen (ixS (Fe.ret (.int 0))))) (row ns (a + 1) b c) = .ok true (row ns (a + 1) b c) := by
    show Rs.ok (decide (((ns.map D.int).length : Int) < a + 1)) (row ns (a + 1) b c) = _
    rw [List.length_map, decide_eq_true ha]
  have h4 : setS (Fe.ret (.int 2)) (op2 dMod (op1 dInt (op2 dAdd (op2 dMul (ixS (Fe.ret (.int 2))) (Fe.ret (.int 48271))) (Fe.ret (.int 11)))) (Fe.ret (.int 2147483647))) (row ns (a + 1) b c) = .ok () (row ns (a + 1) ((b * 48271 + 11) % 2147483647) c) := by
    have e1 : op2 dMul (ixS (Fe.ret (.int 2))) (Fe.ret (.int 48271)) (row ns (a + 1) b c) = .ok (.int (b * 48271)) (row ns (a + 1) b c) := by
      show lft (dMul (.int b) (.int 48271)) (row ns (a + 1) b c) = _
      rw [dMul_48271]
      rfl
    have e2 : op2 dMod (op1 dInt (op2 dAdd (op2 dMul (ixS (Fe.ret (.int 2))) (Fe.ret (.int 48271))) (Fe.ret (.int 11)))) (Fe.ret (.int 2147483647)) (row ns (a + 1) b c) = .ok (.int ((b * 48271 + 11) % 2147483647)) (row ns (a + 1) b c) := by
      unfold op2 at e1 ⊢
      unfold op1
      unfold bnd at e1 ⊢
      dsimp only at e1 ⊢
      rw [e1]
      show lft (dMod (.int (b * 48271 + 11)) (.int 2147483647)) (row ns (a + 1) b c) = _
      rw [dMod_ok (by omega)]
      rfl
    unfold setS bnd
    rw [e2]
    rfl
  have h5 : op2 dMod (op1 dInt (op2 dDiv (ixS (Fe.ret (.int 2))) (Fe.ret (.int 7)))) (Fe.ret (.int m)) (row ns (a + 1) ((b * 48271 + 11) % 2147483647) c) = .ok (.int ((b * 48271 + 11) % 2147483647 / 7 % m)) (row ns (a + 1) ((b * 48271 + 11) % 2147483647) c) := by
    generalize (b * 48271 + 11) % 2147483647 = b'
    show lft (dMod (.int (b' / 7)) (.int m)) (row ns (a + 1) b' c) = _
    rw [dMod_ok hm]
    rfl
  unfold ifC bnd
  rw [h1]
  dsimp only
  rw [if_neg (by decide), h2]
  dsimp only
  rw [h3]
  dsimp only
  rw [if_pos rfl, h4]
  exact h5
theorem dPow_18 : dPow (.int 10) (.int 18) = some (.int (10 ^ 18)) := by
  show (if decide (0 ≤ (18 : Int) ∧ (18 : Int) ≤ 1000000 ∧ (10 : Int).natAbs < 2 ^ 64) = true then some (D.int ((10 : Int) ^ (18 : Int).toNat)) else none) = _
  rw [if_pos (by decide)]
  rfl
theorem dPow_90 : dPow (.int 10) (.int 90) = some (.int (10 ^ 90)) := by
  show (if decide (0 ≤ (90 : Int) ∧ (90 : Int) ≤ 1000000 ∧ (10 : Int).natAbs < 2 ^ 64) = true then some (D.int ((10 : Int) ^ (90 : Int).toNat)) else none) = _
  rw [if_pos (by decide)]
  rfl
theorem taken_cell {ns : List Int} {a : Nat} {b c m x : Int} (hc : ¬ 0 < c) (ha : ns[a]? = some x) (hm : 0 < m ∧ m < 1073741824) :
    Fp.g__law_taken (.int m) (row ns a b c) = .ok (.int (x % m)) (row ns (a + 1) ((b * 48271 + x + 11) % 2147483647) (if 10 ^ 18 ≤ x then x % 10 ^ 90 / m else c)) := by
  have hlt : a < ns.length := (List.getElem?_eq_some_iff.mp ha).1
  unfold Fp.g__law_taken
  have h1 : tsb (cmp dGt (ixS (Fe.ret (.int 3))) (Fe.ret (.int 0))) (row ns a b c) = .ok false (row ns a b c) := by
    show Rs.ok (decide (0 < c)) (row ns a b c) = _
    rw [decide_eq_false hc]
  have h2 : setS (Fe.ret (.int 1)) (op2 dAdd (ixS (Fe.ret (.int 1))) (Fe.ret (.int 1))) (row ns a b c) = .ok () (row ns (a + 1) b c) := rfl
  have h3 : tsb (cmp dGt (ixS (Fe.ret (.int 1))) (op1 dLen (ixS (Fe.ret (.int 0))))) (row ns (a + 1) b c) = .ok false (row ns (a + 1) b c) := by
    show Rs.ok (decide (((ns.map D.int).length : Int) < (a : Int) + 1)) (row ns (a + 1) b c) = _
    rw [List.length_map, decide_eq_false (by omega)]
  have h4 : op2 dIxA (ixS (Fe.ret (.int 0))) (op2 dSub (ixS (Fe.ret (.int 1))) (Fe.ret (.int 1))) (row ns (a + 1) b c) = .ok (.int x) (row ns (a + 1) b c) := by
    show lft (dIxA (eL ns) (.int ((a : Int) + 1 - 1))) (row ns (a + 1) b c) = _
    have e : (a : Int) + 1 - 1 = ((a : Nat) : Int) := by omega
    rw [e]
    unfold eL
    rw [dIx_lst (by rw [List.getElem?_map, ha]; rfl)]
    rfl
  have h5 : setS (Fe.ret (.int 2)) (op2 dMod (op1 dInt (op2 dAdd (op2 dAdd (op2 dMul (ixS (Fe.ret (.int 2))) (Fe.ret (.int 48271))) (op1 dInt (Fe.ret (.int x)))) (Fe.ret (.int 11)))) (Fe.ret (.int 2147483647))) (row ns (a + 1) b c) = .ok () (row ns (a + 1) ((b * 48271 + x + 11) % 2147483647) c) := by
    have e1 : op2 dMul (ixS (Fe.ret (.int 2))) (Fe.ret (.int 48271)) (row ns (a + 1) b c) = .ok (.int (b * 48271)) (row ns (a + 1) b c) := by
      show lft (dMul (.int b) (.int 48271)) (row ns (a + 1) b c) = _
      rw [dMul_48271]
      rfl
    have e2 : op2 dMod (op1 dInt (op2 dAdd (op2 dAdd (op2 dMul (ixS (Fe.ret (.int 2))) (Fe.ret (.int 48271))) (op1 dInt (Fe.ret (.int x)))) (Fe.ret (.int 11)))) (Fe.ret (.int 2147483647)) (row ns (a + 1) b c) = .ok (.int ((b * 48271 + x + 11) % 2147483647)) (row ns (a + 1) b c) := by
      unfold op2 at e1 ⊢
      unfold op1
      unfold bnd at e1 ⊢
      dsimp only at e1 ⊢
      rw [e1]
      show lft (dMod (.int (b * 48271 + x + 11)) (.int 2147483647)) (row ns (a + 1) b c) = _
      rw [dMod_ok (by omega)]
      rfl
    unfold setS bnd
    rw [e2]
    rfl
  generalize (b * 48271 + x + 11) % 2147483647 = b' at h5 ⊢
  have h6 : ifC (tsb (cmp dGe (Fe.ret (.int x)) (op2 dPow (Fe.ret (.int 10)) (Fe.ret (.int 18))))) (bnd (setS (Fe.ret (.int 3)) (op2 dDiv (op1 dInt (op2 dMod (op1 dInt (Fe.ret (.int x))) (op2 dPow (Fe.ret (.int 10)) (Fe.ret (.int 90))))) (Fe.ret (.int m)))) fun _ => (Fe.ret ())) (Fe.ret ()) (row ns (a + 1) b' c) = .ok () (row ns (a + 1) b' (if 10 ^ 18 ≤ x then x % 10 ^ 90 / m else c)) := by
    rw [op2_ret, dPow_18, lft_some, op2_ret, dPow_90, lft_some]
    have e1 : (tsb (cmp dGe (Fe.ret (.int x)) (Fe.ret (.int (10 ^ 18)))) : Ms D Bool) = Fe.ret (decide ((10 : Int) ^ 18 ≤ x)) := rfl
    rw [e1, ifC_ret]
    by_cases h : (10 : Int) ^ 18 ≤ x
    · rw [decide_eq_true h, if_pos rfl, if_pos h]
      have e2 : (op1 dInt (op2 dMod (op1 dInt (Fe.ret (.int x))) (Fe.ret (.int (10 ^ 90)))) : Ms D D) = Fe.ret (.int (x % 10 ^ 90)) := by
        have e3 : (op1 dInt (Fe.ret (.int x)) : Ms D D) = Fe.ret (.int x) := rfl
        rw [e3, op2_ret, dMod_ok (by decide), lft_some]
        rfl
      rw [e2, op2_ret, dDiv_ok hm, lft_some]
      rfl
    · rw [decide_eq_false h, if_neg (by decide), if_neg h]
      rfl
  have h7 : op2 dMod (op1 dInt (Fe.ret (.int x))) (Fe.ret (.int m)) = (Fe.ret (.int (x % m)) : Ms D D) := by
    have e3 : (op1 dInt (Fe.ret (.int x)) : Ms D D) = Fe.ret (.int x) := rfl
    rw [e3, op2_ret, dMod_ok hm.1, lft_some]
  have h8 : ∀ r, (bnd (ifC (tsb (cmp dGe (Fe.ret (.int x)) (op2 dPow (Fe.ret (.int 10)) (Fe.ret (.int 18))))) (bnd (setS (Fe.ret (.int 3)) (op2 dDiv (op1 dInt (op2 dMod (op1 dInt (Fe.ret (.int x))) (op2 dPow (Fe.ret (.int 10)) (Fe.ret (.int 90))))) (Fe.ret (.int m)))) fun _ => (Fe.ret ())) (Fe.ret ())) fun (t1 : Unit) => op2 dMod (op1 dInt (Fe.ret (.int x))) (Fe.ret (.int m))) (row ns (a + 1) b' c) = r → r = .ok (.int (x % m)) (row ns (a + 1) b' (if 10 ^ 18 ≤ x then x % 10 ^ 90 / m else c)) := by
    rintro r rfl
    unfold bnd at h6 ⊢
    rw [h6, h7]
    rfl
  unfold ifC bnd
  rw [h1]
  dsimp only
  rw [if_neg (by decide), h2]
  dsimp only
  rw [h3]
  dsimp only
  rw [if_neg (by decide), h4]
  dsimp only
  rw [h5]
  exact h8 _ rfl
end Ty
end
section
set_option Elab.async false
set_option linter.all false
set_option maxRecDepth 100000
set_option maxHeartbeats 1000000
namespace Ty
open PySem (Str)
open Fe
/-- a row of draws over a script -/
def IsRow (ns : List Int) (r : D) : Prop := ∃ (a : Nat) (b c : Int), 0 ≤ c ∧ r = row ns a b c
/-- a value that is reckoned from any row, and a row is left -/
def Gets {α : Type} (ns : List Int) (m : Ms D α) (P : α → Prop) : Prop := ∀ r, IsRow ns r → ∃ x r', m r = .ok x r' ∧ IsRow ns r' ∧ P x
theorem Gets.ret {α : Type} {ns : List Int} {x : α} {P : α → Prop} (h : P x) : Gets ns (Fe.ret x) P := fun r hr => ⟨x, r, rfl, hr, h⟩
theorem Gets.bnd {α β : Type} {ns : List Int} {m : Ms D α} {k : α → Ms D β} {P : α → Prop} {Q : β → Prop} (h : Gets ns m P) (h2 : ∀ x, P x → Gets ns (k x) Q) : Gets ns (Fe.bnd m k) Q := fun r hr => by
  obtain ⟨x, r1, e1, hr1, px⟩ := h r hr
  obtain ⟨y, r2, e2, hr2, qy⟩ := h2 x px r1 hr1
  refine ⟨y, r2, ?_, hr2, qy⟩
  unfold Fe.bnd
  rw [e1]
  exact e2
theorem Gets.mono {α : Type} {ns : List Int} {m : Ms D α} {P Q : α → Prop} (h : Gets ns m P) (k : ∀ x, P x → Q x) : Gets ns m Q := fun r hr => by
  obtain ⟨x, r', e, hr', p⟩ := h r hr
  exact ⟨x, r', e, hr', k x p⟩
theorem g_taken {ns : List Int} {m : Int} (hm : 0 < m ∧ m < 1073741824) : Gets ns (Fp.g__law_taken (.int m)) fun x => ∃ k : Int, x = .int k ∧ 0 ≤ k ∧ k < m := fun r ⟨a, b, c, hc, e⟩ => by
  subst e
  by_cases h : 0 < c
  · exact ⟨_, _, taken_great h hm, ⟨a, b, c / m, Int.ediv_nonneg hc (by omega), rfl⟩, _, rfl, Int.emod_nonneg _ (by omega), Int.emod_lt_of_pos _ hm.1⟩
  · by_cases h2 : (ns.length : Int) < (a : Int) + 1
    · exact ⟨_, _, taken_end h h2 hm.1, ⟨a + 1, _, c, hc, rfl⟩, _, rfl, Int.emod_nonneg _ (by omega), Int.emod_lt_of_pos _ hm.1⟩
    · have hlt : a < ns.length := by omega
      refine ⟨_, _, taken_cell h (List.getElem?_eq_getElem hlt) hm, ⟨a + 1, _, _, ?_, rfl⟩, _, rfl, Int.emod_nonneg _ (by omega), Int.emod_lt_of_pos _ hm.1⟩
      split
      · exact Int.ediv_nonneg (Int.emod_nonneg _ (by decide)) (by omega)
      · exact hc
/-- a draw, as a call -/
theorem c_taken {ns : List Int} {m : Int} (hm : 0 < m ∧ m < 1073741824) : Gets ns (cloS Fp.f__law_taken (Fe.ret [.int m])) fun x => ∃ k : Int, x = .int k ∧ 0 ≤ k ∧ k < m := fun r hr => by
  obtain ⟨x, r', e, hr', p⟩ := g_taken hm r hr
  have l := Fp.lk__law_taken (.int m) r
  rw [e] at l
  refine ⟨x, r', ?_, hr', p⟩
  have l' : Fp.f__law_taken (.o r) [.int m] = .ok x (.o r') := l
  unfold cloS
  show (match Fp.f__law_taken (.o r) [.int m] with
    | .ok d (.o s') => Rs.ok d s'
    | _ => .no) = _
  rw [l']
end Ty
end
section
set_option Elab.async false
set_option linter.all false
set_option maxRecDepth 100000
set_option maxHeartbeats 1000000
namespace Ty
open PySem (Str)
open Fe
variable {ns : List Int} {α β : Type}
theorem Gets.op1 {a : Ms D D} {g : D → Option D} {P Q : D → Prop} (h : Gets ns a P) (hg : ∀ x, P x → ∃ z, g x = some z ∧ Q z) : Gets ns (op1 g a) Q := h.bnd fun x px => by
  obtain ⟨z, e, q⟩ := hg x px
  rw [e]
  exact .ret q
theorem Gets.op2 {a b : Ms D D} {g : D → D → Option D} {P Q S : D → Prop} (h : Gets ns a P) (h2 : Gets ns b Q) (hg : ∀ x y, P x → Q y → ∃ z, g x y = some z ∧ S z) : Gets ns (op2 g a b) S := h.bnd fun x px => h2.bnd fun y qy => by
  obtain ⟨z, e, q⟩ := hg x y px qy
  rw [e]
  exact .ret q
theorem Gets.tsb {a : Ms D D} {P : D → Prop} (h : Gets ns a P) (hb : ∀ x, P x → ∃ b, x = .bl b) : Gets ns (tsb a) fun _ => True := h.bnd fun x px => by
  obtain ⟨b, rfl⟩ := hb x px
  exact .ret trivial
theorem Gets.cmp {a b : Ms D D} {g : D → D → Option Bool} {P Q : D → Prop} (h : Gets ns a P) (h2 : Gets ns b Q) (hg : ∀ x y, P x → Q y → ∃ z, g x y = some z) : Gets ns (Fe.cmp g a b) fun x => ∃ b, x = .bl b := Gets.op2 h h2 fun x y px qy => by
  obtain ⟨z, e⟩ := hg x y px qy
  exact ⟨.bl z, by unfold mbl; rw [e]; rfl, z, rfl⟩
theorem Gets.ifC {t : Ms D Bool} {a b : Ms D α} {T : Bool → Prop} {P : α → Prop} (h : Gets ns t T) (h1 : T true → Gets ns a P) (h2 : T false → Gets ns b P) : Gets ns (Fe.ifC t a b) P := h.bnd fun k tk => by
  cases k with
  | true => exact h1 tk
  | false => exact h2 tk
theorem Gets.nil : Gets ns nilA (fun l => l = []) := .ret rfl
theorem Gets.cons {a : Ms D D} {r : Ms D (List D)} {P : D → Prop} {Q : List D → Prop} (h : Gets ns a P) (h2 : Gets ns r Q) : Gets ns (consA a r) fun l => ∃ x m, l = x :: m ∧ P x ∧ Q m := h.bnd fun x px => h2.bnd fun m qm => .ret ⟨x, m, rfl, px, qm⟩
theorem Gets.cmpP {f : D → Ms D (List D)} {Q : List D → List D → Prop} : ∀ {l : List D}, Q [] [] → (∀ x ∈ l, Gets ns (f x) fun ys => ∀ l m, Q l m → Q (x :: l) (ys ++ m)) → Gets ns (cmpP f l) (Q l)
  | [], h0, _ => .ret h0
  | x :: l, h0, h => (h x (.head _)).bnd fun ys hy => (Gets.cmpP (l := l) h0 fun y hm => h y (.tail _ hm)).bnd fun m hm => .ret (hy l m hm)
theorem Gets.nox {m : Ms D α} {P : α → Prop} (h : Gets ns m P) : Gets ns (nox m) P := fun r hr => by
  obtain ⟨x, r', e, hr', p⟩ := h r hr
  refine ⟨x, r', ?_, hr', p⟩
  unfold Fe.nox
  rw [e]
theorem Gets.lc {it : Ms D (List D)} {f : D → Ms D (List D)} {P : List D → Prop} {Q : List D → Prop} (h : Gets ns it P) (h2 : ∀ l, P l → Gets ns (Fe.cmpP f l) Q) (hl : ∀ l, Q l → l.length ≤ 100000) : Gets ns (lcP it f) fun x => ∃ l, x = .lst l ∧ Q l := h.bnd fun l pl => (Gets.nox (h2 l pl)).bnd fun m qm => by
  have := hl m qm
  rw [if_pos (le_lim this)]
  exact .ret ⟨m, rfl, qm⟩
theorem Gets.forN {τ : Type} {f : D → τ → Ms D τ} {I : τ → Prop} : ∀ {l : List D} {t : τ}, I t → (∀ x ∈ l, ∀ t, I t → Gets ns (f x t) I) → Gets ns (forN f l t) I
  | [], t, h, _ => .ret h
  | x :: l, t, h, hf => (hf x (.head _) t h).bnd fun t' h' => Gets.forN h' fun y hy => hf y (.tail _ hy)
/-- a call of an io def -/
theorem Gets.call {f : C → List D → FO} {l : List D} {g : Ms D D} {P : D → Prop} (h : Gets ns g P) (hl : ∀ s, LeO (g s) (f (.o s) l)) : Gets ns (cloS f (Fe.ret l)) P := fun r hr => by
  obtain ⟨x, r', e, hr', p⟩ := h r hr
  have q := hl r
  rw [e] at q
  refine ⟨x, r', ?_, hr', p⟩
  have q' : f (.o r) l = .ok x (.o r') := q
  unfold cloS
  show (match f (.o r) l with
    | .ok d (.o s') => Rs.ok d s'
    | _ => .no) = _
  rw [q']
/-- what stands in a pure part -/
theorem Gets.eq {m : Ms D α} {x : α} {P : α → Prop} (e : m = Fe.ret x) (p : P x) : Gets ns m P := by
  rw [e]
  exact .ret p
/-- an int below its bound -/
def Bl (a b : Int) (x : D) : Prop := ∃ k : Int, x = .int k ∧ a ≤ k ∧ k < b
theorem draw {m : Int} (hm : 0 < m ∧ m < 1073741824) : Gets ns (cloS Fp.f__law_taken (Fe.ret [.int m])) (Bl 0 m) := c_taken hm
theorem draw' {m : Int} {a : Ms D D} (ha : a = Fe.ret (.int m)) (hm : 0 < m ∧ m < 1073741824) : Gets ns (cloS Fp.f__law_taken (consA a nilA)) (Bl 0 m) := by
  rw [ha]
  exact c_taken hm
/-- a pick -/
theorem c_pick {l : List D} (h : l ≠ []) (hl : l.length < 1000000) {d : D} (hd : dLen d = some (.int l.length)) (hx : ∀ k : Int, dIxB d (.int k) = dIxA (.tup l) (.int k)) : Gets ns (cloS Fp.f__law_pick (Fe.ret [d])) (fun x => x ∈ l) :=
  Gets.call (g := Fp.g__law_pick d) (by
    have h0 : 0 < l.length := List.length_pos_iff.mpr h
    unfold Fp.g__law_pick
    refine Gets.op2 (P := fun x => x = d) (.ret rfl) (draw' (m := l.length) ?_ (by omega)) fun x y e ⟨k, ek, h1, h2⟩ => ?_
    · rw [op1_ret, hd, lft_some]
    · subst e ek
      have hk : k.toNat < l.length := by omega
      refine ⟨l[k.toNat], ?_, List.getElem_mem hk⟩
      rw [hx]
      have e : (k : Int) = ((k.toNat : Nat) : Int) := by omega
      exact (congrArg (fun z => dIxA (.tup l) (.int z)) e).trans (dIx_tup (List.getElem?_eq_getElem hk))) fun s => Fp.lk__law_pick d s
theorem c_pickL {l : List D} (h : l ≠ []) (hl : l.length < 1000000) : Gets ns (cloS Fp.f__law_pick (Fe.ret [.lst l])) (fun x => x ∈ l) := c_pick h hl rfl fun _ => rfl
end Ty
end
section
set_option Elab.async false
set_option linter.all false
set_option maxRecDepth 100000
set_option maxHeartbeats 1000000
namespace Ty
open PySem (Str)
open Fe
variable {ns : List Int} {α β : Type}
/-- a comprehension with a drawn condition gives a part of the whole -/
theorem Gets.part {γ δ : Type} {ea : γ → D} {eb : δ → D} {f : D → Ms D (List D)} {g : γ → List δ} {K : δ → Prop} {l : List γ}
    (h : ∀ x ∈ l, Gets ns (f (ea x)) fun ys => ∃ m : List δ, ys = m.map eb ∧ m.Sublist (g x) ∧ ∀ y ∈ g x, K y → y ∈ m) :
    Gets ns (Fe.cmpP f (l.map ea)) fun ys => ∃ m : List δ, ys = m.map eb ∧ m.Sublist (l.flatMap g) ∧ ∀ y ∈ l.flatMap g, K y → y ∈ m := by
  induction l with
  | nil => exact Gets.ret ⟨[], rfl, .slnil, fun y hy => nomatch hy⟩
  | cons x l ih =>
    refine (h x (.head _)).bnd fun ys ⟨m, e, s, k⟩ => (ih fun y hy => h y (.tail _ hy)).bnd fun zs ⟨m2, e', s2, k2⟩ => .ret ⟨m ++ m2, by rw [e, e', List.map_append], ?_, fun y hy ky => ?_⟩
    · rw [List.flatMap_cons]
      exact s.append s2
    · rw [List.flatMap_cons] at hy
      rcases List.mem_append.mp hy with hy | hy
      · exact List.mem_append_left _ (k y hy ky)
      · exact List.mem_append_right _ (k2 y hy ky)
theorem Gets.item {δ : Type} {eb : δ → D} {t : Ms D Bool} {e : Ms D D} {y : δ} {K : δ → Prop} {T : Bool → Prop} (ht : Gets ns t T) (hk : K y → T true ∧ ¬ T false) (he : e = Fe.ret (eb y)) : Gets ns (itP t e) fun ys => ∃ m : List δ, ys = m.map eb ∧ m.Sublist [y] ∧ ∀ z ∈ [y], K z → z ∈ m := ht.bnd fun k tk => by
  subst he
  cases k with
  | true => exact Gets.ret ⟨[y], rfl, List.Sublist.refl _, fun z hz _ => hz⟩
  | false => exact Gets.ret ⟨[], rfl, List.nil_sublist _, fun z hz kz => absurd tk (hk (List.mem_singleton.mp hz ▸ kz)).2⟩
def allPairs (n : Nat) : List (Int × Int) := (upto n).flatMap fun a => ((List.range (n - (a.toNat + 1))).map fun (k : Nat) => ((a, a + 1 + k) : Int × Int))
end Ty
end
section
set_option Elab.async false
set_option linter.all false
set_option maxRecDepth 100000
set_option maxHeartbeats 1000000
namespace Ty
open PySem (Str)
open Fe
variable {ns : List Int} {α β : Type}
/-- what is known of a drawn world -/
structure Drw (t p b : Nat) (w : Wd) : Prop where
  is : IsW w
  th : w.things ≤ t
  pl : w.places ≤ p
  bo : w.boats.length ≤ b
  c3 : w.clashes.length ≤ 3
  ro : w.rowers.Sublist (upto w.things)
  we : ∀ x ∈ w.weights, 1 ≤ x ∧ x ≤ 3
  bs : ∀ c ∈ w.boats, (1 ≤ c.1 ∧ c.1 ≤ 3) ∧ (1 ≤ c.2 ∧ c.2 ≤ 8)
  lk : ∀ c ∈ allPairs w.places, c.2 = c.1 + 1 → c ∈ w.links
  ls : w.links.Sublist (allPairs w.places)
/-- one value for each of some -/
theorem Gets.each {γ δ : Type} {ea : γ → D} {eb : δ → D} {f : D → Ms D D} {P : δ → Prop} : ∀ {l : List γ}, (∀ x ∈ l, Gets ns (f (ea x)) fun y => ∃ z, y = eb z ∧ P z) → Gets ns (Fe.cmpP (fun v => it1 (f v)) (l.map ea)) fun ys => ∃ m : List δ, ys = m.map eb ∧ m.length = l.length ∧ ∀ z ∈ m, P z
  | [], _ => Gets.ret ⟨[], rfl, rfl, fun z hz => nomatch hz⟩
  | x :: l, h => by
    have h1 : Gets ns (it1 (f (ea x))) fun ys => ∃ z, ys = [eb z] ∧ P z := (h x (.head _)).bnd fun y ⟨z, e, p⟩ => .ret ⟨z, by rw [e], p⟩
    refine h1.bnd fun ys ⟨z, e, p⟩ => (Gets.each (l := l) fun y hy => h y (.tail _ hy)).bnd fun zs ⟨m, e', ln, q⟩ => .ret ⟨z :: m, by rw [e, e']; rfl, by rw [List.length_cons, List.length_cons, ln], fun y hy => ?_⟩
    rcases List.mem_cons.mp hy with rfl | hy
    · exact p
    · exact q y hy
end Ty
end
section
set_option Elab.async false
set_option linter.all false
set_option maxRecDepth 100000
set_option maxHeartbeats 1000000
namespace Ty
open PySem (Str)
open Fe
variable {ns : List Int} {α β : Type}
theorem rg1_uptoN {σ : Type} {n : Nat} (h : n ≤ 1000) : (rg1 (Fe.ret (.int n)) : Ms σ (List D)) = Fe.ret ((upto n).map .int) := by rw [rg1_upto (by omega) (by omega), Int.toNat_natCast]
end Ty
end
section
set_option Elab.async false
set_option linter.all false
set_option maxRecDepth 100000
set_option maxHeartbeats 1000000
namespace Ty
open PySem (Str)
open Fe
variable {ns : List Int} {α β : Type}
theorem un2_tup {σ α : Type} {a b : D} {k : D → D → Ms σ α} : un2 (.tup [a, b]) k = k a b := rfl
theorem un3_tup {σ α : Type} {a b c : D} {k : D → D → D → Ms σ α} : un3 (.tup [a, b, c]) k = k a b c := rfl
theorem Gets.rg1 {a : Ms D D} {P : Nat → Prop} (h : Gets ns a fun x => ∃ k : Nat, x = .int k ∧ P k) (hb : ∀ k, P k → k ≤ 1000) : Gets ns (rg1 a) fun l => ∃ k : Nat, l = (upto k).map .int ∧ P k := h.bnd fun x ⟨k, e, p⟩ => by
  subst e
  have e1 := rg1_uptoN (σ := D) (n := k) (hb k p)
  unfold Fe.rg1 at e1
  rw [bnd_ret] at e1
  exact Gets.eq e1 ⟨k, rfl, p⟩
end Ty
end
section
set_option Elab.async false
set_option linter.all false
set_option maxRecDepth 100000
set_option maxHeartbeats 1000000
namespace Ty
open PySem (Str)
open Fe
/-- near to a world -/
structure Nw where
  th : Int
  pl : Int
  ro : List Int
  we : List Int
  cl : List (Int × Int × Int)
  li : List (Int × Int)
  bo : List (Int × Int)
def eN (w : Nw) : D := .tup [.int w.th, .int w.pl, eT w.ro, eT w.we, .tup (w.cl.map e3), .tup (w.li.map e2), .tup (w.bo.map e2)]
end Ty
end
section
set_option Elab.async false
set_option linter.all false
set_option maxRecDepth 100000
set_option maxHeartbeats 1000000
namespace Ty
open PySem (Str)
open Fe
variable {w : Wd}
theorem rep_int (n : Nat) (i : Int) : D.tup (List.replicate n (.int i)) = eT (List.replicate n i) := by unfold eT; rw [List.map_replicate]
def nw (w : Wd) : Nw := ⟨w.things, w.places, w.rowers, w.weights, w.clashes, w.links, w.boats⟩
end Ty
end
section
set_option Elab.async false
set_option linter.all false
set_option maxRecDepth 100000
set_option maxHeartbeats 1000000
namespace Ty
open PySem (Str)
open Fe
variable {w : Wd} {s : Sta}
end Ty
end
section
set_option Elab.async false
set_option linter.all false
set_option maxRecDepth 100000
set_option maxHeartbeats 1000000
namespace Ty
open PySem (Str)
open Fe
variable {w : Wd} {s : Sta}
end Ty
end
section
set_option Elab.async false
set_option linter.all false
set_option maxRecDepth 100000
set_option maxHeartbeats 1000000
namespace Ty
open PySem (Str)
open Fe
variable {w : Wd} {s : Sta}
end Ty
end
section
set_option Elab.async false
set_option linter.all false
set_option maxRecDepth 100000
set_option maxHeartbeats 1000000
namespace Ty
open PySem (Str)
open Fe
variable {w : Wd} {s : Sta}
end Ty
end
section
set_option Elab.async false
set_option linter.all false
set_option maxRecDepth 100000
set_option maxHeartbeats 1000000
namespace Ty
open PySem (Str)
open Fe
variable {w : Wd} {s : Sta}
theorem fewL_le {l : List D} (h : l.length ≤ 100000) : fewL l = some (.lst l) := by unfold fewL; rw [if_pos (le_lim h)]
end Ty
end
section
set_option Elab.async false
set_option linter.all false
set_option maxRecDepth 100000
set_option maxHeartbeats 1000000
namespace Ty
open PySem (Str)
open Fe
variable {w : Wd} {s : Sta}
end Ty
end
section
set_option Elab.async false
set_option linter.all false
set_option maxRecDepth 100000
set_option maxHeartbeats 1000000
namespace Ty
open PySem (Str)
open Fe
variable {w : Wd} {s : Sta}
end Ty
end
section
set_option Elab.async false
set_option linter.all false
set_option maxRecDepth 100000
set_option maxHeartbeats 1000000
namespace Ty
open PySem (Str)
open Fe
variable {w : Wd} {s : Sta}
end Ty
end
section
set_option Elab.async false
set_option linter.all false
set_option maxRecDepth 100000
set_option maxHeartbeats 1000000
namespace Ty
open PySem (Str)
open Fe
variable {w : Wd} {s : Sta}
end Ty
end
section
set_option Elab.async false
set_option linter.all false
set_option maxRecDepth 100000
set_option maxHeartbeats 1000000
namespace Ty
open PySem (Str)
open Fe
variable {w : Wd} {s : Sta} {ns : List Int}
theorem Gets.pure {α β : Type} {m : Ms D α} {x : α} {k : α → Ms D β} {P : β → Prop} (e : m = Fe.ret x) (h : Gets ns (k x) P) : Gets ns (Fe.bnd m k) P := by
  rw [e]
  exact h
theorem Gets.skip {α : Type} {t : Ms D Bool} {a b : Ms D α} {P : α → Prop} (e : t = Fe.ret false) (h : Gets ns b P) : Gets ns (Fe.ifC t a b) P := by
  rw [e]
  exact h
theorem Gets.take {α : Type} {t : Ms D Bool} {a b : Ms D α} {P : α → Prop} (e : t = Fe.ret true) (h : Gets ns a P) : Gets ns (Fe.ifC t a b) P := by
  rw [e]
  exact h
theorem Gets.forX {τ : Type} {f : D → τ → Ms D (Lp τ)} {I : τ → Prop} : ∀ {l : List D} {t : τ}, I t → (∀ x ∈ l, ∀ t, I t → Gets ns (f x t) fun r => ∃ t', r = .nx t' ∧ I t') → Gets ns (Fe.forX f l t) fun r => ∃ t', r = .nx t' ∧ I t'
  | [], t, h, _ => .ret ⟨t, rfl, h⟩
  | x :: l, t, h, hf => (hf x (.head _) t h).bnd fun r ⟨t', e, h'⟩ => by
    subst e
    exact Gets.forX h' fun y hy => hf y (.tail _ hy)
theorem clk_ok {σ : Type} {f : List D → F} {n k : Nat} {a b : Ms σ (List D)} {l m : List D} {d : D} (ha : a = Fe.ret l) (hb : b = Fe.ret m) (h : f (l ++ m) = .ok d) (hn : l.length = n) (hk : m.length = k) : clk f n k a b = Fe.ret d := by
  subst ha hb
  show (bnd (if l.length = n ∧ m.length = k then Fe.ret (l ++ m) else fun _ => .no) fun l => match f l with
    | .ok d => Fe.ret d
    | _ => fun _ => .no) = _
  rw [if_pos ⟨hn, hk⟩, bnd_ret, h]
end Ty
end
section
set_option Elab.async false
set_option linter.all false
set_option maxRecDepth 100000
set_option maxHeartbeats 2000000
namespace Ty
open PySem (Str)
open Fe
variable {w : Wd} {s : Sta} {ns : List Int}
end Ty
end
section
set_option Elab.async false
set_option linter.all false
set_option maxRecDepth 100000
set_option maxHeartbeats 2000000
namespace Ty
open PySem (Str)
open Fe
variable {w : Wd} {s : Sta} {ns : List Int}
end Ty
end
section
set_option Elab.async false
set_option linter.all false
set_option maxRecDepth 100000
set_option maxHeartbeats 4000000
namespace Ty
open PySem (Str)
open Fe
variable {ns : List Int}
theorem Gets.tst {m : Ms D D} {P : D → Prop} {T : Bool → Prop} (h : Gets ns m P) (hb : ∀ x, P x → ∃ b, truth x = some b ∧ T b) : Gets ns (Fe.tst m) T := h.bnd fun x p => by
  obtain ⟨b, e, t⟩ := hb x p
  rw [e]
  exact .ret t
theorem Gets.notT {m : Ms D Bool} {T : Bool → Prop} (h : Gets ns m T) : Gets ns (Fe.notT m) fun b => T (!b) := h.bnd fun k t => .ret (by rw [Bool.not_not]; exact t)
end Ty
end
section
set_option Elab.async false
set_option linter.all false
set_option maxRecDepth 100000
set_option maxHeartbeats 2000000
namespace Ty
open PySem (Str)
open Fe
variable {ns : List Int}
abbrev ch (c : Nat) : D := .str ⟨#[c]⟩
abbrev tx (l : List Nat) : D := .str ⟨l.toArray⟩
theorem in_ch (c : Nat) (y : Str) : dInT (ch c) (.str y) = some (decide (c ∈ y.cps.toList)) := by
  unfold dInT
  exact congrArg some (PySem.StrLaws.found_one y c)
theorem nin_ch (c : Nat) (y : Str) : dNotInT (ch c) (.str y) = some (!decide (c ∈ y.cps.toList)) := by
  unfold dNotInT
  rw [in_ch]; rfl
theorem digits_l : ("0123" : Str).cps.toList = [48, 49, 50, 51] := by rfl
abbrev eA : Nat × Nat → D := fun p => .tup [.int p.2, ch p.1]
theorem lay_ch {c : Nat} (h : c < 1114112) : lay (ch c) = true := by
  show (#[c].all (· < 0x110000)) = true
  simp [h]
abbrev mk (l : List Nat) : Str := ⟨l.toArray⟩
theorem mk_app (a b : List Nat) : (mk a ++ mk b : Str) = mk (a ++ b) := by
  show (⟨a.toArray ++ b.toArray⟩ : Str) = _
  rw [List.append_toArray]
theorem add_tx {σ : Type} (a b : List Nat) (h : a.length + b.length ≤ 100000) : (op2 dAdd (Fe.ret (tx a)) (Fe.ret (tx b)) : Ms σ D) = Fe.ret (tx (a ++ b)) := by
  have e : dAdd (tx a) (tx b) = some (tx (a ++ b)) := by
    show (if (mk a).length + (mk b).length ≤ lim then some (D.str (mk a ++ mk b)) else none) = _
    rw [show (mk a).length = a.length from List.size_toArray .., show (mk b).length = b.length from List.size_toArray .., if_pos (le_lim h), mk_app]
  rw [op2_ret, e, lft_some]
theorem lay_tx {l : List Nat} (h : ∀ c ∈ l, c < 1114112) : lay (tx l) = true := by
  show (l.toArray.all (· < 0x110000)) = true
  rw [List.all_toArray]
  exact List.all_eq_true.mpr fun c hc => decide_eq_true (h c hc)
theorem f_alike_tx (k : Nat) {l : List Nat} (h : ∀ c ∈ l, c < 1114112) : Fp.f__law_alike (k + 1) [tx l, tx l] = .ok (.bl true) := LeF.ok (s := ()) (Fp.lk__law_alike (Fp.f__law_alike k) (tx l) (tx l)) (by
  have e : (cmp dEq (Fe.ret (tx l)) (Fe.ret (tx l)) : Ms Unit D) = Fe.ret (.bl true) := by
    have : dEq (tx l) (tx l) = some true := by
      unfold dEq
      rw [if_pos ⟨Nat.zero_le _, Nat.zero_le _, lay_tx h, lay_tx h⟩]
      show some (decide _) = _
      simp
    rw [cmp_ret, this]; rfl
  unfold Fp.g__law_alike
  rw [e]
  rfl)
theorem alike_tx {σ : Type} {a b : Ms σ D} {l : List Nat} (ha : a = Fe.ret (tx l)) (hb : b = Fe.ret (tx l)) (hp : ∀ c ∈ l, c < 1114112) : (notT (tst (cl (Fp.f__law_alike 6) (consA a (consA b nilA)))) : Ms σ Bool) = Fe.ret false := by
  subst ha hb
  rw [nil_ret, cons_ret, cons_ret, cl_ok (f_alike_tx 5 hp)]
  rfl
/-- a sign of a text is picked -/
theorem c_pickS {l : List Nat} (h : l ≠ []) (hl : l.length < 10000) : Gets ns (cloS Fp.f__law_pick (Fe.ret [tx l])) (fun x => ∃ c ∈ l, x = ch c) := by
  have e : (⟨l.toArray⟩ : Str).length = l.length := List.size_toArray ..
  have hlim : l.length ≤ lim := by have : lim = 16777216 := rfl; omega
  refine (c_pick (l := l.map ch) (by simpa using h) (by rw [List.length_map]; omega) (d := tx l) ?_ ?_).mono fun x hx => ?_
  · rw [List.length_map]
    show (if (⟨l.toArray⟩ : Str).length ≤ lim then some (D.int (⟨l.toArray⟩ : Str).length) else none) = _
    rw [e, if_pos hlim]
  · intro k
    show (if (⟨l.toArray⟩ : Str).length ≤ lim then (ixN l.toArray.toList.length k).bind fun j => (l.toArray.toList[j]?).map fun c => D.str ⟨#[c]⟩ else none) = (ixN (l.map ch).length k).bind fun j => (l.map ch)[j]?
    rw [e, if_pos hlim, List.length_map]
    congr 1
    funext j
    rw [List.getElem?_map]
  · obtain ⟨c, hc, rfl⟩ := List.mem_map.mp hx
    exact ⟨c, hc, rfl⟩
end Ty
end
section
set_option Elab.async false
set_option linter.all false
set_option maxRecDepth 100000
set_option maxHeartbeats 2000000
namespace Ty
open PySem (Str)
open Fe
abbrev flw (p : Int) (m : Str) : Ex := ⟨"Flaw", [("message", .str m), ("place", .int p)]⟩
abbrev eG : Nat × Nat → D := fun p => .tup [ch p.1, .int p.2]
abbrev Sg := List (Nat × Nat)
/-- a wish -/
inductive Wt where
  | at (n p : Nat) | same (n m : Nat) | neg (t : Wt) | bin (b : Bool) (s t : Wt)
def wiD (f : Str) (nm : D) (inner : List D) : D := .obj "Wish" ["form", "names", "inner"] [.str f, nm, .lst inner]
def eWi : Wt → D
  | .at n p => wiD "@" (tx [n, p]) []
  | .same n m => wiD "=" (tx [n, m]) []
  | .neg t => wiD "~" (.str "") [eWi t]
  | .bin b s t => wiD (if b then "&" else "|") (.str "") [eWi s, eWi t]
def negs : Nat → Wt → Wt
  | 0, t => t
  | k + 1, t => .neg (negs k t)
/-! ### what is read -/
abbrev Res := Except (Int × Str) (Wt × Sg)
def NM : List Nat := [97, 98, 99, 100, 101, 102, 103, 104, 105, 106, 88, 89, 90]
def DG : List Nat := [48, 49, 50, 51]
def pTake (n : Nat) (cs : List Nat) (msg : Str) : Sg → Except (Int × Str) (Nat × Sg)
  | [] => .error (n, msg)
  | q :: r => if q.1 ∈ cs then .ok (q.1, r) else .error (q.2, msg)
def pAtom (n : Nat) (S : Sg) : Res := (pTake n NM "expected a wish" S).bind fun a => (pTake n [64, 61] "expected @ or =" a.2).bind fun b =>
  if b.1 = 64 then (pTake n DG "expected a place" b.2).map fun c => (.at a.1 c.1, c.2) else (pTake n NM "expected a name" b.2).map fun c => (.same a.1 c.1, c.2)
def nots : Sg → Nat × Sg
  | [] => (0, [])
  | q :: r => if q.1 = 126 then ((nots r).1 + 1, (nots r).2) else (0, q :: r)
def pSg (pg : Sg → Res) (S : Sg) : Res := (pg (nots S).2).map fun x => (negs (nots S).1 x.1, x.2)
def loopP (c : Nat) (p : Sg → Res) (b : Bool) : Nat → Wt → Sg → Res
  | 0, t, S => .ok (t, S)
  | _ + 1, t, [] => .ok (t, [])
  | f + 1, t, q :: r => if q.1 = c then (p r).bind fun x => loopP c p b f (.bin b t x.1) x.2 else .ok (t, q :: r)
def pBo (pg : Sg → Res) (S : Sg) : Res := (pSg pg S).bind fun x => loopP 38 (pSg pg) true x.2.length x.1 x.2
def pEi (pg : Sg → Res) (S : Sg) : Res := (pBo pg S).bind fun x => loopP 124 (pBo pg) false x.2.length x.1 x.2
def pGr (n : Nat) : Nat → Nat → Sg → Res
  | 0, _, _ => .error (0, "")
  | k + 1, d, S => match S with
    | [] => pAtom n []
    | q :: r => if q.1 = 40 then (if d = 20 then .error (q.2, "this is too deep") else (pEi (pGr n k (d + 1)) r).bind fun x => (pTake n [41] "expected )" x.2).map fun y => (x.1, y.2)) else pAtom n (q :: r)
/-- what is left is the end of what was there -/
def Ends (p : Sg → Res) : Prop := ∀ S x, p S = .ok x → x.2 <:+ S
theorem bind_ok {α β ε : Type} {m : Except ε α} {k : α → Except ε β} {y : β} (h : m.bind k = .ok y) : ∃ x, m = .ok x ∧ k x = .ok y := by
  cases m with
  | error e => cases h
  | ok x => exact ⟨x, rfl, h⟩
theorem map_ok {α β ε : Type} {m : Except ε α} {k : α → β} {y : β} (h : m.map k = .ok y) : ∃ x, m = .ok x ∧ k x = y := by
  cases m with
  | error e => cases h
  | ok x => cases h; exact ⟨x, rfl, rfl⟩
theorem take_end {n : Nat} {cs : List Nat} {msg : Str} {S : Sg} {x : Nat × Sg} (h : pTake n cs msg S = .ok x) : x.2 <:+ S ∧ x.2.length < S.length := by
  cases S with
  | nil => cases h
  | cons q r =>
    have e : pTake n cs msg (q :: r) = if q.1 ∈ cs then .ok (q.1, r) else .error (q.2, msg) := rfl
    rw [e] at h
    by_cases hm : q.1 ∈ cs
    · rw [if_pos hm] at h
      cases h; exact ⟨List.suffix_cons _ _, Nat.lt_succ_self _⟩
    · rw [if_neg hm] at h
      cases h
theorem atom_end {n : Nat} : Ends (pAtom n) := fun S x h => by
  unfold pAtom at h
  obtain ⟨a, h1, h2⟩ := bind_ok h
  obtain ⟨b, h3, h4⟩ := bind_ok h2
  split at h4
  · obtain ⟨c, h5, h6⟩ := map_ok h4
    subst h6
    exact ((take_end h5).1.trans (take_end h3).1).trans (take_end h1).1
  · obtain ⟨c, h5, h6⟩ := map_ok h4
    subst h6
    exact ((take_end h5).1.trans (take_end h3).1).trans (take_end h1).1
theorem nots_end : ∀ S : Sg, (nots S).2 <:+ S
  | [] => List.suffix_refl _
  | q :: r => by
    unfold nots
    split
    · exact (nots_end r).trans (List.suffix_cons _ _)
    · exact List.suffix_refl _
theorem sg_end {pg : Sg → Res} (e : Ends pg) : Ends (pSg pg) := fun S x h => by
  obtain ⟨y, h1, h2⟩ := map_ok h
  subst h2
  exact (e _ _ h1).trans (nots_end S)
theorem loop_end {c : Nat} {p : Sg → Res} {b : Bool} (e : Ends p) : ∀ (f : Nat) (t : Wt) (S : Sg) (x : Wt × Sg), loopP c p b f t S = .ok x → x.2 <:+ S
  | 0, t, S, x, h => by cases h; exact List.suffix_refl _
  | f + 1, t, [], x, h => by cases h; exact List.suffix_refl _
  | f + 1, t, q :: r, x, h => by
    unfold loopP at h
    split at h
    · obtain ⟨y, h1, h2⟩ := bind_ok h
      exact (loop_end e f _ _ _ h2).trans ((e _ _ h1).trans (List.suffix_cons _ _))
    · cases h; exact List.suffix_refl _
theorem bo_end {pg : Sg → Res} (e : Ends pg) : Ends (pBo pg) := fun S x h => by
  obtain ⟨y, h1, h2⟩ := bind_ok h
  exact (loop_end (sg_end e) _ _ _ _ h2).trans (sg_end e _ _ h1)
theorem ei_end {pg : Sg → Res} (e : Ends pg) : Ends (pEi pg) := fun S x h => by
  obtain ⟨y, h1, h2⟩ := bind_ok h
  exact (loop_end (bo_end e) _ _ _ _ h2).trans (bo_end e _ _ h1)
theorem gr_end {n : Nat} : ∀ (k d : Nat), Ends (pGr n k d)
  | 0, d => fun S x h => by cases h
  | k + 1, d => fun S x h => by
    unfold pGr at h
    cases S with
    | nil => exact atom_end _ _ h
    | cons q r =>
      dsimp only at h
      split at h
      · split at h
        · cases h
        · obtain ⟨y, h1, h2⟩ := bind_ok h
          obtain ⟨z, h3, h4⟩ := map_ok h2
          subst h4
          exact (take_end h3).1.trans ((ei_end (gr_end k (d + 1)) _ _ h1).trans (List.suffix_cons _ _))
      · exact atom_end _ _ h
/-! ### the reader -/
def rdC (A : Sg) (n a d : Nat) : C := .ob "Reader" ["signs", "size", "at", "deep"] [.p (.lst (A.map eG)), .p (.int n), .p (.int a), .p (.int d)]
/-- S is left -/
abbrev rdS (A : Sg) (n d : Nat) (S : Sg) : C := rdC A n (A.length - S.length) d
theorem own_rd {A : Sg} {n a d : Nat} : ownC (rdC A n a d) = true := rfl
theorem fld_signs {A : Sg} {n a d : Nat} : fldS "Reader" "signs" (rdC A n a d) = .ok (.lst (A.map eG)) (rdC A n a d) := by rfl
theorem fld_size {A : Sg} {n a d : Nat} : fldS "Reader" "size" (rdC A n a d) = .ok (.int n) (rdC A n a d) := by rfl
theorem fld_at {A : Sg} {n a d : Nat} : fldS "Reader" "at" (rdC A n a d) = .ok (.int a) (rdC A n a d) := by rfl
theorem fld_deep {A : Sg} {n a d : Nat} : fldS "Reader" "deep" (rdC A n a d) = .ok (.int d) (rdC A n a d) := by rfl
theorem at_up {A : Sg} {n a d : Nat} : faS "Reader" "at" (Fe.ret (.int 1)) (rdC A n a d) = .ok () (rdC A n (a + 1) d) := by rfl
theorem deep_up {A : Sg} {n a d : Nat} : faS "Reader" "deep" (Fe.ret (.int 1)) (rdC A n a d) = .ok () (rdC A n a (d + 1)) := by rfl
theorem deep_dn {A : Sg} {n a d : Nat} : fsS "Reader" "deep" (Fe.ret (.int 1)) (rdC A n a (d + 1)) = .ok () (rdC A n a d) := by
  have : fsS "Reader" "deep" (Fe.ret (.int 1)) (rdC A n a (d + 1)) = .ok () (.ob "Reader" ["signs", "size", "at", "deep"] [.p (.lst (A.map eG)), .p (.int n), .p (.int a), .p (.int (((d + 1 : Nat) : Int) - 1))]) := by rfl
  rw [this]
  have e : (((d + 1 : Nat) : Int) - 1) = (d : Int) := by omega
  rw [e]
  rfl
section
variable {σ α β : Type}
theorem bnd_at {m : Ms σ α} {k : α → Ms σ β} {s s' : σ} {a : α} (h : m s = .ok a s') : bnd m k s = k a s' := by unfold bnd; rw [h]
theorem bnd_xt {m : Ms σ α} {k : α → Ms σ β} {s s' : σ} {x : Ex} (h : m s = .ex x s') : bnd m k s = .ex x s' := by unfold bnd; rw [h]
end
end Ty
end
section
set_option Elab.async false
set_option linter.all false
set_option maxRecDepth 100000
set_option maxHeartbeats 2000000
namespace Ty
open PySem (Str)
open Fe
section
variable {σ α β : Type} {s s1 s2 : σ}
theorem op1_at {g : D → Option D} {a : Ms σ D} {x z : D} (h : a s = .ok x s1) (hz : g x = some z) : op1 g a s = .ok z s1 := by unfold op1; rw [bnd_at h, hz]; rfl
theorem op2_at {g : D → D → Option D} {a b : Ms σ D} {x y z : D} (h : a s = .ok x s1) (h2 : b s1 = .ok y s2) (hz : g x y = some z) : op2 g a b s = .ok z s2 := by unfold op2; rw [bnd_at h, bnd_at h2, hz]; rfl
theorem cmp_at {g : D → D → Option Bool} {a b : Ms σ D} {x y : D} {z : Bool} (h : a s = .ok x s1) (h2 : b s1 = .ok y s2) (hz : g x y = some z) : cmp g a b s = .ok (.bl z) s2 := op2_at h h2 (by unfold mbl; rw [hz]; rfl)
theorem tsb_at {a : Ms σ D} {b : Bool} (h : a s = .ok (.bl b) s1) : tsb a s = .ok b s1 := by unfold tsb; rw [bnd_at h]; rfl
theorem ifE_at {t : Ms σ Bool} {a b : Ms σ D} {k : Bool} (h : t s = .ok k s1) : ifE t a b s = (if k = true then a else b) s1 := by unfold ifE; rw [bnd_at h]
theorem ifC_at {t : Ms σ Bool} {a b : Ms σ α} {k : Bool} (h : t s = .ok k s1) : ifC t a b s = (if k = true then a else b) s1 := by unfold ifC; rw [bnd_at h]
theorem orT_at {a b : Ms σ Bool} {k : Bool} (h : a s = .ok k s1) : orT a b s = (if k = true then Fe.ret true else b) s1 := by unfold orT; rw [bnd_at h]
theorem cons_at {a : Ms σ D} {r : Ms σ (List D)} {x : D} {l : List D} (h : a s = .ok x s1) (h2 : r s1 = .ok l s2) : consA a r s = .ok (x :: l) s2 := by unfold consA; rw [bnd_at h, bnd_at h2]; rfl
theorem nil_at : (nilA : Ms σ (List D)) s = .ok [] s := rfl
theorem ret_at {a : α} : (Fe.ret a : Ms σ α) s = .ok a s := rfl
theorem lst_at {r : Ms σ (List D)} {l : List D} (h : r s = .ok l s1) (hl : l.length ≤ 1000) : lstE r s = .ok (.lst l) s1 := by
  unfold lstE
  rw [bnd_at h, fewL_le (by omega)]; rfl
end
theorem LeC.ok {g : Rs C D} {f : FO} {d : D} {s : C} (l : LeC g f) (e : g = .ok d s) (ho : ownC s = true) : f = .ok d s := by
  rw [e] at l
  exact l ho
theorem LeC.ex {g : Rs C D} {f : FO} {x : Ex} {s : C} (l : LeC g f) (e : g = .ex x s) : f = .ex x := by
  rw [e] at l
  exact l
/-! a method of the reader -/
theorem chk_rd {A : Sg} {n a d : Nat} {m : Str} (hm : ¬ m ∈ (["signs", "size", "at", "deep"] : List Str)) : chkS "Reader" m (rdC A n a d) = .ok () (rdC A n a d) := by
  have : chkS "Reader" m (rdC A n a d) = if m ∈ (["signs", "size", "at", "deep"] : List Str) then .no else .ok () (rdC A n a d) := rfl
  rw [this, if_neg hm]
theorem clm_at {A : Sg} {n a d : Nat} {m : Str} {f : C → List D → FO} {r : Ms C (List D)} {l : List D} {v : D} {s' : C} (hm : ¬ m ∈ (["signs", "size", "at", "deep"] : List Str)) (hr : r (rdC A n a d) = .ok l (rdC A n a d)) (hf : f (rdC A n a d) l = .ok v s') (ho : ownC s' = true) : clmS "Reader" m f r (rdC A n a d) = .ok v s' := by
  unfold clmS
  rw [bnd_at (chk_rd hm)]
  unfold cloC
  rw [bnd_at hr, hf]
  dsimp only
  rw [if_pos own_rd, if_pos ho]
theorem clm_xt {A : Sg} {n a d : Nat} {m : Str} {f : C → List D → FO} {r : Ms C (List D)} {l : List D} {x : Ex} (hm : ¬ m ∈ (["signs", "size", "at", "deep"] : List Str)) (hr : r (rdC A n a d) = .ok l (rdC A n a d)) (hf : f (rdC A n a d) l = .ex x) : clmS "Reader" m f r (rdC A n a d) = .ex x dead := by
  unfold clmS
  rw [bnd_at (chk_rd hm)]
  unfold cloC
  rw [bnd_at hr, hf]
  dsimp only
  rw [if_pos own_rd]
/-- a reader's signs -/
structure Rd (A : Sg) : Prop where
  len : A.length ≤ 1000
  cp : ∀ q ∈ A, q.1 < 1114112
def hdD : Sg → D
  | [] => .str ""
  | q :: _ => ch q.1
def hdIs (S : Sg) (e : Nat) : Bool := match S with
  | [] => false
  | q :: _ => decide (q.1 = e)
theorem suf_at {A S : Sg} {q : Nat × Nat} (h : q :: S <:+ A) : A.length - (S.length + 1) < A.length ∧ A[A.length - (S.length + 1)]? = some q := by
  obtain ⟨P, rfl⟩ := h
  have e : (P ++ q :: S).length - (S.length + 1) = P.length := by simp
  rw [e]
  refine ⟨by simp, ?_⟩
  rw [List.getElem?_append_right (Nat.le_refl _), Nat.sub_self]; rfl
theorem signs_len {A : Sg} {n a d : Nat} : op1 dLen (fldS "Reader" "signs") (rdC A n a d) = .ok (.int A.length) (rdC A n a d) := op1_at fld_signs (by rw [dLen_lst, List.length_map])
theorem more_at {A S : Sg} {n d : Nat} (h : S <:+ A) : tsb (cmp dLt (fldS "Reader" "at") (op1 dLen (fldS "Reader" "signs"))) (rdS A n d S) = .ok (!S.isEmpty) (rdS A n d S) := by
  refine tsb_at (cmp_at fld_at signs_len ?_)
  rw [dLt_ints]
  have hl := h.length_le
  cases S with
  | nil => simp
  | cons q r =>
    simp only [List.length_cons] at hl ⊢
    simp; omega
theorem sign_at {A S : Sg} {q : Nat × Nat} {n d : Nat} (h : q :: S <:+ A) : op2 dIxA (fldS "Reader" "signs") (fldS "Reader" "at") (rdS A n d (q :: S)) = .ok (eG q) (rdS A n d (q :: S)) := by
  refine op2_at fld_signs fld_at ?_
  obtain ⟨h1, h2⟩ := suf_at h
  exact dIx_lst (by rw [List.getElem?_map, List.length_cons, h2]; rfl)
theorem f_ahead {A S : Sg} {n d : Nat} (h : S <:+ A) : Fp.f_Reader_ahead (rdS A n d S) [] = .ok (hdD S) (rdS A n d S) := by
  refine LeC.ok (Fp.lk_Reader_ahead (rdS A n d S)) ?_ own_rd
  unfold Fp.g_Reader_ahead
  rw [ifE_at (more_at h)]
  cases S with
  | nil => rfl
  | cons q r =>
    show op2 dIxA (op2 dIxA (fldS "Reader" "signs") (fldS "Reader" "at")) (Fe.ret (.int 0)) _ = _
    exact op2_at (sign_at h) ret_at rfl
theorem f_fail {A S : Sg} {n d : Nat} (h : S <:+ A) (msg : Str) : Fp.f_Reader_fail (rdS A n d S) [.str msg] = .ex (flw (match S with | [] => n | q :: _ => q.2) msg) := by
  refine LeC.ex (s := rdS A n d S) (Fp.lk_Reader_fail (.str msg) (rdS A n d S)) ?_
  unfold Fp.g_Reader_fail rse
  have key : ifE (tsb (cmp dLt (fldS "Reader" "at") (op1 dLen (fldS "Reader" "signs")))) (op2 dIxA (op2 dIxA (fldS "Reader" "signs") (fldS "Reader" "at")) (Fe.ret (.int 1))) (fldS "Reader" "size") (rdS A n d S) = .ok (.int (match S with | [] => n | q :: _ => q.2)) (rdS A n d S) := by
    rw [ifE_at (more_at h)]
    cases S with
    | nil => exact fld_size
    | cons q r =>
      show op2 dIxA (op2 dIxA (fldS "Reader" "signs") (fldS "Reader" "at")) (Fe.ret (.int 1)) _ = _
      exact op2_at (sign_at h) ret_at rfl
  rw [bnd_at (cons_at key (cons_at ret_at nil_at))]
  cases S <;> rfl
theorem ahead_at {A S : Sg} {n d : Nat} (h : S <:+ A) : clmS "Reader" "ahead" Fp.f_Reader_ahead nilA (rdS A n d S) = .ok (hdD S) (rdS A n d S) := clm_at (by decide) nil_at (f_ahead h) own_rd
theorem fail_at {A S : Sg} {n d : Nat} (h : S <:+ A) (msg : Str) : clmS "Reader" "fail" Fp.f_Reader_fail (consA (Fe.ret (.str msg)) nilA) (rdS A n d S) = .ex (flw (match S with | [] => n | q :: _ => q.2) msg) dead := clm_xt (by decide) (cons_at ret_at nil_at) (f_fail h msg)
theorem eq_ch (c e : Nat) (hc : c < 1114112) (he : e < 1114112) : dEq (ch c) (ch e) = some (decide (c = e)) := by
  unfold dEq
  rw [if_pos ⟨Nat.zero_le _, Nat.zero_le _, lay_ch hc, lay_ch he⟩]
  show some (decide ((⟨#[c]⟩ : Str) = ⟨#[e]⟩)) = _
  by_cases h : c = e
  · subst h; simp
  · have : (⟨#[c]⟩ : Str) ≠ ⟨#[e]⟩ := fun z => h (by injection z with z; injection z with z; injection z)
    rw [decide_eq_false this, decide_eq_false h]
theorem eq_hd {S : Sg} (h : ∀ q ∈ S, q.1 < 1114112) (e : Nat) (he : e < 1114112) : dEq (hdD S) (ch e) = some (hdIs S e) := by
  cases S with
  | nil =>
    show dEq (tx []) (tx [e]) = some false
    unfold dEq
    rw [if_pos ⟨Nat.zero_le _, Nat.zero_le _, lay_tx (l := []) (by simp), lay_ch he⟩]
    show some (decide ((⟨#[]⟩ : Str) = ⟨#[e]⟩)) = _
    rw [decide_eq_false fun z => by injection z with z; injection z with z; cases z]
  | cons q r => exact eq_ch _ _ (h q (.head _)) he
theorem eq_none (S : Sg) (h : ∀ q ∈ S, q.1 < 1114112) : dEq (hdD S) (.str "") = some S.isEmpty := by
  cases S with
  | nil =>
    show dEq (tx []) (tx []) = some true
    unfold dEq
    rw [if_pos ⟨Nat.zero_le _, Nat.zero_le _, lay_tx (l := []) (by simp), lay_tx (l := []) (by simp)⟩]
    show some (decide ((⟨#[]⟩ : Str) = ⟨#[]⟩)) = _
    rw [decide_eq_true rfl]
  | cons q r =>
    show dEq (ch q.1) (tx []) = some false
    unfold dEq
    rw [if_pos ⟨Nat.zero_le _, Nat.zero_le _, lay_ch (h q (.head _)), lay_tx (l := []) (by simp)⟩]
    show some (decide ((⟨#[q.1]⟩ : Str) = ⟨#[]⟩)) = _
    rw [decide_eq_false fun z => by injection z with z; injection z with z; cases z]
theorem Rd.suf {A S : Sg} (r : Rd A) (h : S <:+ A) : ∀ q ∈ S, q.1 < 1114112 := fun q hq => r.cp q (h.subset hq)
/-- the test for a sign -/
theorem is_at {A S : Sg} {n d : Nat} (R : Rd A) (h : S <:+ A) (y : Str) (e : Nat) (hy : y = ⟨#[e]⟩) (he : e < 1114112) : tsb (cmp dEq (clmS "Reader" "ahead" Fp.f_Reader_ahead nilA) (Fe.ret (.str y))) (rdS A n d S) = .ok (hdIs S e) (rdS A n d S) := by
  subst hy
  exact tsb_at (cmp_at (ahead_at h) ret_at (eq_hd (R.suf h) e he))
/-! ### a sign taken -/
def resT (A : Sg) (n d : Nat) (r : Except (Int × Str) (Nat × Sg)) : FO := match r with
  | .ok x => .ok (ch x.1) (rdS A n d x.2)
  | .error x => .ex (flw x.1 x.2)
theorem up_rd {A S : Sg} {q : Nat × Nat} {n d : Nat} (h : q :: S <:+ A) : faS "Reader" "at" (Fe.ret (.int 1)) (rdS A n d (q :: S)) = .ok () (rdS A n d S) := by
  rw [at_up]
  have hl := h.length_le
  rw [List.length_cons] at hl ⊢
  show Rs.ok () (rdC A n (A.length - (S.length + 1) + 1) d) = .ok () (rdC A n (A.length - S.length) d)
  rw [show A.length - (S.length + 1) + 1 = A.length - S.length by omega]
theorem f_take {A S : Sg} {n d : Nat} (R : Rd A) (h : S <:+ A) {y : Str} {cs : List Nat} (hy : y.cps.toList = cs) (msg : Str) : Fp.f_Reader_take (rdS A n d S) [.str y, .str msg] = resT A n d (pTake n cs msg S) := by
  cases S with
  | nil =>
    refine LeC.ex (s := dead) (Fp.lk_Reader_take (.str y) (.str msg) (rdS A n d [])) ?_
    unfold Fp.g_Reader_take
    rw [bnd_at (ahead_at h)]
    have t : orT (tsb (cmp dEq (Fe.ret (hdD [])) (Fe.ret (.str "")))) (tsb (cmp dNotInT (Fe.ret (hdD [])) (Fe.ret (.str y)))) (rdS A n d []) = .ok true (rdS A n d []) := by
      rw [orT_at (tsb_at (cmp_at ret_at ret_at (eq_none [] (by simp))))]
      rfl
    refine bnd_xt ?_
    rw [ifC_at t]
    exact bnd_xt (fail_at h msg)
  | cons q r =>
    have hq : q.1 < 1114112 := R.suf h q (.head _)
    have t1 : tsb (cmp dEq (Fe.ret (hdD (q :: r))) (Fe.ret (.str ""))) (rdS A n d (q :: r)) = .ok false (rdS A n d (q :: r)) := tsb_at (cmp_at ret_at ret_at (eq_none (q :: r) (R.suf h)))
    have t2 : tsb (cmp dNotInT (Fe.ret (hdD (q :: r))) (Fe.ret (.str y))) (rdS A n d (q :: r)) = .ok (!decide (q.1 ∈ cs)) (rdS A n d (q :: r)) := tsb_at (cmp_at ret_at ret_at (by rw [← hy]; exact nin_ch q.1 y))
    have e : pTake n cs msg (q :: r) = if q.1 ∈ cs then .ok (q.1, r) else .error (q.2, msg) := rfl
    rw [e]
    by_cases hm : q.1 ∈ cs
    · rw [if_pos hm]
      rw [decide_eq_true hm] at t2
      refine LeC.ok (Fp.lk_Reader_take (.str y) (.str msg) (rdS A n d (q :: r))) ?_ own_rd
      unfold Fp.g_Reader_take
      have t : orT (tsb (cmp dEq (Fe.ret (hdD (q :: r))) (Fe.ret (.str "")))) (tsb (cmp dNotInT (Fe.ret (hdD (q :: r))) (Fe.ret (.str y)))) (rdS A n d (q :: r)) = .ok false (rdS A n d (q :: r)) := by
        rw [orT_at t1]
        exact t2
      rw [bnd_at (ahead_at h)]
      have t3 : (ifC (orT (tsb (cmp dEq (Fe.ret (hdD (q :: r))) (Fe.ret (.str "")))) (tsb (cmp dNotInT (Fe.ret (hdD (q :: r))) (Fe.ret (.str y))))) (bnd (clmS "Reader" "fail" Fp.f_Reader_fail (consA (Fe.ret (.str msg)) nilA)) fun _ => (Fe.ret ())) (Fe.ret ()) : Ms C Unit) (rdS A n d (q :: r)) = .ok () (rdS A n d (q :: r)) := by
        rw [ifC_at t]; rfl
      rw [bnd_at t3, bnd_at (up_rd h)]
      rfl
    · rw [if_neg hm]
      rw [decide_eq_false hm] at t2
      refine LeC.ex (s := dead) (Fp.lk_Reader_take (.str y) (.str msg) (rdS A n d (q :: r))) ?_
      unfold Fp.g_Reader_take
      have t : orT (tsb (cmp dEq (Fe.ret (hdD (q :: r))) (Fe.ret (.str "")))) (tsb (cmp dNotInT (Fe.ret (hdD (q :: r))) (Fe.ret (.str y)))) (rdS A n d (q :: r)) = .ok true (rdS A n d (q :: r)) := by
        rw [orT_at t1]
        exact t2
      rw [bnd_at (ahead_at h)]
      refine bnd_xt ?_
      rw [ifC_at t]
      exact bnd_xt (fail_at h msg)
/-- a call of take -/
theorem take_at {A S : Sg} {n d : Nat} (R : Rd A) (h : S <:+ A) {a : Ms C D} {y : Str} {cs : List Nat} (ha : a (rdS A n d S) = .ok (.str y) (rdS A n d S)) (hy : y.cps.toList = cs) (msg : Str) : clmS "Reader" "take" Fp.f_Reader_take (consA a (consA (Fe.ret (.str msg)) nilA)) (rdS A n d S) = match pTake n cs msg S with
    | .ok x => .ok (ch x.1) (rdS A n d x.2)
    | .error x => .ex (flw x.1 x.2) dead := by
  have hf := f_take (n := n) (d := d) R h hy msg
  cases hp : pTake n cs msg S with
  | ok x => rw [hp] at hf; exact clm_at (by decide) (cons_at ha (cons_at ret_at nil_at)) hf own_rd
  | error x => rw [hp] at hf; exact clm_xt (by decide) (cons_at ha (cons_at ret_at nil_at)) hf
end Ty
end
section
set_option Elab.async false
set_option linter.all false
set_option maxRecDepth 100000
set_option maxHeartbeats 2000000
namespace Ty
open PySem (Str)
open Fe
/-! a wish made -/
theorem f_wish (f : Str) (nm : D) (inner : List D) : Fp.f_Wish_init (.ob "Wish" [] []) [.str f, nm, .lst inner] = .ok .non (.ob "Wish" ["form", "names", "inner"] [.p (.str f), .p nm, .p (.lst inner)]) :=
  LeC.ok (Fp.lk_Wish_init (.str f) nm (.lst inner) (.ob "Wish" [] [])) (by rfl) rfl
theorem wish_at {σ : Type} {s s' : σ} {a : Ms σ (List D)} {f : Str} {nm : D} {inner : List D} (h : a s = .ok [.str f, nm, .lst inner] s') : mkP "Wish" Fp.f_Wish_init a s = .ok (wiD f nm inner) s' := by
  unfold mkP
  rw [bnd_at h, f_wish]
  rfl
/-! results -/
def resW (A : Sg) (n d : Nat) (r : Res) : FO := match r with
  | .ok x => .ok (eWi x.1) (rdS A n d x.2)
  | .error x => .ex (flw x.1 x.2)
def resM (A : Sg) (n d : Nat) (r : Res) : Rs C D := match r with
  | .ok x => .ok (eWi x.1) (rdS A n d x.2)
  | .error x => .ex (flw x.1 x.2) dead
/-- the method r reads what p does -/
def Reads (A : Sg) (n d : Nat) (r : C → List D → FO) (p : Sg → Res) : Prop := ∀ S, S <:+ A → r (rdS A n d S) [] = resW A n d (p S)
variable {A : Sg} {n d : Nat}
theorem call_at {r : C → List D → FO} {p : Sg → Res} {m : Str} (hr : Reads A n d r p) (hm : ¬ m ∈ (["signs", "size", "at", "deep"] : List Str)) {S : Sg} (h : S <:+ A) : clmS "Reader" m r nilA (rdS A n d S) = resM A n d (p S) := by
  have e := hr S h
  cases hp : p S with
  | ok x => rw [hp] at e; exact clm_at hm nil_at e own_rd
  | error x => rw [hp] at e; exact clm_xt hm nil_at e
theorem leC_res {g : Rs C D} {f : FO} {r : Res} (l : LeC g f) (e : g = resM A n d r) : f = resW A n d r := by
  cases r with
  | ok x => exact LeC.ok l e own_rd
  | error x => exact LeC.ex l e
/-! single -/
theorem nots_loop (R : Rd A) : ∀ (S : Sg) (c F : Nat), S.length < F → S <:+ A → whN (τ := D) (fun t1 => (tsb (cmp dEq (clmS "Reader" "ahead" Fp.f_Reader_ahead nilA) (Fe.ret (.str "~"))))) (fun t1 => (bnd (faS "Reader" "at" (Fe.ret (.int 1))) fun _ =>
    (bnd (op2 dAddI (Fe.ret t1) (Fe.ret (.int 1))) fun v_count =>
    (Fe.ret v_count)))) F (.int c) (rdS A n d S) = .ok (.int ((c + (nots S).1 : Nat) : Int)) (rdS A n d (nots S).2)
  | [], c, F, hF, h => by
    obtain ⟨F, rfl⟩ : ∃ f, F = f + 1 := ⟨F - 1, by omega⟩
    unfold whN
    rw [bnd_at (is_at R h "~" 126 rfl (by decide))]
    rfl
  | q :: r, c, F, hF, h => by
    obtain ⟨F, rfl⟩ : ∃ f, F = f + 1 := ⟨F - 1, by omega⟩
    unfold whN
    rw [bnd_at (is_at R h "~" 126 rfl (by decide))]
    show (if decide (q.1 = 126) = true then _ else _ : Ms C D) _ = _
    by_cases hq : q.1 = 126
    · rw [if_pos (decide_eq_true hq)]
      have e1 : nots (q :: r) = ((nots r).1 + 1, (nots r).2) := by conv => lhs; unfold nots; rw [if_pos hq]
      have body : (bnd (faS "Reader" "at" (Fe.ret (.int 1))) fun _ => (bnd (op2 dAddI (Fe.ret (.int (c : Int))) (Fe.ret (.int 1))) fun v_count => (Fe.ret v_count)) : Ms C D) (rdS A n d (q :: r)) = .ok (.int ((c + 1 : Nat) : Int)) (rdS A n d r) := by
        rw [bnd_at (up_rd h)]; rfl
      rw [bnd_at body, nots_loop R r (c + 1) F (by simp at hF; omega) ((List.suffix_cons _ _).trans h), e1]
      dsimp only
      rw [show c + 1 + (nots r).1 = c + ((nots r).1 + 1) by omega]
    · rw [if_neg (by simp [hq])]
      have e1 : nots (q :: r) = (0, q :: r) := by conv => lhs; unfold nots; rw [if_neg hq]
      rw [e1]
      rfl
theorem negs_add : ∀ (k : Nat) (t : Wt), negs k (.neg t) = .neg (negs k t)
  | 0, _ => rfl
  | k + 1, t => by show Wt.neg (negs k (.neg t)) = _; rw [negs_add k t]; rfl
theorem negs_loop {σ : Type} {s : σ} : ∀ (l : List D) (t : Wt), (forN (τ := D) (fun v_turn t2 => (bnd (mkP "Wish" Fp.f_Wish_init (consA (Fe.ret (.str "~")) (consA (Fe.ret (.str "")) (consA (lstE (consA (Fe.ret t2) nilA)) nilA)))) fun v_found =>
    (Fe.ret v_found))) l (eWi t) : Ms σ D) s = .ok (eWi (negs l.length t)) s
  | [], t => rfl
  | x :: l, t => by
    unfold forN
    have e : (bnd (mkP "Wish" Fp.f_Wish_init (consA (Fe.ret (.str "~")) (consA (Fe.ret (.str "")) (consA (lstE (consA (Fe.ret (eWi t)) nilA)) nilA)))) fun v_found => (Fe.ret v_found) : Ms σ D) s = .ok (eWi (.neg t)) s := by
      rw [bnd_at (wish_at (cons_at ret_at (cons_at ret_at (cons_at (lst_at (cons_at ret_at nil_at) (by simp)) nil_at))))]
      rfl
    rw [bnd_at e, negs_loop l (.neg t), negs_add]
    rfl
theorem nots_len : ∀ S : Sg, (nots S).1 ≤ S.length
  | [] => Nat.le_refl _
  | q :: r => by
    have := nots_len r
    unfold nots
    split
    · simp; omega
    · simp
theorem fuel_big {k : Nat} (h : k ≤ 100000) : k < fuel := by unfold fuel; omega
theorem reads_single (R : Rd A) {r : C → List D → FO} {p : Sg → Res} (hr : Reads A n d r p) : Reads A n d (runO 1 4 (Fp.b_Reader_single r)) (pSg p) := fun S h => by
  have hl := h.length_le
  have hl2 := R.len
  refine leC_res (Fp.lk_Reader_single r (rdS A n d S)) ?_
  unfold Fp.g_Reader_single
  rw [bnd_ret]
  refine (bnd_at (nots_loop (n := n) (d := d) R S 0 fuel (fuel_big (by omega)) h)).trans ?_
  rw [Nat.zero_add]
  have h2 := (nots_end S).trans h
  unfold pSg
  have hc := call_at hr (m := "ground") (by decide) h2
  cases hp : p (nots S).2 with
  | error x => rw [hp] at hc; exact bnd_xt hc
  | ok x =>
    rw [hp] at hc
    rw [bnd_at hc]
    have hn := nots_len S
    rw [rg1_uptoN (by omega), bnd_ret, bnd_at (negs_loop _ x.1), List.length_map, upto_len]
    rfl
/-! both, either -/
theorem bin_loop (R : Rd A) {r : C → List D → FO} {p : Sg → Res} (hr : Reads A n d r p) (hE : Ends p) {y f m : Str} {e : Nat} {b : Bool} (hy : y = ⟨#[e]⟩) (he : e < 1114112) (hm : ¬ m ∈ (["signs", "size", "at", "deep"] : List Str)) (hf : f = if b then "&" else "|") : ∀ (k : Nat) (S : Sg) (t : Wt) (F : Nat), S.length ≤ k → S.length < F → S <:+ A →
    whN (τ := D) (fun t1 => (tsb (cmp dEq (clmS "Reader" "ahead" Fp.f_Reader_ahead nilA) (Fe.ret (.str y))))) (fun t1 => (bnd (faS "Reader" "at" (Fe.ret (.int 1))) fun _ =>
    (bnd (mkP "Wish" Fp.f_Wish_init (consA (Fe.ret (.str f)) (consA (Fe.ret (.str "")) (consA (lstE (consA (Fe.ret t1) (consA (clmS "Reader" m r nilA) nilA))) nilA)))) fun v_found =>
    (Fe.ret v_found)))) F (eWi t) (rdS A n d S) = resM A n d (loopP e p b k t S)
  | k, [], t, F, hk, hF, h => by
    obtain ⟨F, rfl⟩ : ∃ f, F = f + 1 := ⟨F - 1, by omega⟩
    unfold whN
    rw [bnd_at (is_at R h y e hy he)]
    cases k <;> rfl
  | 0, q :: S, t, F, hk, hF, h => by simp at hk
  | k + 1, q :: S, t, F, hk, hF, h => by
    obtain ⟨F, rfl⟩ : ∃ f, F = f + 1 := ⟨F - 1, by omega⟩
    unfold whN
    rw [bnd_at (is_at R h y e hy he)]
    show (if decide (q.1 = e) = true then _ else _ : Ms C D) _ = _
    by_cases hq : q.1 = e
    · rw [if_pos (decide_eq_true hq)]
      have h2 : S <:+ A := (List.suffix_cons _ _).trans h
      have hc := call_at hr hm h2
      have e1 : loopP e p b (k + 1) t (q :: S) = (p S).bind fun x => loopP e p b k (.bin b t x.1) x.2 := by conv => lhs; unfold loopP; rw [if_pos hq]
      rw [e1]
      cases hp : p S with
      | error x =>
        rw [hp] at hc
        refine bnd_xt (s' := dead) ?_
        rw [bnd_at (up_rd h)]
        refine bnd_xt ?_
        unfold mkP consA lstE
        refine bnd_xt ?_
        rw [bnd_at ret_at]
        refine bnd_xt ?_
        rw [bnd_at ret_at]
        refine bnd_xt (bnd_xt (bnd_xt ?_))
        rw [bnd_at ret_at]
        exact bnd_xt (bnd_xt hc)
      | ok x =>
        rw [hp] at hc
        have hs := hE S x hp
        have body : (bnd (faS "Reader" "at" (Fe.ret (.int 1))) fun _ => (bnd (mkP "Wish" Fp.f_Wish_init (consA (Fe.ret (.str f)) (consA (Fe.ret (.str "")) (consA (lstE (consA (Fe.ret (eWi t)) (consA (clmS "Reader" m r nilA) nilA))) nilA)))) fun v_found => (Fe.ret v_found)) : Ms C D) (rdS A n d (q :: S)) = .ok (eWi (.bin b t x.1)) (rdS A n d x.2) := by
          rw [bnd_at (up_rd h), bnd_at (wish_at (cons_at ret_at (cons_at ret_at (cons_at (lst_at (cons_at ret_at (cons_at hc nil_at)) (by simp)) nil_at))))]
          subst hf
          cases b <;> rfl
        have hs2 := hs.length_le
        rw [bnd_at body]
        exact bin_loop R hr hE hy he hm hf k x.2 _ F (by simp at hk; omega) (by simp at hF; omega) (hs.trans h2)
    · rw [if_neg (by simp [hq])]
      have e1 : loopP e p b (k + 1) t (q :: S) = .ok (t, q :: S) := by conv => lhs; unfold loopP; rw [if_neg hq]
      rw [e1]
      rfl
theorem reads_both (R : Rd A) {r : C → List D → FO} {p : Sg → Res} (hr : Reads A n d r (pSg p)) (hE : Ends p) : Reads A n d (runO 1 2 (Fp.b_Reader_both r)) (pBo p) := fun S h => by
  have hl := h.length_le
  have hl2 := R.len
  refine leC_res (Fp.lk_Reader_both r (rdS A n d S)) ?_
  unfold Fp.g_Reader_both pBo
  have hc := call_at hr (m := "single") (by decide) h
  cases hp : pSg p S with
  | error x => rw [hp] at hc; exact bnd_xt hc
  | ok x =>
    rw [hp] at hc
    have hs := sg_end hE S x hp
    have hs2 := hs.length_le
    rw [bnd_at hc]
    have hb := bin_loop R hr (sg_end hE) (y := "&") (f := "&") (m := "single") (e := 38) (b := true) rfl (by decide) (by decide) rfl x.2.length x.2 x.1 fuel (Nat.le_refl _) (fuel_big (by omega)) (hs.trans h)
    have e2 : (Except.bind (.ok x) fun x => loopP 38 (pSg p) true x.2.length x.1 x.2 : Res) = loopP 38 (pSg p) true x.2.length x.1 x.2 := rfl
    rw [e2]
    cases hq : loopP 38 (pSg p) true x.2.length x.1 x.2 with
    | error z => rw [hq] at hb; exact bnd_xt hb
    | ok z => rw [hq] at hb; rw [bnd_at hb]; rfl
theorem reads_either (R : Rd A) {r : C → List D → FO} {p : Sg → Res} (hr : Reads A n d r (pBo p)) (hE : Ends p) : Reads A n d (runO 1 2 (Fp.b_Reader_either r)) (pEi p) := fun S h => by
  have hl := h.length_le
  have hl2 := R.len
  refine leC_res (Fp.lk_Reader_either r (rdS A n d S)) ?_
  unfold Fp.g_Reader_either pEi
  have hc := call_at hr (m := "both") (by decide) h
  cases hp : pBo p S with
  | error x => rw [hp] at hc; exact bnd_xt hc
  | ok x =>
    rw [hp] at hc
    have hs := bo_end hE S x hp
    have hs2 := hs.length_le
    rw [bnd_at hc]
    have hb := bin_loop R hr (bo_end hE) (y := "|") (f := "|") (m := "both") (e := 124) (b := false) rfl (by decide) (by decide) rfl x.2.length x.2 x.1 fuel (Nat.le_refl _) (fuel_big (by omega)) (hs.trans h)
    have e2 : (Except.bind (.ok x) fun x => loopP 124 (pBo p) false x.2.length x.1 x.2 : Res) = loopP 124 (pBo p) false x.2.length x.1 x.2 := rfl
    rw [e2]
    cases hq : loopP 124 (pBo p) false x.2.length x.1 x.2 with
    | error z => rw [hq] at hb; exact bnd_xt hb
    | ok z => rw [hq] at hb; rw [bnd_at hb]; rfl
end Ty
end
section
set_option Elab.async false
set_option linter.all false
set_option maxRecDepth 100000
set_option maxHeartbeats 2000000
namespace Ty
open PySem (Str)
open Fe
variable {A : Sg} {n d : Nat}
theorem names_l : (("abcdefghij" : Str) ++ ("XYZ" : Str)).cps.toList = NM := by rfl
theorem two_l : (("@" : Str) ++ ("=" : Str)).cps.toList = [64, 61] := by rfl
theorem names_at {σ : Type} {s : σ} : (op2 dAdd (Fe.ret (.str "abcdefghij")) (Fe.ret (.str "XYZ")) : Ms σ D) s = .ok (.str (("abcdefghij" : Str) ++ ("XYZ" : Str))) s := op2_at ret_at ret_at rfl
theorem two_at {σ : Type} {s : σ} : (op2 dAdd (Fe.ret (.str "@")) (Fe.ret (.str "=")) : Ms σ D) s = .ok (.str (("@" : Str) ++ ("=" : Str))) s := op2_at ret_at ret_at rfl
theorem takeM {S : Sg} (R : Rd A) (h : S <:+ A) {a : Ms C D} {y : Str} {cs : List Nat} (ha : ∀ s, a s = .ok (.str y) s) (hy : y.cps.toList = cs) (msg : Str) {x : Nat × Sg} (hx : pTake n cs msg S = .ok x) : clmS "Reader" "take" Fp.f_Reader_take (consA a (consA (Fe.ret (.str msg)) nilA)) (rdS A n d S) = .ok (ch x.1) (rdS A n d x.2) := by
  rw [take_at R h (ha _) hy, hx]
theorem takeX {S : Sg} (R : Rd A) (h : S <:+ A) {a : Ms C D} {y : Str} {cs : List Nat} (ha : ∀ s, a s = .ok (.str y) s) (hy : y.cps.toList = cs) (msg : Str) {x : Int × Str} (hx : pTake n cs msg S = .error x) : clmS "Reader" "take" Fp.f_Reader_take (consA a (consA (Fe.ret (.str msg)) nilA)) (rdS A n d S) = .ex (flw x.1 x.2) dead := by
  rw [take_at R h (ha _) hy, hx]
theorem add_ch {σ : Type} {s s' : σ} {a : Nat} {m : Ms σ D} {b : Nat} (h : m s = .ok (ch b) s') : op2 dAdd (Fe.ret (ch a)) m s = .ok (tx [a, b]) s' := op2_at ret_at h rfl
def atomM : Ms C D := (bnd (clmS "Reader" "take" Fp.f_Reader_take (consA (op2 dAdd (Fe.ret (.str "abcdefghij")) (Fe.ret (.str "XYZ"))) (consA (Fe.ret (.str "expected a wish")) nilA))) fun v_name =>
    (ifC (tsb (cmp dEq (clmS "Reader" "take" Fp.f_Reader_take (consA (op2 dAdd (Fe.ret (.str "@")) (Fe.ret (.str "="))) (consA (Fe.ret (.str "expected @ or =")) nilA))) (Fe.ret (.str "@")))) (mkP "Wish" Fp.f_Wish_init (consA (Fe.ret (.str "@")) (consA (op2 dAdd (Fe.ret v_name) (clmS "Reader" "take" Fp.f_Reader_take (consA (Fe.ret (.str "0123")) (consA (Fe.ret (.str "expected a place")) nilA)))) (consA (lstE nilA) nilA))))
    (mkP "Wish" Fp.f_Wish_init (consA (Fe.ret (.str "=")) (consA (op2 dAdd (Fe.ret v_name) (clmS "Reader" "take" Fp.f_Reader_take (consA (op2 dAdd (Fe.ret (.str "abcdefghij")) (Fe.ret (.str "XYZ"))) (consA (Fe.ret (.str "expected a name")) nilA)))) (consA (lstE nilA) nilA))))))
theorem mk_xt {σ : Type} {s s' : σ} {f : Str} {m : Ms σ D} {a : D} {x : Ex} {r : Ms σ (List D)} (h : m s = .ex x s') : mkP "Wish" Fp.f_Wish_init (consA (Fe.ret (.str f)) (consA (op2 dAdd (Fe.ret a) m) r)) s = .ex x s' := by
  unfold mkP consA op2
  refine bnd_xt ?_
  rw [bnd_at ret_at]
  refine bnd_xt (bnd_xt ?_)
  rw [bnd_at ret_at]
  exact bnd_xt h
theorem atom_at (R : Rd A) {S : Sg} (h : S <:+ A) : atomM (rdS A n d S) = resM A n d (pAtom n S) := by
  unfold atomM pAtom
  cases h1 : pTake n NM "expected a wish" S with
  | error x => exact bnd_xt (takeX R h (fun _ => names_at) names_l _ h1)
  | ok a =>
    have s1 := (take_end h1).1.trans h
    rw [bnd_at (takeM R h (fun _ => names_at) names_l _ h1)]
    show _ = resM A n d ((pTake n [64, 61] "expected @ or =" a.2).bind fun b => if b.1 = 64 then (pTake n DG "expected a place" b.2).map fun c => (Wt.at a.1 c.1, c.2) else (pTake n NM "expected a name" b.2).map fun c => (Wt.same a.1 c.1, c.2))
    cases h2 : pTake n [64, 61] "expected @ or =" a.2 with
    | error x =>
      have e := takeX (d := d) R s1 (fun _ => two_at) two_l "expected @ or =" h2
      show bnd (tsb (cmp dEq _ _)) _ _ = _
      refine bnd_xt ?_
      unfold tsb cmp op2
      exact bnd_xt (bnd_xt e)
    | ok b =>
      have s2 := (take_end h2).1.trans s1
      have hb : b.1 < 1114112 := by
        cases hq : a.2 with
        | nil => rw [hq] at h2; cases h2
        | cons q r =>
          rw [hq] at h2 s1
          have e : pTake n [64, 61] "expected @ or =" (q :: r) = if q.1 ∈ [64, 61] then .ok (q.1, r) else .error (q.2, "expected @ or =") := rfl
          rw [e] at h2
          by_cases hm : q.1 ∈ [64, 61]
          · rw [if_pos hm] at h2; cases h2; exact R.suf s1 q (.head _)
          · rw [if_neg hm] at h2; cases h2
      have t : tsb (cmp dEq (clmS "Reader" "take" Fp.f_Reader_take (consA (op2 dAdd (Fe.ret (.str "@")) (Fe.ret (.str "="))) (consA (Fe.ret (.str "expected @ or =")) nilA))) (Fe.ret (.str "@"))) (rdS A n d a.2) = .ok (decide (b.1 = 64)) (rdS A n d b.2) :=
        tsb_at (cmp_at (takeM R s1 (fun _ => two_at) two_l _ h2) ret_at (eq_ch b.1 64 hb (by decide)))
      rw [ifC_at t]
      show _ = resM A n d ((if b.1 = 64 then (pTake n DG "expected a place" b.2).map fun c => (Wt.at a.1 c.1, c.2) else (pTake n NM "expected a name" b.2).map fun c => (Wt.same a.1 c.1, c.2)))
      by_cases hq : b.1 = 64
      · rw [if_pos (decide_eq_true hq), if_pos hq]
        cases h3 : pTake n DG "expected a place" b.2 with
        | error x => exact mk_xt (takeX R s2 (fun _ => ret_at) digits_l _ h3)
        | ok c => exact wish_at (cons_at ret_at (cons_at (add_ch (takeM R s2 (fun _ => ret_at) digits_l _ h3)) (cons_at (lst_at nil_at (by simp)) nil_at)))
      · rw [if_neg (by simp [hq]), if_neg hq]
        cases h3 : pTake n NM "expected a name" b.2 with
        | error x => exact mk_xt (takeX R s2 (fun _ => names_at) names_l _ h3)
        | ok c => exact wish_at (cons_at ret_at (cons_at (add_ch (takeM R s2 (fun _ => names_at) names_l _ h3)) (cons_at (lst_at nil_at (by simp)) nil_at)))
theorem reads_ei {k : Nat} (R : Rd A) (h : Reads A n d (Fp.f_Reader_ground k) (pGr n k d)) : Reads A n d (Fp.f_Reader_either k) (pEi (pGr n k d)) :=
  reads_either R (reads_both R (reads_single R h) (gr_end k d)) (gr_end k d)
theorem reads_ground (R : Rd A) : ∀ (k d : Nat), 21 ≤ k + d → d ≤ 20 → Reads A n d (Fp.f_Reader_ground k) (pGr n k d)
  | 0, d, h1, h2 => by omega
  | k + 1, d, h1, h2 => fun S h => by
    refine leC_res (Fp.lk_Reader_ground (Fp.f_Reader_either k) (rdS A n d S)) ?_
    unfold Fp.g_Reader_ground
    have ht := is_at (n := n) (d := d) R h "(" 40 rfl (by decide)
    rw [ifC_at ht]
    cases S with
    | nil => exact atom_at R h
    | cons q r =>
      have h' : r <:+ A := (List.suffix_cons _ _).trans h
      show (if decide (q.1 = 40) = true then _ else _ : Ms C D) _ = _
      by_cases hq : q.1 = 40
      · rw [if_pos (decide_eq_true hq)]
        have e1 : pGr n (k + 1) d (q :: r) = (if d = 20 then .error (q.2, "this is too deep") else (pEi (pGr n k (d + 1)) r).bind fun x => (pTake n [41] "expected )" x.2).map fun y => (x.1, y.2)) := by
          conv => lhs; unfold pGr
          dsimp only
          rw [if_pos hq]
        rw [e1]
        have td : tsb (cmp dEq (fldS "Reader" "deep") (Fe.ret (.int 20))) (rdS A n d (q :: r)) = .ok (decide (d = 20)) (rdS A n d (q :: r)) := by
          refine tsb_at (cmp_at fld_deep ret_at ?_)
          rw [dEq_ints]
          congr 1
          rw [Bool.eq_iff_iff, beq_iff_eq, decide_eq_true_iff]
          omega
        by_cases hd : d = 20
        · rw [if_pos hd]
          refine bnd_xt (s' := dead) ?_
          rw [ifC_at td, if_pos (decide_eq_true hd)]
          exact bnd_xt (fail_at h _)
        · rw [if_neg hd]
          have t2 : (ifC (tsb (cmp dEq (fldS "Reader" "deep") (Fe.ret (.int 20)))) (bnd (clmS "Reader" "fail" Fp.f_Reader_fail (consA (Fe.ret (.str "this is too deep")) nilA)) fun _ => (Fe.ret ())) (Fe.ret ()) : Ms C Unit) (rdS A n d (q :: r)) = .ok () (rdS A n d (q :: r)) := by
            rw [ifC_at td, if_neg (by simp [hd])]; rfl
          have hc := call_at (reads_ei R (reads_ground R k (d + 1) (by omega) (by omega))) (m := "either") (by decide) h'
          rw [bnd_at t2, bnd_at (up_rd h), bnd_at (show faS "Reader" "deep" (Fe.ret (.int 1)) (rdS A n d r) = .ok () (rdS A n (d + 1) r) from deep_up)]
          cases hp : pEi (pGr n k (d + 1)) r with
          | error x => rw [hp] at hc; exact bnd_xt hc
          | ok x =>
            rw [hp] at hc
            have hs := (ei_end (gr_end k (d + 1)) r x hp).trans h'
            rw [bnd_at hc]
            show _ = resM A n d ((pTake n [41] "expected )" x.2).map fun y => (x.1, y.2))
            cases h3 : pTake n [41] "expected )" x.2 with
            | error z => exact bnd_xt (takeX R hs (fun _ => ret_at) (show (")" : Str).cps.toList = [41] by rfl) _ h3)
            | ok z =>
              rw [bnd_at (takeM R hs (fun _ => ret_at) (show (")" : Str).cps.toList = [41] by rfl) _ h3), bnd_at (show fsS "Reader" "deep" (Fe.ret (.int 1)) (rdS A n (d + 1) z.2) = .ok () (rdS A n d z.2) from deep_dn)]
              rfl
      · rw [if_neg (by simp [hq])]
        have e1 : pGr n (k + 1) d (q :: r) = pAtom n (q :: r) := by
          conv => lhs; unfold pGr
          dsimp only
          rw [if_neg hq]
        rw [e1]
        exact atom_at R h
/-! ### all of it -/
def pWh (n : Nat) (S : Sg) : Res := (pEi (pGr n 22 0) S).bind fun x => match x.2 with
  | [] => .ok x
  | q :: _ => .error (q.2, "expected the end")
theorem reads_whole (R : Rd A) : Reads A n 0 Fp.f_Reader_whole (pWh n) := fun S h => by
  refine leC_res (Fp.lk_Reader_whole (rdS A n 0 S)) ?_
  unfold Fp.g_Reader_whole pWh
  have hc := call_at (reads_ei R (reads_ground (n := n) R 22 0 (by omega) (by omega))) (m := "either") (by decide) h
  cases hp : pEi (pGr n 22 0) S with
  | error x => rw [hp] at hc; exact bnd_xt hc
  | ok x =>
    rw [hp] at hc
    have hs := (ei_end (gr_end 22 0) S x hp).trans h
    rw [bnd_at hc]
    show _ = resM A n 0 (match x.2 with | [] => .ok x | q :: _ => .error (q.2, "expected the end"))
    have hm := more_at (n := n) (d := 0) hs
    obtain ⟨t, S2⟩ := x
    cases S2 with
    | nil =>
      have t2 : (ifC (tsb (cmp dLt (fldS "Reader" "at") (op1 dLen (fldS "Reader" "signs")))) (bnd (clmS "Reader" "fail" Fp.f_Reader_fail (consA (Fe.ret (.str "expected the end")) nilA)) fun _ => (Fe.ret ())) (Fe.ret ()) : Ms C Unit) (rdS A n 0 []) = .ok () (rdS A n 0 []) := by
        rw [ifC_at hm]; rfl
      rw [bnd_at t2]
      rfl
    | cons q r =>
      refine bnd_xt (s' := dead) ?_
      rw [ifC_at hm]
      exact bnd_xt (fail_at hs _)
end Ty
end
section
set_option Elab.async false
set_option linter.all false
set_option maxRecDepth 100000
set_option maxHeartbeats 2000000
namespace Ty
open PySem (Str)
open Fe
/-- the signs that are no blanks -/
def sgA (l : List Nat) : Sg := l.zipIdx.filter fun q => !decide (q.1 = 32)
def okW (c : Nat) : Bool := decide (c ∈ [97, 98, 99, 100, 101, 102, 103, 104, 105, 106, 48, 49, 50, 51, 88, 89, 90, 64, 61, 126, 38, 124, 40, 41])
def allW : Str := ("abcdefghij" : Str) ++ ("0123" : Str) ++ ("XYZ" : Str) ++ ("@" : Str) ++ ("=" : Str) ++ ("~" : Str) ++ ("&" : Str) ++ ("|" : Str) ++ ("()" : Str)
theorem allW_l : allW.cps.toList = [97, 98, 99, 100, 101, 102, 103, 104, 105, 106, 48, 49, 50, 51, 88, 89, 90, 64, 61, 126, 38, 124, 40, 41] := by rfl
theorem allW_is {σ : Type} : (op2 dAdd (op2 dAdd (op2 dAdd (op2 dAdd (op2 dAdd (op2 dAdd (op2 dAdd (op2 dAdd (Fe.ret (.str "abcdefghij")) (Fe.ret (.str "0123"))) (Fe.ret (.str "XYZ"))) (Fe.ret (.str "@"))) (Fe.ret (.str "="))) (Fe.ret (.str "~"))) (Fe.ret (.str "&"))) (Fe.ret (.str "|"))) (Fe.ret (.str "()")) : Ms σ D) = Fe.ret (.str allW) := by rfl
theorem ne_chS {σ : Type} (c : Nat) (hc : c < 1114112) : (tsb (cmp dNe (Fe.ret (ch c)) (Fe.ret (.str " "))) : Ms σ Bool) = Fe.ret (!decide (c = 32)) := by
  have e : dNe (ch c) (.str " ") = some (!decide (c = 32)) := by
    unfold dNe
    rw [show (D.str " ") = ch 32 from rfl, eq_ch c 32 hc (by decide)]; rfl
  rw [cmp_ret, e]; rfl
theorem signs_lc {σ : Type} (l : List Nat) (hl : l.length ≤ 1000) (hx : ∀ c ∈ l, c < 1114112) : (lcP (itmES (Fe.ret (tx l))) (fun w => un2 w fun v_at v_own => (itP (tsb (cmp dNe (Fe.ret v_own) (Fe.ret (.str " ")))) (tupE (consA (Fe.ret v_own) (consA (Fe.ret v_at) nilA))))) : Ms σ D) = Fe.ret (.lst ((sgA l).map eG)) := by
  have e0 : (itmES (Fe.ret (tx l)) : Ms σ (List D)) = Fe.ret (l.zipIdx.map eA) := by
    unfold itmES
    rw [bnd_ret]
    unfold dEnumS
    dsimp only
    rw [List.zipIdx_map, List.map_map]
    rfl
  rw [e0]
  exact lc_filter' (σ := σ) (enc := eA) (f := fun w => un2 w fun v_at v_own => (itP (tsb (cmp dNe (Fe.ret v_own) (Fe.ret (.str " ")))) (tupE (consA (Fe.ret v_own) (consA (Fe.ret v_at) nilA))))) (p := fun q => !decide (q.1 = 32)) (h := eG) (l := l.zipIdx) (fun q hq => by
    rw [un2_tup, itP_ret (ne_chS q.1 (hx _ (List.fst_mem_of_mem_zipIdx hq))) (show (tupE (consA (Fe.ret (ch q.1)) (consA (Fe.ret (.int (q.2 : Nat))) nilA)) : Ms σ D) = Fe.ret (eG q) from rfl)]) (le_lim (by rw [List.length_zipIdx]; omega))
/-- the first sign that cannot stand -/
def badSg (S : Sg) : Option Nat := (S.find? fun q => !okW q.1).map Prod.snd
theorem chk_loop : ∀ (S : Sg), (forN (τ := Unit) (fun w t1 => un2 w fun v_own v_place => (ifC (tsb (cmp dNotInT (Fe.ret v_own) (op2 dAdd (op2 dAdd (op2 dAdd (op2 dAdd (op2 dAdd (op2 dAdd (op2 dAdd (op2 dAdd (Fe.ret (.str "abcdefghij")) (Fe.ret (.str "0123"))) (Fe.ret (.str "XYZ"))) (Fe.ret (.str "@"))) (Fe.ret (.str "="))) (Fe.ret (.str "~"))) (Fe.ret (.str "&"))) (Fe.ret (.str "|"))) (Fe.ret (.str "()"))))) (rse "Flaw" ["place", "message"] (consA (Fe.ret v_place) (consA (Fe.ret (.str "this sign cannot stand here")) nilA)))
    (Fe.ret ()))) (S.map eG) () : Ms C Unit) = match badSg S with
      | some p => raise (flw p "this sign cannot stand here")
      | none => Fe.ret ()
  | [] => rfl
  | q :: S => by
    rw [List.map_cons]
    unfold forN
    rw [un2_tup, allW_is, cmp_ret, nin_ch, allW_l]
    have e : badSg (q :: S) = if okW q.1 = true then badSg S else some q.2 := by
      unfold badSg
      rw [List.find?_cons]
      cases okW q.1 <;> rfl
    rw [e]
    cases ho : okW q.1 with
    | true =>
      have ho' := ho
      unfold okW at ho'
      rw [ho', if_pos rfl]
      exact chk_loop S
    | false =>
      have ho' := ho
      unfold okW at ho'
      rw [ho', if_neg Bool.false_ne_true]
      rfl
theorem len_txS {σ : Type} (l : List Nat) (h : l.length ≤ 10000) : (op1 dLen (Fe.ret (tx l)) : Ms σ D) = Fe.ret (.int l.length) := by
  have : dLen (tx l) = some (.int l.length) := by
    show (if (⟨l.toArray⟩ : Str).length ≤ lim then some (D.int (⟨l.toArray⟩ : Str).length) else none) = _
    have e : (⟨l.toArray⟩ : Str).length = l.length := List.size_toArray ..
    rw [e, if_pos (by have : lim = 16777216 := rfl; omega)]
  rw [op1_ret, this]; rfl
theorem f_init (l : List Nat) (hl : l.length ≤ 1000) (hx : ∀ c ∈ l, c < 1114112) : Fp.f_Reader_init (.ob "Reader" [] []) [tx l] = match badSg (sgA l) with
    | some p => .ex (flw p "this sign cannot stand here")
    | none => .ok .non (rdC (sgA l) l.length 0 0) := by
  have key : Fp.g_Reader_init (tx l) (.ob "Reader" [] []) = match badSg (sgA l) with
      | some p => .ex (flw p "this sign cannot stand here") (rdC (sgA l) l.length 0 0)
      | none => .ok .non (rdC (sgA l) l.length 0 0) := by
    unfold Fp.g_Reader_init
    rw [signs_lc l hl hx, len_txS l (by omega)]
    have e1 : fdS "Reader" "signs" (Fe.ret (.lst ((sgA l).map eG))) (.ob "Reader" [] []) = .ok () (.ob "Reader" ["signs"] [.p (.lst ((sgA l).map eG))]) := by rfl
    have e2 : fdS "Reader" "size" (Fe.ret (.int (l.length : Nat))) (.ob "Reader" ["signs"] [.p (.lst ((sgA l).map eG))]) = .ok () (.ob "Reader" ["signs", "size"] [.p (.lst ((sgA l).map eG)), .p (.int (l.length : Nat))]) := by rfl
    have e3 : fdS "Reader" "at" (Fe.ret (.int 0)) (.ob "Reader" ["signs", "size"] [.p (.lst ((sgA l).map eG)), .p (.int (l.length : Nat))]) = .ok () (.ob "Reader" ["signs", "size", "at"] [.p (.lst ((sgA l).map eG)), .p (.int (l.length : Nat)), .p (.int 0)]) := by rfl
    have e4 : fdS "Reader" "deep" (Fe.ret (.int 0)) (.ob "Reader" ["signs", "size", "at"] [.p (.lst ((sgA l).map eG)), .p (.int (l.length : Nat)), .p (.int 0)]) = .ok () (rdC (sgA l) l.length 0 0) := by rfl
    rw [bnd_at e1, bnd_at e2, bnd_at e3, bnd_at e4]
    have e5 : itmA (fldS "Reader" "signs") (rdC (sgA l) l.length 0 0) = .ok ((sgA l).map eG) (rdC (sgA l) l.length 0 0) := by
      unfold itmA
      rw [bnd_at fld_signs]; rfl
    rw [bnd_at e5, chk_loop]
    cases badSg (sgA l) <;> rfl
  cases hb : badSg (sgA l) with
  | some p => rw [hb] at key; exact LeC.ex (Fp.lk_Reader_init (tx l) _) key
  | none => rw [hb] at key; exact LeC.ok (Fp.lk_Reader_init (tx l) _) key own_rd
/-- what a text tells: a wish, or its first flaw -/
def readW (l : List Nat) : Except (Int × Str) Wt := match badSg (sgA l) with
  | some p => .error (p, "this sign cannot stand here")
  | none => (pWh l.length (sgA l)).map Prod.fst
theorem sgA_rd (l : List Nat) (hl : l.length ≤ 1000) (hx : ∀ c ∈ l, c < 1114112) : Rd (sgA l) where
  len := Nat.le_trans (List.length_filter_le _ _) (by rw [List.length_zipIdx]; exact hl)
  cp := fun q hq => hx _ (List.fst_mem_of_mem_zipIdx (List.mem_filter.mp hq).1)
theorem tmp_read {σ : Type} (l : List Nat) (hl : l.length ≤ 1000) (hx : ∀ c ∈ l, c < 1114112) : (tmpC "Reader" "whole" Fp.f_Reader_init Fp.f_Reader_whole (consA (Fe.ret (tx l)) nilA) : Ms σ D) = match readW l with
    | .ok t => Fe.ret (eWi t)
    | .error x => raise (flw x.1 x.2) := by
  unfold tmpC readW
  rw [nil_ret, cons_ret, bnd_ret, f_init l hl hx]
  cases hb : badSg (sgA l) with
  | some p => rfl
  | none =>
    have hr := reads_whole (n := l.length) (sgA_rd l hl hx) (sgA l) (List.suffix_refl _)
    rw [show rdS (sgA l) l.length 0 (sgA l) = rdC (sgA l) l.length 0 0 from by show rdC _ _ ((sgA l).length - (sgA l).length) 0 = _; rw [Nat.sub_self]] at hr
    dsimp only
    have e : rdC (sgA l) l.length 0 0 = .ob "Reader" ["signs", "size", "at", "deep"] [.p (.lst ((sgA l).map eG)), .p (.int l.length), .p (.int (0 : Nat)), .p (.int (0 : Nat))] := rfl
    rw [e] at hr ⊢
    dsimp only
    rw [if_pos ⟨rfl, by decide⟩, hr]
    cases pWh l.length (sgA l) with
    | ok x => rfl
    | error x => rfl
/-! flaws -/
theorem f_need_textW (l : List Nat) (hl : l.length ≤ 200) : Fp.f_need_text [tx l] = .ok .non := Fp.ok_need_text (by
  unfold Fp.g_need_text
  have e1 : (cmp1 (dIsi "str") (Fe.ret (tx l)) : Ms Unit D) = Fe.ret (.bl true) := rfl
  have e2 : (cmp dLe (op1 dLen (Fe.ret (tx l))) (Fe.ret (.int 200)) : Ms Unit D) = Fe.ret (.bl true) := by
    rw [len_txS l (by omega), cmp_ret]
    show Fe.ret (D.bl (decide ((l.length : Int) ≤ 200))) = _
    rw [decide_eq_true (by omega)]
  rw [e1, e2]
  have e : (cl Fp.f_need (consA (Fe.ret (.bl true)) (consA (Fe.ret (.str "text")) nilA)) : Ms Unit D) = Fe.ret .non := cl_ok (f_need_ok _)
  show bnd (cl Fp.f_need (consA (Fe.ret (.bl true)) (consA (Fe.ret (.str "text")) nilA))) _ = _
  rw [e, bnd_ret])
def flawWD (l : List Nat) : D := match readW l with
  | .ok _ => .non
  | .error x => .tup [.int x.1, .str x.2]
theorem f_flaw (l : List Nat) (hl : l.length ≤ 200) (hx : ∀ c ∈ l, c < 1114112) : Fp.f_flaw [tx l] = .ok (flawWD l) := Fp.ok_flaw (by
  unfold Fp.g_flaw
  have e : (cl Fp.f_need_text (consA (Fe.ret (tx l)) nilA) : Ms Unit D) = Fe.ret .non := cl_ok (f_need_textW l hl)
  rw [e, bnd_ret, tmp_read l (by omega) hx]
  unfold flawWD
  cases readW l <;> rfl)
end Ty
end
section
set_option Elab.async false
set_option linter.all false
set_option maxRecDepth 100000
set_option maxHeartbeats 2000000
namespace Ty
open PySem (Str)
open Fe
def plT : Wt → Nat → List Nat
  | .at n p, _ => [n, 64, p]
  | .same n m, _ => [n, 61, m]
  | .neg t, _ => 126 :: plT t 2
  | .bin true s t, lev => if 1 < lev then 40 :: (plT s 1 ++ 38 :: plT t 2) ++ [41] else plT s 1 ++ 38 :: plT t 2
  | .bin false s t, lev => if 0 < lev then 40 :: (plT s 0 ++ 124 :: plT t 1) ++ [41] else plT s 0 ++ 124 :: plT t 1
def dpt : Wt → Nat
  | .at _ _ => 0
  | .same _ _ => 0
  | .neg t => dpt t + 1
  | .bin _ s t => max (dpt s) (dpt t) + 1
/-- the greatest length -/
def big (k : Nat) : Nat := 17 * 2 ^ k
theorem big_up {i j : Nat} (h : i ≤ j) : big i ≤ big j := Nat.mul_le_mul_left _ (Nat.pow_le_pow_right (by decide) h)
theorem big_succ (k : Nat) : big (k + 1) = big k + big k := by unfold big; rw [Nat.pow_succ]; omega
theorem big_pos (k : Nat) : 17 ≤ big k := by
  unfold big
  have : 1 ≤ 2 ^ k := Nat.one_le_two_pow
  omega
theorem plT_len : ∀ (t : Wt) (lev : Nat), (plT t lev).length + 8 ≤ big (dpt t)
  | .at _ _, _ => by unfold plT dpt big; simp
  | .same _ _, _ => by unfold plT dpt big; simp
  | .neg t, _ => by
    have h := plT_len t 2
    have := big_pos (dpt t)
    unfold plT dpt
    rw [big_succ]
    simp; omega
  | .bin b s t, lev => by
    have hs := big_up (Nat.le_max_left (dpt s) (dpt t))
    have ht := big_up (Nat.le_max_right (dpt s) (dpt t))
    cases b with
    | true =>
      have h1 := plT_len s 1
      have h2 := plT_len t 2
      unfold plT dpt
      rw [big_succ]
      split <;> simp <;> omega
    | false =>
      have h1 := plT_len s 0
      have h2 := plT_len t 1
      unfold plT dpt
      rw [big_succ]
      split <;> simp <;> omega
section
variable {f : Str} {nm : D} {inner : List D}
theorem form_is : (op1 (dFld "Wish" "form") (Fe.ret (wiD f nm inner)) : Ms Unit D) = Fe.ret (.str f) := by rfl
theorem names_is : (op1 (dFld "Wish" "names") (Fe.ret (wiD f nm inner)) : Ms Unit D) = Fe.ret nm := by rfl
theorem inner_is : (op1 (dFld "Wish" "inner") (Fe.ret (wiD f nm inner)) : Ms Unit D) = Fe.ret (.lst inner) := by rfl
end
theorem in_forms {σ : Type} (c : Nat) (hc : c < 1114112) : (tsb (cmp dInA (Fe.ret (ch c)) (tupE (consA (Fe.ret (.str "@")) (consA (Fe.ret (.str "=")) nilA)))) : Ms σ Bool) = Fe.ret (decide (c = 64) || decide (c = 61)) := by
  have e : dInA (ch c) (.tup [ch 64, ch 61]) = some (decide (c = 64) || decide (c = 61)) := by
    show dIn (ch c) (.tup [ch 64, ch 61]) = _
    unfold dIn
    dsimp only
    have hl : lays [ch 64, ch 61] = true := by
      show (lay (ch 64) && (lay (ch 61) && true)) = true
      rw [lay_ch (by decide), lay_ch (by decide)]; rfl
    rw [if_pos ⟨Nat.zero_le _, by decide, lay_ch hc, hl⟩]
    have ev : ∀ a : Nat, eqv (ch a) (ch c) = decide (c = a) := fun a => by
      show decide ((⟨#[a]⟩ : Str) = ⟨#[c]⟩) = _
      by_cases h : c = a
      · subst h; simp
      · have : (⟨#[a]⟩ : Str) ≠ ⟨#[c]⟩ := fun z => h (by injection z with z; injection z with z; injection z with z; exact z.symm)
        rw [decide_eq_false this, decide_eq_false h]
    simp only [List.any_cons, List.any_nil, ev, Bool.or_false]
  show (tsb (cmp dInA (Fe.ret (ch c)) (Fe.ret (.tup [ch 64, ch 61]))) : Ms σ Bool) = _
  rw [cmp_ret, e]; rfl
theorem in_formsX {σ : Type} (x : D) (c : Nat) (hx : x = ch c) (hc : c < 1114112) : (tsb (cmp dInA (Fe.ret x) (tupE (consA (Fe.ret (.str "@")) (consA (Fe.ret (.str "=")) nilA)))) : Ms σ Bool) = Fe.ret (decide (c = 64) || decide (c = 61)) := by
  subst hx; exact in_forms c hc
theorem eq_formX {σ : Type} (x y : D) (c e : Nat) (hx : x = ch c) (hy : y = ch e) (hc : c < 1114112) (he : e < 1114112) : (tsb (cmp dEq (Fe.ret x) (Fe.ret y)) : Ms σ Bool) = Fe.ret (decide (c = e)) := by
  subst hx; subst hy
  rw [cmp_ret, eq_ch c e hc he]; rfl
theorem ixT_0 (a b : Nat) : (op2 dIxT (Fe.ret (tx [a, b])) (Fe.ret (.int 0)) : Ms Unit D) = Fe.ret (tx [a]) := by rfl
theorem ixT_1 (a b : Nat) : (op2 dIxT (Fe.ret (tx [a, b])) (Fe.ret (.int 1)) : Ms Unit D) = Fe.ret (tx [b]) := by rfl
theorem plT_and (s t : Wt) (lev : Nat) : plT (.bin true s t) lev = if 1 < lev then 40 :: (plT s 1 ++ 38 :: plT t 2) ++ [41] else plT s 1 ++ 38 :: plT t 2 := rfl
theorem plT_or (s t : Wt) (lev : Nat) : plT (.bin false s t) lev = if 0 < lev then 40 :: (plT s 0 ++ 124 :: plT t 1) ++ [41] else plT s 0 ++ 124 :: plT t 1 := rfl
theorem midX {σ : Type} (z : D) (c : Nat) (hz : z = ch c) (x y : List Nat) (hx : x.length ≤ 8704) (hy : y.length ≤ 8704) : (op2 dAdd (op2 dAdd (Fe.ret (tx x)) (Fe.ret z)) (Fe.ret (tx y)) : Ms σ D) = Fe.ret (tx (x ++ c :: y)) := by
  subst hz
  show op2 dAdd (op2 dAdd (Fe.ret (tx x)) (Fe.ret (tx [c]))) (Fe.ret (tx y)) = _
  rw [add_tx _ _ (by simp; omega), add_tx _ _ (by simp; omega), List.append_assoc]
  rfl
theorem f_written : ∀ (k : Nat) (t : Wt) (lev : Nat), dpt t < k → dpt t ≤ 9 → lev ≤ 3 → Fp.f_written k [eWi t, .int lev] = .ok (tx (plT t lev))
  | 0, t, lev, h, _, _ => by omega
  | k + 1, .at a b, lev, h, _, _ => by
    refine LeF.ok (s := ()) (Fp.lk_written (Fp.f_written k) (eWi (.at a b)) (.int lev)) ?_
    unfold Fp.g_written eWi
    rw [form_is, names_is, in_formsX (.str "@") 64 rfl (by decide), ifC_ret, ixT_0, ixT_1]
    show op2 dAdd (op2 dAdd (Fe.ret (tx [a])) (Fe.ret (tx [64]))) (Fe.ret (tx [b])) = _
    rw [add_tx _ _ (by simp), add_tx _ _ (by simp)]
    rfl
  | k + 1, .same a b, lev, h, _, _ => by
    refine LeF.ok (s := ()) (Fp.lk_written (Fp.f_written k) (eWi (.same a b)) (.int lev)) ?_
    unfold Fp.g_written eWi
    rw [form_is, names_is, in_formsX (.str "=") 61 rfl (by decide), ifC_ret, ixT_0, ixT_1]
    show op2 dAdd (op2 dAdd (Fe.ret (tx [a])) (Fe.ret (tx [61]))) (Fe.ret (tx [b])) = _
    rw [add_tx _ _ (by simp), add_tx _ _ (by simp)]
    rfl
  | k + 1, .neg t, lev, h, h9, _ => by
    have hd : dpt t < k := by unfold dpt at h; omega
    have hd9 : dpt t ≤ 9 := by unfold dpt at h9; omega
    have hb := plT_len t 2
    have hbb := big_up hd9
    have hbc : big 9 = 8704 := rfl
    refine LeF.ok (s := ()) (Fp.lk_written (Fp.f_written k) (eWi (.neg t)) (.int lev)) ?_
    unfold Fp.g_written
    rw [show eWi (.neg t) = wiD "~" (.str "") [eWi t] from rfl, form_is, inner_is, in_formsX (.str "~") 126 rfl (by decide), ifC_ret, if_neg (by decide), eq_formX (.str "~") (.str "~") 126 126 rfl rfl (by decide) (by decide), ifC_ret, if_pos (by decide)]
    have e0 : (op2 dIxA (Fe.ret (.lst [eWi t])) (Fe.ret (.int 0)) : Ms Unit D) = Fe.ret (eWi t) := rfl
    have e1 : (cl (Fp.f_written k) (consA (Fe.ret (eWi t)) (consA (Fe.ret (.int 2)) nilA)) : Ms Unit D) = Fe.ret (tx (plT t 2)) := cl_ok (f_written k t 2 hd hd9 (by decide))
    rw [e0, e1]
    show op2 dAdd (Fe.ret (tx [126])) (Fe.ret (tx (plT t 2))) = _
    rw [add_tx _ _ (by simp; omega)]
    rfl
  | k + 1, .bin b s t, lev, h, h9, hlev => by
    have h1 : dpt s < k ∧ dpt t < k := by unfold dpt at h; omega
    have h2 : dpt s ≤ 9 ∧ dpt t ≤ 9 := by unfold dpt at h9; omega
    have hbc : big 9 = 8704 := rfl
    have hbs : ∀ l, (plT s l).length ≤ 8704 := fun l => by have := plT_len s l; have := big_up h2.1; omega
    have hbt : ∀ l, (plT t l).length ≤ 8704 := fun l => by have := plT_len t l; have := big_up h2.2; omega
    refine LeF.ok (s := ()) (Fp.lk_written (Fp.f_written k) (eWi (.bin b s t)) (.int lev)) ?_
    unfold Fp.g_written
    have e0 : (op2 dIxA (Fe.ret (.lst [eWi s, eWi t])) (Fe.ret (.int 0)) : Ms Unit D) = Fe.ret (eWi s) := rfl
    have e1 : (op2 dIxA (Fe.ret (.lst [eWi s, eWi t])) (Fe.ret (.int 1)) : Ms Unit D) = Fe.ret (eWi t) := rfl
    have es : ∀ l : Nat, l ≤ 2 → (cl (Fp.f_written k) (consA (Fe.ret (eWi s)) (consA (Fe.ret (.int l)) nilA)) : Ms Unit D) = Fe.ret (tx (plT s l)) := fun l hl => cl_ok (f_written k s l h1.1 h2.1 (by omega))
    have et : ∀ l : Nat, l ≤ 2 → (cl (Fp.f_written k) (consA (Fe.ret (eWi t)) (consA (Fe.ret (.int l)) nilA)) : Ms Unit D) = Fe.ret (tx (plT t l)) := fun l hl => cl_ok (f_written k t l h1.2 h2.2 (by omega))
    have par : ∀ x : List Nat, x.length ≤ 20000 → (op2 dAdd (op2 dAdd (Fe.ret (.str "(")) (Fe.ret (tx x))) (Fe.ret (.str ")")) : Ms Unit D) = Fe.ret (tx (40 :: x ++ [41])) := fun x hx => by
      show op2 dAdd (op2 dAdd (Fe.ret (tx [40])) (Fe.ret (tx x))) (Fe.ret (tx [41])) = _
      rw [add_tx _ _ (by simp; omega), add_tx _ _ (by simp; omega)]
      rfl
    cases b with
    | true =>
      rw [show eWi (.bin true s t) = wiD "&" (.str "") [eWi s, eWi t] from rfl, form_is, inner_is, in_formsX (.str "&") 38 rfl (by decide), ifC_ret, if_neg (by decide)]
      rw [eq_formX (.str "&") (.str "~") 38 126 rfl rfl (by decide) (by decide), ifC_ret, if_neg (by decide), eq_formX (.str "&") (.str "|") 38 124 rfl rfl (by decide) (by decide), e0, e1]
      have eo : (ifE (Fe.ret (decide (38 = 124))) (Fe.ret (.int 0)) (Fe.ret (.int 1)) : Ms Unit D) = Fe.ret (.int 1) := rfl
      have ea : (op2 dAdd (Fe.ret (.int 1)) (Fe.ret (.int 1)) : Ms Unit D) = Fe.ret (.int (2 : Nat)) := rfl
      have es1 := es 1 (by decide)
      have et2 := et 2 (by decide)
      rw [eo, bnd_ret, ea, et2, show (.int 1 : D) = .int ((1 : Nat) : Int) from rfl, es1, midX (.str "&") 38 rfl _ _ (hbs 1) (hbt 2), bnd_ret]
      have tl : (tsb (cmp dLt (Fe.ret (.int ((1 : Nat) : Int))) (Fe.ret (.int (lev : Int)))) : Ms Unit Bool) = Fe.ret (decide (1 < lev)) := by
        rw [cmp_ret, dLt_ints]
        show Fe.ret (decide (((1 : Nat) : Int) < (lev : Int))) = _
        congr 1
        rw [decide_eq_decide]; omega
      unfold ifE
      rw [tl, bnd_ret, plT_and]
      by_cases hl : 1 < lev
      · rw [if_pos (decide_eq_true hl), if_pos hl]
        exact par _ (by have := hbs 1; have := hbt 2; simp; omega)
      · rw [if_neg (by simp [hl]), if_neg hl]
    | false =>
      rw [show eWi (.bin false s t) = wiD "|" (.str "") [eWi s, eWi t] from rfl, form_is, inner_is, in_formsX (.str "|") 124 rfl (by decide), ifC_ret, if_neg (by decide)]
      rw [eq_formX (.str "|") (.str "~") 124 126 rfl rfl (by decide) (by decide), ifC_ret, if_neg (by decide), eq_formX (.str "|") (.str "|") 124 124 rfl rfl (by decide) (by decide), e0, e1]
      have eo : (ifE (Fe.ret (decide (124 = 124))) (Fe.ret (.int 0)) (Fe.ret (.int 1)) : Ms Unit D) = Fe.ret (.int (0 : Nat)) := rfl
      have ea : (op2 dAdd (Fe.ret (.int (0 : Nat))) (Fe.ret (.int 1)) : Ms Unit D) = Fe.ret (.int (1 : Nat)) := rfl
      have es1 := es 0 (by decide)
      have et2 := et 1 (by decide)
      rw [eo, bnd_ret, ea, et2, es1, midX (.str "|") 124 rfl _ _ (hbs 0) (hbt 1), bnd_ret]
      have tl : (tsb (cmp dLt (Fe.ret (.int ((0 : Nat) : Int))) (Fe.ret (.int (lev : Int)))) : Ms Unit Bool) = Fe.ret (decide (0 < lev)) := by
        rw [cmp_ret, dLt_ints]
        show Fe.ret (decide (((0 : Nat) : Int) < (lev : Int))) = _
        congr 1
        rw [decide_eq_decide]; omega
      unfold ifE
      rw [tl, bnd_ret, plT_or]
      by_cases hl : 0 < lev
      · rw [if_pos (decide_eq_true hl), if_pos hl]
        exact par _ (by have := hbs 0; have := hbt 1; simp; omega)
      · rw [if_neg (by simp [hl]), if_neg hl]
theorem f_plain {l : List Nat} {t : Wt} (hl : l.length ≤ 200) (hx : ∀ c ∈ l, c < 1114112) (hr : readW l = .ok t) (hd : dpt t ≤ 7) : Fp.f_plain_text [tx l] = .ok (tx (plT t 0)) := Fp.ok_plain_text (by
  unfold Fp.g_plain_text
  have e : (cl Fp.f_need_text (consA (Fe.ret (tx l)) nilA) : Ms Unit D) = Fe.ret .non := cl_ok (f_need_textW l hl)
  have e2 : (cl Fp.f_flaw (consA (Fe.ret (tx l)) nilA) : Ms Unit D) = Fe.ret .non := cl_ok (by rw [f_flaw l hl hx]; unfold flawWD; rw [hr])
  have e3 := tmp_read (σ := Unit) l (by omega) hx
  rw [hr] at e3
  rw [e, bnd_ret, e2, e3]
  have e4 : (cl (Fp.f_written 8) (consA (Fe.ret (eWi t)) (consA (Fe.ret (.int 0)) nilA)) : Ms Unit D) = Fe.ret (tx (plT t 0)) := cl_ok (f_written 8 t 0 (by omega) (by omega) (by decide))
  exact e4)
end Ty
end
section
set_option Elab.async false
set_option linter.all false
set_option maxRecDepth 100000
set_option maxHeartbeats 2000000
namespace Ty
open PySem (Str)
open Fe
/-- signs that tell a wish, where the level asks for no parentheses -/
inductive WS : Nat → Nat → Wt → Sg → Prop
  | at (lev h : Nat) (a b c : Nat × Nat) : a.1 ∈ NM → b.1 = 64 → c.1 ∈ DG → WS lev h (.at a.1 c.1) [a, b, c]
  | same (lev h : Nat) (a b c : Nat × Nat) : a.1 ∈ NM → b.1 = 61 → c.1 ∈ NM → WS lev h (.same a.1 c.1) [a, b, c]
  | neg (lev h : Nat) (q : Nat × Nat) (t : Wt) (S : Sg) : lev ≤ 2 → q.1 = 126 → WS 2 h t S → WS lev h (.neg t) (q :: S)
  | and (lev h : Nat) (q : Nat × Nat) (s t : Wt) (S T : Sg) : lev ≤ 1 → q.1 = 38 → WS 1 h s S → WS 2 h t T → WS lev h (.bin true s t) (S ++ q :: T)
  | or (lev h : Nat) (q : Nat × Nat) (s t : Wt) (S T : Sg) : lev = 0 → q.1 = 124 → WS 0 h s S → WS 1 h t T → WS lev h (.bin false s t) (S ++ q :: T)
  | par (lev h : Nat) (q r : Nat × Nat) (t : Wt) (S : Sg) : q.1 = 40 → r.1 = 41 → WS 0 h t S → WS lev (h + 1) t (q :: (S ++ [r]))
theorem WS.up {lev h h' : Nat} {t : Wt} {S : Sg} (w : WS lev h t S) (hh : h ≤ h') : WS lev h' t S := by
  induction w generalizing h' with
  | «at» lev h a b c h1 h2 h3 => exact .at _ _ _ _ _ h1 h2 h3
  | same lev h a b c h1 h2 h3 => exact .same _ _ _ _ _ h1 h2 h3
  | neg lev h q t S h1 h2 h3 ih => exact .neg _ _ _ _ _ h1 h2 (ih hh)
  | and lev h q s t S T h1 h2 h3 h4 i1 i2 => exact .and _ _ _ _ _ _ _ h1 h2 (i1 hh) (i2 hh)
  | or lev h q s t S T h1 h2 h3 h4 i1 i2 => exact .or _ _ _ _ _ _ _ h1 h2 (i1 hh) (i2 hh)
  | par lev h q r t S h1 h2 h3 ih =>
    obtain ⟨g, rfl⟩ : ∃ g, h' = g + 1 := ⟨h' - 1, by omega⟩
    exact .par _ _ _ _ _ _ h1 h2 (ih (by omega))
/-! ### fuel -/
theorem loop_fuel {c : Nat} {p : Sg → Res} {b : Bool} (e : Ends p) : ∀ (f g : Nat) (t : Wt) (S : Sg), S.length ≤ f → S.length ≤ g → loopP c p b f t S = loopP c p b g t S
  | 0, 0, t, S, _, _ => rfl
  | 0, g + 1, t, S, hf, _ => by
    have : S = [] := List.eq_nil_of_length_eq_zero (Nat.le_zero.mp hf)
    subst this; rfl
  | f + 1, 0, t, S, _, hg => by
    have : S = [] := List.eq_nil_of_length_eq_zero (Nat.le_zero.mp hg)
    subst this; rfl
  | f + 1, g + 1, t, [], _, _ => rfl
  | f + 1, g + 1, t, q :: r, hf, hg => by
    unfold loopP
    by_cases hq : q.1 = c
    · rw [if_pos hq, if_pos hq]
      cases hp : p r with
      | error x => rfl
      | ok x =>
        have hl := (e _ _ hp).length_le
        simp at hf hg
        exact loop_fuel e f g _ _ (by omega) (by omega)
    · rw [if_neg hq, if_neg hq]
theorem loop_stop {c : Nat} {p : Sg → Res} {b : Bool} (f : Nat) (t : Wt) (S : Sg) (h : ∀ q r, S = q :: r → q.1 ≠ c) : loopP c p b f t S = .ok (t, S) := by
  cases f with
  | zero => rfl
  | succ f =>
    cases S with
    | nil => rfl
    | cons q r =>
      unfold loopP
      rw [if_neg (h q r rfl)]
/-! ### the claims -/
def noH (c : Nat) (S : Sg) : Prop := ∀ q r, S = q :: r → q.1 ≠ c
def C3 (pg : Sg → Res) (t : Wt) (S : Sg) : Prop := ∀ U, noH 126 (S ++ U) ∧ pg (S ++ U) = .ok (t, U)
def C2 (pg : Sg → Res) (t : Wt) (S : Sg) : Prop := ∀ U, pSg pg (S ++ U) = .ok (t, U)
def C1 (pg : Sg → Res) (t : Wt) (S : Sg) : Prop := ∀ U, pBo pg (S ++ U) = loopP 38 (pSg pg) true U.length t U
def C0 (pg : Sg → Res) (t : Wt) (S : Sg) : Prop := ∀ U, noH 38 U → pEi pg (S ++ U) = loopP 124 (pBo pg) false U.length t U
theorem C3.dn {pg : Sg → Res} {t : Wt} {S : Sg} (c : C3 pg t S) : C2 pg t S := fun U => by
  obtain ⟨h1, h2⟩ := c U
  have e : nots (S ++ U) = (0, S ++ U) := by
    cases hS : S ++ U with
    | nil => rfl
    | cons q r =>
      unfold nots
      rw [if_neg (h1 q r hS)]
  unfold pSg
  rw [e, h2]
  rfl
theorem C2.dn {pg : Sg → Res} {t : Wt} {S : Sg} (c : C2 pg t S) : C1 pg t S := fun U => by
  unfold pBo
  rw [c U]
  rfl
theorem C1.dn {pg : Sg → Res} {t : Wt} {S : Sg} (c : C1 pg t S) : C0 pg t S := fun U hU => by
  unfold pEi
  rw [c U, loop_stop _ _ _ hU]
  rfl
def Cl (pg : Sg → Res) (lev : Nat) (t : Wt) (S : Sg) : Prop := match lev with
  | 0 => C0 pg t S
  | 1 => C1 pg t S
  | 2 => C2 pg t S
  | _ => C3 pg t S
theorem Cl.of3 {pg : Sg → Res} {lev : Nat} {t : Wt} {S : Sg} (c : C3 pg t S) : Cl pg lev t S := match lev with
  | 0 => c.dn.dn.dn
  | 1 => c.dn.dn
  | 2 => c.dn
  | _ + 3 => c
theorem Cl.of2 {pg : Sg → Res} {lev : Nat} {t : Wt} {S : Sg} (hl : lev ≤ 2) (c : C2 pg t S) : Cl pg lev t S := match lev with
  | 0 => c.dn.dn
  | 1 => c.dn
  | 2 => c
  | _ + 3 => by omega
theorem Cl.of1 {pg : Sg → Res} {lev : Nat} {t : Wt} {S : Sg} (hl : lev ≤ 1) (c : C1 pg t S) : Cl pg lev t S := match lev with
  | 0 => c.dn
  | 1 => c
  | _ + 2 => by omega
theorem take_cons {n : Nat} {cs : List Nat} {msg : Str} {q : Nat × Nat} {U : Sg} (h : q.1 ∈ cs) : pTake n cs msg (q :: U) = .ok (q.1, U) := by
  show (if q.1 ∈ cs then Except.ok (q.1, U) else _) = _
  rw [if_pos h]
theorem NM_no {c : Nat} (h : c ∈ NM) : c ≠ 126 ∧ c ≠ 40 := by
  have : ∀ x ∈ NM, x ≠ 126 ∧ x ≠ 40 := by decide
  exact this c h
theorem pg_atom {n k d : Nat} {q : Nat × Nat} {r : Sg} (h : q.1 ∈ NM) : pGr n (k + 1) d (q :: r) = pAtom n (q :: r) := by
  conv => lhs; unfold pGr
  dsimp only
  rw [if_neg (NM_no h).2]
theorem WS.reads {n : Nat} {lev h : Nat} {t : Wt} {S : Sg} (w : WS lev h t S) : ∀ k d, k + d = 22 → h + d ≤ 20 → Cl (pGr n k d) lev t S := by
  induction w with
  | «at» lev h a b c h1 h2 h3 =>
    intro k d hk hd
    obtain ⟨k, rfl⟩ : ∃ g, k = g + 1 := ⟨k - 1, by omega⟩
    refine Cl.of3 fun U => ⟨fun q r e => ?_, ?_⟩
    · injection e with e1 e2
      subst e1; exact (NM_no h1).1
    · show pGr n (k + 1) d (a :: b :: c :: U) = _
      rw [pg_atom h1]
      unfold pAtom
      rw [take_cons h1]
      show (pTake n [64, 61] "expected @ or =" (b :: c :: U)).bind _ = _
      rw [take_cons (by rw [h2]; decide)]
      show (if b.1 = 64 then _ else _ : Res) = _
      rw [if_pos h2]
      show (pTake n DG "expected a place" (c :: U)).map _ = _
      rw [take_cons h3]
      rfl
  | same lev h a b c h1 h2 h3 =>
    intro k d hk hd
    obtain ⟨k, rfl⟩ : ∃ g, k = g + 1 := ⟨k - 1, by omega⟩
    refine Cl.of3 fun U => ⟨fun q r e => ?_, ?_⟩
    · injection e with e1 e2
      subst e1; exact (NM_no h1).1
    · show pGr n (k + 1) d (a :: b :: c :: U) = _
      rw [pg_atom h1]
      unfold pAtom
      rw [take_cons h1]
      show (pTake n [64, 61] "expected @ or =" (b :: c :: U)).bind _ = _
      rw [take_cons (by rw [h2]; decide)]
      show (if b.1 = 64 then _ else _ : Res) = _
      rw [if_neg (by rw [h2]; decide)]
      show (pTake n NM "expected a name" (c :: U)).map _ = _
      rw [take_cons h3]
      rfl
  | neg lev h q t S h1 h2 h3 ih =>
    intro k d hk hd
    have c : C2 (pGr n k d) t S := ih k d hk hd
    refine Cl.of2 h1 fun U => ?_
    have := c U
    unfold pSg at this ⊢
    have e : nots (q :: S ++ U) = ((nots (S ++ U)).1 + 1, (nots (S ++ U)).2) := by
      show nots (q :: (S ++ U)) = _
      conv => lhs; unfold nots
      rw [if_pos h2]
    rw [e]
    obtain ⟨y, e1, e2⟩ := map_ok this
    dsimp only
    rw [e1]
    injection e2 with e3 e4
    show Except.ok (Wt.neg (negs (nots (S ++ U)).1 y.1), y.2) = _
    rw [e3, e4]
  | and lev h q s t S T h1 h2 h3 h4 i1 i2 =>
    intro k d hk hd
    have c1 : C1 (pGr n k d) s S := i1 k d hk hd
    have c2 : C2 (pGr n k d) t T := i2 k d hk hd
    refine Cl.of1 h1 fun U => ?_
    rw [List.append_assoc]
    show pBo (pGr n k d) (S ++ (q :: (T ++ U))) = _
    rw [c1]
    show (if q.1 = 38 then (pSg (pGr n k d) (T ++ U)).bind _ else _ : Res) = _
    rw [if_pos h2, c2 U]
    exact loop_fuel (sg_end (gr_end k d)) _ _ _ _ (by simp) (Nat.le_refl _)
  | or lev h q s t S T h1 h2 h3 h4 i1 i2 =>
    intro k d hk hd
    subst h1
    have c1 : C0 (pGr n k d) s S := i1 k d hk hd
    have c2 : C1 (pGr n k d) t T := i2 k d hk hd
    intro U hU
    rw [List.append_assoc]
    show pEi (pGr n k d) (S ++ (q :: (T ++ U))) = _
    rw [c1 _ (fun q' r e => by injection e with e1 e2; subst e1; rw [h2]; decide)]
    show (if q.1 = 124 then (pBo (pGr n k d) (T ++ U)).bind _ else _ : Res) = _
    rw [if_pos h2, c2 U, loop_stop _ _ _ hU]
    exact loop_fuel (bo_end (gr_end k d)) _ _ _ _ (by simp) (Nat.le_refl _)
  | par lev h q r t S h1 h2 h3 ih =>
    intro k d hk hd
    obtain ⟨k, rfl⟩ : ∃ g, k = g + 1 := ⟨k - 1, by omega⟩
    have c : C0 (pGr n k (d + 1)) t S := ih k (d + 1) (by omega) (by omega)
    refine Cl.of3 fun U => ⟨fun q' r' e => ?_, ?_⟩
    · injection e with e1 e2
      subst e1; rw [h1]; decide
    · show pGr n (k + 1) d (q :: (S ++ [r] ++ U)) = _
      rw [List.append_assoc]
      show pGr n (k + 1) d (q :: (S ++ (r :: U))) = _
      conv => lhs; unfold pGr
      dsimp only
      rw [if_pos h1, if_neg (by omega), c _ (fun q' r' e => by injection e with e1 e2; subst e1; rw [h2]; decide), loop_stop _ _ _ (fun q' r' e => by injection e with e1 e2; subst e1; rw [h2]; decide)]
      show (pTake n [41] "expected )" (r :: U)).map _ = _
      rw [take_cons (by rw [h2]; decide)]
      rfl
theorem WS.whole {n h : Nat} {t : Wt} {S : Sg} (w : WS 0 h t S) (hh : h ≤ 20) : pWh n S = .ok (t, []) := by
  have c : C0 (pGr n 22 0) t S := w.reads 22 0 rfl (by omega)
  have e := c [] (fun q r e => by cases e)
  rw [List.append_nil] at e
  unfold pWh
  rw [e]
  rfl
theorem WS.oks {lev h : Nat} {t : Wt} {S : Sg} (w : WS lev h t S) : ∀ q ∈ S, okW q.1 = true := by
  have nm : ∀ x ∈ NM, okW x = true := by decide
  have dg : ∀ x ∈ DG, okW x = true := by decide
  induction w with
  | «at» lev h a b c h1 h2 h3 =>
    intro q hq
    simp only [List.mem_cons, List.not_mem_nil, or_false] at hq
    rcases hq with rfl | rfl | rfl
    · exact nm _ h1
    · rw [h2]; rfl
    · exact dg _ h3
  | same lev h a b c h1 h2 h3 =>
    intro q hq
    simp only [List.mem_cons, List.not_mem_nil, or_false] at hq
    rcases hq with rfl | rfl | rfl
    · exact nm _ h1
    · rw [h2]; rfl
    · exact nm _ h3
  | neg lev h q t S h1 h2 h3 ih =>
    intro x hx
    rcases List.mem_cons.mp hx with rfl | hx
    · rw [h2]; rfl
    · exact ih x hx
  | and lev h q s t S T h1 h2 h3 h4 i1 i2 =>
    intro x hx
    rcases List.mem_append.mp hx with hx | hx
    · exact i1 x hx
    · rcases List.mem_cons.mp hx with rfl | hx
      · rw [h2]; rfl
      · exact i2 x hx
  | or lev h q s t S T h1 h2 h3 h4 i1 i2 =>
    intro x hx
    rcases List.mem_append.mp hx with hx | hx
    · exact i1 x hx
    · rcases List.mem_cons.mp hx with rfl | hx
      · rw [h2]; rfl
      · exact i2 x hx
  | par lev h q r t S h1 h2 h3 ih =>
    intro x hx
    rcases List.mem_cons.mp hx with rfl | hx
    · rw [h1]; rfl
    · rcases List.mem_append.mp hx with hx | hx
      · exact ih x hx
      · rw [List.mem_singleton] at hx
        subst hx; rw [h2]; rfl
/-! ### texts -/
def sgF (k : Nat) (l : List Nat) : Sg := (l.zipIdx k).filter fun q => !decide (q.1 = 32)
theorem sgA_is (l : List Nat) : sgA l = sgF 0 l := rfl
theorem sgF_app (k : Nat) (l m : List Nat) : sgF k (l ++ m) = sgF k l ++ sgF (k + l.length) m := by
  unfold sgF
  rw [List.zipIdx_append, List.filter_append]
theorem sgF_cons (k c : Nat) (l : List Nat) (h : c ≠ 32) : sgF k (c :: l) = (c, k) :: sgF (k + 1) l := by
  unfold sgF
  rw [List.zipIdx_cons, List.filter_cons]
  rw [if_pos (by simp [h])]
theorem sgF_blk (k : Nat) : ∀ g, sgF k (List.replicate g 32) = []
  | 0 => rfl
  | g + 1 => by
    rw [List.replicate_succ]
    unfold sgF
    rw [List.zipIdx_cons, List.filter_cons, if_neg (by simp)]
    exact sgF_blk (k + 1) g
def WT (lev h : Nat) (t : Wt) (l : List Nat) : Prop := ∀ k, WS lev h t (sgF k l)
theorem WT.up {lev h h' : Nat} {t : Wt} {l : List Nat} (w : WT lev h t l) (hh : h ≤ h') : WT lev h' t l := fun k => (w k).up hh
theorem WT.blk {lev h : Nat} {t : Wt} {l : List Nat} (w : WT lev h t l) (g : Nat) : WT lev h t (l ++ List.replicate g 32) := fun k => by
  rw [sgF_app, sgF_blk, List.append_nil]; exact w k
theorem WT.pre {lev h : Nat} {t : Wt} {l : List Nat} (w : WT lev h t l) (g : Nat) : WT lev h t (List.replicate g 32 ++ l) := fun k => by
  rw [sgF_app, sgF_blk, List.nil_append]; exact w _
theorem NM_b {c : Nat} (h : c ∈ NM) : c ≠ 32 := by
  have : ∀ x ∈ NM, x ≠ 32 := by decide
  exact this c h
theorem DG_b {c : Nat} (h : c ∈ DG) : c ≠ 32 := by
  have : ∀ x ∈ DG, x ≠ 32 := by decide
  exact this c h
theorem WT.at {lev h a c g : Nat} (h1 : a ∈ NM) (h2 : c ∈ DG) : WT lev h (.at a c) (([a] ++ List.replicate g 32) ++ [64] ++ [c]) := fun k => by
  rw [sgF_app, sgF_app, sgF_app, sgF_blk, sgF_cons _ _ _ (NM_b h1), sgF_cons _ _ _ (by decide), sgF_cons _ _ _ (DG_b h2)]
  exact .at lev h (a, _) (64, _) (c, _) h1 rfl h2
theorem WT.same {lev h a c g : Nat} (h1 : a ∈ NM) (h2 : c ∈ NM) : WT lev h (.same a c) (([a] ++ List.replicate g 32) ++ [61] ++ [c]) := fun k => by
  rw [sgF_app, sgF_app, sgF_app, sgF_blk, sgF_cons _ _ _ (NM_b h1), sgF_cons _ _ _ (by decide), sgF_cons _ _ _ (NM_b h2)]
  exact .same lev h (a, _) (61, _) (c, _) h1 rfl h2
theorem WT.neg {lev h g : Nat} {t : Wt} {l : List Nat} (hl : lev ≤ 2) (w : WT 2 h t l) : WT lev h (.neg t) (([126] ++ List.replicate g 32) ++ l) := fun k => by
  rw [sgF_app, sgF_app, sgF_blk, sgF_cons _ _ _ (by decide)]
  exact .neg lev h (126, _) t _ hl rfl (w _)
theorem WT.and {lev h g : Nat} {s t : Wt} {l m : List Nat} (hl : lev ≤ 1) (w : WT 1 h s l) (v : WT 2 h t m) : WT lev h (.bin true s t) (((l ++ List.replicate g 32) ++ [38]) ++ m) := fun k => by
  rw [sgF_app, sgF_app, sgF_app, sgF_blk, sgF_cons _ _ _ (by decide), List.append_nil, List.append_assoc]
  exact .and lev h (38, _) s t _ _ hl rfl (w _) (v _)
theorem WT.or {lev h g : Nat} {s t : Wt} {l m : List Nat} (hl : lev = 0) (w : WT 0 h s l) (v : WT 1 h t m) : WT lev h (.bin false s t) (((l ++ List.replicate g 32) ++ [124]) ++ m) := fun k => by
  rw [sgF_app, sgF_app, sgF_app, sgF_blk, sgF_cons _ _ _ (by decide), List.append_nil, List.append_assoc]
  exact .or lev h (124, _) s t _ _ hl rfl (w _) (v _)
theorem WT.par {lev h : Nat} {t : Wt} {l : List Nat} (w : WT 0 h t l) : WT lev (h + 1) t (40 :: l ++ [41]) := fun k => by
  rw [sgF_app, sgF_cons _ _ _ (by decide), sgF_cons _ _ _ (by decide)]
  exact .par lev h (40, _) (41, _) t _ rfl rfl (w _)
theorem sgF_mem : ∀ (l : List Nat) (k : Nat), ∀ c ∈ l, c = 32 ∨ ∃ p, (c, p) ∈ sgF k l
  | [], k, c, h => by cases h
  | a :: l, k, c, h => by
    by_cases ha : a = 32
    · subst ha
      rcases List.mem_cons.mp h with rfl | h
      · exact .inl rfl
      · rcases sgF_mem l (k + 1) c h with h | ⟨p, h⟩
        · exact .inl h
        · refine .inr ⟨p, ?_⟩
          unfold sgF
          rw [List.zipIdx_cons, List.filter_cons, if_neg (by simp)]
          exact h
    · rw [sgF_cons _ _ _ ha]
      rcases List.mem_cons.mp h with rfl | h
      · exact .inr ⟨k, List.mem_cons_self ..⟩
      · rcases sgF_mem l (k + 1) c h with h | ⟨p, h⟩
        · exact .inl h
        · exact .inr ⟨p, List.mem_cons_of_mem _ h⟩
theorem okW_lt {c : Nat} (h : okW c = true) : c < 1114112 := by
  have : ∀ x ∈ ([97, 98, 99, 100, 101, 102, 103, 104, 105, 106, 48, 49, 50, 51, 88, 89, 90, 64, 61, 126, 38, 124, 40, 41] : List Nat), x < 1114112 := by decide
  exact this c (of_decide_eq_true h)
theorem WT.chars {lev h : Nat} {t : Wt} {l : List Nat} (w : WT lev h t l) : ∀ c ∈ l, c < 1114112 := fun c hc => by
  rcases sgF_mem l 0 c hc with rfl | ⟨p, hp⟩
  · decide
  · exact okW_lt ((w 0).oks _ hp)
theorem WT.read {h : Nat} {t : Wt} {l : List Nat} (w : WT 0 h t l) (hh : h ≤ 20) : readW l = .ok t := by
  have e : badSg (sgA l) = none := by
    unfold badSg
    rw [sgA_is, List.find?_eq_none.mpr (fun q hq => by rw [(w 0).oks q hq]; decide)]
    rfl
  unfold readW
  rw [e, sgA_is, (w 0).whole hh]
  rfl
/-! ### the plain text -/
theorem plT_par (t : Wt) (lev : Nat) : (plT t lev).length ≤ (plT t 0).length + 2 := by
  cases t with
  | «at» n p => exact Nat.le_add_right _ _
  | same n p => exact Nat.le_add_right _ _
  | neg t => exact Nat.le_add_right _ _
  | bin b s t =>
    cases b with
    | true =>
      rw [plT_and, plT_and, if_neg (by decide : ¬ 1 < 0)]
      split <;> simp <;> omega
    | false =>
      rw [plT_or, plT_or, if_neg (by decide : ¬ 0 < 0)]
      split <;> simp <;> omega
theorem WS.long {lev h : Nat} {t : Wt} {S : Sg} (w : WS lev h t S) : (plT t lev).length ≤ S.length := by
  induction w with
  | «at» lev h a b c h1 h2 h3 => exact Nat.le_refl _
  | same lev h a b c h1 h2 h3 => exact Nat.le_refl _
  | neg lev h q t S h1 h2 h3 ih => exact Nat.succ_le_succ ih
  | and lev h q s t S T h1 h2 h3 h4 i1 i2 =>
    rw [plT_and, if_neg (by omega)]
    simp; omega
  | or lev h q s t S T h1 h2 h3 h4 i1 i2 =>
    rw [plT_or, if_neg (by omega)]
    simp; omega
  | par lev h q r t S h1 h2 h3 ih =>
    have := plT_par t lev
    simp; omega
theorem WT.long {h : Nat} {t : Wt} {l : List Nat} (w : WT 0 h t l) : (plT t 0).length ≤ l.length := by
  refine Nat.le_trans (w 0).long ?_
  refine Nat.le_trans (List.length_filter_le _ _) ?_
  rw [List.length_zipIdx]; exact Nat.le_refl _
/-- the names and places of a wish -/
def okT : Wt → Prop
  | .at n p => n ∈ NM ∧ p ∈ DG
  | .same n m => n ∈ NM ∧ m ∈ NM
  | .neg t => okT t
  | .bin _ s t => okT s ∧ okT t
theorem plT_reads : ∀ (t : Wt) (lev : Nat), okT t → lev ≤ 2 → WT lev (dpt t + 1) t (plT t lev)
  | .at n p, lev, h, _ => WT.at (g := 0) h.1 h.2
  | .same n p, lev, h, _ => WT.same (g := 0) h.1 h.2
  | .neg t, lev, h, hl => (WT.neg (g := 0) hl (plT_reads t 2 h (by decide))).up (by show dpt t + 1 ≤ dpt t + 1 + 1; omega)
  | .bin true s t, lev, h, hl => by
    have a1 := (plT_reads s 1 h.1 (by decide)).up (h' := max (dpt s) (dpt t) + 1) (by omega)
    have a2 := (plT_reads t 2 h.2 (by decide)).up (h' := max (dpt s) (dpt t) + 1) (by omega)
    have e : ((plT s 1 ++ List.replicate 0 32) ++ [38]) ++ plT t 2 = plT s 1 ++ 38 :: plT t 2 := by
      rw [List.append_assoc, List.replicate_zero, List.append_nil]; rfl
    rw [plT_and]
    by_cases hv : 1 < lev
    · rw [if_pos hv]
      have := (WT.and (lev := 0) (g := 0) (by decide) a1 a2)
      rw [e] at this
      exact this.par
    · rw [if_neg hv]
      have := (WT.and (lev := lev) (g := 0) (by omega) a1 a2)
      rw [e] at this
      exact this.up (by show _ ≤ max (dpt s) (dpt t) + 1 + 1; omega)
  | .bin false s t, lev, h, hl => by
    have a1 := (plT_reads s 0 h.1 (by decide)).up (h' := max (dpt s) (dpt t) + 1) (by omega)
    have a2 := (plT_reads t 1 h.2 (by decide)).up (h' := max (dpt s) (dpt t) + 1) (by omega)
    have e : ((plT s 0 ++ List.replicate 0 32) ++ [124]) ++ plT t 1 = plT s 0 ++ 124 :: plT t 1 := by
      rw [List.append_assoc, List.replicate_zero, List.append_nil]; rfl
    rw [plT_or]
    by_cases hv : 0 < lev
    · rw [if_pos hv]
      have := (WT.or (lev := 0) (g := 0) rfl a1 a2)
      rw [e] at this
      exact this.par
    · rw [if_neg hv]
      have := (WT.or (lev := lev) (g := 0) (by omega) a1 a2)
      rw [e] at this
      exact this.up (by show _ ≤ max (dpt s) (dpt t) + 1 + 1; omega)
end Ty
end
section
set_option Elab.async false
set_option linter.all false
set_option maxRecDepth 100000
set_option maxHeartbeats 2000000
namespace Ty
open PySem (Str)
open Fe
variable {ns : List Int}
theorem Gets.orT {a b : Ms D Bool} {T1 T2 : Bool → Prop} (h : Gets ns a T1) (h2 : T1 false → Gets ns b T2) : Gets ns (Fe.orT a b) fun k => (k = true ∧ T1 true) ∨ (T1 false ∧ T2 k) := h.bnd fun k t => by
  cases k with
  | true => exact .ret (.inl ⟨rfl, t⟩)
  | false => exact (h2 t).mono fun x hx => .inr ⟨t, hx⟩
theorem Gets.ifE {t : Ms D Bool} {a b : Ms D D} {T : Bool → Prop} {P : D → Prop} (h : Gets ns t T) (h1 : T true → Gets ns a P) (h2 : T false → Gets ns b P) : Gets ns (Fe.ifE t a b) P := h.bnd fun k tk => by
  cases k with
  | true => exact h1 tk
  | false => exact h2 tk
/-- a draw is zero -/
theorem c_zero {m : Int} (hm : 0 < m ∧ m < 1073741824) : Gets ns (cmp dEq (cloS Fp.f__law_taken (consA (Fe.ret (.int m)) nilA)) (Fe.ret (.int 0))) fun x => ∃ b, x = .bl b :=
  Gets.cmp (P := Bl 0 m) (Q := fun x => x = .int 0) (draw' rfl hm) (.ret rfl) fun x y ⟨k, e, _, _⟩ ey => by
    subst e ey
    exact ⟨_, dEq_ints⟩
theorem c_zeroT {m : Int} (hm : 0 < m ∧ m < 1073741824) : Gets ns (tsb (cmp dEq (cloS Fp.f__law_taken (consA (Fe.ret (.int m)) nilA)) (Fe.ret (.int 0)))) fun _ => True :=
  Gets.tsb (c_zero hm) fun _ h => h
/-- a tree as the law draws it -/
def encL : Wt → D
  | .at n p => .tup [.str "@", ch n, ch p]
  | .same n m => .tup [.str "=", ch n, ch m]
  | .neg t => .tup [.str "~", encL t, .non]
  | .bin b s t => .tup [.str (if b then "&" else "|"), encL s, encL t]
theorem lkF_tree (rec : C → List D → FO) (d s : D) : LeO (Fp.g__law_tree rec d s) (runO 2 3 (Fp.b__law_tree rec) (.o s) [d]) := Fp.lk__law_tree rec d s
theorem lkF_text (rec : C → List D → FO) (a b c s : D) : LeO (Fp.g__law_text rec a b c s) (runO 4 11 (Fp.b__law_text rec) (.o s) [a, b, c]) := Fp.lk__law_text rec a b c s
theorem c_tree : ∀ (k deep : Nat), deep < k → deep ≤ 4 → Gets ns (cloS (Fp.f__law_tree k) (Fe.ret [.int deep])) (fun x => ∃ t, x = encL t ∧ okT t ∧ dpt t ≤ deep)
  | 0, deep, h, _ => by omega
  | k + 1, deep, h, h4 => Gets.call (g := Fp.g__law_tree (Fp.f__law_tree k) (.int deep)) (by
    unfold Fp.g__law_tree
    have hr : 0 < deep → Gets ns (cloS (Fp.f__law_tree k) (consA (op2 dSub (Fe.ret (.int deep)) (Fe.ret (.int 1))) nilA)) (fun x => ∃ t, x = encL t ∧ okT t ∧ dpt t + 1 ≤ deep) := fun h0 => by
      have e : (consA (op2 dSub (Fe.ret (.int deep)) (Fe.ret (.int 1))) nilA : Ms D (List D)) = Fe.ret [.int ((deep - 1 : Nat) : Int)] := by
        show Fe.ret [D.int ((deep : Int) - 1)] = _
        rw [show ((deep : Int) - 1) = ((deep - 1 : Nat) : Int) by omega]
      rw [e]
      exact (c_tree k (deep - 1) (by omega) (by omega)).mono fun x ⟨t, e, o, d⟩ => ⟨t, e, o, by omega⟩
    refine Gets.ifC (T := fun b => b = false → 0 < deep) ?_ (fun _ => ?_) (fun hf => ?_)
    · refine (Gets.orT (T1 := fun b => b = false → 0 < deep) (T2 := fun _ => True) (Gets.eq (x := (deep == 0)) ?_ ?_) fun _ => c_zeroT (by decide)).mono fun b hb => ?_
      · rw [cmp_ret, dEq_ints]
        show Fe.ret ((deep : Int) == 0) = _
        congr 1
        rw [Bool.eq_iff_iff, beq_iff_eq, beq_iff_eq]; omega
      · intro h0
        have : deep ≠ 0 := fun z => by rw [z] at h0; cases h0
        omega
      · rcases hb with ⟨rfl, _⟩ | ⟨h1, _⟩
        · intro z; cases z
        · intro _; exact h1 rfl
    · refine (show Gets ns (cloS Fp.f__law_pick (consA (Fe.ret (.str "abcdefghijXYZ")) nilA)) (fun x => ∃ c ∈ NM, x = ch c) from c_pickS (l := NM) (by decide) (by decide)).bnd fun x ⟨c, hc, ex⟩ => ?_
      subst ex
      refine Gets.ifE (c_zeroT (by decide)) (fun _ => ?_) (fun _ => ?_)
      · refine (Gets.cons (P := fun x => x = .str "@") (.ret rfl) (Gets.cons (P := fun x => x = ch c) (.ret rfl) (Gets.cons (show Gets ns (cloS Fp.f__law_pick (consA (Fe.ret (.str "0123")) nilA)) (fun x => ∃ c ∈ DG, x = ch c) from c_pickS (l := DG) (by decide) (by decide)) Gets.nil))).bnd fun l hl => ?_
        obtain ⟨x1, m1, rfl, rfl, x2, m2, rfl, rfl, x3, m3, rfl, ⟨p, hp, rfl⟩, rfl⟩ := hl
        exact .ret ⟨.at c p, rfl, ⟨hc, hp⟩, Nat.zero_le _⟩
      · refine (Gets.cons (P := fun x => x = .str "=") (.ret rfl) (Gets.cons (P := fun x => x = ch c) (.ret rfl) (Gets.cons (show Gets ns (cloS Fp.f__law_pick (consA (Fe.ret (.str "abjXYZ")) nilA)) (fun x => ∃ c ∈ [97, 98, 106, 88, 89, 90], x = ch c) from c_pickS (l := [97, 98, 106, 88, 89, 90]) (by decide) (by decide)) Gets.nil))).bnd fun l hl => ?_
        obtain ⟨x1, m1, rfl, rfl, x2, m2, rfl, rfl, x3, m3, rfl, ⟨p, hp, rfl⟩, rfl⟩ := hl
        have : ∀ z ∈ ([97, 98, 106, 88, 89, 90] : List Nat), z ∈ NM := by decide
        exact .ret ⟨.same c p, rfl, ⟨hc, this p hp⟩, Nat.zero_le _⟩
    · have h0 := hf rfl
      refine Gets.ifC (c_zeroT (by decide)) (fun _ => ?_) (fun _ => ?_)
      · refine (Gets.cons (P := fun x => x = .str "~") (.ret rfl) (Gets.cons (hr h0) (Gets.cons (P := fun x => x = .non) (.ret rfl) Gets.nil))).bnd fun l hl => ?_
        obtain ⟨x1, m1, rfl, rfl, x2, m2, rfl, ⟨t, rfl, o, d⟩, x3, m3, rfl, rfl, rfl⟩ := hl
        exact .ret ⟨.neg t, rfl, o, d⟩
      · refine (Gets.cons (show Gets ns (cloS Fp.f__law_pick (consA (Fe.ret (.str "&|")) nilA)) (fun x => ∃ c ∈ [38, 124], x = ch c) from c_pickS (l := [38, 124]) (by decide) (by decide)) (Gets.cons (hr h0) (Gets.cons (hr h0) Gets.nil))).bnd fun l hl => ?_
        obtain ⟨x1, m1, rfl, ⟨c, hc, rfl⟩, x2, m2, rfl, ⟨s, rfl, o, d⟩, x3, m3, rfl, ⟨t, rfl, o2, d2⟩, rfl⟩ := hl
        simp only [List.mem_cons, List.not_mem_nil, or_false] at hc
        rcases hc with rfl | rfl
        · exact .ret ⟨.bin true s t, rfl, ⟨o, o2⟩, by show max (dpt s) (dpt t) + 1 ≤ deep; omega⟩
        · exact .ret ⟨.bin false s t, rfl, ⟨o, o2⟩, by show max (dpt s) (dpt t) + 1 ≤ deep; omega⟩) fun s => lkF_tree _ _ s
theorem lkF_blank (s : D) : LeO (Fp.g__law_blank s) (Fp.f__law_blank (.o s) []) := Fp.lk__law_blank s
theorem c_blank : Gets ns (cloS Fp.f__law_blank nilA) (fun x => ∃ g, g ≤ 2 ∧ x = tx (List.replicate g 32)) := Gets.call (g := Fp.g__law_blank) (by
  unfold Fp.g__law_blank
  refine Gets.op2 (P := fun x => x = .str " ") (.ret rfl) (show Gets ns (cloS Fp.f__law_pick (consA (lstE (consA (Fe.ret (.int 0)) (consA (Fe.ret (.int 0)) (consA (Fe.ret (.int 0)) (consA (Fe.ret (.int 1)) (consA (Fe.ret (.int 2)) nilA)))))) nilA)) _ from c_pickL (l := [.int 0, .int 0, .int 0, .int 1, .int 2]) (by simp) (by simp)) fun x y ex hy => ?_
  subst ex
  simp only [List.mem_cons, List.not_mem_nil, or_false] at hy
  rcases hy with rfl | rfl | rfl | rfl | rfl
  · exact ⟨_, rfl, 0, by decide, rfl⟩
  · exact ⟨_, rfl, 0, by decide, rfl⟩
  · exact ⟨_, rfl, 0, by decide, rfl⟩
  · exact ⟨_, rfl, 1, by decide, rfl⟩
  · exact ⟨_, rfl, 2, by decide, rfl⟩) fun s => lkF_blank s
theorem par_tx {σ : Type} {x : List Nat} (hx : x.length ≤ 20000) : (op2 dAdd (op2 dAdd (Fe.ret (.str "(")) (Fe.ret (tx x))) (Fe.ret (.str ")")) : Ms σ D) = Fe.ret (tx (40 :: x ++ [41])) := by
  show op2 dAdd (op2 dAdd (Fe.ret (tx [40])) (Fe.ret (tx x))) (Fe.ret (tx [41])) = _
  rw [add_tx _ _ (by simp; omega), add_tx _ _ (by simp; omega)]
  rfl
/-- the end of a text -/
theorem c_tail {own lev h g : Nat} {t : Wt} {l : List Nat} (hw : ∀ v, v ≤ own → v ≤ 2 → WT v h t l) (hlev : lev ≤ 2) (hl : l.length ≤ 10000) (hg : g ≤ 2) : Gets ns (bnd (andV (notV (Fe.ret (.bl false))) (cmp dEq (cloS Fp.f__law_taken (consA (Fe.ret (.int 5)) nilA)) (Fe.ret (.int 0)))) fun v_is_more =>
    (ifE (orT (tsb (cmp dLt (Fe.ret (.int own)) (Fe.ret (.int lev)))) (tst (Fe.ret v_is_more))) (op2 dAdd (op2 dAdd (Fe.ret (.str "(")) (Fe.ret (tx l))) (Fe.ret (.str ")"))) (op2 dAdd (Fe.ret (tx l)) (Fe.ret (tx (List.replicate g 32)))))) fun x => ∃ m, x = tx m ∧ WT lev (h + 1) t m ∧ m.length ≤ l.length + 2 := by
  have e : (andV (notV (Fe.ret (.bl false))) (cmp dEq (cloS Fp.f__law_taken (consA (Fe.ret (.int 5)) nilA)) (Fe.ret (.int 0))) : Ms D D) = cmp dEq (cloS Fp.f__law_taken (consA (Fe.ret (.int 5)) nilA)) (Fe.ret (.int 0)) := rfl
  rw [e]
  refine (c_zero (by decide)).bnd fun x ⟨b, ex⟩ => ?_
  subst ex
  have tl : (tsb (cmp dLt (Fe.ret (.int (own : Int))) (Fe.ret (.int (lev : Int)))) : Ms D Bool) = Fe.ret (decide (own < lev)) := by
    rw [cmp_ret, dLt_ints]
    show Fe.ret (decide ((own : Int) < (lev : Int))) = _
    congr 1
    rw [decide_eq_decide]; omega
  have e2 : (orT (tsb (cmp dLt (Fe.ret (.int (own : Int))) (Fe.ret (.int (lev : Int))))) (tst (Fe.ret (.bl b))) : Ms D Bool) = Fe.ret (decide (own < lev) || b) := by
    rw [tl, orT_ret, tst_bl]
    cases decide (own < lev) <;> rfl
  rw [e2]
  refine Gets.ifE (T := fun k => k = (decide (own < lev) || b)) (.ret rfl) (fun _ => ?_) (fun hk => ?_)
  · rw [par_tx (by omega)]
    exact .ret ⟨_, rfl, (hw 0 (Nat.zero_le _) (Nat.zero_le _)).par, by simp⟩
  · rw [add_tx _ _ (by simp; omega)]
    have hk := hk.symm
    rw [Bool.or_eq_false_iff] at hk
    have : ¬ own < lev := of_decide_eq_false hk.1
    exact .ret ⟨_, rfl, ((hw lev (by omega) hlev).up (Nat.le_succ _)).blk g, by simp; omega⟩
theorem c_text : ∀ (k : Nat) (t : Wt) (lev : Nat), okT t → dpt t < k → dpt t ≤ 7 → lev ≤ 2 → Gets ns (cloS (Fp.f__law_text k) (Fe.ret [encL t, .int lev, .bl false])) (fun x => ∃ l, x = tx l ∧ WT lev (dpt t + 1) t l ∧ l.length + 8 ≤ big (dpt t))
  | 0, t, lev, _, h, _, _ => by omega
  | k + 1, .at a c, lev, ok, h, h7, hlev => Gets.call (g := Fp.g__law_text (Fp.f__law_text k) (encL (.at a c)) (.int lev) (.bl false)) (by
    unfold Fp.g__law_text
    rw [bnd_ret, show encL (.at a c) = .tup [.str "@", ch a, ch c] from rfl, un3_tup]
    refine Gets.bnd (P := fun x => ∃ g, g ≤ 2 ∧ x = tx (List.replicate g 32)) c_blank fun x ⟨g, hg, ex⟩ => ?_
    subst ex
    rw [in_formsX (.str "@") 64 rfl (by decide)]
    refine Gets.pure (x := ((.int (3 : Nat), tx (([a] ++ List.replicate g 32) ++ [64] ++ [c])) : D × D)) ?_ ?_
    · show (bnd (Fe.ret (.int (3 : Nat))) fun u1 => bnd (op2 dAdd (op2 dAdd (op2 dAdd (Fe.ret (tx [a])) (Fe.ret (tx (List.replicate g 32)))) (Fe.ret (tx [64]))) (Fe.ret (tx [c]))) fun u2 => Fe.ret ((u1, u2) : D × D)) = _
      rw [add_tx _ _ (by simp; omega), add_tx _ _ (by simp; omega), add_tx _ _ (by simp; omega)]
      rfl
    · refine (c_tail (h := 0) (t := .at a c) (fun v _ _ => WT.at ok.1 ok.2) hlev (by simp; omega) hg).mono fun x ⟨m, ex, w, hm⟩ => ⟨m, ex, w, ?_⟩
      have : big (dpt (.at a c)) = 17 := rfl
      simp at hm; omega) fun s => lkF_text _ _ _ _ s
  | k + 1, .same a c, lev, ok, h, h7, hlev => Gets.call (g := Fp.g__law_text (Fp.f__law_text k) (encL (.same a c)) (.int lev) (.bl false)) (by
    unfold Fp.g__law_text
    rw [bnd_ret, show encL (.same a c) = .tup [.str "=", ch a, ch c] from rfl, un3_tup]
    refine Gets.bnd (P := fun x => ∃ g, g ≤ 2 ∧ x = tx (List.replicate g 32)) c_blank fun x ⟨g, hg, ex⟩ => ?_
    subst ex
    rw [in_formsX (.str "=") 61 rfl (by decide)]
    refine Gets.pure (x := ((.int (3 : Nat), tx (([a] ++ List.replicate g 32) ++ [61] ++ [c])) : D × D)) ?_ ?_
    · show (bnd (Fe.ret (.int (3 : Nat))) fun u1 => bnd (op2 dAdd (op2 dAdd (op2 dAdd (Fe.ret (tx [a])) (Fe.ret (tx (List.replicate g 32)))) (Fe.ret (tx [61]))) (Fe.ret (tx [c]))) fun u2 => Fe.ret ((u1, u2) : D × D)) = _
      rw [add_tx _ _ (by simp; omega), add_tx _ _ (by simp; omega), add_tx _ _ (by simp; omega)]
      rfl
    · refine (c_tail (h := 0) (t := .same a c) (fun v _ _ => WT.same ok.1 ok.2) hlev (by simp; omega) hg).mono fun x ⟨m, ex, w, hm⟩ => ⟨m, ex, w, ?_⟩
      have : big (dpt (.same a c)) = 17 := rfl
      simp at hm; omega) fun s => lkF_text _ _ _ _ s
  | k + 1, .neg t, lev, ok, h, h7, hlev => Gets.call (g := Fp.g__law_text (Fp.f__law_text k) (encL (.neg t)) (.int lev) (.bl false)) (by
    have hd : dpt t + 1 < k + 1 := h
    have hd7 : dpt t + 1 ≤ 7 := h7
    have hb := big_pos (dpt t)
    have hb2 := big_succ (dpt t)
    have hb7 := big_up (show dpt t ≤ 7 by omega)
    have hbc : big 7 = 2176 := rfl
    unfold Fp.g__law_text
    rw [bnd_ret, show encL (.neg t) = .tup [.str "~", encL t, .non] from rfl, un3_tup]
    refine Gets.bnd (P := fun x => ∃ g, g ≤ 2 ∧ x = tx (List.replicate g 32)) c_blank fun x ⟨g, hg, ex⟩ => ?_
    subst ex
    rw [in_formsX (.str "~") 126 rfl (by decide), eq_formX (.str "~") (.str "~") 126 126 rfl rfl (by decide) (by decide)]
    refine Gets.bnd (P := fun x : D × D => ∃ l, x = (.int (2 : Nat), tx l) ∧ WT 2 (dpt t + 1) (.neg t) l ∧ (∀ v, v ≤ 2 → WT v (dpt t + 1) (.neg t) l) ∧ l.length + 8 ≤ big (dpt t) + 3) ?_ fun x ⟨l, ex, _, w, hl⟩ => ?_
    · show Gets ns (bnd (Fe.ret (.int (2 : Nat))) fun u1 => bnd (op2 dAdd (op2 dAdd (Fe.ret (tx [126])) (Fe.ret (tx (List.replicate g 32)))) (cloS (Fp.f__law_text k) (Fe.ret [encL t, .int (2 : Nat), .bl false]))) fun u2 => Fe.ret ((u1, u2) : D × D)) _
      rw [bnd_ret, add_tx _ _ (by simp; omega)]
      refine Gets.bnd (P := fun x => ∃ l, x = tx (([126] ++ List.replicate g 32) ++ l) ∧ WT 2 (dpt t + 1) t l ∧ l.length + 8 ≤ big (dpt t)) ?_ fun x ⟨l, ex, w, hl⟩ => ?_
      · refine Gets.bnd (P := fun x => x = tx ([126] ++ List.replicate g 32)) (.ret rfl) fun y ey => ?_
        subst ey
        refine (c_text k t 2 ok (by omega) (by omega) (by decide)).bnd fun x ⟨l, ex, w, hl⟩ => ?_
        subst ex
        exact Gets.eq (x := tx (([126] ++ List.replicate g 32) ++ l)) ((op2_ret.symm).trans (add_tx _ _ (by simp; omega))) ⟨l, rfl, w, hl⟩
      · subst ex
        exact .ret ⟨_, rfl, WT.neg (by decide) w, fun v hv => WT.neg hv w, by simp; omega⟩
    · subst ex
      refine (c_tail (h := dpt t + 1) (t := .neg t) (fun v hv _ => w v hv) hlev (by omega) hg).mono fun x ⟨m, ex, w, hm⟩ => ⟨m, ex, w, ?_⟩
      show m.length + 8 ≤ big (dpt t + 1)
      omega) fun s => lkF_text _ _ _ _ s
  | k + 1, .bin b s t, lev, ok, h, h7, hlev => Gets.call (g := Fp.g__law_text (Fp.f__law_text k) (encL (.bin b s t)) (.int lev) (.bl false)) (by
    have hd : max (dpt s) (dpt t) + 1 < k + 1 := h
    have hd7 : max (dpt s) (dpt t) + 1 ≤ 7 := h7
    have hbs := big_up (Nat.le_max_left (dpt s) (dpt t))
    have hbt := big_up (Nat.le_max_right (dpt s) (dpt t))
    have hb := big_pos (max (dpt s) (dpt t))
    have hb2 := big_succ (max (dpt s) (dpt t))
    have hb7 := big_up (show max (dpt s) (dpt t) ≤ 7 by omega)
    have hbc : big 7 = 2176 := rfl
    have ok1 : okT s := ok.1
    have ok2 : okT t := ok.2
    have two : ∀ (z : D) (c g l1 l2 : Nat), z = ch c → g ≤ 2 → l1 ≤ 2 → l2 ≤ 2 → Gets ns (op2 dAdd (op2 dAdd (op2 dAdd (cloS (Fp.f__law_text k) (Fe.ret [encL s, .int l1, .bl false])) (Fe.ret (tx (List.replicate g 32)))) (Fe.ret z)) (cloS (Fp.f__law_text k) (Fe.ret [encL t, .int l2, .bl false]))) (fun x => ∃ l m, x = tx (((l ++ List.replicate g 32) ++ [c]) ++ m) ∧ WT l1 (max (dpt s) (dpt t) + 1) s l ∧ WT l2 (max (dpt s) (dpt t) + 1) t m ∧ (((l ++ List.replicate g 32) ++ [c]) ++ m).length + 10 ≤ big (max (dpt s) (dpt t) + 1)) := fun z c g l1 l2 hz hg h1 h2 => by
      subst hz
      refine Gets.bnd (P := fun x => ∃ l, x = tx ((l ++ List.replicate g 32) ++ [c]) ∧ WT l1 (dpt s + 1) s l ∧ l.length + 8 ≤ big (dpt s)) ?_ fun x ⟨l, ex, w, hl⟩ => ?_
      · refine Gets.bnd (P := fun x => ∃ l, x = tx (l ++ List.replicate g 32) ∧ WT l1 (dpt s + 1) s l ∧ l.length + 8 ≤ big (dpt s)) ?_ fun x ⟨l, ex, w, hl⟩ => ?_
        · refine (c_text k s l1 ok1 (by omega) (by omega) h1).bnd fun x ⟨l, ex, w, hl⟩ => ?_
          subst ex
          exact Gets.eq (x := tx (l ++ List.replicate g 32)) ((op2_ret.symm).trans (add_tx _ _ (by simp; omega))) ⟨l, rfl, w, hl⟩
        · subst ex
          exact Gets.eq (x := tx ((l ++ List.replicate g 32) ++ [c])) ((op2_ret.symm).trans (add_tx _ _ (by simp; omega))) ⟨l, rfl, w, hl⟩
      · subst ex
        refine (c_text k t l2 ok2 (by omega) (by omega) h2).bnd fun x ⟨m, ex, w2, hm⟩ => ?_
        subst ex
        exact Gets.eq (x := tx (((l ++ List.replicate g 32) ++ [c]) ++ m)) ((op2_ret.symm).trans (add_tx _ _ (by simp; omega))) ⟨l, m, rfl, w.up (by omega), w2.up (by omega), by simp; omega⟩
    unfold Fp.g__law_text
    cases b with
    | true =>
      rw [bnd_ret, show encL (.bin true s t) = .tup [.str "&", encL s, encL t] from rfl, un3_tup]
      refine Gets.bnd (P := fun x => ∃ g, g ≤ 2 ∧ x = tx (List.replicate g 32)) c_blank fun x ⟨g, hg, ex⟩ => ?_
      subst ex
      rw [in_formsX (.str "&") 38 rfl (by decide), eq_formX (.str "&") (.str "~") 38 126 rfl rfl (by decide) (by decide), eq_formX (.str "&") (.str "|") 38 124 rfl rfl (by decide) (by decide)]
      refine Gets.bnd (P := fun x : D × D => ∃ l, x = (.int (1 : Nat), tx l) ∧ (∀ v, v ≤ 1 → WT v (max (dpt s) (dpt t) + 1) (.bin true s t) l) ∧ l.length + 10 ≤ big (max (dpt s) (dpt t) + 1)) ?_ fun x ⟨l, ex, w, hl⟩ => ?_
      · show Gets ns (bnd (op2 dAdd (op2 dAdd (op2 dAdd (cloS (Fp.f__law_text k) (Fe.ret [encL s, .int (1 : Nat), .bl false])) (Fe.ret (tx (List.replicate g 32)))) (Fe.ret (.str "&"))) (cloS (Fp.f__law_text k) (Fe.ret [encL t, .int (2 : Nat), .bl false]))) fun u2 => Fe.ret ((.int (1 : Nat), u2) : D × D)) _
        refine (two (.str "&") 38 g 1 2 rfl hg (by decide) (by decide)).bnd fun x ⟨l, m, ex, w1, w2, hl⟩ => ?_
        subst ex
        exact .ret ⟨_, rfl, fun v hv => WT.and hv w1 w2, hl⟩
      · subst ex
        refine (c_tail (h := max (dpt s) (dpt t) + 1) (t := .bin true s t) (fun v hv _ => w v hv) hlev (by omega) hg).mono fun x ⟨m, ex, w, hm⟩ => ⟨m, ex, w, ?_⟩
        show m.length + 8 ≤ big (max (dpt s) (dpt t) + 1)
        omega
    | false =>
      rw [bnd_ret, show encL (.bin false s t) = .tup [.str "|", encL s, encL t] from rfl, un3_tup]
      refine Gets.bnd (P := fun x => ∃ g, g ≤ 2 ∧ x = tx (List.replicate g 32)) c_blank fun x ⟨g, hg, ex⟩ => ?_
      subst ex
      rw [in_formsX (.str "|") 124 rfl (by decide), eq_formX (.str "|") (.str "~") 124 126 rfl rfl (by decide) (by decide), eq_formX (.str "|") (.str "|") 124 124 rfl rfl (by decide) (by decide)]
      refine Gets.bnd (P := fun x : D × D => ∃ l, x = (.int (0 : Nat), tx l) ∧ (∀ v, v ≤ 0 → WT v (max (dpt s) (dpt t) + 1) (.bin false s t) l) ∧ l.length + 10 ≤ big (max (dpt s) (dpt t) + 1)) ?_ fun x ⟨l, ex, w, hl⟩ => ?_
      · show Gets ns (bnd (op2 dAdd (op2 dAdd (op2 dAdd (cloS (Fp.f__law_text k) (Fe.ret [encL s, .int (0 : Nat), .bl false])) (Fe.ret (tx (List.replicate g 32)))) (Fe.ret (.str "|"))) (cloS (Fp.f__law_text k) (Fe.ret [encL t, .int (1 : Nat), .bl false]))) fun u2 => Fe.ret ((.int (0 : Nat), u2) : D × D)) _
        refine (two (.str "|") 124 g 0 1 rfl hg (by decide) (by decide)).bnd fun x ⟨l, m, ex, w1, w2, hl⟩ => ?_
        subst ex
        exact .ret ⟨_, rfl, fun v hv => WT.or (Nat.le_zero.mp hv) w1 w2, hl⟩
      · subst ex
        refine (c_tail (h := max (dpt s) (dpt t) + 1) (t := .bin false s t) (fun v hv _ => w v hv) hlev (by omega) hg).mono fun x ⟨m, ex, w, hm⟩ => ⟨m, ex, w, ?_⟩
        show m.length + 8 ≤ big (max (dpt s) (dpt t) + 1)
        omega) fun s => lkF_text _ _ _ _ s
end Ty
end
section
set_option Elab.async false
set_option linter.all false
set_option maxRecDepth 100000
set_option maxHeartbeats 2000000
namespace Ty
open PySem (Str)
open Fe
variable {ns : List Int}
/-- the end of a plain text -/
theorem d_tail {own lev : Nat} {l : List Nat} (hl : l.length ≤ 10000) : Gets ns (bnd (andV (notV (Fe.ret (.bl true))) (cmp dEq (cloS Fp.f__law_taken (consA (Fe.ret (.int 5)) nilA)) (Fe.ret (.int 0)))) fun v_is_more =>
    (ifE (orT (tsb (cmp dLt (Fe.ret (.int own)) (Fe.ret (.int lev)))) (tst (Fe.ret v_is_more))) (op2 dAdd (op2 dAdd (Fe.ret (.str "(")) (Fe.ret (tx l))) (Fe.ret (.str ")"))) (op2 dAdd (Fe.ret (tx l)) (Fe.ret (.str ""))))) fun x => x = tx (if own < lev then 40 :: l ++ [41] else l) := by
  have e : (andV (notV (Fe.ret (.bl true))) (cmp dEq (cloS Fp.f__law_taken (consA (Fe.ret (.int 5)) nilA)) (Fe.ret (.int 0))) : Ms D D) = Fe.ret (.bl false) := rfl
  rw [e, bnd_ret]
  have tl : (tsb (cmp dLt (Fe.ret (.int (own : Int))) (Fe.ret (.int (lev : Int)))) : Ms D Bool) = Fe.ret (decide (own < lev)) := by
    rw [cmp_ret, dLt_ints]
    show Fe.ret (decide ((own : Int) < (lev : Int))) = _
    congr 1
    rw [decide_eq_decide]; omega
  have e2 : (orT (tsb (cmp dLt (Fe.ret (.int (own : Int))) (Fe.ret (.int (lev : Int))))) (tst (Fe.ret (.bl false))) : Ms D Bool) = Fe.ret (decide (own < lev)) := by
    rw [tl, orT_ret, tst_bl]
    cases decide (own < lev) <;> rfl
  rw [e2]
  refine Gets.ifE (T := fun k => k = decide (own < lev)) (.ret rfl) (fun hk => ?_) (fun hk => ?_)
  · rw [par_tx (by omega), if_pos (of_decide_eq_true hk.symm)]
    exact .ret rfl
  · rw [if_neg (of_decide_eq_false hk.symm)]
    show Gets ns (op2 dAdd (Fe.ret (tx l)) (Fe.ret (tx []))) _
    rw [add_tx _ _ (by simp; omega), List.append_nil]
    exact .ret rfl
theorem c_due : ∀ (k : Nat) (t : Wt) (lev : Nat), dpt t < k → dpt t ≤ 7 → lev ≤ 2 → Gets ns (cloS (Fp.f__law_text k) (Fe.ret [encL t, .int lev, .bl true])) (fun x => x = tx (plT t lev))
  | 0, t, lev, h, _, _ => by omega
  | k + 1, .at a c, lev, h, h7, hlev => Gets.call (g := Fp.g__law_text (Fp.f__law_text k) (encL (.at a c)) (.int lev) (.bl true)) (by
    unfold Fp.g__law_text
    rw [bnd_ret, show encL (.at a c) = .tup [.str "@", ch a, ch c] from rfl, un3_tup]
    refine Gets.pure (x := .str "") rfl ?_
    rw [in_formsX (.str "@") 64 rfl (by decide)]
    refine Gets.pure (x := ((.int (3 : Nat), tx [a, 64, c]) : D × D)) rfl ?_
    refine (d_tail (own := 3) (lev := lev) (l := [a, 64, c]) (by simp)).mono fun x ex => ?_
    rw [ex, if_neg (by omega)]
    rfl) fun s => lkF_text _ _ _ _ s
  | k + 1, .same a c, lev, h, h7, hlev => Gets.call (g := Fp.g__law_text (Fp.f__law_text k) (encL (.same a c)) (.int lev) (.bl true)) (by
    unfold Fp.g__law_text
    rw [bnd_ret, show encL (.same a c) = .tup [.str "=", ch a, ch c] from rfl, un3_tup]
    refine Gets.pure (x := .str "") rfl ?_
    rw [in_formsX (.str "=") 61 rfl (by decide)]
    refine Gets.pure (x := ((.int (3 : Nat), tx [a, 61, c]) : D × D)) rfl ?_
    refine (d_tail (own := 3) (lev := lev) (l := [a, 61, c]) (by simp)).mono fun x ex => ?_
    rw [ex, if_neg (by omega)]
    rfl) fun s => lkF_text _ _ _ _ s
  | k + 1, .neg t, lev, h, h7, hlev => Gets.call (g := Fp.g__law_text (Fp.f__law_text k) (encL (.neg t)) (.int lev) (.bl true)) (by
    have hd : dpt t + 1 < k + 1 := h
    have hd7 : dpt t + 1 ≤ 7 := h7
    have hb7 := big_up (show dpt t ≤ 7 by omega)
    have hbc : big 7 = 2176 := rfl
    have hpl := plT_len t 2
    unfold Fp.g__law_text
    rw [bnd_ret, show encL (.neg t) = .tup [.str "~", encL t, .non] from rfl, un3_tup]
    refine Gets.pure (x := .str "") rfl ?_
    rw [in_formsX (.str "~") 126 rfl (by decide), eq_formX (.str "~") (.str "~") 126 126 rfl rfl (by decide) (by decide)]
    refine Gets.bnd (P := fun x : D × D => x = (.int (2 : Nat), tx (126 :: plT t 2))) ?_ fun x ex => ?_
    · show Gets ns (bnd (op2 dAdd (Fe.ret (tx [126])) (cloS (Fp.f__law_text k) (Fe.ret [encL t, .int (2 : Nat), .bl true]))) fun u2 => Fe.ret ((.int (2 : Nat), u2) : D × D)) _
      refine Gets.bnd (P := fun x => x = tx ([126] ++ plT t 2)) ?_ fun x ex => ?_
      · refine Gets.bnd (P := fun x => x = tx [126]) (.ret rfl) fun y ey => ?_
        subst ey
        refine (c_due k t 2 (by omega) (by omega) (by decide)).bnd fun x ex => ?_
        subst ex
        exact Gets.eq (x := tx ([126] ++ plT t 2)) ((op2_ret.symm).trans (add_tx _ _ (by simp; omega))) rfl
      · subst ex
        exact .ret rfl
    · subst ex
      refine (d_tail (own := 2) (lev := lev) (by simp; omega)).mono fun x ex => ?_
      rw [ex, if_neg (by omega)]
      rfl) fun s => lkF_text _ _ _ _ s
  | k + 1, .bin b s t, lev, h, h7, hlev => Gets.call (g := Fp.g__law_text (Fp.f__law_text k) (encL (.bin b s t)) (.int lev) (.bl true)) (by
    have hd : max (dpt s) (dpt t) + 1 < k + 1 := h
    have hd7 : max (dpt s) (dpt t) + 1 ≤ 7 := h7
    have hbs := big_up (show dpt s ≤ 7 by omega)
    have hbt := big_up (show dpt t ≤ 7 by omega)
    have hbc : big 7 = 2176 := rfl
    have two : ∀ (z : D) (c l1 l2 : Nat), z = ch c → l1 ≤ 2 → l2 ≤ 2 → Gets ns (op2 dAdd (op2 dAdd (op2 dAdd (cloS (Fp.f__law_text k) (Fe.ret [encL s, .int l1, .bl true])) (Fe.ret (.str ""))) (Fe.ret z)) (cloS (Fp.f__law_text k) (Fe.ret [encL t, .int l2, .bl true]))) (fun x => x = tx (plT s l1 ++ c :: plT t l2)) := fun z c l1 l2 hz h1 h2 => by
      subst hz
      have q1 := plT_len s l1
      have q2 := plT_len t l2
      refine Gets.bnd (P := fun x => x = tx (plT s l1 ++ [c])) ?_ fun x ex => ?_
      · refine Gets.bnd (P := fun x => x = tx (plT s l1)) ?_ fun x ex => ?_
        · refine (c_due k s l1 (by omega) (by omega) h1).bnd fun x ex => ?_
          subst ex
          exact Gets.eq (x := tx (plT s l1 ++ [])) ((op2_ret.symm).trans (add_tx (plT s l1) [] (by simp; omega))) (by rw [List.append_nil])
        · subst ex
          exact Gets.eq (x := tx (plT s l1 ++ [c])) ((op2_ret.symm).trans (add_tx _ _ (by simp; omega))) rfl
      · subst ex
        refine (c_due k t l2 (by omega) (by omega) h2).bnd fun x ex => ?_
        subst ex
        exact Gets.eq (x := tx ((plT s l1 ++ [c]) ++ plT t l2)) ((op2_ret.symm).trans (add_tx _ _ (by simp; omega))) (by rw [List.append_assoc]; rfl)
    unfold Fp.g__law_text
    cases b with
    | true =>
      rw [bnd_ret, show encL (.bin true s t) = .tup [.str "&", encL s, encL t] from rfl, un3_tup]
      refine Gets.pure (x := .str "") rfl ?_
      rw [in_formsX (.str "&") 38 rfl (by decide), eq_formX (.str "&") (.str "~") 38 126 rfl rfl (by decide) (by decide), eq_formX (.str "&") (.str "|") 38 124 rfl rfl (by decide) (by decide)]
      have q1 := plT_len s 1
      have q2 := plT_len t 2
      refine Gets.bnd (P := fun x : D × D => x = (.int (1 : Nat), tx (plT s 1 ++ 38 :: plT t 2))) ?_ fun x ex => ?_
      · show Gets ns (bnd (op2 dAdd (op2 dAdd (op2 dAdd (cloS (Fp.f__law_text k) (Fe.ret [encL s, .int (1 : Nat), .bl true])) (Fe.ret (.str ""))) (Fe.ret (.str "&"))) (cloS (Fp.f__law_text k) (Fe.ret [encL t, .int (2 : Nat), .bl true]))) fun u2 => Fe.ret ((.int (1 : Nat), u2) : D × D)) _
        refine (two (.str "&") 38 1 2 rfl (by decide) (by decide)).bnd fun x ex => ?_
        subst ex
        exact .ret rfl
      · subst ex
        exact (d_tail (own := 1) (lev := lev) (by simp; omega)).mono fun x ex => ex
    | false =>
      rw [bnd_ret, show encL (.bin false s t) = .tup [.str "|", encL s, encL t] from rfl, un3_tup]
      refine Gets.pure (x := .str "") rfl ?_
      rw [in_formsX (.str "|") 124 rfl (by decide), eq_formX (.str "|") (.str "~") 124 126 rfl rfl (by decide) (by decide), eq_formX (.str "|") (.str "|") 124 124 rfl rfl (by decide) (by decide)]
      have q1 := plT_len s 0
      have q2 := plT_len t 1
      refine Gets.bnd (P := fun x : D × D => x = (.int (0 : Nat), tx (plT s 0 ++ 124 :: plT t 1))) ?_ fun x ex => ?_
      · show Gets ns (bnd (op2 dAdd (op2 dAdd (op2 dAdd (cloS (Fp.f__law_text k) (Fe.ret [encL s, .int (0 : Nat), .bl true])) (Fe.ret (.str ""))) (Fe.ret (.str "|"))) (cloS (Fp.f__law_text k) (Fe.ret [encL t, .int (1 : Nat), .bl true]))) fun u2 => Fe.ret ((.int (0 : Nat), u2) : D × D)) _
        refine (two (.str "|") 124 0 1 rfl (by decide) (by decide)).bnd fun x ex => ?_
        subst ex
        exact .ret rfl
      · subst ex
        exact (d_tail (own := 0) (lev := lev) (by simp; omega)).mono fun x ex => ex) fun s => lkF_text _ _ _ _ s
end Ty
end
section
set_option Elab.async false
set_option linter.all false
set_option maxRecDepth 100000
set_option maxHeartbeats 4000000
namespace Ty
open PySem (Str)
open Fe
variable {ns : List Int}
/-- it is no text, or it is too long -/
def BadW (d : D) : Prop := (bnd (cl Fp.f_need (consA (andV (cmp1 (dIsi "str") (Fe.ret d)) (cmp dLe (op1 dLen (Fe.ret d)) (Fe.ret (.int 200)))) (consA (Fe.ret (.str "text")) nilA))) fun _ => (Fe.ret .non) : Ms Unit D) = raise (bad "text")
theorem r_need_text {d : D} (h : BadW d) : Fp.f_need_text [d] = .ex (bad "text") := Fp.ex_need_text h
theorem r_flaw {d : D} (h : BadW d) : Fp.f_flaw [d] = .ex (bad "text") := Fp.ex_flaw (by
  unfold Fp.g_flaw
  rw [nil_ret, cons_ret, cl_ex (r_need_text h), bnd_raise])
theorem r_plain_text {d : D} (h : BadW d) : Fp.f_plain_text [d] = .ex (bad "text") := Fp.ex_plain_text (by
  unfold Fp.g_plain_text
  have e : (cl Fp.f_need_text (consA (Fe.ret d) nilA) : Ms Unit D) = raise (bad "text") := by rw [nil_ret, cons_ret, cl_ex (r_need_text h)]
  rw [e, bnd_raise])
def aaW : List Nat := (List.replicate (201 : Int).toNat [97]).flatten
theorem aaW_len : aaW.length = 201 := by
  unfold aaW
  simp [List.length_flatten]
theorem badW_no {d : D} {b : Bool} (e : (andV (cmp1 (dIsi "str") (Fe.ret d)) (cmp dLe (op1 dLen (Fe.ret d)) (Fe.ret (.int 200))) : Ms Unit D) = Fe.ret (.bl false)) : BadW d := by
  unfold BadW
  rw [e, nil_ret, cons_ret, cons_ret, cl_ex (f_need_no "text"), bnd_raise]
theorem badW_long : BadW (tx aaW) := by
  refine badW_no (b := true) ?_
  have e2 : (cmp dLe (op1 dLen (Fe.ret (tx aaW))) (Fe.ret (.int 200)) : Ms Unit D) = Fe.ret (.bl false) := by
    rw [len_txS aaW (by rw [aaW_len]; decide), cmp_ret]
    show Fe.ret (D.bl (decide ((aaW.length : Int) ≤ 200))) = _
    rw [aaW_len]; rfl
  rw [e2]
  rfl
theorem aaW_is {σ : Type} : (op2 dMulS (Fe.ret (.str "a")) (Fe.ret (.int 201)) : Ms σ D) = Fe.ret (tx aaW) := by
  have : dMulS (.str "a") (.int 201) = some (tx aaW) := by
    show (if 0 ≤ (201 : Int) ∧ (201 : Int) ≤ 1000 ∧ ("a" : Str).length ≤ 1000 then some (D.str ⟨(List.replicate (201 : Int).toNat ("a" : Str).cps.toList).flatten.toArray⟩) else none) = _
    rw [if_pos ⟨by decide, by decide, by decide⟩]
    rfl
  rw [op2_ret, this, lft_some]
def badsW : List D := [.non, .int 5, tx aaW, .bl true, .tup [.str "a@0"]]
theorem badsW_is {σ : Type} : (lstE (consA (Fe.ret .non) (consA (Fe.ret (.int 5)) (consA (op2 dMulS (Fe.ret (.str "a")) (Fe.ret (.int 201))) (consA (Fe.ret (.bl true)) (consA (tupE (consA (Fe.ret (.str "a@0")) nilA)) nilA))))) : Ms σ D) = Fe.ret (.lst badsW) := by
  rw [aaW_is]
  rfl
theorem badsW_bad : ∀ d ∈ badsW, BadW d := by
  intro d hd
  simp only [badsW, List.mem_cons, List.not_mem_nil, or_false] at hd
  rcases hd with rfl | rfl | rfl | rfl | rfl
  · exact badW_no (b := true) rfl
  · exact badW_no (b := true) rfl
  · exact badW_long
  · exact badW_no (b := true) rfl
  · exact badW_no (b := true) rfl
theorem Gets.refused {c f : Str} {g : List D → F} {a : Ms D (List D)} {P : List D → Prop} {x : Ex} {d : D} (h : Gets ns a P) (hg : ∀ l, P l → g l = .ex x) (hc : x.c = c) (hf : x.fs.lookup f = some d) : Gets ns (Fe.refused c f (cl g a)) fun y => y = d := fun r hr => by
  obtain ⟨l, r', e, hr', p⟩ := h r hr
  refine ⟨d, r', ?_, hr', rfl⟩
  have e2 : cl g a r = .ex x r' := by
    unfold cl Fe.bnd
    rw [e]
    dsimp only
    rw [hg l p]
    rfl
  unfold Fe.refused
  rw [e2]
  dsimp only
  rw [if_pos hc, hf]
end Ty
end
section
set_option Elab.async false
set_option linter.all false
set_option maxRecDepth 100000
set_option maxHeartbeats 4000000
namespace Ty
open PySem (Str)
open Fe
variable {ns : List Int}
theorem Gets.start03 {α : Type} {m : Ms D D} {R : Ms D α} {P : α → Prop} {c : Int} (hm : m = Fe.ret (row ns 0 c 0)) (h : Gets ns R P) (s : D) : ∃ x s', (Fe.bnd m fun w => Fe.bnd (putS w) fun _ => R) s = .ok x s' ∧ P x := by
  obtain ⟨x, r', e, _, p⟩ := h (row ns 0 c 0) ⟨0, c, 0, by decide, rfl⟩
  refine ⟨x, r', ?_, p⟩
  rw [hm]
  exact e
theorem Gets.call' {f : C → List D → FO} {a : Ms D D} {P Q : D → Prop} (h : Gets ns a P) (h2 : ∀ x, P x → Gets ns (cloS f (Fe.ret [x])) Q) : Gets ns (cloS f (consA a nilA)) Q := fun r hr => by
  obtain ⟨x, r1, e, hr1, p⟩ := h r hr
  obtain ⟨y, r2, e2, hr2, q⟩ := h2 x p r1 hr1
  refine ⟨y, r2, ?_, hr2, q⟩
  have e3 : consA a nilA r = .ok [x] r1 := by
    unfold consA
    unfold Fe.bnd
    rw [e]; rfl
  rw [← e2]
  unfold cloS Fe.bnd
  rw [e3]
  rfl
theorem pick_bad {f : List D → F} (hf : ∀ d, BadW d → f [d] = .ex (bad "text")) : Gets ns (refused "BadArgument" "name" (cl f (consA (cloS Fp.f__law_pick (consA (Fe.ret (.lst badsW)) nilA)) nilA))) fun y => y = .str "text" :=
  Gets.refused (P := fun l => ∃ d, d ∈ badsW ∧ l = [d]) ((Gets.cons (show Gets ns (cloS Fp.f__law_pick (consA (Fe.ret (.lst badsW)) nilA)) (fun x => x ∈ badsW) from c_pickL (by unfold badsW; simp) (by unfold badsW; simp)) Gets.nil).mono fun l ⟨x, m, e, hx, em⟩ => ⟨x, hx, by subst e em; rfl⟩) (fun l ⟨d, hd, e⟩ => by subst e; exact hf d (badsW_bad d hd)) rfl rfl
theorem g_law03 (ns : List Int) (s : D) : ∃ x s', K03.g_law (eL ns) s = .ok x s' ∧ x = D.bl true := by
  unfold K03.g_law
  refine Gets.start03 (ns := ns) (c := 106013) rfl ?_ s
  refine Gets.pure (m := rg1 (Fe.ret (.int 12))) (x := (upto 12).map .int) (rg1_uptoN (n := 12) (by omega)) ?_
  refine (Gets.forX (I := fun _ => True) trivial fun x _ t _ => ?_).bnd fun r ⟨t', e, _⟩ => ?_
  · refine Gets.bnd (P := fun x => ∃ t, x = encL t ∧ okT t ∧ dpt t ≤ 4) ?_ fun x ⟨t, ex, ok, hd⟩ => ?_
    · refine Gets.call' (P := Bl 0 5) (draw' rfl (by decide)) fun x ⟨k, ek, k1, k2⟩ => ?_
      subst ek
      obtain ⟨n, rfl⟩ := Int.eq_ofNat_of_zero_le k1
      exact (c_tree 6 n (by omega) (by omega)).mono fun x ⟨t, e, o, d⟩ => ⟨t, e, o, by omega⟩
    subst ex
    have hbc : big 4 = 272 := rfl
    have hb := big_up hd
    refine Gets.bnd (P := fun x => ∃ l, x = tx l ∧ WT 0 (dpt t + 1) t l ∧ l.length ≤ 1000) ?_ fun x ⟨l, ex, w, hl⟩ => ?_
    · refine c_blank.bnd fun x ⟨g, hg, ex⟩ => ?_
      subst ex
      refine (show Gets ns (cloS (Fp.f__law_text 6) (consA (Fe.ret (encL t)) (consA (Fe.ret (.int 0)) (consA (Fe.ret (.bl false)) nilA)))) _ from c_text 6 t 0 ok (by omega) (by omega) (by decide)).bnd fun x ⟨l, ex, w, hl⟩ => ?_
      subst ex
      exact Gets.eq (x := tx (List.replicate g 32 ++ l)) ((op2_ret.symm).trans (add_tx _ _ (by simp; omega))) ⟨_, rfl, w.pre g, by simp; omega⟩
    subst ex
    refine (show Gets ns (cloS (Fp.f__law_text 6) (consA (Fe.ret (encL t)) (consA (Fe.ret (.int 0)) (consA (Fe.ret (.bl true)) nilA)))) _ from c_due 6 t 0 (by omega) (by omega) (by decide)).bnd fun x ex => ?_
    subst ex
    have eg : (tsb (cmp dGt (op1 dLen (Fe.ret (tx l))) (Fe.ret (.int 200))) : Ms D Bool) = Fe.ret (decide (200 < l.length)) := by
      rw [len_txS l (by omega), cmp_ret]
      show Fe.ret (decide ((200 : Int) < (l.length : Int))) = _
      congr 1
      rw [decide_eq_decide]; omega
    by_cases hlong : 200 < l.length
    · rw [decide_eq_true hlong] at eg
      exact Gets.take eg (.ret ⟨(), rfl, trivial⟩)
    rw [decide_eq_false hlong] at eg
    refine Gets.skip eg (Gets.skip ?_ (.ret ⟨(), rfl, trivial⟩))
    have hl2 : l.length ≤ 200 := by omega
    have hp := plT_reads t 0 ok (by decide)
    have hpl : (plT t 0).length ≤ 200 := Nat.le_trans w.long hl2
    have r1 := w.read (by omega)
    have r2 := hp.read (by omega)
    have a1 : (cl Fp.f_flaw (consA (Fe.ret (tx l)) nilA) : Ms D D) = Fe.ret .non := cl_ok (by rw [f_flaw l hl2 w.chars]; unfold flawWD; rw [r1])
    have a2 : (cl Fp.f_plain_text (consA (Fe.ret (tx l)) nilA) : Ms D D) = Fe.ret (tx (plT t 0)) := cl_ok (f_plain hl2 w.chars r1 (by omega))
    have a3 : (clk Fp.f_plain_text 0 1 nilA (consA (Fe.ret (tx (plT t 0))) nilA) : Ms D D) = Fe.ret (tx (plT t 0)) := clk_ok (l := []) (m := [tx (plT t 0)]) rfl rfl (f_plain hpl hp.chars r2 (by omega)) rfl rfl
    rw [a1, alike_tx a2 rfl hp.chars, alike_tx a3 rfl hp.chars]
    rfl
  · subst e
    rw [badsW_is]
    unfold lpK
    dsimp only
    refine Gets.pure (m := Fe.ret (D.lst badsW)) (x := D.lst badsW) rfl ?_
    refine Gets.bnd (P := fun x => x = .lst [.str "text", .str "text"]) ?_ fun x ex => ?_
    · refine (Gets.cons (pick_bad fun d h => r_plain_text h) (Gets.cons (pick_bad fun d h => r_flaw h) Gets.nil)).bnd fun l hl => ?_
      obtain ⟨x1, m1, rfl, rfl, x2, m2, rfl, rfl, rfl⟩ := hl
      exact .ret rfl
    · subst ex
      have e : dEq (.lst [.str "text", .str "text"]) (.lst [.str "text", .str "text"]) = some true := by decide +kernel
      show Gets ns (lft (mbl dEq (.lst [.str "text", .str "text"]) (.lst [.str "text", .str "text"]))) _
      unfold mbl
      rw [e]
      exact .ret rfl
end Ty
namespace K03
open Fe
theorem law_true (ns : List Int) (h1 : ns.length ≤ 63) (h2 : ∀ z ∈ ns, PySem.Builtin.Int.intBits z ≤ 1048576) : K03.f_law [.lst (ns.map .int)] = .ok (.bl true) := by
  obtain ⟨x, s', e, ex⟩ := Ty.g_law03 ns D.non
  subst ex
  have l := K03.lk_law (.lst (ns.map .int)) D.non
  have e' : K03.g_law (.lst (ns.map .int)) D.non = .ok (.bl true) s' := e
  rw [e'] at l
  exact l
end K03
end
section
end
section
set_option Elab.async false
set_option linter.all false
set_option maxRecDepth 100000
set_option maxHeartbeats 4000000
namespace K03
open PySem PySem.Spec PyProof.Rows L2 Fe
abbrev s_init : Stmt := inClass (topS 1) 0
theorem sc_init : FnScope ["self", "name"] ["self", "name"] (defScope s_init) := ⟨rfl, rfl, rfl, by decide +kernel, rfl, by decide +kernel, by decide +kernel⟩
abbrev s_init_Flaw : Stmt := inClass (topS 2) 0
theorem sc_init_Flaw : FnScope ["self", "place", "message"] ["self", "place", "message"] (defScope s_init_Flaw) := ⟨rfl, rfl, rfl, by decide +kernel, rfl, by decide +kernel, by decide +kernel⟩
abbrev s__law_refused : Stmt := topS 25
theorem sc__law_refused : FnScope ["call", "e"] ["call"] (defScope s__law_refused) := ⟨rfl, rfl, rfl, by decide +kernel, rfl, by decide +kernel, by decide +kernel⟩
theorem all_mk {l : PySem.W.OpenLaw} {w : World} {K : PySem.W.Frag} {h : Heap} {mg : Str → Option Value} {fa PP : Addr} (X : K.In h) (G : h.Ns mainGlobals mg) (hfa : mg "law" = some (.ref fa)) (hT : ∀ P ∈ [PP], h.get? P = some (PySem.W.tabObj #[]))
    (hlaw : ∀ ns : List Int, ns.length ≤ 63 → (∀ z ∈ ns, Builtin.Int.intBits z ≤ 1048576) → K03.f_law [.lst (ns.map .int)] = .ok (.bl true))
    (z_bool : PySem.W.nsIn K mainGlobals "bool" = some none)
    (z_enumerate : PySem.W.nsIn K mainGlobals "enumerate" = some none)
    (z_int : PySem.W.nsIn K mainGlobals "int" = some none)
    (z_isinstance : PySem.W.nsIn K mainGlobals "isinstance" = some none)
    (z_len : PySem.W.nsIn K mainGlobals "len" = some none)
    (z_range : PySem.W.nsIn K mainGlobals "range" = some none)
    (z_str : PySem.W.nsIn K mainGlobals "str" = some none)
    (z_tuple : PySem.W.nsIn K mainGlobals "tuple" = some none)
    {t_AND : Tok}
    (c_AND : PySem.W.nsIn K mainGlobals "AND" = some (some (.str "&" t_AND)))
    {t_AT : Tok}
    (c_AT : PySem.W.nsIn K mainGlobals "AT" = some (some (.str "@" t_AT)))
    {t_BOATS : Tok}
    (c_BOATS : PySem.W.nsIn K mainGlobals "BOATS" = some (some (.str "XYZ" t_BOATS)))
    {t_DIGITS : Tok}
    (c_DIGITS : PySem.W.nsIn K mainGlobals "DIGITS" = some (some (.str "0123" t_DIGITS)))
    {t_LETTERS : Tok}
    (c_LETTERS : PySem.W.nsIn K mainGlobals "LETTERS" = some (some (.str "abcdefghij" t_LETTERS)))
    {t_MOST_DEEP : Tok}
    (c_MOST_DEEP : PySem.W.nsIn K mainGlobals "MOST_DEEP" = some (some (.int (20) t_MOST_DEEP)))
    {t_MOST_TEXT : Tok}
    (c_MOST_TEXT : PySem.W.nsIn K mainGlobals "MOST_TEXT" = some (some (.int (200) t_MOST_TEXT)))
    {t_NOT : Tok}
    (c_NOT : PySem.W.nsIn K mainGlobals "NOT" = some (some (.str "~" t_NOT)))
    {t_OR : Tok}
    (c_OR : PySem.W.nsIn K mainGlobals "OR" = some (some (.str "|" t_OR)))
    {t_SAME : Tok}
    (c_SAME : PySem.W.nsIn K mainGlobals "SAME" = some (some (.str "=" t_SAME)))
    {q_need : Addr} {od_need an_need : Option Addr} {sl_need : Array (Option Value)} {oc_need kV_need dc_need pm_need ct_need cd_need : Value}
    (a_need : PySem.W.nsIn K mainGlobals "need" = some (some (.ref q_need)))
    (l_need : K.lookup q_need = some ⟨oc_need, od_need, .func (PySem.W.fnOf "need" "need" (defArgs s_need) (defBody s_need) (defScope s_need) .none kV_need dc_need pm_need an_need cd_need ct_need), sl_need⟩)
    (co_need : PySem.W.codeIn K cd_need "need" = true)
    (k_need : PySem.W.keepIn K (.ref q_need) = true)
    {K_Wish : Addr}
    (aK_Wish : PySem.W.nsIn K mainGlobals "Wish" = some (some (.ref K_Wish)))
    (pg_Wish : PySem.W.plainGet K K_Wish Str.empty = true)
    (hdi_Wish : PySem.W.hasDictIn K K_Wish = true)
    (po_Wish : PySem.W.plainOver K K_Wish = true)
    (sa_Wish : PySem.W.findIn K (.ref K_Wish) "__setattr__" = some (some (.builtin "object.__setattr__")))
    (mk_Wish : PySem.W.makesIn K K_Wish = true)
    (kc_Wish : PySem.W.keepIn K (.ref K_Wish) = true)
    (nf_Wish_inner : PySem.W.findIn K (.ref K_Wish) "inner" = some none)
    (nf_Wish_names : PySem.W.findIn K (.ref K_Wish) "names" = some none)
    (nf_Wish_form : PySem.W.findIn K (.ref K_Wish) "form" = some none)
    (nf_Wish_signs : PySem.W.findIn K (.ref K_Wish) "signs" = some none)
    (nf_Wish_deep : PySem.W.findIn K (.ref K_Wish) "deep" = some none)
    (nf_Wish_at : PySem.W.findIn K (.ref K_Wish) "at" = some none)
    (nf_Wish_size : PySem.W.findIn K (.ref K_Wish) "size" = some none)
    {q_Wish_init : Addr} {od_Wish_init an_Wish_init : Option Addr} {sl_Wish_init : Array (Option Value)} {oc_Wish_init kV_Wish_init dc_Wish_init pm_Wish_init ct_Wish_init cd_Wish_init : Value}
    (a_Wish_init : PySem.W.findIn K (.ref K_Wish) "__init__" = some (some (.ref q_Wish_init)))
    (i_Wish_init : PySem.W.isFn K (.ref q_Wish_init) = true)
    (l_Wish_init : K.lookup q_Wish_init = some ⟨oc_Wish_init, od_Wish_init, .func (PySem.W.fnOf "__init__" "Wish.__init__" (defArgs s_Wish_init) (defBody s_Wish_init) (defScope s_Wish_init) .none kV_Wish_init dc_Wish_init pm_Wish_init an_Wish_init cd_Wish_init ct_Wish_init), sl_Wish_init⟩)
    (co_Wish_init : PySem.W.codeIn K cd_Wish_init "Wish.__init__" = true)
    (k_Wish_init : PySem.W.keepIn K (.ref q_Wish_init) = true)
    {K_Reader : Addr}
    (aK_Reader : PySem.W.nsIn K mainGlobals "Reader" = some (some (.ref K_Reader)))
    (pg_Reader : PySem.W.plainGet K K_Reader Str.empty = true)
    (hdi_Reader : PySem.W.hasDictIn K K_Reader = true)
    (po_Reader : PySem.W.plainOver K K_Reader = true)
    (sa_Reader : PySem.W.findIn K (.ref K_Reader) "__setattr__" = some (some (.builtin "object.__setattr__")))
    (mk_Reader : PySem.W.makesIn K K_Reader = true)
    (kc_Reader : PySem.W.keepIn K (.ref K_Reader) = true)
    (nf_Reader_inner : PySem.W.findIn K (.ref K_Reader) "inner" = some none)
    (nf_Reader_names : PySem.W.findIn K (.ref K_Reader) "names" = some none)
    (nf_Reader_form : PySem.W.findIn K (.ref K_Reader) "form" = some none)
    (nf_Reader_signs : PySem.W.findIn K (.ref K_Reader) "signs" = some none)
    (nf_Reader_deep : PySem.W.findIn K (.ref K_Reader) "deep" = some none)
    (nf_Reader_at : PySem.W.findIn K (.ref K_Reader) "at" = some none)
    (nf_Reader_size : PySem.W.findIn K (.ref K_Reader) "size" = some none)
    {q_Reader_init : Addr} {od_Reader_init an_Reader_init : Option Addr} {sl_Reader_init : Array (Option Value)} {oc_Reader_init kV_Reader_init dc_Reader_init pm_Reader_init ct_Reader_init cd_Reader_init : Value}
    (a_Reader_init : PySem.W.findIn K (.ref K_Reader) "__init__" = some (some (.ref q_Reader_init)))
    (i_Reader_init : PySem.W.isFn K (.ref q_Reader_init) = true)
    (l_Reader_init : K.lookup q_Reader_init = some ⟨oc_Reader_init, od_Reader_init, .func (PySem.W.fnOf "__init__" "Reader.__init__" (defArgs s_Reader_init) (defBody s_Reader_init) (defScope s_Reader_init) .none kV_Reader_init dc_Reader_init pm_Reader_init an_Reader_init cd_Reader_init ct_Reader_init), sl_Reader_init⟩)
    (co_Reader_init : PySem.W.codeIn K cd_Reader_init "Reader.__init__" = true)
    (k_Reader_init : PySem.W.keepIn K (.ref q_Reader_init) = true)
    {q_Reader_ahead : Addr} {od_Reader_ahead an_Reader_ahead : Option Addr} {sl_Reader_ahead : Array (Option Value)} {oc_Reader_ahead kV_Reader_ahead dc_Reader_ahead pm_Reader_ahead ct_Reader_ahead cd_Reader_ahead : Value}
    (a_Reader_ahead : PySem.W.findIn K (.ref K_Reader) "ahead" = some (some (.ref q_Reader_ahead)))
    (i_Reader_ahead : PySem.W.isFn K (.ref q_Reader_ahead) = true)
    (l_Reader_ahead : K.lookup q_Reader_ahead = some ⟨oc_Reader_ahead, od_Reader_ahead, .func (PySem.W.fnOf "ahead" "Reader.ahead" (defArgs s_Reader_ahead) (defBody s_Reader_ahead) (defScope s_Reader_ahead) .none kV_Reader_ahead dc_Reader_ahead pm_Reader_ahead an_Reader_ahead cd_Reader_ahead ct_Reader_ahead), sl_Reader_ahead⟩)
    (co_Reader_ahead : PySem.W.codeIn K cd_Reader_ahead "Reader.ahead" = true)
    (k_Reader_ahead : PySem.W.keepIn K (.ref q_Reader_ahead) = true)
    {q_Reader_fail : Addr} {od_Reader_fail an_Reader_fail : Option Addr} {sl_Reader_fail : Array (Option Value)} {oc_Reader_fail kV_Reader_fail dc_Reader_fail pm_Reader_fail ct_Reader_fail cd_Reader_fail : Value}
    (a_Reader_fail : PySem.W.findIn K (.ref K_Reader) "fail" = some (some (.ref q_Reader_fail)))
    (i_Reader_fail : PySem.W.isFn K (.ref q_Reader_fail) = true)
    (l_Reader_fail : K.lookup q_Reader_fail = some ⟨oc_Reader_fail, od_Reader_fail, .func (PySem.W.fnOf "fail" "Reader.fail" (defArgs s_Reader_fail) (defBody s_Reader_fail) (defScope s_Reader_fail) .none kV_Reader_fail dc_Reader_fail pm_Reader_fail an_Reader_fail cd_Reader_fail ct_Reader_fail), sl_Reader_fail⟩)
    (co_Reader_fail : PySem.W.codeIn K cd_Reader_fail "Reader.fail" = true)
    (k_Reader_fail : PySem.W.keepIn K (.ref q_Reader_fail) = true)
    {q_Reader_take : Addr} {od_Reader_take an_Reader_take : Option Addr} {sl_Reader_take : Array (Option Value)} {oc_Reader_take kV_Reader_take dc_Reader_take pm_Reader_take ct_Reader_take cd_Reader_take : Value}
    (a_Reader_take : PySem.W.findIn K (.ref K_Reader) "take" = some (some (.ref q_Reader_take)))
    (i_Reader_take : PySem.W.isFn K (.ref q_Reader_take) = true)
    (l_Reader_take : K.lookup q_Reader_take = some ⟨oc_Reader_take, od_Reader_take, .func (PySem.W.fnOf "take" "Reader.take" (defArgs s_Reader_take) (defBody s_Reader_take) (defScope s_Reader_take) .none kV_Reader_take dc_Reader_take pm_Reader_take an_Reader_take cd_Reader_take ct_Reader_take), sl_Reader_take⟩)
    (co_Reader_take : PySem.W.codeIn K cd_Reader_take "Reader.take" = true)
    (k_Reader_take : PySem.W.keepIn K (.ref q_Reader_take) = true)
    {q_Reader_single : Addr} {od_Reader_single an_Reader_single : Option Addr} {sl_Reader_single : Array (Option Value)} {oc_Reader_single kV_Reader_single dc_Reader_single pm_Reader_single ct_Reader_single cd_Reader_single : Value}
    (a_Reader_single : PySem.W.findIn K (.ref K_Reader) "single" = some (some (.ref q_Reader_single)))
    (i_Reader_single : PySem.W.isFn K (.ref q_Reader_single) = true)
    (l_Reader_single : K.lookup q_Reader_single = some ⟨oc_Reader_single, od_Reader_single, .func (PySem.W.fnOf "single" "Reader.single" (defArgs s_Reader_single) (defBody s_Reader_single) (defScope s_Reader_single) .none kV_Reader_single dc_Reader_single pm_Reader_single an_Reader_single cd_Reader_single ct_Reader_single), sl_Reader_single⟩)
    (co_Reader_single : PySem.W.codeIn K cd_Reader_single "Reader.single" = true)
    (k_Reader_single : PySem.W.keepIn K (.ref q_Reader_single) = true)
    {q_Reader_both : Addr} {od_Reader_both an_Reader_both : Option Addr} {sl_Reader_both : Array (Option Value)} {oc_Reader_both kV_Reader_both dc_Reader_both pm_Reader_both ct_Reader_both cd_Reader_both : Value}
    (a_Reader_both : PySem.W.findIn K (.ref K_Reader) "both" = some (some (.ref q_Reader_both)))
    (i_Reader_both : PySem.W.isFn K (.ref q_Reader_both) = true)
    (l_Reader_both : K.lookup q_Reader_both = some ⟨oc_Reader_both, od_Reader_both, .func (PySem.W.fnOf "both" "Reader.both" (defArgs s_Reader_both) (defBody s_Reader_both) (defScope s_Reader_both) .none kV_Reader_both dc_Reader_both pm_Reader_both an_Reader_both cd_Reader_both ct_Reader_both), sl_Reader_both⟩)
    (co_Reader_both : PySem.W.codeIn K cd_Reader_both "Reader.both" = true)
    (k_Reader_both : PySem.W.keepIn K (.ref q_Reader_both) = true)
    {q_Reader_either : Addr} {od_Reader_either an_Reader_either : Option Addr} {sl_Reader_either : Array (Option Value)} {oc_Reader_either kV_Reader_either dc_Reader_either pm_Reader_either ct_Reader_either cd_Reader_either : Value}
    (a_Reader_either : PySem.W.findIn K (.ref K_Reader) "either" = some (some (.ref q_Reader_either)))
    (i_Reader_either : PySem.W.isFn K (.ref q_Reader_either) = true)
    (l_Reader_either : K.lookup q_Reader_either = some ⟨oc_Reader_either, od_Reader_either, .func (PySem.W.fnOf "either" "Reader.either" (defArgs s_Reader_either) (defBody s_Reader_either) (defScope s_Reader_either) .none kV_Reader_either dc_Reader_either pm_Reader_either an_Reader_either cd_Reader_either ct_Reader_either), sl_Reader_either⟩)
    (co_Reader_either : PySem.W.codeIn K cd_Reader_either "Reader.either" = true)
    (k_Reader_either : PySem.W.keepIn K (.ref q_Reader_either) = true)
    {q_Reader_ground : Addr} {od_Reader_ground an_Reader_ground : Option Addr} {sl_Reader_ground : Array (Option Value)} {oc_Reader_ground kV_Reader_ground dc_Reader_ground pm_Reader_ground ct_Reader_ground cd_Reader_ground : Value}
    (a_Reader_ground : PySem.W.findIn K (.ref K_Reader) "ground" = some (some (.ref q_Reader_ground)))
    (i_Reader_ground : PySem.W.isFn K (.ref q_Reader_ground) = true)
    (l_Reader_ground : K.lookup q_Reader_ground = some ⟨oc_Reader_ground, od_Reader_ground, .func (PySem.W.fnOf "ground" "Reader.ground" (defArgs s_Reader_ground) (defBody s_Reader_ground) (defScope s_Reader_ground) .none kV_Reader_ground dc_Reader_ground pm_Reader_ground an_Reader_ground cd_Reader_ground ct_Reader_ground), sl_Reader_ground⟩)
    (co_Reader_ground : PySem.W.codeIn K cd_Reader_ground "Reader.ground" = true)
    (k_Reader_ground : PySem.W.keepIn K (.ref q_Reader_ground) = true)
    {q_Reader_whole : Addr} {od_Reader_whole an_Reader_whole : Option Addr} {sl_Reader_whole : Array (Option Value)} {oc_Reader_whole kV_Reader_whole dc_Reader_whole pm_Reader_whole ct_Reader_whole cd_Reader_whole : Value}
    (a_Reader_whole : PySem.W.findIn K (.ref K_Reader) "whole" = some (some (.ref q_Reader_whole)))
    (i_Reader_whole : PySem.W.isFn K (.ref q_Reader_whole) = true)
    (l_Reader_whole : K.lookup q_Reader_whole = some ⟨oc_Reader_whole, od_Reader_whole, .func (PySem.W.fnOf "whole" "Reader.whole" (defArgs s_Reader_whole) (defBody s_Reader_whole) (defScope s_Reader_whole) .none kV_Reader_whole dc_Reader_whole pm_Reader_whole an_Reader_whole cd_Reader_whole ct_Reader_whole), sl_Reader_whole⟩)
    (co_Reader_whole : PySem.W.codeIn K cd_Reader_whole "Reader.whole" = true)
    (k_Reader_whole : PySem.W.keepIn K (.ref q_Reader_whole) = true)
    {q_need_text : Addr} {od_need_text an_need_text : Option Addr} {sl_need_text : Array (Option Value)} {oc_need_text kV_need_text dc_need_text pm_need_text ct_need_text cd_need_text : Value}
    (a_need_text : PySem.W.nsIn K mainGlobals "need_text" = some (some (.ref q_need_text)))
    (l_need_text : K.lookup q_need_text = some ⟨oc_need_text, od_need_text, .func (PySem.W.fnOf "need_text" "need_text" (defArgs s_need_text) (defBody s_need_text) (defScope s_need_text) .none kV_need_text dc_need_text pm_need_text an_need_text cd_need_text ct_need_text), sl_need_text⟩)
    (co_need_text : PySem.W.codeIn K cd_need_text "need_text" = true)
    (k_need_text : PySem.W.keepIn K (.ref q_need_text) = true)
    {q_flaw : Addr} {od_flaw an_flaw : Option Addr} {sl_flaw : Array (Option Value)} {oc_flaw kV_flaw dc_flaw pm_flaw ct_flaw cd_flaw : Value}
    (a_flaw : PySem.W.nsIn K mainGlobals "flaw" = some (some (.ref q_flaw)))
    (l_flaw : K.lookup q_flaw = some ⟨oc_flaw, od_flaw, .func (PySem.W.fnOf "flaw" "flaw" (defArgs s_flaw) (defBody s_flaw) (defScope s_flaw) .none kV_flaw dc_flaw pm_flaw an_flaw cd_flaw ct_flaw), sl_flaw⟩)
    (co_flaw : PySem.W.codeIn K cd_flaw "flaw" = true)
    (k_flaw : PySem.W.keepIn K (.ref q_flaw) = true)
    {q_written : Addr} {od_written an_written : Option Addr} {sl_written : Array (Option Value)} {oc_written kV_written dc_written pm_written ct_written cd_written : Value}
    (a_written : PySem.W.nsIn K mainGlobals "written" = some (some (.ref q_written)))
    (l_written : K.lookup q_written = some ⟨oc_written, od_written, .func (PySem.W.fnOf "written" "written" (defArgs s_written) (defBody s_written) (defScope s_written) .none kV_written dc_written pm_written an_written cd_written ct_written), sl_written⟩)
    (co_written : PySem.W.codeIn K cd_written "written" = true)
    (k_written : PySem.W.keepIn K (.ref q_written) = true)
    {q_plain_text : Addr} {od_plain_text an_plain_text : Option Addr} {sl_plain_text : Array (Option Value)} {oc_plain_text kV_plain_text dc_plain_text pm_plain_text ct_plain_text cd_plain_text : Value}
    (a_plain_text : PySem.W.nsIn K mainGlobals "plain_text" = some (some (.ref q_plain_text)))
    (l_plain_text : K.lookup q_plain_text = some ⟨oc_plain_text, od_plain_text, .func (PySem.W.fnOf "plain_text" "plain_text" (defArgs s_plain_text) (defBody s_plain_text) (defScope s_plain_text) .none kV_plain_text dc_plain_text pm_plain_text an_plain_text cd_plain_text ct_plain_text), sl_plain_text⟩)
    (co_plain_text : PySem.W.codeIn K cd_plain_text "plain_text" = true)
    (k_plain_text : PySem.W.keepIn K (.ref q_plain_text) = true)
    {q__law_taken : Addr} {od__law_taken an__law_taken : Option Addr} {sl__law_taken : Array (Option Value)} {oc__law_taken kV__law_taken dc__law_taken pm__law_taken ct__law_taken cd__law_taken : Value}
    (a__law_taken : PySem.W.nsIn K mainGlobals "_law_taken" = some (some (.ref q__law_taken)))
    (l__law_taken : K.lookup q__law_taken = some ⟨oc__law_taken, od__law_taken, .func (PySem.W.fnOf "_law_taken" "_law_taken" (defArgs s__law_taken) (defBody s__law_taken) (defScope s__law_taken) .none kV__law_taken dc__law_taken pm__law_taken an__law_taken cd__law_taken ct__law_taken), sl__law_taken⟩)
    (co__law_taken : PySem.W.codeIn K cd__law_taken "_law_taken" = true)
    (k__law_taken : PySem.W.keepIn K (.ref q__law_taken) = true)
    {q__law_pick : Addr} {od__law_pick an__law_pick : Option Addr} {sl__law_pick : Array (Option Value)} {oc__law_pick kV__law_pick dc__law_pick pm__law_pick ct__law_pick cd__law_pick : Value}
    (a__law_pick : PySem.W.nsIn K mainGlobals "_law_pick" = some (some (.ref q__law_pick)))
    (l__law_pick : K.lookup q__law_pick = some ⟨oc__law_pick, od__law_pick, .func (PySem.W.fnOf "_law_pick" "_law_pick" (defArgs s__law_pick) (defBody s__law_pick) (defScope s__law_pick) .none kV__law_pick dc__law_pick pm__law_pick an__law_pick cd__law_pick ct__law_pick), sl__law_pick⟩)
    (co__law_pick : PySem.W.codeIn K cd__law_pick "_law_pick" = true)
    (k__law_pick : PySem.W.keepIn K (.ref q__law_pick) = true)
    {q__law_alike : Addr} {od__law_alike an__law_alike : Option Addr} {sl__law_alike : Array (Option Value)} {oc__law_alike kV__law_alike dc__law_alike pm__law_alike ct__law_alike cd__law_alike : Value}
    (a__law_alike : PySem.W.nsIn K mainGlobals "_law_alike" = some (some (.ref q__law_alike)))
    (l__law_alike : K.lookup q__law_alike = some ⟨oc__law_alike, od__law_alike, .func (PySem.W.fnOf "_law_alike" "_law_alike" (defArgs s__law_alike) (defBody s__law_alike) (defScope s__law_alike) .none kV__law_alike dc__law_alike pm__law_alike an__law_alike cd__law_alike ct__law_alike), sl__law_alike⟩)
    (co__law_alike : PySem.W.codeIn K cd__law_alike "_law_alike" = true)
    (k__law_alike : PySem.W.keepIn K (.ref q__law_alike) = true)
    {q__law_tree : Addr} {od__law_tree an__law_tree : Option Addr} {sl__law_tree : Array (Option Value)} {oc__law_tree kV__law_tree dc__law_tree pm__law_tree ct__law_tree cd__law_tree : Value}
    (a__law_tree : PySem.W.nsIn K mainGlobals "_law_tree" = some (some (.ref q__law_tree)))
    (l__law_tree : K.lookup q__law_tree = some ⟨oc__law_tree, od__law_tree, .func (PySem.W.fnOf "_law_tree" "_law_tree" (defArgs s__law_tree) (defBody s__law_tree) (defScope s__law_tree) .none kV__law_tree dc__law_tree pm__law_tree an__law_tree cd__law_tree ct__law_tree), sl__law_tree⟩)
    (co__law_tree : PySem.W.codeIn K cd__law_tree "_law_tree" = true)
    (k__law_tree : PySem.W.keepIn K (.ref q__law_tree) = true)
    {q__law_blank : Addr} {od__law_blank an__law_blank : Option Addr} {sl__law_blank : Array (Option Value)} {oc__law_blank kV__law_blank dc__law_blank pm__law_blank ct__law_blank cd__law_blank : Value}
    (a__law_blank : PySem.W.nsIn K mainGlobals "_law_blank" = some (some (.ref q__law_blank)))
    (l__law_blank : K.lookup q__law_blank = some ⟨oc__law_blank, od__law_blank, .func (PySem.W.fnOf "_law_blank" "_law_blank" (defArgs s__law_blank) (defBody s__law_blank) (defScope s__law_blank) .none kV__law_blank dc__law_blank pm__law_blank an__law_blank cd__law_blank ct__law_blank), sl__law_blank⟩)
    (co__law_blank : PySem.W.codeIn K cd__law_blank "_law_blank" = true)
    (k__law_blank : PySem.W.keepIn K (.ref q__law_blank) = true)
    {q__law_text : Addr} {od__law_text an__law_text : Option Addr} {sl__law_text : Array (Option Value)} {oc__law_text kV__law_text dc__law_text pm__law_text ct__law_text cd__law_text : Value}
    (a__law_text : PySem.W.nsIn K mainGlobals "_law_text" = some (some (.ref q__law_text)))
    (l__law_text : K.lookup q__law_text = some ⟨oc__law_text, od__law_text, .func (PySem.W.fnOf "_law_text" "_law_text" (defArgs s__law_text) (defBody s__law_text) (defScope s__law_text) .none kV__law_text dc__law_text pm__law_text an__law_text cd__law_text ct__law_text), sl__law_text⟩)
    (co__law_text : PySem.W.codeIn K cd__law_text "_law_text" = true)
    (k__law_text : PySem.W.keepIn K (.ref q__law_text) = true)
    {q_law : Addr} {od_law an_law : Option Addr} {sl_law : Array (Option Value)} {oc_law kV_law dc_law pm_law ct_law : Value}
    {cc : Addr}
    (a_law : PySem.W.nsIn K mainGlobals "law" = some (some (.ref q_law)))
    (l_law : K.lookup q_law = some ⟨oc_law, od_law, .func (PySem.W.fnOf "law" "law" (defArgs s_law) (defBody s_law) (defScope s_law) .none kV_law dc_law pm_law an_law (.ref cc) ct_law), sl_law⟩)
    (co_law : PySem.W.codeIn K (.ref cc) "law" = true)
    (k_law : PySem.W.keepIn K (.ref q_law) = true)
    {q__law_refused : Addr} {od__law_refused an__law_refused : Option Addr} {sl__law_refused : Array (Option Value)} {oc__law_refused kV__law_refused dc__law_refused pm__law_refused ct__law_refused cd__law_refused : Value}
    (a__law_refused : PySem.W.nsIn K mainGlobals "_law_refused" = some (some (.ref q__law_refused)))
    (l__law_refused : K.lookup q__law_refused = some ⟨oc__law_refused, od__law_refused, .func (PySem.W.fnOf "_law_refused" "_law_refused" (defArgs s__law_refused) (defBody s__law_refused) (defScope s__law_refused) .none kV__law_refused dc__law_refused pm__law_refused an__law_refused cd__law_refused ct__law_refused), sl__law_refused⟩)
    (co__law_refused : PySem.W.codeIn K cd__law_refused "_law_refused" = true)
    (k__law_refused : PySem.W.keepIn K (.ref q__law_refused) = true)
    (hd_law : PySem.W.codeHdIn K cc PP = true)
    (n_P : K.lookup PP = none)
    {nm q : Str} {C N fI : Addr} {bs : List Value} {sn : List Str} {sub : List Value} {ab : Bool} {col : Option Bool} {dd : Option Addr} {m0 m1 m2 m3 m5 : Option Value} {odI anI : Option Addr} {slI : Array (Option Value)} {ocI kVI dcI pmI cdI ctI : Value}
    (aC : PySem.W.nsIn K mainGlobals "BadArgument" = some (some (.ref C)))
    (xL : K.lookup C = some (excClassObj nm q C N bs [.type "ValueError", .type "Exception", .type "BaseException", .type "object"] true sn sub ab col dd m0 m1 m2 m3 m5 "ValueError.__new__"))
    (sa : PySem.W.findIn K (.ref C) "__setattr__" = some (some (.builtin "object.__setattr__")))
    (ga : PySem.W.findIn K (.ref C) "__getattribute__" = some (some (.builtin "BaseException.__getattribute__")))
    (gg : PySem.W.findIn K (.ref C) "__getattr__" = some none)
    (nb_name : PySem.W.findIn K (.ref C) "name" = some none)
    (a1 : PySem.W.findIn K (.ref C) "__init__" = some (some (.ref fI)))
    (t1 : PySem.W.typeIn K (.ref fI) = some (.type "function"))
    (l1 : K.lookup fI = some ⟨ocI, odI, .func (PySem.W.fnOf "__init__" "BadArgument.__init__" (defArgs s_init) (defBody s_init) (defScope s_init) .none kVI dcI pmI anI cdI ctI), slI⟩)
    (c1 : PySem.W.codeIn K cdI "BadArgument.__init__" = true)
    (kI : PySem.W.keepIn K (.ref fI) = true)
    (kC : PySem.W.keepIn K (.ref C) = true)
    (eC : PySem.W.subIn K (.ref C) (.type "BaseException") = some true)
    (tC : PySem.W.typeIn K (.ref C) = some (.type "type"))
    (hC : PySem.W.hasDictIn K C = true)
    (sC : PySem.W.subIn K (.ref C) (.ref C) = some true)
    {nm_Flaw q_Flaw : Str} {C_Flaw N_Flaw fI_Flaw : Addr} {bs_Flaw : List Value} {sn_Flaw : List Str} {sub_Flaw : List Value} {ab_Flaw : Bool} {col_Flaw : Option Bool} {dd_Flaw : Option Addr} {m0_Flaw m1_Flaw m2_Flaw m3_Flaw m5_Flaw : Option Value} {odI_Flaw anI_Flaw : Option Addr} {slI_Flaw : Array (Option Value)} {ocI_Flaw kVI_Flaw dcI_Flaw pmI_Flaw cdI_Flaw ctI_Flaw : Value}
    (aC_Flaw : PySem.W.nsIn K mainGlobals "Flaw" = some (some (.ref C_Flaw)))
    (xL_Flaw : K.lookup C_Flaw = some (excClassObj nm_Flaw q_Flaw C_Flaw N_Flaw bs_Flaw [.type "ValueError", .type "Exception", .type "BaseException", .type "object"] true sn_Flaw sub_Flaw ab_Flaw col_Flaw dd_Flaw m0_Flaw m1_Flaw m2_Flaw m3_Flaw m5_Flaw "ValueError.__new__"))
    (sa_Flaw : PySem.W.findIn K (.ref C_Flaw) "__setattr__" = some (some (.builtin "object.__setattr__")))
    (ga_Flaw : PySem.W.findIn K (.ref C_Flaw) "__getattribute__" = some (some (.builtin "BaseException.__getattribute__")))
    (gg_Flaw : PySem.W.findIn K (.ref C_Flaw) "__getattr__" = some none)
    (nb_place_Flaw : PySem.W.findIn K (.ref C_Flaw) "place" = some none)
    (nb_message_Flaw : PySem.W.findIn K (.ref C_Flaw) "message" = some none)
    (a1_Flaw : PySem.W.findIn K (.ref C_Flaw) "__init__" = some (some (.ref fI_Flaw)))
    (t1_Flaw : PySem.W.typeIn K (.ref fI_Flaw) = some (.type "function"))
    (l1_Flaw : K.lookup fI_Flaw = some ⟨ocI_Flaw, odI_Flaw, .func (PySem.W.fnOf "__init__" "Flaw.__init__" (defArgs s_init_Flaw) (defBody s_init_Flaw) (defScope s_init_Flaw) .none kVI_Flaw dcI_Flaw pmI_Flaw anI_Flaw cdI_Flaw ctI_Flaw), slI_Flaw⟩)
    (c1_Flaw : PySem.W.codeIn K cdI_Flaw "Flaw.__init__" = true)
    (kI_Flaw : PySem.W.keepIn K (.ref fI_Flaw) = true)
    (kC_Flaw : PySem.W.keepIn K (.ref C_Flaw) = true)
    (eC_Flaw : PySem.W.subIn K (.ref C_Flaw) (.type "BaseException") = some true)
    (tC_Flaw : PySem.W.typeIn K (.ref C_Flaw) = some (.type "type"))
    (hC_Flaw : PySem.W.hasDictIn K C_Flaw = true)
    (sC_Flaw : PySem.W.subIn K (.ref C_Flaw) (.ref C_Flaw) = some true) :
    LamX.LawAtS l w K (L2.CX l.prog w) 101 63 "script" mg fa h := by
  have e : q_law = fa := by cases hfa.symm.trans (PySem.W.mg_of X G a_law); rfl
  subst e
  have T : Bt mg := ⟨PySem.W.mg_none_of X G z_bool, PySem.W.mg_none_of X G z_enumerate, PySem.W.mg_none_of X G z_int, PySem.W.mg_none_of X G z_isinstance, PySem.W.mg_none_of X G z_len, PySem.W.mg_none_of X G z_range, PySem.W.mg_none_of X G z_str, PySem.W.mg_none_of X G z_tuple, ⟨_, PySem.W.mg_of X G c_AND⟩, ⟨_, PySem.W.mg_of X G c_AT⟩, ⟨_, PySem.W.mg_of X G c_BOATS⟩, ⟨_, PySem.W.mg_of X G c_DIGITS⟩, ⟨_, PySem.W.mg_of X G c_LETTERS⟩, ⟨_, PySem.W.mg_of X G c_MOST_DEEP⟩, ⟨_, PySem.W.mg_of X G c_MOST_TEXT⟩, ⟨_, PySem.W.mg_of X G c_NOT⟩, ⟨_, PySem.W.mg_of X G c_OR⟩, ⟨_, PySem.W.mg_of X G c_SAME⟩⟩
  have ok0 : ∀ (c : Str) (A : Addr), (fun x => if x = ("Wish" : Str) then some K_Wish else if x = ("Reader" : Str) then some K_Reader else none) c = some A → Cls K A := fun c A h => by
    dsimp only at h
    split at h
    · cases h; exact ⟨pg_Wish, hdi_Wish, po_Wish, sa_Wish⟩
    · split at h
      · cases h; exact ⟨pg_Reader, hdi_Reader, po_Reader, sa_Reader⟩
      · cases h
  let B : Bs := ⟨K, [(PP, ("law" : Str) ++ ".<locals>." ++ "<lambda>")], fun x => if x = ("BadArgument" : Str) then some C else if x = ("Flaw" : Str) then some C_Flaw else none, fun x => if x = ("Wish" : Str) then some K_Wish else if x = ("Reader" : Str) then some K_Reader else none, ok0⟩
  have bc_Wish : B.C "Wish" = some K_Wish := by
    show (if ("Wish" : Str) = ("Wish" : Str) then some K_Wish else if ("Wish" : Str) = ("Reader" : Str) then some K_Reader else none) = _
    rw [if_pos rfl]
  have bc_Reader : B.C "Reader" = some K_Reader := by
    show (if ("Reader" : Str) = ("Wish" : Str) then some K_Wish else if ("Reader" : Str) = ("Reader" : Str) then some K_Reader else none) = _
    rw [if_neg (by decide +kernel), if_pos rfl]
  have na_inner : NoAt B "inner" := fun cn C0 h => by
    replace h : (if cn = ("Wish" : Str) then some K_Wish else if cn = ("Reader" : Str) then some K_Reader else none) = some C0 := h
    split at h
    · cases h; exact nf_Wish_inner
    · split at h
      · cases h; exact nf_Reader_inner
      · cases h
  have na_names : NoAt B "names" := fun cn C0 h => by
    replace h : (if cn = ("Wish" : Str) then some K_Wish else if cn = ("Reader" : Str) then some K_Reader else none) = some C0 := h
    split at h
    · cases h; exact nf_Wish_names
    · split at h
      · cases h; exact nf_Reader_names
      · cases h
  have na_form : NoAt B "form" := fun cn C0 h => by
    replace h : (if cn = ("Wish" : Str) then some K_Wish else if cn = ("Reader" : Str) then some K_Reader else none) = some C0 := h
    split at h
    · cases h; exact nf_Wish_form
    · split at h
      · cases h; exact nf_Reader_form
      · cases h
  have na_signs : NoAt B "signs" := fun cn C0 h => by
    replace h : (if cn = ("Wish" : Str) then some K_Wish else if cn = ("Reader" : Str) then some K_Reader else none) = some C0 := h
    split at h
    · cases h; exact nf_Wish_signs
    · split at h
      · cases h; exact nf_Reader_signs
      · cases h
  have na_deep : NoAt B "deep" := fun cn C0 h => by
    replace h : (if cn = ("Wish" : Str) then some K_Wish else if cn = ("Reader" : Str) then some K_Reader else none) = some C0 := h
    split at h
    · cases h; exact nf_Wish_deep
    · split at h
      · cases h; exact nf_Reader_deep
      · cases h
  have na_at : NoAt B "at" := fun cn C0 h => by
    replace h : (if cn = ("Wish" : Str) then some K_Wish else if cn = ("Reader" : Str) then some K_Reader else none) = some C0 := h
    split at h
    · cases h; exact nf_Wish_at
    · split at h
      · cases h; exact nf_Reader_at
      · cases h
  have na_size : NoAt B "size" := fun cn C0 h => by
    replace h : (if cn = ("Wish" : Str) then some K_Wish else if cn = ("Reader" : Str) then some K_Reader else none) = some C0 := h
    split at h
    · cases h; exact nf_Wish_size
    · split at h
      · cases h; exact nf_Reader_size
      · cases h
  have F_need : Fun K "need" "need" s_need q_need _ := fun_mk l_need co_need k_need
  have b_need := F_need.binds (ps := ["is_right", "name"]) fun _ _ _ _ _ _ us hl => match us, hl with | [_, _], _ => rfl
  have F_Wish_init : Fun K "__init__" "Wish.__init__" s_Wish_init q_Wish_init _ := fun_mk l_Wish_init co_Wish_init k_Wish_init
  have b_Wish_init := F_Wish_init.binds (ps := ["self", "form", "names", "inner"]) fun _ _ _ _ _ _ us hl => match us, hl with | [_, _, _, _], _ => rfl
  have F_Reader_init : Fun K "__init__" "Reader.__init__" s_Reader_init q_Reader_init _ := fun_mk l_Reader_init co_Reader_init k_Reader_init
  have b_Reader_init := F_Reader_init.binds (ps := ["self", "text"]) fun _ _ _ _ _ _ us hl => match us, hl with | [_, _], _ => rfl
  have F_Reader_ahead : Fun K "ahead" "Reader.ahead" s_Reader_ahead q_Reader_ahead _ := fun_mk l_Reader_ahead co_Reader_ahead k_Reader_ahead
  have b_Reader_ahead := F_Reader_ahead.binds (ps := ["self"]) fun _ _ _ _ _ _ us hl => match us, hl with | [_], _ => rfl
  have F_Reader_fail : Fun K "fail" "Reader.fail" s_Reader_fail q_Reader_fail _ := fun_mk l_Reader_fail co_Reader_fail k_Reader_fail
  have b_Reader_fail := F_Reader_fail.binds (ps := ["self", "message"]) fun _ _ _ _ _ _ us hl => match us, hl with | [_, _], _ => rfl
  have F_Reader_take : Fun K "take" "Reader.take" s_Reader_take q_Reader_take _ := fun_mk l_Reader_take co_Reader_take k_Reader_take
  have b_Reader_take := F_Reader_take.binds (ps := ["self", "signs", "message"]) fun _ _ _ _ _ _ us hl => match us, hl with | [_, _, _], _ => rfl
  have F_Reader_single : Fun K "single" "Reader.single" s_Reader_single q_Reader_single _ := fun_mk l_Reader_single co_Reader_single k_Reader_single
  have b_Reader_single := F_Reader_single.binds (ps := ["self"]) fun _ _ _ _ _ _ us hl => match us, hl with | [_], _ => rfl
  have F_Reader_both : Fun K "both" "Reader.both" s_Reader_both q_Reader_both _ := fun_mk l_Reader_both co_Reader_both k_Reader_both
  have b_Reader_both := F_Reader_both.binds (ps := ["self"]) fun _ _ _ _ _ _ us hl => match us, hl with | [_], _ => rfl
  have F_Reader_either : Fun K "either" "Reader.either" s_Reader_either q_Reader_either _ := fun_mk l_Reader_either co_Reader_either k_Reader_either
  have b_Reader_either := F_Reader_either.binds (ps := ["self"]) fun _ _ _ _ _ _ us hl => match us, hl with | [_], _ => rfl
  have F_Reader_ground : Fun K "ground" "Reader.ground" s_Reader_ground q_Reader_ground _ := fun_mk l_Reader_ground co_Reader_ground k_Reader_ground
  have b_Reader_ground := F_Reader_ground.binds (ps := ["self"]) fun _ _ _ _ _ _ us hl => match us, hl with | [_], _ => rfl
  have F_Reader_whole : Fun K "whole" "Reader.whole" s_Reader_whole q_Reader_whole _ := fun_mk l_Reader_whole co_Reader_whole k_Reader_whole
  have b_Reader_whole := F_Reader_whole.binds (ps := ["self"]) fun _ _ _ _ _ _ us hl => match us, hl with | [_], _ => rfl
  have F_need_text : Fun K "need_text" "need_text" s_need_text q_need_text _ := fun_mk l_need_text co_need_text k_need_text
  have b_need_text := F_need_text.binds (ps := ["text"]) fun _ _ _ _ _ _ us hl => match us, hl with | [_], _ => rfl
  have F_flaw : Fun K "flaw" "flaw" s_flaw q_flaw _ := fun_mk l_flaw co_flaw k_flaw
  have b_flaw := F_flaw.binds (ps := ["text"]) fun _ _ _ _ _ _ us hl => match us, hl with | [_], _ => rfl
  have F_written : Fun K "written" "written" s_written q_written _ := fun_mk l_written co_written k_written
  have b_written := F_written.binds (ps := ["wish", "level"]) fun _ _ _ _ _ _ us hl => match us, hl with | [_, _], _ => rfl
  have F_plain_text : Fun K "plain_text" "plain_text" s_plain_text q_plain_text _ := fun_mk l_plain_text co_plain_text k_plain_text
  have b_plain_text := F_plain_text.binds (ps := ["text"]) fun _ _ _ _ _ _ us hl => match us, hl with | [_], _ => rfl
  have F__law_taken : Fun K "_law_taken" "_law_taken" s__law_taken q__law_taken _ := fun_mk l__law_taken co__law_taken k__law_taken
  have b__law_taken := F__law_taken.binds (ps := ["row", "many"]) fun _ _ _ _ _ _ us hl => match us, hl with | [_, _], _ => rfl
  have F__law_pick : Fun K "_law_pick" "_law_pick" s__law_pick q__law_pick _ := fun_mk l__law_pick co__law_pick k__law_pick
  have b__law_pick := F__law_pick.binds (ps := ["row", "some"]) fun _ _ _ _ _ _ us hl => match us, hl with | [_, _], _ => rfl
  have F__law_alike : Fun K "_law_alike" "_law_alike" s__law_alike q__law_alike _ := fun_mk l__law_alike co__law_alike k__law_alike
  have b__law_alike := F__law_alike.binds (ps := ["found", "due"]) fun _ _ _ _ _ _ us hl => match us, hl with | [_, _], _ => rfl
  have F__law_tree : Fun K "_law_tree" "_law_tree" s__law_tree q__law_tree _ := fun_mk l__law_tree co__law_tree k__law_tree
  have b__law_tree := F__law_tree.binds (ps := ["row", "deep"]) fun _ _ _ _ _ _ us hl => match us, hl with | [_, _], _ => rfl
  have F__law_blank : Fun K "_law_blank" "_law_blank" s__law_blank q__law_blank _ := fun_mk l__law_blank co__law_blank k__law_blank
  have b__law_blank := F__law_blank.binds (ps := ["row"]) fun _ _ _ _ _ _ us hl => match us, hl with | [_], _ => rfl
  have F__law_text : Fun K "_law_text" "_law_text" s__law_text q__law_text _ := fun_mk l__law_text co__law_text k__law_text
  have b__law_text := F__law_text.binds (ps := ["row", "tree", "level", "is_plain"]) fun _ _ _ _ _ _ us hl => match us, hl with | [_, _, _, _], _ => rfl
  have F_law : Fun K "law" "law" s_law q_law _ := fun_mk l_law co_law k_law
  have b_law := F_law.binds (ps := ["script"]) fun _ _ _ _ _ _ us hl => match us, hl with | [_], _ => rfl
  have F__law_refused : Fun K "_law_refused" "_law_refused" s__law_refused q__law_refused _ := fun_mk l__law_refused co__law_refused k__law_refused
  have b__law_refused := F__law_refused.binds (ps := ["call"]) fun _ _ _ _ _ _ us hl => match us, hl with | [_], _ => rfl
  refine ⟨(PySem.W.fnOf "law" "law" (defArgs s_law) (defBody s_law) (defScope s_law) .none kV_law dc_law pm_law an_law (.ref cc) ct_law), [(cc, PP)], spF B K03.f_law, fun p hp => by rw [List.mem_singleton] at hp; subst hp; exact hT PP (List.mem_singleton.mpr rfl), fun p hp => by rw [List.mem_singleton] at hp; subst hp; exact n_P, fun p hp => by rw [List.mem_singleton] at hp; subst hp; exact PySem.W.codeHd_of_K X hd_law, fun s u => .of_eq rfl, fun H a ns hl hz hH hS => sp_law (tabs_of (hH (cc, PP) (List.mem_singleton.mpr rfl))) hS (hlaw ns hl hz), fun base KB NB TB => ?_⟩
  have FI : Fun K "__init__" "BadArgument.__init__" s_init fI _ := fun_mk l1 c1 kI
  have bI := FI.binds (ps := [("self" : Str), "name"]) fun _ _ _ _ _ _ us hl => match us, hl with | [_, _], _ => rfl
  have ox : OexC K C := ⟨⟨nm, q, N, bs, _, sn, sub, ab, col, dd, m0, m1, m2, m3, m5, xL, by decide +kernel⟩, sa, eC, tC, kC⟩
  have em : PySem.W.exmOne K (.ref C) (.ref C) = some true := PySem.W.exm_ref eC hC tC sC
  have oI : FnOk l.prog w K mg base (L2.CX l.prog w) 1 fI _ [("self" : Str), "name"] (spInit C ["name"]) := init1 (P := l.prog) (w := w) (B := B) (mg := mg) (base := base) (k := 0) FI sc_init ox nb_name rfl (fun X hN hs => by refine pe_var (i := 1) (by rw [hN]; rfl) (by rw [hs]; exact .inl rfl) (by decide) (by decide)) (fun X hN hs => by refine pe_var (i := 0) (by rw [hN]; rfl) (by rw [hs]; exact .inl rfl) (by decide) (by decide)) (fun X hs => rfl)
  have XC : XCls l.prog w B mg base 1 "BadArgument" ["name"] C := ⟨ox, ⟨ga, gg, eC, hC⟩, fun f hf => by simp only [List.mem_cons, List.not_mem_nil, or_false] at hf; rcases hf with rfl; exact nb_name, PySem.W.mg_of X G aC, (show B.X "BadArgument" = some C from if_pos (c := ("BadArgument" : Str) = "BadArgument") (e := if ("BadArgument" : Str) = ("Flaw" : Str) then some C_Flaw else none) rfl), em, ⟨fI, _, _, a1, t1, oI, bI⟩⟩
  have FI_Flaw : Fun K "__init__" "Flaw.__init__" s_init_Flaw fI_Flaw _ := fun_mk l1_Flaw c1_Flaw kI_Flaw
  have bI_Flaw := FI_Flaw.binds (ps := [("self" : Str), "place", "message"]) fun _ _ _ _ _ _ us hl => match us, hl with | [_, _, _], _ => rfl
  have ox_Flaw : OexC K C_Flaw := ⟨⟨nm_Flaw, q_Flaw, N_Flaw, bs_Flaw, _, sn_Flaw, sub_Flaw, ab_Flaw, col_Flaw, dd_Flaw, m0_Flaw, m1_Flaw, m2_Flaw, m3_Flaw, m5_Flaw, xL_Flaw, by decide +kernel⟩, sa_Flaw, eC_Flaw, tC_Flaw, kC_Flaw⟩
  have em_Flaw : PySem.W.exmOne K (.ref C_Flaw) (.ref C_Flaw) = some true := PySem.W.exm_ref eC_Flaw hC_Flaw tC_Flaw sC_Flaw
  have oI_Flaw : FnOk l.prog w K mg base (L2.CX l.prog w) 1 fI_Flaw _ [("self" : Str), "place", "message"] (spInit C_Flaw ["place", "message"]) := init2 (P := l.prog) (w := w) (B := B) (mg := mg) (base := base) (k := 0) FI_Flaw sc_init_Flaw ox_Flaw nb_place_Flaw nb_message_Flaw rfl (fun X hN hs => by refine pe_var (i := 1) (by rw [hN]; rfl) (by rw [hs]; exact .inl rfl) (by decide) (by decide)) (fun X hN hs => by refine pe_var (i := 2) (by rw [hN]; rfl) (by rw [hs]; exact .inl rfl) (by decide) (by decide)) (fun X hN hs => by refine pe_var (i := 0) (by rw [hN]; rfl) (by rw [hs]; exact .inl rfl) (by decide) (by decide)) (fun X hN hs => by refine pe_var (i := 0) (by rw [hN]; rfl) (by rw [hs]; exact .inl rfl) (by decide) (by decide)) (fun X hs => rfl) (fun X hs => rfl)
  have X_Flaw : XCls l.prog w B mg base 1 "Flaw" ["place", "message"] C_Flaw := ⟨ox_Flaw, ⟨ga_Flaw, gg_Flaw, eC_Flaw, hC_Flaw⟩, fun f hf => by simp only [List.mem_cons, List.not_mem_nil, or_false] at hf; rcases hf with rfl | rfl <;> first | exact nb_place_Flaw | exact nb_message_Flaw, PySem.W.mg_of X G aC_Flaw, (show B.X "Flaw" = some C_Flaw from (if_neg (c := ("Flaw" : Str) = ("BadArgument" : Str)) (t := some C) (e := if ("Flaw" : Str) = ("Flaw" : Str) then some C_Flaw else none) (by decide +kernel)).trans (if_pos (c := ("Flaw" : Str) = ("Flaw" : Str)) (e := none) rfl)), em_Flaw, ⟨fI_Flaw, _, _, a1_Flaw, t1_Flaw, oI_Flaw, bI_Flaw⟩⟩
  have o_need := d_need (P := l.prog) (w := w) (B := B) (base := base) F_need T  XC
  have h_need : Df l.prog w B mg base 3 "need" Fp.f_need := ⟨⟨_, _, _, o_need, PySem.W.mg_of X G a_need, k_need, b_need⟩⟩
  have o_Wish_init := d_Wish_init (P := l.prog) (w := w) (B := B) (base := base) F_Wish_init T na_inner na_names na_form
  have h_Wish_init : DfI l.prog w B mg base 2 "Wish" Fp.f_Wish_init := ⟨⟨K_Wish, _, _, _, bc_Wish, o_Wish_init, ⟨mk_Wish, a_Wish_init, i_Wish_init, kc_Wish⟩, b_Wish_init, PySem.W.mg_of X G aK_Wish⟩⟩
  have o_Reader_init := d_Reader_init (P := l.prog) (w := w) (B := B) (base := base) F_Reader_init T na_signs na_deep na_at na_size X_Flaw
  have h_Reader_init : DfI l.prog w B mg base 3 "Reader" Fp.f_Reader_init := ⟨⟨K_Reader, _, _, _, bc_Reader, o_Reader_init, ⟨mk_Reader, a_Reader_init, i_Reader_init, kc_Reader⟩, b_Reader_init, PySem.W.mg_of X G aK_Reader⟩⟩
  have o_Reader_ahead := d_Reader_ahead (P := l.prog) (w := w) (B := B) (base := base) F_Reader_ahead T na_at na_signs
  have h_Reader_ahead : DfM l.prog w B mg base 2 "Reader" "ahead" Fp.f_Reader_ahead := ⟨⟨K_Reader, _, _, _, bc_Reader, o_Reader_ahead, ⟨a_Reader_ahead, i_Reader_ahead, k_Reader_ahead⟩, b_Reader_ahead⟩⟩
  have o_Reader_fail := d_Reader_fail (P := l.prog) (w := w) (B := B) (base := base) F_Reader_fail T na_at na_signs na_size X_Flaw
  have h_Reader_fail : DfM l.prog w B mg base 3 "Reader" "fail" Fp.f_Reader_fail := ⟨⟨K_Reader, _, _, _, bc_Reader, o_Reader_fail, ⟨a_Reader_fail, i_Reader_fail, k_Reader_fail⟩, b_Reader_fail⟩⟩
  have o_Reader_take := d_Reader_take (P := l.prog) (w := w) (B := B) (base := base) F_Reader_take T h_Reader_ahead h_Reader_fail na_at
  have h_Reader_take : DfM l.prog w B mg base 4 "Reader" "take" Fp.f_Reader_take := ⟨⟨K_Reader, _, _, _, bc_Reader, o_Reader_take, ⟨a_Reader_take, i_Reader_take, k_Reader_take⟩, b_Reader_take⟩⟩
  have r_Reader_ground : ∀ i : Nat, DfM l.prog w B mg base (4 + 4 * i) "Reader" "ground" (Fp.f_Reader_ground i) := fun i => by
    induction i with
    | zero => exact ⟨⟨K_Reader, _, _, _, bc_Reader, noFO, ⟨a_Reader_ground, i_Reader_ground, k_Reader_ground⟩, b_Reader_ground⟩⟩
    | succ i ih =>
      have m_Reader_single : DfM l.prog w B mg base (4 + 4 * i + 1) "Reader" "single" (Fp.f_Reader_single i) := ⟨⟨K_Reader, _, _, _, bc_Reader, (d_Reader_single_step (P := l.prog) (w := w) (B := B) (base := base) (by omega) F_Reader_single T h_Reader_ahead h_Wish_init na_at ih), ⟨a_Reader_single, i_Reader_single, k_Reader_single⟩, b_Reader_single⟩⟩
      have m_Reader_both : DfM l.prog w B mg base (4 + 4 * i + 2) "Reader" "both" (Fp.f_Reader_both i) := ⟨⟨K_Reader, _, _, _, bc_Reader, (d_Reader_both_step (P := l.prog) (w := w) (B := B) (base := base) (by omega) F_Reader_both T h_Reader_ahead h_Wish_init na_at m_Reader_single), ⟨a_Reader_both, i_Reader_both, k_Reader_both⟩, b_Reader_both⟩⟩
      have m_Reader_either : DfM l.prog w B mg base (4 + 4 * i + 3) "Reader" "either" (Fp.f_Reader_either i) := ⟨⟨K_Reader, _, _, _, bc_Reader, (d_Reader_either_step (P := l.prog) (w := w) (B := B) (base := base) (by omega) F_Reader_either T h_Reader_ahead h_Wish_init na_at m_Reader_both), ⟨a_Reader_either, i_Reader_either, k_Reader_either⟩, b_Reader_either⟩⟩
      exact ⟨⟨K_Reader, _, _, _, bc_Reader, (d_Reader_ground_step (P := l.prog) (w := w) (B := B) (base := base) (j := 4 + 4 * i + 3) (by omega) F_Reader_ground T h_Reader_ahead h_Reader_fail h_Reader_take h_Wish_init na_deep na_at m_Reader_either), ⟨a_Reader_ground, i_Reader_ground, k_Reader_ground⟩, b_Reader_ground⟩⟩
  have h_Reader_ground : DfM l.prog w B mg base 92 "Reader" "ground" (Fp.f_Reader_ground 22) := r_Reader_ground 22
  have h_Reader_single : DfM l.prog w B mg base 93 "Reader" "single" (Fp.f_Reader_single 22) := ⟨⟨K_Reader, _, _, _, bc_Reader, (d_Reader_single_step (P := l.prog) (w := w) (B := B) (base := base) (by decide) F_Reader_single T h_Reader_ahead h_Wish_init na_at h_Reader_ground), ⟨a_Reader_single, i_Reader_single, k_Reader_single⟩, b_Reader_single⟩⟩
  have h_Reader_both : DfM l.prog w B mg base 94 "Reader" "both" (Fp.f_Reader_both 22) := ⟨⟨K_Reader, _, _, _, bc_Reader, (d_Reader_both_step (P := l.prog) (w := w) (B := B) (base := base) (by decide) F_Reader_both T h_Reader_ahead h_Wish_init na_at h_Reader_single), ⟨a_Reader_both, i_Reader_both, k_Reader_both⟩, b_Reader_both⟩⟩
  have h_Reader_either : DfM l.prog w B mg base 95 "Reader" "either" (Fp.f_Reader_either 22) := ⟨⟨K_Reader, _, _, _, bc_Reader, (d_Reader_either_step (P := l.prog) (w := w) (B := B) (base := base) (by decide) F_Reader_either T h_Reader_ahead h_Wish_init na_at h_Reader_both), ⟨a_Reader_either, i_Reader_either, k_Reader_either⟩, b_Reader_either⟩⟩
  have o_Reader_whole := d_Reader_whole (P := l.prog) (w := w) (B := B) (base := base) F_Reader_whole T h_Reader_either h_Reader_fail na_at na_signs
  have h_Reader_whole : DfM l.prog w B mg base 96 "Reader" "whole" Fp.f_Reader_whole := ⟨⟨K_Reader, _, _, _, bc_Reader, o_Reader_whole, ⟨a_Reader_whole, i_Reader_whole, k_Reader_whole⟩, b_Reader_whole⟩⟩
  have o_need_text := d_need_text (P := l.prog) (w := w) (B := B) (base := base) F_need_text T h_need
  have h_need_text : Df l.prog w B mg base 4 "need_text" Fp.f_need_text := ⟨⟨_, _, _, o_need_text, PySem.W.mg_of X G a_need_text, k_need_text, b_need_text⟩⟩
  have o_flaw := d_flaw (P := l.prog) (w := w) (B := B) (base := base) F_flaw T h_need_text h_Reader_whole h_Reader_init X_Flaw
  have h_flaw : Df l.prog w B mg base 97 "flaw" Fp.f_flaw := ⟨⟨_, _, _, o_flaw, PySem.W.mg_of X G a_flaw, k_flaw, b_flaw⟩⟩
  have r0_written : Df l.prog w B mg base 1 "written" (Fp.f_written 0) := ⟨⟨_, _, _, noF, PySem.W.mg_of X G a_written, k_written, b_written⟩⟩
  have r1_written : Df l.prog w B mg base 2 "written" (Fp.f_written 1) := ⟨⟨_, _, _, (d_written_step (by decide) F_written T na_form na_names na_inner r0_written), PySem.W.mg_of X G a_written, k_written, b_written⟩⟩
  have r2_written : Df l.prog w B mg base 3 "written" (Fp.f_written 2) := ⟨⟨_, _, _, (d_written_step (by decide) F_written T na_form na_names na_inner r1_written), PySem.W.mg_of X G a_written, k_written, b_written⟩⟩
  have r3_written : Df l.prog w B mg base 4 "written" (Fp.f_written 3) := ⟨⟨_, _, _, (d_written_step (by decide) F_written T na_form na_names na_inner r2_written), PySem.W.mg_of X G a_written, k_written, b_written⟩⟩
  have r4_written : Df l.prog w B mg base 5 "written" (Fp.f_written 4) := ⟨⟨_, _, _, (d_written_step (by decide) F_written T na_form na_names na_inner r3_written), PySem.W.mg_of X G a_written, k_written, b_written⟩⟩
  have r5_written : Df l.prog w B mg base 6 "written" (Fp.f_written 5) := ⟨⟨_, _, _, (d_written_step (by decide) F_written T na_form na_names na_inner r4_written), PySem.W.mg_of X G a_written, k_written, b_written⟩⟩
  have r6_written : Df l.prog w B mg base 7 "written" (Fp.f_written 6) := ⟨⟨_, _, _, (d_written_step (by decide) F_written T na_form na_names na_inner r5_written), PySem.W.mg_of X G a_written, k_written, b_written⟩⟩
  have r7_written : Df l.prog w B mg base 8 "written" (Fp.f_written 7) := ⟨⟨_, _, _, (d_written_step (by decide) F_written T na_form na_names na_inner r6_written), PySem.W.mg_of X G a_written, k_written, b_written⟩⟩
  have r8_written : Df l.prog w B mg base 9 "written" (Fp.f_written 8) := ⟨⟨_, _, _, (d_written_step (by decide) F_written T na_form na_names na_inner r7_written), PySem.W.mg_of X G a_written, k_written, b_written⟩⟩
  have h_written := r8_written
  have o_plain_text := d_plain_text (P := l.prog) (w := w) (B := B) (base := base) F_plain_text T h_need_text h_flaw h_written h_Reader_whole h_Reader_init
  have h_plain_text : Df l.prog w B mg base 98 "plain_text" Fp.f_plain_text := ⟨⟨_, _, _, o_plain_text, PySem.W.mg_of X G a_plain_text, k_plain_text, b_plain_text⟩⟩
  have o__law_taken := d__law_taken (P := l.prog) (w := w) (B := B) (base := base) F__law_taken T 
  have h__law_taken : DfO l.prog w B mg base 2 "_law_taken" Fp.f__law_taken := ⟨⟨_, _, _, o__law_taken, PySem.W.mg_of X G a__law_taken, k__law_taken, b__law_taken⟩⟩
  have o__law_pick := d__law_pick (P := l.prog) (w := w) (B := B) (base := base) F__law_pick T h__law_taken
  have h__law_pick : DfO l.prog w B mg base 3 "_law_pick" Fp.f__law_pick := ⟨⟨_, _, _, o__law_pick, PySem.W.mg_of X G a__law_pick, k__law_pick, b__law_pick⟩⟩
  have r0__law_alike : Df l.prog w B mg base 1 "_law_alike" (Fp.f__law_alike 0) := ⟨⟨_, _, _, noF, PySem.W.mg_of X G a__law_alike, k__law_alike, b__law_alike⟩⟩
  have r1__law_alike : Df l.prog w B mg base 2 "_law_alike" (Fp.f__law_alike 1) := ⟨⟨_, _, _, (d__law_alike_step (by decide) F__law_alike T  r0__law_alike), PySem.W.mg_of X G a__law_alike, k__law_alike, b__law_alike⟩⟩
  have r2__law_alike : Df l.prog w B mg base 3 "_law_alike" (Fp.f__law_alike 2) := ⟨⟨_, _, _, (d__law_alike_step (by decide) F__law_alike T  r1__law_alike), PySem.W.mg_of X G a__law_alike, k__law_alike, b__law_alike⟩⟩
  have r3__law_alike : Df l.prog w B mg base 4 "_law_alike" (Fp.f__law_alike 3) := ⟨⟨_, _, _, (d__law_alike_step (by decide) F__law_alike T  r2__law_alike), PySem.W.mg_of X G a__law_alike, k__law_alike, b__law_alike⟩⟩
  have r4__law_alike : Df l.prog w B mg base 5 "_law_alike" (Fp.f__law_alike 4) := ⟨⟨_, _, _, (d__law_alike_step (by decide) F__law_alike T  r3__law_alike), PySem.W.mg_of X G a__law_alike, k__law_alike, b__law_alike⟩⟩
  have r5__law_alike : Df l.prog w B mg base 6 "_law_alike" (Fp.f__law_alike 5) := ⟨⟨_, _, _, (d__law_alike_step (by decide) F__law_alike T  r4__law_alike), PySem.W.mg_of X G a__law_alike, k__law_alike, b__law_alike⟩⟩
  have r6__law_alike : Df l.prog w B mg base 7 "_law_alike" (Fp.f__law_alike 6) := ⟨⟨_, _, _, (d__law_alike_step (by decide) F__law_alike T  r5__law_alike), PySem.W.mg_of X G a__law_alike, k__law_alike, b__law_alike⟩⟩
  have h__law_alike := r6__law_alike
  have r0__law_tree : DfO l.prog w B mg base 3 "_law_tree" (Fp.f__law_tree 0) := ⟨⟨_, _, _, noFO, PySem.W.mg_of X G a__law_tree, k__law_tree, b__law_tree⟩⟩
  have r1__law_tree : DfO l.prog w B mg base 4 "_law_tree" (Fp.f__law_tree 1) := ⟨⟨_, _, _, (d__law_tree_step (by decide) F__law_tree T h__law_taken h__law_pick r0__law_tree), PySem.W.mg_of X G a__law_tree, k__law_tree, b__law_tree⟩⟩
  have r2__law_tree : DfO l.prog w B mg base 5 "_law_tree" (Fp.f__law_tree 2) := ⟨⟨_, _, _, (d__law_tree_step (by decide) F__law_tree T h__law_taken h__law_pick r1__law_tree), PySem.W.mg_of X G a__law_tree, k__law_tree, b__law_tree⟩⟩
  have r3__law_tree : DfO l.prog w B mg base 6 "_law_tree" (Fp.f__law_tree 3) := ⟨⟨_, _, _, (d__law_tree_step (by decide) F__law_tree T h__law_taken h__law_pick r2__law_tree), PySem.W.mg_of X G a__law_tree, k__law_tree, b__law_tree⟩⟩
  have r4__law_tree : DfO l.prog w B mg base 7 "_law_tree" (Fp.f__law_tree 4) := ⟨⟨_, _, _, (d__law_tree_step (by decide) F__law_tree T h__law_taken h__law_pick r3__law_tree), PySem.W.mg_of X G a__law_tree, k__law_tree, b__law_tree⟩⟩
  have r5__law_tree : DfO l.prog w B mg base 8 "_law_tree" (Fp.f__law_tree 5) := ⟨⟨_, _, _, (d__law_tree_step (by decide) F__law_tree T h__law_taken h__law_pick r4__law_tree), PySem.W.mg_of X G a__law_tree, k__law_tree, b__law_tree⟩⟩
  have r6__law_tree : DfO l.prog w B mg base 9 "_law_tree" (Fp.f__law_tree 6) := ⟨⟨_, _, _, (d__law_tree_step (by decide) F__law_tree T h__law_taken h__law_pick r5__law_tree), PySem.W.mg_of X G a__law_tree, k__law_tree, b__law_tree⟩⟩
  have h__law_tree := r6__law_tree
  have o__law_blank := d__law_blank (P := l.prog) (w := w) (B := B) (base := base) F__law_blank T h__law_pick
  have h__law_blank : DfO l.prog w B mg base 4 "_law_blank" Fp.f__law_blank := ⟨⟨_, _, _, o__law_blank, PySem.W.mg_of X G a__law_blank, k__law_blank, b__law_blank⟩⟩
  have r0__law_text : DfO l.prog w B mg base 4 "_law_text" (Fp.f__law_text 0) := ⟨⟨_, _, _, noFO, PySem.W.mg_of X G a__law_text, k__law_text, b__law_text⟩⟩
  have r1__law_text : DfO l.prog w B mg base 5 "_law_text" (Fp.f__law_text 1) := ⟨⟨_, _, _, (d__law_text_step (by decide) F__law_text T h__law_blank h__law_taken r0__law_text), PySem.W.mg_of X G a__law_text, k__law_text, b__law_text⟩⟩
  have r2__law_text : DfO l.prog w B mg base 6 "_law_text" (Fp.f__law_text 2) := ⟨⟨_, _, _, (d__law_text_step (by decide) F__law_text T h__law_blank h__law_taken r1__law_text), PySem.W.mg_of X G a__law_text, k__law_text, b__law_text⟩⟩
  have r3__law_text : DfO l.prog w B mg base 7 "_law_text" (Fp.f__law_text 3) := ⟨⟨_, _, _, (d__law_text_step (by decide) F__law_text T h__law_blank h__law_taken r2__law_text), PySem.W.mg_of X G a__law_text, k__law_text, b__law_text⟩⟩
  have r4__law_text : DfO l.prog w B mg base 8 "_law_text" (Fp.f__law_text 4) := ⟨⟨_, _, _, (d__law_text_step (by decide) F__law_text T h__law_blank h__law_taken r3__law_text), PySem.W.mg_of X G a__law_text, k__law_text, b__law_text⟩⟩
  have r5__law_text : DfO l.prog w B mg base 9 "_law_text" (Fp.f__law_text 5) := ⟨⟨_, _, _, (d__law_text_step (by decide) F__law_text T h__law_blank h__law_taken r4__law_text), PySem.W.mg_of X G a__law_text, k__law_text, b__law_text⟩⟩
  have r6__law_text : DfO l.prog w B mg base 10 "_law_text" (Fp.f__law_text 6) := ⟨⟨_, _, _, (d__law_text_step (by decide) F__law_text T h__law_blank h__law_taken r5__law_text), PySem.W.mg_of X G a__law_text, k__law_text, b__law_text⟩⟩
  have h__law_text := r6__law_text
  have k_plain_text_0_text : DfK l.prog w B mg base 98 "plain_text" 0 ["text"] Fp.f_plain_text := ⟨⟨_, _, ["text"], o_plain_text, PySem.W.mg_of X G a_plain_text, k_plain_text, kb_of F_plain_text 0 rfl (by decide) (fun _ _ _ _ _ _ us ws h1 h2 => match us, h1, ws, h2 with | [], _, [_], _ => rfl)⟩⟩
  have RF0 : ∀ X1 : Cx, X1.K = B.K → X1.mg = mg → RefD X1 "_law_refused" "call" "BadArgument" "name" C 98 := fun X1 hK hm => by
    have aR := PySem.W.mg_of X G a__law_refused
    have lR := l__law_refused
    have cR := co__law_refused
    have kR := k__law_refused
    have bR := b__law_refused
    have mC := PySem.W.mg_of X G aC
    have K0 : X1.K = K := hK
    rw [← hm] at aR mC
    rw [← K0] at lR cR kR bR ga gg eC hC nb_name em
    exact ⟨_, _, _, _, _, _, _, _, _, _, _, _, _, _, _, aR, kR, lR, cR, bR, sc__law_refused, rfl, .inl rfl, ref_gives sc__law_refused (i := 1) (n := "e") rfl mC (by decide) rfl rfl (fun _ => rfl) (fun _ => Nat.lt_succ_self 1) ⟨ga, gg, eC, hC⟩ nb_name em (by decide) (by decide) (by decide) (fun _ => rfl) (fun _ => rfl)⟩
  exact d_law (P := l.prog) (w := w) (B := B) (base := base) T h__law_tree h__law_taken h__law_blank h__law_text h__law_alike h_plain_text h_flaw h__law_pick k_plain_text_0_text l_law co_law XC (TB (cc, PP) (List.mem_singleton.mpr rfl)) (List.mem_singleton.mpr rfl) (fun p hp _ => by rw [List.mem_singleton] at hp; subst hp; rfl) RF0
end K03
open PySem PySem.W PyProof.Rows
set_option maxHeartbeats 0 in
theorem PySem.Challenge.cw_ferriedover_k03_whole_wishes_and_their_p_holds : PySem.Challenge.rw_ferriedover_k03_whole_wishes_and_their_p.Holds := by
  w_on; o_law; k_head; (case hw => w_witness2)
  k_fill
  refine LamX.walk_ofTs (l := PySem.Challenge.rw_ferriedover_k03_whole_wishes_and_their_p) (n := 63) (k := 101) (x := "script") (CX := fun w => L2.CX PySem.Challenge.rw_ferriedover_k03_whole_wishes_and_their_p.prog w) rfl (by decide) rfl ⟨rfl, by decide, by decide⟩ (fun w h Y => PySem.W.km_in_of Y) ?F (fun _ _ _ _ _ h => Fe.cx_off h)
  case F =>
    intro w mg fa h Y KX G hmg
    refine' K03.all_mk KX G hmg (PySem.W.km_tabs_of Y) K03.law_true ?z_bool ?z_enumerate ?z_int ?z_isinstance ?z_len ?z_range ?z_str ?z_tuple ?c_AND ?c_AT ?c_BOATS ?c_DIGITS ?c_LETTERS ?c_MOST_DEEP ?c_MOST_TEXT ?c_NOT ?c_OR ?c_SAME ?a_need ?l_need ?co_need ?k_need ?aK_Wish ?pg_Wish ?hdi_Wish ?po_Wish ?sa_Wish ?mk_Wish ?kc_Wish ?nf_Wish_inner ?nf_Wish_names ?nf_Wish_form ?nf_Wish_signs ?nf_Wish_deep ?nf_Wish_at ?nf_Wish_size ?a_Wish_init ?i_Wish_init ?l_Wish_init ?co_Wish_init ?k_Wish_init ?aK_Reader ?pg_Reader ?hdi_Reader ?po_Reader ?sa_Reader ?mk_Reader ?kc_Reader ?nf_Reader_inner ?nf_Reader_names ?nf_Reader_form ?nf_Reader_signs ?nf_Reader_deep ?nf_Reader_at ?nf_Reader_size ?a_Reader_init ?i_Reader_init ?l_Reader_init ?co_Reader_init ?k_Reader_init ?a_Reader_ahead ?i_Reader_ahead ?l_Reader_ahead ?co_Reader_ahead ?k_Reader_ahead ?a_Reader_fail ?i_Reader_fail ?l_Reader_fail ?co_Reader_fail ?k_Reader_fail ?a_Reader_take ?i_Reader_take ?l_Reader_take ?co_Reader_take ?k_Reader_take ?a_Reader_single ?i_Reader_single ?l_Reader_single ?co_Reader_single ?k_Reader_single ?a_Reader_both ?i_Reader_both ?l_Reader_both ?co_Reader_both ?k_Reader_both ?a_Reader_either ?i_Reader_either ?l_Reader_either ?co_Reader_either ?k_Reader_either ?a_Reader_ground ?i_Reader_ground ?l_Reader_ground ?co_Reader_ground ?k_Reader_ground ?a_Reader_whole ?i_Reader_whole ?l_Reader_whole ?co_Reader_whole ?k_Reader_whole ?a_need_text ?l_need_text ?co_need_text ?k_need_text ?a_flaw ?l_flaw ?co_flaw ?k_flaw ?a_written ?l_written ?co_written ?k_written ?a_plain_text ?l_plain_text ?co_plain_text ?k_plain_text ?a__law_taken ?l__law_taken ?co__law_taken ?k__law_taken ?a__law_pick ?l__law_pick ?co__law_pick ?k__law_pick ?a__law_alike ?l__law_alike ?co__law_alike ?k__law_alike ?a__law_tree ?l__law_tree ?co__law_tree ?k__law_tree ?a__law_blank ?l__law_blank ?co__law_blank ?k__law_blank ?a__law_text ?l__law_text ?co__law_text ?k__law_text ?a_law ?l_law ?co_law ?k_law ?a__law_refused ?l__law_refused ?co__law_refused ?k__law_refused ?hd_law ?n_P ?aC ?xL ?sa ?ga ?gg ?nb_name ?a1 ?t1 ?l1 ?c1 ?kI ?kC ?eC ?tC ?hC ?sC ?aC_Flaw ?xL_Flaw ?sa_Flaw ?ga_Flaw ?gg_Flaw ?nb_place_Flaw ?nb_message_Flaw ?a1_Flaw ?t1_Flaw ?l1_Flaw ?c1_Flaw ?kI_Flaw ?kC_Flaw ?eC_Flaw ?tC_Flaw ?hC_Flaw ?sC_Flaw
    (case z_bool => first | k_is | rfl); (case z_enumerate => first | k_is | rfl); (case z_int => first | k_is | rfl); (case z_isinstance => first | k_is | rfl); (case z_len => first | k_is | rfl); (case z_range => first | k_is | rfl); (case z_str => first | k_is | rfl); (case z_tuple => first | k_is | rfl); (case c_AND => first | k_is | rfl); (case c_AT => first | k_is | rfl); (case c_BOATS => first | k_is | rfl); (case c_DIGITS => first | k_is | rfl); (case c_LETTERS => first | k_is | rfl); (case c_MOST_DEEP => first | k_is | rfl); (case c_MOST_TEXT => first | k_is | rfl); (case c_NOT => first | k_is | rfl); (case c_OR => first | k_is | rfl); (case c_SAME => first | k_is | rfl); (case a_need => first | k_is | rfl); (case l_need => first | k_is | rfl); (case co_need => first | k_is | rfl); (case k_need => first | k_is | rfl); (case aK_Wish => first | k_is | rfl); (case pg_Wish => first | k_is | rfl); (case hdi_Wish => first | k_is | rfl); (case po_Wish => first | k_is | rfl); (case sa_Wish => first | k_is | rfl); (case mk_Wish => first | k_is | rfl); (case kc_Wish => first | k_is | rfl); (case nf_Wish_inner => first | k_is | rfl); (case nf_Wish_names => first | k_is | rfl); (case nf_Wish_form => first | k_is | rfl); (case nf_Wish_signs => first | k_is | rfl); (case nf_Wish_deep => first | k_is | rfl); (case nf_Wish_at => first | k_is | rfl); (case nf_Wish_size => first | k_is | rfl); (case a_Wish_init => first | k_is | rfl); (case i_Wish_init => first | k_is | rfl); (case l_Wish_init => first | k_is | rfl); (case co_Wish_init => first | k_is | rfl); (case k_Wish_init => first | k_is | rfl); (case aK_Reader => first | k_is | rfl); (case pg_Reader => first | k_is | rfl); (case hdi_Reader => first | k_is | rfl); (case po_Reader => first | k_is | rfl); (case sa_Reader => first | k_is | rfl); (case mk_Reader => first | k_is | rfl); (case kc_Reader => first | k_is | rfl); (case nf_Reader_inner => first | k_is | rfl); (case nf_Reader_names => first | k_is | rfl); (case nf_Reader_form => first | k_is | rfl); (case nf_Reader_signs => first | k_is | rfl); (case nf_Reader_deep => first | k_is | rfl); (case nf_Reader_at => first | k_is | rfl); (case nf_Reader_size => first | k_is | rfl); (case a_Reader_init => first | k_is | rfl); (case i_Reader_init => first | k_is | rfl); (case l_Reader_init => first | k_is | rfl); (case co_Reader_init => first | k_is | rfl); (case k_Reader_init => first | k_is | rfl); (case a_Reader_ahead => first | k_is | rfl); (case i_Reader_ahead => first | k_is | rfl); (case l_Reader_ahead => first | k_is | rfl); (case co_Reader_ahead => first | k_is | rfl); (case k_Reader_ahead => first | k_is | rfl); (case a_Reader_fail => first | k_is | rfl); (case i_Reader_fail => first | k_is | rfl); (case l_Reader_fail => first | k_is | rfl); (case co_Reader_fail => first | k_is | rfl); (case k_Reader_fail => first | k_is | rfl); (case a_Reader_take => first | k_is | rfl); (case i_Reader_take => first | k_is | rfl); (case l_Reader_take => first | k_is | rfl); (case co_Reader_take => first | k_is | rfl); (case k_Reader_take => first | k_is | rfl); (case a_Reader_single => first | k_is | rfl); (case i_Reader_single => first | k_is | rfl); (case l_Reader_single => first | k_is | rfl); (case co_Reader_single => first | k_is | rfl); (case k_Reader_single => first | k_is | rfl); (case a_Reader_both => first | k_is | rfl); (case i_Reader_both => first | k_is | rfl); (case l_Reader_both => first | k_is | rfl); (case co_Reader_both => first | k_is | rfl); (case k_Reader_both => first | k_is | rfl); (case a_Reader_either => first | k_is | rfl); (case i_Reader_either => first | k_is | rfl); (case l_Reader_either => first | k_is | rfl); (case co_Reader_either => first | k_is | rfl); (case k_Reader_either => first | k_is | rfl); (case a_Reader_ground => first | k_is | rfl); (case i_Reader_ground => first | k_is | rfl); (case l_Reader_ground => first | k_is | rfl); (case co_Reader_ground => first | k_is | rfl); (case k_Reader_ground => first | k_is | rfl); (case a_Reader_whole => first | k_is | rfl); (case i_Reader_whole => first | k_is | rfl); (case l_Reader_whole => first | k_is | rfl); (case co_Reader_whole => first | k_is | rfl); (case k_Reader_whole => first | k_is | rfl); (case a_need_text => first | k_is | rfl); (case l_need_text => first | k_is | rfl); (case co_need_text => first | k_is | rfl); (case k_need_text => first | k_is | rfl); (case a_flaw => first | k_is | rfl); (case l_flaw => first | k_is | rfl); (case co_flaw => first | k_is | rfl); (case k_flaw => first | k_is | rfl); (case a_written => first | k_is | rfl); (case l_written => first | k_is | rfl); (case co_written => first | k_is | rfl); (case k_written => first | k_is | rfl); (case a_plain_text => first | k_is | rfl); (case l_plain_text => first | k_is | rfl); (case co_plain_text => first | k_is | rfl); (case k_plain_text => first | k_is | rfl); (case a__law_taken => first | k_is | rfl); (case l__law_taken => first | k_is | rfl); (case co__law_taken => first | k_is | rfl); (case k__law_taken => first | k_is | rfl); (case a__law_pick => first | k_is | rfl); (case l__law_pick => first | k_is | rfl); (case co__law_pick => first | k_is | rfl); (case k__law_pick => first | k_is | rfl); (case a__law_alike => first | k_is | rfl); (case l__law_alike => first | k_is | rfl); (case co__law_alike => first | k_is | rfl); (case k__law_alike => first | k_is | rfl); (case a__law_tree => first | k_is | rfl); (case l__law_tree => first | k_is | rfl); (case co__law_tree => first | k_is | rfl); (case k__law_tree => first | k_is | rfl); (case a__law_blank => first | k_is | rfl); (case l__law_blank => first | k_is | rfl); (case co__law_blank => first | k_is | rfl); (case k__law_blank => first | k_is | rfl); (case a__law_text => first | k_is | rfl); (case l__law_text => first | k_is | rfl); (case co__law_text => first | k_is | rfl); (case k__law_text => first | k_is | rfl); (case a_law => first | k_is | rfl); (case l_law => first | k_is | rfl); (case co_law => first | k_is | rfl); (case k_law => first | k_is | rfl); (case a__law_refused => first | k_is | rfl); (case l__law_refused => first | k_is | rfl); (case co__law_refused => first | k_is | rfl); (case k__law_refused => first | k_is | rfl); (case hd_law => first | k_is | rfl); (case n_P => first | k_is | rfl); (case aC => first | k_is | rfl); (case xL => first | k_is | rfl); (case sa => first | k_is | rfl); (case ga => first | k_is | rfl); (case gg => first | k_is | rfl); (case nb_name => first | k_is | rfl); (case a1 => first | k_is | rfl); (case t1 => first | k_is | rfl); (case l1 => first | k_is | rfl); (case c1 => first | k_is | rfl); (case kI => first | k_is | rfl); (case kC => first | k_is | rfl); (case eC => first | k_is | rfl); (case tC => first | k_is | rfl); (case hC => first | k_is | rfl); (case sC => first | k_is | rfl); (case aC_Flaw => first | k_is | rfl); (case xL_Flaw => first | k_is | rfl); (case sa_Flaw => first | k_is | rfl); (case ga_Flaw => first | k_is | rfl); (case gg_Flaw => first | k_is | rfl); (case nb_place_Flaw => first | k_is | rfl); (case nb_message_Flaw => first | k_is | rfl); (case a1_Flaw => first | k_is | rfl); (case t1_Flaw => first | k_is | rfl); (case l1_Flaw => first | k_is | rfl); (case c1_Flaw => first | k_is | rfl); (case kI_Flaw => first | k_is | rfl); (case kC_Flaw => first | k_is | rfl); (case eC_Flaw => first | k_is | rfl); (case tC_Flaw => first | k_is | rfl); (case hC_Flaw => first | k_is | rfl); (case sC_Flaw => first | k_is | rfl)
end
