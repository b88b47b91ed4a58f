import PyProof.Rows.All
import Wide.All
import OpenK.AllK
import Wide.FinOn
import HandS.Evl
import KE.DataCmp
import HandS.Comp
import HandS.Defaults
import HandS.Words
import HandS.ExcOwn
import HandS.TupAny
import HandS.SortInts
import HandS.IsInst
import HandS.Iter
import HandS.Wide
import HandS.Conv
import HandS.WordsDict
import HandS.Dict
import HandS.Property
import HandS.ClsMeth
import HandS.Star
import HandS.SlotsOwn
import KE.KOpsOwn
import HandS.HeadWalk
import HandS.Zip
import HandS.Style
import HandS.SetFor
import HandS.New0
import HandS.DictComp
import KE.KSuper
import KE.KExcSuper
import HandS.ExcInit
import HandS.ExcValue
import KE.KExcIs
import HandS.ExcField
import HandS.ExcIs
import HandS.More
import HandS.HeadHook1
import HandS.Small
import HandS.Flow
import HandS.Exc
import KE.KStateDown
import HandS.Head0
import HandS.Head1
import HandS.Head2
import HandS.HeadEnd
import HandS.HeadHook2
import HandS.HeadNt
import PySem.Challenge.RW_headedlots_k14_whole_sets_that_lots_ente
set_option Elab.async false
set_option linter.all false
set_option maxRecDepth 100000
set_option maxHeartbeats 4000000
namespace Vm
open PySem

/-- data that nobody changes any more -/
inductive D where
  | non | bl (b : Bool) | int (i : Int) | str (s : Str)
  | tup (l : List D) | lst (l : List D)
  | ins (c : Nat) (fs : List (Nat × D))
  /-- the script -/
  | scr (ns : List Int)
  /-- a class, a dict of ints -/
  | cls (c : Nat) | dct (l : List (Int × D))
deriving Inhabited

/-- what a slot holds: shared data, or an own list, an own object -/
inductive O where
  | sh (d : D)
  | ol (l : List D)
  | oo (c : Nat) (fs : List (Nat × O))
  | od (l : List (Int × D))
deriving Inhabited

mutual
def frz : O → D
  | .sh d => d
  | .ol l => .lst l
  | .oo c fs => .ins c (frzF fs)
  | .od l => .dct l
def frzF : List (Nat × O) → List (Nat × D)
  | [] => []
  | (f, o) :: r => (f, frz o) :: frzF r
end
def O.own : O → Bool
  | .sh _ => false
  | _ => true

mutual
def toPy : D → Option PyData
  | .non => some .none
  | .bl b => some (.bool b)
  | .int i => some (.int i)
  | .str s => some (.str s)
  | .tup l => (toPyL l).map .tuple
  | .lst l => (toPyL l).map .list
  | .ins _ _ => none
  | .scr _ => none
  | .cls _ => none
  | .dct _ => none
def toPyL : List D → Option (List PyData)
  | [] => some []
  | d :: r => match toPy d, toPyL r with
    | some x, some y => some (x :: y)
    | _, _ => none
end

abbrev Env := List (Option O)

/-- built-in functions that are called by their names -/
inductive Bi where
  | len | int | bool | list | tuple | sorted | range | abs | sum | str | min | max | any | all | zip | reversed
deriving DecidableEq
/-- what isinstance asks -/
inductive Is where
  | int | bool | str | tuple | list | cls (c : Nat)
deriving DecidableEq
/-- pure forms of their parts -/
inductive Pf where
  | rev
deriving DecidableEq
/-- methods of built-in types -/
inductive Bm where
  | extend | remove | index | get | popl
deriving DecidableEq
/-- targets of for and of comprehensions -/
inductive Tg where
  | nm (i : Nat) | two (i j : Nat) | many (l : List Nat)
deriving DecidableEq

inductive E where
  | var (i : Nat) | lit (d : D) | glb (x : Str) (d : D)
  | nil | cons (a b : E)
  | tup (a : E) | lst (a : E)
  | bin (op : Operator) (a b : E) | neg (a : E) | inv (a : E)
  | cmp (op : CmpOp) (a b : E) | chn (op op' : CmpOp) (a b c : E)
  | not (a : E) | and (a b : E) | or (a b : E) | ite (c a b : E)
  | idx (a b : E) | slc (a lo hi : E)
  | attr (a : E) (f : Nat)
  | call (g : Nat) (as : E) | mk (c : Nat) (as : E) | meth (a : E) (m : Nat) (as : E)
  | bi (b : Bi) (as : E) | len (a : E) | lrg (a : E) | isi (a : E) (t : Is) | rng (as : E) | zip (as : E) | itr (a : E)
  | pop (a i : E)
  | comp (vs : List Nat) (t : Tg) (it ts elt : E)
  | pf (f : Pf) (a : E) | bm0 (a : E) (m : Bm) | bm1 (a : E) (m : Bm) (b : E)
  | mk0 (c : Nat) | cst (c f : Nat) | clm (c m : Nat) (as : E) | mkv (i c : Nat) (as : E) | cal (i : Nat) (as : E)
deriving Inhabited

/-- what the suite of an except clause says: names, the exception's fields, its class -/
inductive HE where
  | lit (d : D) | var (i : Nat) | fld (f : Nat) | isx (c : Nat) | isv
  | not (a : HE) | and (a b : HE) | or (a b : HE) | eq (a b : HE)
  | nil | cons (a b : HE) | tup (a : HE) | lst (a : HE)
deriving Inhabited
inductive HS where
  | nvr | nop | seq (a b : HS) | ife (c : HE) (a b : HS) | ret (e : HE)
deriving Inhabited
/-- one clause: the class, the slot of its name, the suite -/
structure Hc where
  c : Nat
  n : Option Nat
  h : HS
deriving Inhabited
inductive S where
  | nvr | nop | seq (a b : S) | pas
  | expr (e : E) | asg (i : Nat) (e : E) | unp (i j : Nat) (e : E)
  | sub (a i e : E) | fld (a : E) (f : Nat) (e : E) | aug (i : Nat) (op : Operator) (e : E)
  | app (a e : E) | inl (a i e : E)
  | ife (c : E) (a b : S) | for_ (t : Tg) (it : E) (b : S) | whl (c : E) (b : S)
  | ret (e : E) | retn | brk | cnt
  | rse (c : Nat) (as : E) | rsp (c : Nat)
  | augs (a i : E) (op : Operator) (e : E) | augf (a : E) (f : Nat) (op : Operator) (e : E) | unpm (l : List Nat) (e : E) | del (a i : E)
  | try_ (b : S) (cs : List Hc)
deriving Inhabited

inductive R (α : Type) where
  | ok (a : α) (s : Env) | ex (c : Nat) (fs : List (Nat × D)) (s : Env) | er
def R.bind {α β : Type} (r : R α) (k : α → Env → R β) : R β := match r with
  | .ok a s => k a s
  | .ex c fs s => .ex c fs s
  | .er => .er
@[simp] theorem R.bind_ok {α β : Type} (a : α) (s : Env) (k : α → Env → R β) : (R.ok a s).bind k = k a s := rfl
@[simp] theorem R.bind_ex {α β : Type} (c : Nat) (fs : List (Nat × D)) (s : Env) (k : α → Env → R β) : (R.ex c fs s : R α).bind k = .ex c fs s := rfl
@[simp] theorem R.bind_er {α β : Type} (k : α → Env → R β) : (R.er : R α).bind k = .er := rfl

/-- what a call comes to: the value, the owned arguments as they are behind it -/
inductive FR where
  | ret (o : O) (fin : Env) | ex (c : Nat) (fs : List (Nat × D)) (fin : Env) | er

/-- what stands of the classes: methods by class and name, properties, fields -/
structure Cs where
  mth : Nat → Nat → Option Nat
  prp : Nat → Nat → Option Nat
  fld : Nat → Nat → Bool
  /-- exceptions: their fields, who is under whom -/
  xf : Nat → Option (List Nat)
  sub : Nat → Nat → Bool
  /-- constants of classes; at 0: no __init__ -/
  cst : Nat → Nat → Option D
  /-- static methods, class methods (true) -/
  smt : Nat → Nat → Option (Nat × Bool)
/-- what an expression leans on: the defs by their values, the classes -/
structure Ct extends Cs where
  F : Nat → List O → FR

structure Pth where
  i : Nat
  fs : List Nat
deriving DecidableEq
def plc : E → Option Pth
  | .var i => some ⟨i, []⟩
  | .attr a f => match plc a with
    | some p => some ⟨p.i, p.fs ++ [f]⟩
    | none => none
  | _ => none
def getF (f : Nat) : List (Nat × O) → Option O
  | [] => none
  | (g, o) :: r => if g = f then some o else getF f r
def getD' (f : Nat) : List (Nat × D) → Option D
  | [] => none
  | (g, o) :: r => if g = f then some o else getD' f r
def getO : O → List Nat → Option O
  | o, [] => some o
  | .oo _ fs, f :: r => match getF f fs with
    | some o => getO o r
    | none => none
  | .sh (.ins _ fs), f :: r => match getD' f fs with
    | some d => getO (.sh d) r
    | none => none
  | _, _ :: _ => none
def getP (s : Env) (p : Pth) : Option O := match s[p.i]? with
  | some (some o) => getO o p.fs
  | _ => none

def lim : Nat := 100000
def big : Int := 2 ^ 64
def fitM (i j : Int) : Bool := decide ((-(2 ^ 64) < i ∧ i < 2 ^ 64) ∨ (-(2 ^ 64) < j ∧ j < 2 ^ 64))
/-- a divisor -/
def dvB (j : Int) : Bool := decide (0 < j) && decide (j.toNat < 2 ^ 200)
def binD (op : Operator) (x y : D) : Option O := match op, x, y with
  | .Add, .int i, .int j => some (.sh (.int (i + j)))
  | .Sub, .int i, .int j => some (.sh (.int (i - j)))
  | .Mult, .int i, .int j => if fitM i j = true then some (.sh (.int (i * j))) else none
  | .FloorDiv, .int i, .int j => if dvB j = true then some (.sh (.int (i / j))) else none
  | .Mod, .int i, .int j => if 0 < j then some (.sh (.int (i % j))) else none
  | .Pow, .int i, .int j => if 0 ≤ j ∧ j ≤ 1000 ∧ i.natAbs < 1000 then some (.sh (.int (i ^ j.toNat))) else none
  | .Add, .lst a, .lst b => if a.length + b.length ≤ lim then some (.ol (a ++ b)) else none
  | .Mult, .lst a, .int k => if 0 ≤ k ∧ k ≤ 1000 ∧ a.length * k.toNat ≤ lim then some (.ol (List.replicate k.toNat a).flatten) else none
  | .Add, .tup a, .tup b => if a.length + b.length ≤ lim then some (.sh (.tup (a ++ b))) else none
  | _, _, _ => none
def flatD : D → Bool
  | .non | .bl _ | .int _ | .str _ => true
  | _ => false
def eqD : D → D → Bool
  | .non, .non => true
  | .bl a, .bl b => a == b
  | .bl a, .int b => (if a then 1 else 0) == b
  | .int a, .bl b => a == (if b then 1 else 0)
  | .int a, .int b => a == b
  | .str a, .str b => a == b
  | _, _ => false
def inD (x : D) (l : List D) : Bool := l.any fun y => eqD y x
def itemsD : D → Option (List D)
  | .tup l => some l
  | .lst l => some l
  | _ => none
/-- == of data without objects -/
def eqQ (x y : D) : Option Bool := match x, y with
  | .int i, .int j => some (decide (i = j))
  | .bl i, .bl j => some (decide (i = j))
  | .str i, .str j => some (decide (i = j))
  | .non, .non => some true
  | .tup a, .tup b => match toPyL a, toPyL b with
    | some p, some q => if SeqAt.shaped (.tuple p) = true ∧ SeqAt.shaped (.tuple q) = true then some (PyData.eqv (.tuple p) (.tuple q)) else none
    | _, _ => none
  | .lst a, .lst b => match toPyL a, toPyL b with
    | some p, some q => if SeqAt.shaped (.list p) = true ∧ SeqAt.shaped (.list q) = true then some (PyData.eqv (.list p) (.list q)) else none
    | _, _ => none
  | _, _ => none
/-- both read as data that can be ordered -/
def nonP : PyData → Bool
  | .none => true
  | _ => false
def ordQ (f : PyData → PyData → Bool) (x y : D) : Option Bool := match toPy x, toPy y with
  | some p, some q => if W.alike p q = true ∧ nonP p = false ∧ p.depth ≤ 60 then some (f p q) else none
  | _, _ => none
def ltQ (x y : D) : Option Bool := match x, y with
  | .int i, .int j => some (decide (i < j))
  | x, y => ordQ W.dataLt x y
def leQ (x y : D) : Option Bool := match x, y with
  | .int i, .int j => some (decide (i ≤ j))
  | x, y => ordQ (fun p q => !W.dataLt q p) x y
def cmpD (op : CmpOp) (x y : D) : Option Bool := match op with
  | .Eq => eqQ x y
  | .NotEq => (eqQ x y).map (!·)
  | .Lt => ltQ x y
  | .Gt => (match x, y with
    | .int i, .int j => some (decide (j < i))
    | x, y => ordQ (fun p q => W.dataLt q p) x y)
  | .LtE => leQ x y
  | .GtE => (match x, y with
    | .int i, .int j => some (decide (j ≤ i))
    | x, y => ordQ (fun p q => !W.dataLt p q) x y)
  | .In => (match itemsD y with
    | some l => if flatD x = true ∧ l.all flatD = true then some (inD x l) else none
    | none => none)
  | .NotIn => (match itemsD y with
    | some l => if flatD x = true ∧ l.all flatD = true then some (!inD x l) else none
    | none => none)
  | .Is => (match y with
    | .non => (match x with
      | .non => some true
      | _ => some false)
    | _ => none)
  | .IsNot => (match y with
    | .non => (match x with
      | .non => some false
      | _ => some true)
    | _ => none)
def isD (t : Is) (d : D) : Bool := match t, d with
  | .int, .int _ => true
  | .int, .bl _ => true
  | .bool, .bl _ => true
  | .str, .str _ => true
  | .tuple, .tup _ => true
  | .list, .lst _ => true
  | .cls c, .ins k _ => k == c
  | _, _ => false
def isScr : D → Bool
  | .scr _ | .cls _ | .dct _ => true
  | _ => false
def truD : D → Option Bool
  | .bl b => some b
  | .non => some false
  | .int i => some (i != 0)
  | .lst l => some (!l.isEmpty)
  | .tup l => some (!l.isEmpty)
  | _ => none
def atD (l : List D) (i : Int) : Option D := L2.atI l i
def cutD (l : List D) (lo hi : Option Int) : List D := (l.drop (HT.sIx l.length 0 lo)).take (HT.sIx l.length l.length hi - HT.sIx l.length 0 lo)
def intsOf : List D → Option (List Int)
  | [] => some []
  | .int i :: r => (intsOf r).map (i :: ·)
  | _ :: _ => none
def blsOf : List D → Option (List Bool)
  | [] => some []
  | .bl i :: r => (blsOf r).map (i :: ·)
  | _ :: _ => none
def minI (m : Int) : List Int → Int
  | [] => m
  | x :: r => minI (if x < m then x else m) r
def maxI (m : Int) : List Int → Int
  | [] => m
  | x :: r => maxI (if m < x then x else m) r
def insI (x : Int) : List Int → List Int
  | [] => [x]
  | y :: r => if x ≤ y then x :: y :: r else y :: insI x r
def sortI : List Int → List Int
  | [] => []
  | x :: r => insI x (sortI r)
def rngD (lo : Int) (n : Nat) : List D := (List.range n).map fun (i : Nat) => D.int (lo + (i : Int))
def biD (b : Bi) (l : List D) : Option O := match b, l with
  | .len, [.tup a] => some (.sh (.int a.length))
  | .len, [.lst a] => some (.sh (.int a.length))
  | .int, [.int i] => some (.sh (.int i))
  | .int, [.bl k] => some (.sh (.int (if k then 1 else 0)))
  | .bool, [.bl k] => some (.sh (.bl k))
  | .bool, [.int i] => some (.sh (.bl (i != 0)))
  | .list, [.tup a] => some (.ol a)
  | .list, [.lst a] => some (.ol a)
  | .list, [.scr ns] => some (.ol (ns.map .int))
  | .tuple, [.tup a] => some (.sh (.tup a))
  | .tuple, [.lst a] => some (.sh (.tup a))
  | .sorted, [.lst a] => (intsOf a).map fun ns => .ol ((sortI ns).map .int)
  | .sorted, [.tup a] => (intsOf a).map fun ns => .ol ((sortI ns).map .int)
  | .abs, [.int i] => some (.sh (.int (if i < 0 then -i else i)))
  | .any, [.lst a] => (blsOf a).map fun bs => .sh (.bl (bs.any id))
  | .all, [.lst a] => (blsOf a).map fun bs => .sh (.bl (bs.all id))
  | .sum, [.lst a] => (intsOf a).map fun ns => .sh (.int ns.sum)
  | .min, [.lst a] => (match intsOf a with
    | some (n :: ns) => some (.sh (.int (minI n ns)))
    | _ => none)
  | .max, [.lst a] => (match intsOf a with
    | some (n :: ns) => some (.sh (.int (maxI n ns)))
    | _ => none)
  | .min, [.int i, .int j] => some (.sh (.int (if j < i then j else i)))
  | .max, [.int i, .int j] => some (.sh (.int (if j > i then j else i)))
  | .list, [.dct a] => some (.ol (a.map fun q => .int q.1))
  | .len, [.dct a] => some (.sh (.int a.length))
  | _, _ => none
/-- pure forms -/
def pfO (f : Pf) (d : D) : Option O := match f, d with
  | .rev, .lst a => some (.ol a.reverse)
  | _, _ => none
def idxI (k : Int) : List Int → Option Nat
  | [] => none
  | x :: r => if x = k then some 0 else (idxI k r).map (· + 1)
def getK (k : Int) : List (Int × D) → Option D
  | [] => none
  | (j, d) :: r => if j = k then some d else getK k r
def setK (k : Int) (d : D) (l : List (Int × D)) : List (Int × D) :=
  if (l.any fun q => decide (q.1 = k)) = true then l.map (fun q => if q.1 = k then (q.1, d) else q) else l ++ [(k, d)]
/-- methods of built-in types: what kind of thing they ask for -/
def bmT (m : Bm) (o : O) : Bool := match m with
  | .extend | .remove | .popl => (match o with
    | .ol _ => true
    | _ => false)
  | .index => (match frz o with
    | .lst _ => true
    | _ => false)
  | .get => (match frz o with
    | .dct _ => true
    | _ => false)
/-- what they give, what they leave -/
def bmO (m : Bm) (o : O) (b : Option D) : Option (O × Option O) := match m with
  | .extend => (match o, b with
    | .ol l, some (.lst a) => if l.length + a.length ≤ lim then some (.sh .non, some (.ol (l ++ a))) else none
    | _, _ => none)
  | .remove => (match o, b with
    | .ol l, some (.int k) => (match intsOf l with
      | some ns => (idxI k ns).map fun j => (.sh .non, some (.ol ((ns.eraseIdx j).map .int)))
      | none => none)
    | _, _ => none)
  | .popl => (match o, b with
    | .ol l, none => (match l.getLast? with
      | some d => some (.sh d, some (.ol l.dropLast))
      | none => none)
    | _, _ => none)
  | .index => (match frz o, b with
    | .lst l, some (.int k) => (match intsOf l with
      | some ns => (idxI k ns).map fun (i : Nat) => (O.sh (.int (i : Int)), none)
      | none => none)
    | _, _ => none)
  | .get => (match frz o, b with
    | .dct l, some (.int k) => some (.sh ((getK k l).getD .non), none)
    | _, _ => none)
def hasX (i : Nat) (s : Env) : Bool := match s[i]? with
  | some (some _) => true
  | _ => false

def setF (f : Nat) (o : O) : List (Nat × O) → List (Nat × O)
  | [] => [(f, o)]
  | (g, u) :: r => if g = f then (g, o) :: r else (g, u) :: setF f o r
def setO : O → List Nat → O → O
  | _, [], v => v
  | .oo c fs, f :: r, v => match getF f fs with
    | some o => .oo c (setF f (setO o r v) fs)
    | none => .oo c fs
  | o, _ :: _, _ => o
def setP (s : Env) (p : Pth) (v : O) : Env := match s[p.i]? with
  | some (some o) => s.set p.i (some (setO o p.fs v))
  | _ => s

inductive A where
  | val (d : D) | ref (p : Pth)
def A.res (s : Env) : A → Option O
  | .val d => some (.sh d)
  | .ref p => getP s p
def resAll (s : Env) : List A → Option (List O)
  | [] => some []
  | a :: r => match a.res s, resAll s r with
    | some o, some l => some (o :: l)
    | _, _ => none
/-- the owned places among the arguments: no one's slot twice -/
def ownIx (s : Env) : List A → List Nat
  | [] => []
  | .ref p :: r => (match getP s p with
    | some o => if o.own then p.i :: ownIx s r else ownIx s r
    | none => ownIx s r)
  | .val _ :: r => ownIx s r
/-- the owned arguments come back -/
def give (s : Env) : List A → Env → Env
  | .ref p :: r, some o :: fin => (match getP s p with
    | some u => if u.own then setP (give s r fin) p o else give s r fin
    | none => give s r fin)
  | _ :: r, _ :: fin => give s r fin
  | _, _ => s
def headSome : Env → Bool
  | some _ :: _ => true
  | _ => false
/-- each owned argument comes back -/
def backOk (s : Env) : List A → Env → Bool
  | [], _ => true
  | .ref p :: r, f => (match getP s p with
    | some o => (!o.own || headSome f)
    | none => true) && backOk s r f.tail
  | .val _ :: r, f => backOk s r f.tail
def done (s : Env) (as : List A) : FR → R O
  | .ret o fin => if backOk s as fin = true then .ok o (give s as fin) else .er
  | .ex c fs fin => if backOk s as fin = true then .ex c fs (give s as fin) else .er
  | .er => .er
def callF (F : Nat → List O → FR) (g : Nat) (as : List A) (s : Env) : R O := match resAll s as with
  | some os => if (ownIx s as).Nodup then done s as (F g os) else .er
  | none => .er
/-- behind __init__ -/
def made (s : Env) (as : List A) : FR → R O
  | .ret (.sh .non) (some o :: fin) => if backOk s as fin = true then .ok o (give s as fin) else .er
  | .ex k fs (some _ :: fin) => if backOk s as fin = true then .ex k fs (give s as fin) else .er
  | _ => .er
/-- a new instance: __init__ at it -/
def makeF (F : Nat → List O → FR) (c g : Nat) (as : List A) (s : Env) : R O := match resAll s as with
  | some os => if (ownIx s as).Nodup then made s as (F g (.oo c [] :: os)) else .er
  | none => .er
def clsO : O → Option Nat
  | .sh (.ins c _) => some c
  | .oo c _ => some c
  | _ => none
def ofO {α : Type} (o : Option α) (s : Env) (k : α → R O) : R O := match o with
  | some a => k a
  | none => .er
/-- a place is left to others: shared from now on -/
def shareP (s : Env) (p : Pth) : Option (D × Env) := match getP s p with
  | some (.sh d) => some (d, s)
  | some o => some (frz o, setP s p (.sh (frz o)))
  | none => none
def pinD : Operator → Nat
  | .Add => 1 | .Sub => 2 | .Mult => 3 | .FloorDiv => 4 | .Mod => 5 | .BitXor => 6 | .BitAnd => 7 | .BitOr => 8 | _ => 9
def cmpN : CmpOp → Nat
  | .Eq => 11 | .Lt => 12 | .LtE => 13 | _ => 19
/-- slots stored, one after the other -/
def sets : List Nat → List D → Env → Env
  | i :: r, d :: ds, s => sets r ds (s.set i (some (.sh d)))
  | _, _, s => s
/-- bindings of for's and comprehension's targets -/
def tgt (t : Tg) (d : D) (s : Env) : Option Env := match t, d with
  | .nm i, d => some (s.set i (some (.sh d)))
  | .two i j, .tup [a, b] => some ((s.set i (some (.sh a))).set j (some (.sh b)))
  | .many l, .tup ds => if l.length = ds.length then some (sets l ds s) else none
  | _, _ => none
def wipe (s : Env) : List Nat → Env
  | [] => s
  | v :: vs => (wipe s vs).set v none
/-- the slots of a comprehension's own names as they were -/
def back (s0 s : Env) : List Nat → Env
  | [] => s
  | v :: vs => (back s0 s vs).set v (s0.getD v none)
/-- the slots of a comprehension's own names hold nothing of their own -/
def freeV (s : Env) (vs : List Nat) : Bool := vs.all fun i => match s[i]? with
  | some (some o) => !o.own
  | _ => true
def compL (s0 : Env) (vs : List Nat) (t : Tg) (ts : Env → R Bool) (el : Env → R D) : List D → List D → Env → R (List D)
  | [], acc, s => .ok acc s
  | d :: r, acc, s => match tgt t d (wipe s vs) with
    | none => .er
    | some s1 => (ts s1).bind fun b s2 => if b = true then (el s2).bind fun x s3 => compL s0 vs t ts el r (acc ++ [x]) (back s0 s3 vs) else compL s0 vs t ts el r acc (back s0 s2 vs)

inductive Vl where
  | o (o : O) | l (l : List A)
def asO (r : R Vl) : R O := r.bind fun v s => match v with
  | .o o => .ok o s
  | .l _ => .er
def asD (r : R Vl) : R D := r.bind fun v s => match v with
  | .o o => .ok (frz o) s
  | .l _ => .er
def asL (r : R Vl) : R (List A) := r.bind fun v s => match v with
  | .o _ => .er
  | .l l => .ok l s
@[simp] theorem asO_o (o : O) (s : Env) : asO (.ok (.o o) s) = .ok o s := rfl
@[simp] theorem asD_o (o : O) (s : Env) : asD (.ok (.o o) s) = .ok (frz o) s := rfl
@[simp] theorem asL_l (l : List A) (s : Env) : asL (.ok (.l l) s) = .ok l s := rfl
def rO (r : R O) : R Vl := r.bind fun o s => .ok (.o o) s
@[simp] theorem rO_ok (o : O) (s : Env) : rO (.ok o s) = .ok (.o o) s := rfl
/-- nothing is called in it -/
def simple : E → Bool
  | .var _ | .lit _ | .glb _ _ | .nil => true
  | .cons a b => simple a && simple b
  | _ => false
/-- an operand: an owned place is not looked at yet -/
def pk (a rest : E) (s : Env) (r : R Vl) : R A := match plc a with
  | some p => (match getP s p with
    | some (.sh d) => .ok (.val d) s
    | some o => if (p.fs.isEmpty || simple rest) = true then .ok (.ref p) s else .ok (.val (frz o)) (setP s p (.sh (frz o)))
    | none => (asD r).bind fun d s => .ok (.val d) s)
  | none => (asD r).bind fun d s => .ok (.val d) s
/-- all of them shared from now on -/
def shA : List A → Env → Option (List D × Env)
  | [], s => some ([], s)
  | .val d :: r, s => (shA r s).map fun q => (d :: q.1, q.2)
  | .ref p :: r, s => match shareP s p with
    | some (d, s1) => (shA r s1).map fun q => (d :: q.1, q.2)
    | none => none
def okO {α : Type} (o : Option α) (k : α → R Vl) : R Vl := match o with
  | some a => k a
  | none => .er
@[simp] theorem okO_some {α : Type} (a : α) (k : α → R Vl) : okO (some a) k = k a := rfl
def dsA (s : Env) : List A → Option (List D)
  | [] => some []
  | a :: r => match a.res s, dsA s r with
    | some o, some l => some (frz o :: l)
    | _, _ => none
/-- what an own operator may meet -/
def okB (c : Nat) : D → Bool
  | .int _ => true
  | .ins c' _ => c' == c
  | _ => false
def binA (G : Ct) (op : Operator) (x : A) (y : D) (s : Env) : R Vl := okO (x.res s) fun o => match clsO o with
  | some c => if okB c y = true then okO (G.mth c (pinD op)) fun g => rO (callF G.F g [x, .val y] s) else .er
  | none => (match x with
    | .val x => okO (binD op x y) fun o => .ok (.o o) s
    | .ref p => okO (shareP s p) fun q => okO (binD op q.1 y) fun o => .ok (.o o) q.2)
/-- nothing is raised -/
def noX {α : Type} : R α → R α
  | .ex _ _ _ => .er
  | r => r
/-- a bool, or nothing -/
def onlyB : R O → R O
  | .ok (.sh (.bl k)) s => .ok (.sh (.bl k)) s
  | .ok _ _ => .er
  | r => r
def cmpA (G : Ct) (op : CmpOp) (x y : A) (s : Env) : R Vl := okO (x.res s) fun o => okO (y.res s) fun u => match clsO o with
  | some c => if (clsO u).isSome = true then okO (G.mth c (cmpN op)) fun g => rO (onlyB (noX (callF G.F g [x, y] s))) else .er
  | none => okO (cmpD op (frz o) (frz u)) fun k => .ok (.o (.sh (.bl k))) s
def idxO (o : O) (y : D) : Option D := match y with
  | .int i => (match o with
    | .sh (.lst l) => atD l i
    | .ol l => atD l i
    | .sh (.tup l) => atD l i
    | _ => none)
  | _ => none
def dctO (o : O) : Option (List (Int × D)) := match o with
  | .od l => some l
  | .sh (.dct l) => some l
  | _ => none
/-- an item of a dict, of a row -/
def idxD (o : O) (y : D) : Option D := match dctO o with
  | some l => (match y with
    | .int k => getK k l
    | _ => none)
  | none => idxO o y
def slcO (o : O) (l h : Option Int) : Option O := match o with
  | .sh (.lst xs) => some (.ol (cutD xs l h))
  | .ol xs => some (.ol (cutD xs l h))
  | .sh (.tup xs) => some (.sh (.tup (cutD xs l h)))
  | _ => none
/-- a constant of a class -/
def cst1 (G : Ct) (c f : Nat) : Option D := if f = 0 then none else G.cst c f
def attrA (G : Ct) (x : A) (f : Nat) (s : Env) : R Vl := okO (x.res s) fun o => match getO o [f] with
  | some (.sh d) => .ok (.o (.sh d)) s
  | some u => (match x with
    | .ref p => .ok (.o (.sh (frz u))) (setP s ⟨p.i, p.fs ++ [f]⟩ (.sh (frz u)))
    | .val _ => .er)
  | none => okO (clsO o) fun c => match cst1 G c f with
    | some d => .ok (.o (.sh d)) s
    | none => okO (G.prp c f) fun g => rO (noX (callF G.F g [x] s))
def truA (x : A) (s : Env) : R Bool := match x.res s with
  | some o => (match truD (frz o) with
    | some b => .ok b s
    | none => .er)
  | none => .er
def rngO : List D → Option (List D)
  | [.int n] => if -lim ≤ n ∧ n ≤ lim then some (rngD 0 n.toNat) else none
  | [.int a, .int n] => if -lim ≤ a ∧ a ≤ lim ∧ -lim ≤ n ∧ n ≤ lim then some (rngD a (n - a).toNat) else none
  | [.int a, .int n, .int (-1)] => if -lim ≤ a ∧ a ≤ lim ∧ -lim ≤ n ∧ n ≤ lim then some ((List.range (a - n).toNat).map fun (i : Nat) => D.int (a - (i : Int))) else none
  | _ => none
def zipO : List D → Option (List D)
  | [.lst a, .lst b] => some ((a.zip b).map fun q => .tup [q.1, q.2])
  | [.tup a, .tup b] => some ((a.zip b).map fun q => .tup [q.1, q.2])
  | _ => none
def intO : D → Option Int
  | .int i => some i
  | _ => none
def bitE (b : Bool) (s : Env) : R Vl := .ok (.o (.sh (.bl b))) s
/-- a bool -/
def bo (r : R Vl) : R Bool := (asD r).bind fun d s => match d with
  | .bl k => .ok k s
  | _ => .er
/-- the truth of what a comes to -/
def tru (a : E) (s : Env) (r : R Vl) : R Bool := (pk a .nil s r).bind truA
def prt (a : E) (s : Env) (r : R Vl) : R (Option Int) := match a with
  | .nil => .ok none s
  | _ => (asD r).bind fun d s => match intO d with
    | some i => .ok (some i) s
    | none => .er
def isL : Option O → Option Unit
  | some (.ol _) => some ()
  | _ => none
def popO (o : O) (y : D) : Option (D × O) := match o, y with
  | .ol l, .int k => if 0 ≤ k ∧ k.toNat < 2 ^ 62 then l[k.toNat]?.map fun d => (d, .ol (l.eraseIdx k.toNat)) else none
  | _, _ => none

def bmK (m : Bm) (o : Option O) : Option Unit := match o with
  | some o => if bmT m o = true then some () else none
  | none => none
/-- what a method gives, the operand left so -/
def bmR (q : O × Option O) (x : A) (s : Env) : R Vl := match q.2 with
  | none => .ok (.o q.1) s
  | some o' => (match x with
    | .ref p => .ok (.o q.1) (setP s p o')
    | .val _ => .er)
def isCls : Option O → Option Nat
  | some (.sh (.cls c)) => some c
  | _ => none
/-- what a name holds, as an operand -/
def hold (i : Nat) : O → A
  | .sh d => .val d
  | _ => .ref ⟨i, []⟩
/-- a length -/
def lenR : R O → R O
  | .ok (.sh (.int n)) s => if 0 ≤ n ∧ n.toNat ≤ lim then .ok (.sh (.int n)) s else .er
  | .ok _ _ => .er
  | r => r
def ev (G : Ct) : E → Env → R Vl
  | .var i, s => okO (shareP s ⟨i, []⟩) fun q => .ok (.o (.sh q.1)) q.2
  | .lit d, s => .ok (.o (.sh d)) s
  | .glb _ d, s => .ok (.o (.sh d)) s
  | .nil, s => .ok (.l []) s
  | .cons a b, s => (pk a b s (ev G a s)).bind fun x s => (asL (ev G b s)).bind fun l s => .ok (.l (x :: l)) s
  | .tup a, s => (asL (ev G a s)).bind fun l s => okO (shA l s) fun q => .ok (.o (.sh (.tup q.1))) q.2
  | .lst a, s => (asL (ev G a s)).bind fun l s => okO (shA l s) fun q => .ok (.o (.ol q.1)) q.2
  | .bin op a b, s => (pk a b s (ev G a s)).bind fun x s => (asD (ev G b s)).bind fun y s => binA G op x y s
  | .neg a, s => (asD (ev G a s)).bind fun x s => okO (intO x) fun i => .ok (.o (.sh (.int (-i)))) s
  | .inv a, s => (pk a .nil s (ev G a s)).bind fun x s => okO (x.res s) fun o => okO (clsO o) fun c => okO (G.mth c 20) fun g => rO (noX (callF G.F g [x] s))
  | .cmp op a b, s => (pk a b s (ev G a s)).bind fun x s => (pk b .nil s (ev G b s)).bind fun y s => cmpA G op x y s
  | .chn op op' a b c, s => (asD (ev G a s)).bind fun x s => (asD (ev G b s)).bind fun y s => okO (cmpD op x y) fun k => if k = true then (asD (ev G c s)).bind fun z s => okO (cmpD op' y z) fun k => bitE k s else bitE false s
  | .not a, s => (tru a s (ev G a s)).bind fun k s => bitE (!k) s
  | .and a b, s => (bo (ev G a s)).bind fun k s => if k = true then (bo (ev G b s)).bind bitE else bitE false s
  | .or a b, s => (bo (ev G a s)).bind fun k s => if k = true then bitE true s else (bo (ev G b s)).bind bitE
  | .ite c a b, s => (tru c s (ev G c s)).bind fun k s => if k = true then ev G a s else ev G b s
  | .idx a b, s => (pk a b s (ev G a s)).bind fun x s => (asD (ev G b s)).bind fun y s => okO (x.res s) fun o => match clsO o with
    | some c => okO (G.mth c 14) fun g => rO (callF G.F g [x, .val y] s)
    | none => okO (idxD o y) fun d => .ok (.o (.sh d)) s
  | .slc a lo hi, s => (pk a (.cons lo hi) s (ev G a s)).bind fun x s => (prt lo s (ev G lo s)).bind fun l s => (prt hi s (ev G hi s)).bind fun h s => okO (x.res s) fun o => okO (slcO o l h) fun o => .ok (.o o) s
  | .attr a f, s => (pk a .nil s (ev G a s)).bind fun x s => attrA G x f s
  | .call g as, s => (asL (ev G as s)).bind fun l s => rO (callF G.F g l s)
  | .mk c as, s => (asL (ev G as s)).bind fun l s => okO (G.mth c 0) fun g => rO (makeF G.F c g l s)
  | .meth a m as, s => (pk a as s (ev G a s)).bind fun x s => okO ((x.res s).bind fun o => if (getO o [m]).isNone then clsO o else none) fun c => okO (G.mth c m) fun g => (asL (ev G as s)).bind fun l s => rO (callF G.F g (x :: l) s)
  | .bi b as, s => (asL (ev G as s)).bind fun l s => okO (dsA s l) fun ds => okO (biD b ds) fun o => .ok (.o o) s
  | .len a, s => (pk a .nil s (ev G a s)).bind fun x s => okO (x.res s) fun o => match clsO o with
    | some c => okO (G.mth c 18) fun g => rO (lenR (noX (callF G.F g [x] s)))
    | none => okO (biD .len [frz o]) fun o => .ok (.o o) s
  | .isi a t, s => (pk a .nil s (ev G a s)).bind fun x s => okO (x.res s) fun o => if isScr (frz o) = true then .er else bitE (isD t (frz o)) s
  | .rng as, s => (asL (ev G as s)).bind fun l s => okO (dsA s l) fun ds => okO (rngO ds) fun l => .ok (.o (.ol l)) s
  | .zip as, s => (asL (ev G as s)).bind fun l s => okO (shA l s) fun q => okO (zipO q.1) fun l => .ok (.o (.ol l)) q.2
  | .itr a, s => ev G a s
  | .pop a i, s => (pk a i s (ev G a s)).bind fun x s => okO (isL (x.res s)) fun _ => (asD (ev G i s)).bind fun y s => match x with
    | .ref p => okO (getP s p) fun o => okO (popO o y) fun q => .ok (.o (.sh q.1)) (setP s p q.2)
    | .val _ => .er
  | .lrg a, s => (asD (ev G a s)).bind fun d s => okO (intO d) fun n => if -lim ≤ n ∧ n ≤ lim then .ok (.o (.ol (rngD 0 n.toNat))) s else .er
  | .comp vs t it ts elt, s => (asD (ev G it s)).bind fun d s => okO (itemsD d) fun l => if freeV s vs = true ∧ l.length ≤ lim then
      (noX (compL s vs t (fun s => match ts with
        | .nil => .ok true s
        | _ => tru ts s (ev G ts s)) (fun s => asD (ev G elt s)) l [] s)).bind fun l s => .ok (.o (.ol l)) s else .er
  | .pf f a, s => (pk a .nil s (ev G a s)).bind fun x s => okO (x.res s) fun o => okO (pfO f (frz o)) fun o => .ok (.o o) s
  | .bm0 a m, s => (pk a .nil s (ev G a s)).bind fun x s => okO (bmK m (x.res s)) fun _ => okO (x.res s) fun o => okO (bmO m o none) fun q => bmR q x s
  | .bm1 a m b, s => (pk a b s (ev G a s)).bind fun x s => okO (bmK m (x.res s)) fun _ => (asD (ev G b s)).bind fun d s => okO (x.res s) fun o => okO (bmO m o (some d)) fun q => bmR q x s
  | .mk0 c, s => if (G.cst c 0).isSome = true then .ok (.o (.oo c [])) s else .er
  | .cst c f, s => okO (cst1 G c f) fun d => .ok (.o (.sh d)) s
  | .clm c m as, s => (asL (ev G as s)).bind fun l s => okO (G.smt c m) fun q => rO (callF G.F q.1 (if q.2 = true then .val (.cls c) :: l else l) s)
  | .mkv i c as, s => okO (isCls (getP s ⟨i, []⟩)) fun c' => if c' = c then (asL (ev G as s)).bind fun l s => okO (G.mth c 0) fun g => rO (makeF G.F c g l s) else .er
  | .cal i as, s => okO ((getP s ⟨i, []⟩).bind clsO) fun _ => (asL (ev G as s)).bind fun l s => okO (getP s ⟨i, []⟩) fun o => okO (clsO o) fun c => okO (G.mth c 17) fun g => rO (callF G.F g (hold i o :: l) s)

inductive SR where
  | nx (s : Env) | rt (o : O) (s : Env) | bk (s : Env) | ct (s : Env) | ex (c : Nat) (fs : List (Nat × D)) (s : Env) | er
def R.st {α : Type} (r : R α) (k : α → Env → SR) : SR := match r with
  | .ok a s => k a s
  | .ex c fs s => .ex c fs s
  | .er => .er
@[simp] theorem R.st_ok {α : Type} (a : α) (s : Env) (k : α → Env → SR) : (R.ok a s).st k = k a s := rfl
def okS {α : Type} (o : Option α) (k : α → SR) : SR := match o with
  | some a => k a
  | none => .er
@[simp] theorem okS_some {α : Type} (a : α) (k : α → SR) : okS (some a) k = k a := rfl
def SR.seq (r : SR) (k : Env → SR) : SR := match r with
  | .nx s => k s
  | r => r
@[simp] theorem SR.seq_nx (s : Env) (k : Env → SR) : (SR.nx s).seq k = k s := rfl
@[simp] theorem SR.seq_rt (o : O) (s : Env) (k : Env → SR) : (SR.rt o s).seq k = .rt o s := rfl
/-- a target among the slots that stay -/
def pinT (pin : List Nat) : Tg → Bool
  | .nm i => pin.contains i
  | .two i j => pin.contains i || pin.contains j
  | .many l => l.any pin.contains
def forL (t : Tg) (pin : List Nat) (b : Env → SR) : List D → Env → SR
  | [], s => .nx s
  | d :: r, s => match tgt t d s with
    | none => .er
    | some s1 => match b s1 with
      | .nx s2 => forL t pin b r s2
      | .ct s2 => forL t pin b r s2
      | .bk s2 => .nx s2
      | x => x
/-- one turn of a while: go on, or an end -/
inductive Tn where
  | go (s : Env) | end_ (r : SR)
def turn (c : Env → R Bool) (b : Env → SR) (s : Env) : Tn := match c s with
  | .ok true s1 => (match b s1 with
    | .nx s2 => .go s2
    | .ct s2 => .go s2
    | .bk s2 => .end_ (.nx s2)
    | x => .end_ x)
  | .ok false s1 => .end_ (.nx s1)
  | .ex c fs s => .end_ (.ex c fs s)
  | .er => .end_ .er
def iter (f : Env → Tn) : Nat → Env → Option SR
  | 0, _ => none
  | n + 1, s => match f s with
    | .go s1 => iter f n s1
    | .end_ r => some r
open Classical in
noncomputable def whlL (f : Env → Tn) (s : Env) : SR := if h : ∃ r n, iter f n s = some r then h.choose else .er
theorem iter_mono {f : Env → Tn} {r : SR} : ∀ {n : Nat} {s : Env}, iter f n s = some r → ∀ m, n ≤ m → iter f m s = some r
  | 0, _, h, _, _ => by cases h
  | n + 1, s, h, m, hm => by
    obtain ⟨k, rfl⟩ : ∃ k, m = k + 1 := ⟨m - 1, by omega⟩
    unfold iter at h ⊢
    cases e : f s with
    | go s1 => rw [e] at h; exact iter_mono h k (by omega)
    | end_ r' => rw [e] at h; exact h
theorem iter_one {f : Env → Tn} {s : Env} {r r' : SR} {n m : Nat} (h : iter f n s = some r) (h' : iter f m s = some r') : r = r' := by
  have a := iter_mono h (max n m) (Nat.le_max_left _ _)
  rw [iter_mono h' (max n m) (Nat.le_max_right _ _)] at a
  exact (Option.some.inj a).symm
theorem whlL_of {f : Env → Tn} {s : Env} {r : SR} {n : Nat} (h : iter f n s = some r) : whlL f s = r := by
  have hx : ∃ r n, iter f n s = some r := ⟨r, n, h⟩
  unfold whlL
  rw [dif_pos hx]
  obtain ⟨m, hm⟩ := hx.choose_spec
  exact iter_one hm h
theorem whlL_end {f : Env → Tn} {s : Env} {r : SR} (h : f s = .end_ r) : whlL f s = r := whlL_of (n := 1) (by unfold iter; rw [h])
theorem whlL_go {f : Env → Tn} {s s1 : Env} (h : f s = .go s1) : whlL f s = whlL f s1 := by
  by_cases hx : ∃ r n, iter f n s1 = some r
  · obtain ⟨r, n, e⟩ := hx
    rw [whlL_of e]
    exact whlL_of (n := n + 1) (by unfold iter; rw [h]; exact e)
  · have hy : ¬ ∃ r n, iter f n s = some r := by
      rintro ⟨r, n, e⟩
      cases n with
      | zero => cases e
      | succ n =>
        unfold iter at e
        rw [h] at e
        exact hx ⟨r, n, e⟩
    unfold whlL
    rw [dif_neg hx, dif_neg hy]
theorem whlL_done {f : Env → Tn} {s : Env} {r : SR} (h : whlL f s = r) (hr : r ≠ .er) : ∃ n, iter f n s = some r := by
  unfold whlL at h
  split at h
  · rename_i hx
    obtain ⟨n, e⟩ := hx.choose_spec
    exact ⟨n, by rw [e, h]⟩
  · exact absurd h.symm hr

/-- x = e: a slot of an argument that is not ours stays -/
def put (pin : List Nat) (i : Nat) (o : O) (s : Env) : SR := if i ∈ pin then .er else .nx (s.set i (some o))
def augD (op : Operator) (x y : D) : Option D := match op, x, y with
  | .Add, .int i, .int j => some (.int (i + j))
  | .Sub, .int i, .int j => some (.int (i - j))
  | _, _, _ => none
def insL (k : Nat) (d : D) (l : List D) : List D := l.take k ++ d :: l.drop k
def subO (o : O) (i : D) (d : D) : Option O := match o, i with
  | .ol l, .int k => (L2.ixN l.length k).map fun j => .ol (l.set j d)
  | .od l, .int k => if l.length < lim then some (.od (setK k d l)) else none
  | _, _ => none
def delO (o : O) (i : D) : Option O := match o, i with
  | .ol l, .int k => if -(2 ^ 62) ≤ k ∧ k < 2 ^ 62 then (L2.ixN l.length k).map fun j => .ol (l.eraseIdx j) else none
  | _, _ => none
def appO (o : O) (d : D) : Option O := match o with
  | .ol l => if l.length < lim then some (.ol (l ++ [d])) else none
  | _ => none
def inlO (o : O) (i : D) (d : D) : Option O := match o, i with
  | .ol l, .int k => if l.length < lim ∧ 0 ≤ k ∧ k ≤ l.length then some (.ol (insL k.toNat d l)) else none
  | _, _ => none
def olO : O → Option O
  | .ol l => some (.ol l)
  | _ => none
def shO : O → Option D
  | .sh d => some d
  | _ => none
def fldO (G : Cs) (o : O) (f : Nat) (v : O) : Option O := match o with
  | .oo c fs => if fs.length < 100 ∧ G.fld c f = true then some (.oo c (setF f v fs)) else none
  | _ => none
/-- the suite of an except clause: of an exception of the class c with these fields -/
def hev (G : Ct) (s : Env) (c : Nat) (fs : List (Nat × D)) : HE → Option D
  | .lit d => if flatD d = true then some d else none
  | .var i => (match s[i]? with
    | some (some (.sh d)) => some d
    | _ => none)
  | .fld f => getD' f fs
  | .isx k => some (.bl (G.sub c k))
  | .isv => some (.bl true)
  | .not a => (match hev G s c fs a with
    | some (.bl k) => some (.bl (!k))
    | _ => none)
  | .and a b => (match hev G s c fs a with
    | some (.bl true) => (match hev G s c fs b with
      | some (.bl k) => some (.bl k)
      | _ => none)
    | some (.bl false) => some (.bl false)
    | _ => none)
  | .or a b => (match hev G s c fs a with
    | some (.bl false) => (match hev G s c fs b with
      | some (.bl k) => some (.bl k)
      | _ => none)
    | some (.bl true) => some (.bl true)
    | _ => none)
  | .eq a b => (match hev G s c fs a, hev G s c fs b with
    | some (.bl x), some (.bl y) => some (.bl (decide (x = y)))
    | _, _ => none)
  | .nil => some (.tup [])
  | .cons a b => (match hev G s c fs a, hev G s c fs b with
    | some x, some (.tup l) => some (.tup (x :: l))
    | _, _ => none)
  | .tup a => (match hev G s c fs a with
    | some (.tup l) => some (.tup l)
    | _ => none)
  | .lst a => (match hev G s c fs a with
    | some (.tup l) => some (.lst l)
    | _ => none)
def hsv (G : Ct) (s : Env) (c : Nat) (fs : List (Nat × D)) : HS → Option (Option D)
  | .nvr => none
  | .nop => some none
  | .seq a b => (match hsv G s c fs a with
    | some none => hsv G s c fs b
    | r => r)
  | .ife e a b => (match hev G s c fs e with
    | some (.bl true) => hsv G s c fs a
    | some (.bl false) => hsv G s c fs b
    | _ => none)
  | .ret e => (match hev G s c fs e with
    | some d => some (some d)
    | none => none)
/-- the slot of a clause's name holds nothing -/
def okN (pin : List Nat) (s : Env) : Option Nat → Bool
  | none => true
  | some i => (match s[i]? with
    | some none => !pin.contains i
    | _ => false)
/-- the clauses, one after the other -/
def hcv (G : Ct) (pin : List Nat) (c : Nat) (fs : List (Nat × D)) : List Hc → Env → SR
  | [], s => .ex c fs s
  | h :: r, s => if G.sub c h.c = true then (if okN pin s h.n = true then (match hsv G s c fs h.h with
    | some none => .nx s
    | some (some d) => .rt (.sh d) s
    | none => .er) else .er) else hcv G pin c fs r s
def SR.catch (r : SR) (k : Nat → List (Nat × D) → Env → SR) : SR := match r with
  | .ex c fs s => k c fs s
  | r => r
@[simp] theorem SR.catch_ex (c : Nat) (fs : List (Nat × D)) (s : Env) (k : Nat → List (Nat × D) → Env → SR) : (SR.ex c fs s).catch k = k c fs s := rfl
@[simp] theorem SR.catch_nx (s : Env) (k : Nat → List (Nat × D) → Env → SR) : (SR.nx s).catch k = .nx s := rfl
@[simp] theorem SR.catch_rt (o : O) (s : Env) (k : Nat → List (Nat × D) → Env → SR) : (SR.rt o s).catch k = .rt o s := rfl
noncomputable def evS (G : Ct) (pin : List Nat) : S → Env → SR
  | .nvr, _ => .er
  | .nop, s => .nx s
  | .pas, s => .nx s
  | .seq a b, s => (evS G pin a s).seq fun s => evS G pin b s
  | .expr e, s => (asO (ev G e s)).st fun _ s => .nx s
  | .asg i e, s => (asO (ev G e s)).st fun o s => put pin i o s
  | .unp i j e, s => (asD (ev G e s)).st fun d s => if i ∈ pin ∨ j ∈ pin then .er else okS (tgt (.two i j) d s) .nx
  | .sub a i e, s => (asD (ev G e s)).st fun d s => (pk a i s (ev G a s)).st fun x s => (asD (ev G i s)).st fun k s => match x with
    | .ref p => okS (getP s p) fun o => (match clsO o with
      | some c => okS (G.mth c 15) fun g => (callF G.F g [.ref p, .val k, .val d] s).st fun _ s => .nx s
      | none => okS (subO o k d) fun o => .nx (setP s p o))
    | .val _ => .er
  | .fld a f e, s => (asO (ev G e s)).st fun v s => (match a with
    | .var i => okS (getP s ⟨i, []⟩) fun o => okS (fldO G.toCs o f v) fun o => .nx (setP s ⟨i, []⟩ o)
    | _ => .er)
  | .aug i op e, s => (match s[i]? with
    | some (some (.sh x)) => (asD (ev G e s)).st fun y s => okS (augD op x y) fun d => put pin i (.sh d) s
    | _ => .er)
  | .app a e, s => (pk a e s (ev G a s)).st fun x s => okS (isL (x.res s)) fun _ => (asD (ev G e s)).st fun d s => match x with
    | .ref p => okS (getP s p) fun o => okS (appO o d) fun o => .nx (setP s p o)
    | .val _ => .er
  | .inl a i e, s => (pk a (.cons i e) s (ev G a s)).st fun x s => okS (isL (x.res s)) fun _ => (asD (ev G i s)).st fun k s => (asD (ev G e s)).st fun d s => match x with
    | .ref p => okS (getP s p) fun o => okS (inlO o k d) fun o => .nx (setP s p o)
    | .val _ => .er
  | .ife c a b, s => (tru c s (ev G c s)).st fun k s => if k = true then evS G pin a s else evS G pin b s
  | .for_ t it b, s => (asD (ev G it s)).st fun d s => okS (itemsD d) fun l => if pinT pin t = true then .er else forL t pin (fun s => evS G pin b s) l s
  | .whl c b, s => whlL (turn (fun s => tru c s (ev G c s)) fun s => evS G pin b s) s
  | .ret e, s => (match e with
    | .var i => (match s[i]? with
      | some (some o) => if i ∈ pin then (ev G (.var i) s).st fun v s => (match v with
          | .o o => .rt o s
          | .l _ => .er) else .rt o (s.set i none)
      | _ => .er)
    | e => (asO (ev G e s)).st fun o s => .rt o s)
  | .retn, s => .rt (.sh .non) s
  | .brk, s => .bk s
  | .cnt, s => .ct s
  | .rse c as, s => okS (G.xf c) fun fs => if fs = [] then .er else (asL (ev G as s)).st fun l s => okS (shA l s) fun q => if fs.length = q.1.length then .ex c (fs.zip q.1) q.2 else .er
  | .rsp c, s => if G.xf c = some [] then .ex c [] s else .er
  | .augs a i op e, s => (pk a (.cons i e) s (ev G a s)).st fun x s => (asD (ev G i s)).st fun k s => okS (x.res s) fun o => okS (olO o) fun o => okS (idxO o k) fun d => (asD (ev G e s)).st fun y s => okS (augD op d y) fun z => match x with
    | .ref p => okS (getP s p) fun o => okS (olO o) fun o => okS (subO o k z) fun o => .nx (setP s p o)
    | .val _ => .er
  | .augf a f op e, s => (match a with
    | .var i => okS ((getP s ⟨i, []⟩).bind clsO) fun c => okS (getP s ⟨i, [f]⟩) fun o => okS (shO o) fun x => (asD (ev G e s)).st fun y s => okS (augD op x y) fun d => okS (getP s ⟨i, []⟩) fun o => if clsO o = some c then okS (fldO G.toCs o f (.sh d)) fun o => .nx (setP s ⟨i, []⟩ o) else .er
    | _ => .er)
  | .unpm l e, s => (asD (ev G e s)).st fun d s => if l.any pin.contains = true then .er else okS (tgt (.many l) d s) .nx
  | .del a i, s => (pk a i s (ev G a s)).st fun x s => okS (isL (x.res s)) fun _ => (asD (ev G i s)).st fun k s => match x with
    | .ref p => okS (getP s p) fun o => okS (delO o k) fun o => .nx (setP s p o)
    | .val _ => .er
  | .try_ b cs, s => (evS G pin b s).catch fun c fs s => if G.xf c = some (fs.map (·.1)) then hcv G pin c fs cs s else .er

structure Df where
  np : Nat
  nn : Nat
  body : S
def owned : List O → Nat → List Nat
  | [], _ => []
  | o :: r, i => if o.own then i :: owned r (i + 1) else owned r (i + 1)
def enter (nn : Nat) (os : List O) : Env := os.map some ++ List.replicate (nn - os.length) none
/-- what is given back: the owned arguments -/
def fin (pin : List Nat) (n : Nat) (s : Env) : Env := (List.range n).map fun i => if i ∈ pin then s.getD i none else none
def outR (pin : List Nat) (n : Nat) : SR → FR
  | .nx s => .ret (.sh .non) (fin pin n s)
  | .rt o s => .ret o (fin pin n s)
  | .ex c fs s => .ex c fs (fin pin n s)
  | _ => .er
noncomputable def runD (G : Ct) (d : Df) (os : List O) : FR := if os.length = d.np then outR (owned os 0) d.np (evS G (owned os 0) d.body (enter d.nn os)) else .er
/-- the defs, k calls deep -/
noncomputable def FF (ds : Nat → Option Df) (cs : Cs) : Nat → Nat → List O → FR
  | 0, _, _ => .er
  | k + 1, g, os => match ds g with
    | some d => runD ⟨cs, FF ds cs k⟩ d os
    | none => .er
end Vm

namespace Vm
open PySem L2

/-- names: the def's slots, fields and methods, plain defs, classes, the parameters' number, constants of the module -/
structure Tt where
  nm : Nat → Str
  gn : Nat → Option Str
  cn : Nat → Option Str
  np : Nat → Nat
  cls : Nat → Option Nat
  gi : List (Str × Int)
  /-- exceptions' classes -/
  xn : Nat → Option Str
  /-- has the class an __init__, a static or class method -/
  mi : Nat → Bool
  sm : Nat → Nat → Bool
/-- what the checks lean on -/
structure Hm (t : Tt) (c : Cs) : Prop where
  mi : ∀ k, t.mi k = true → (c.mth k 0).isSome = true
  sm : ∀ k m, t.sm k m = true → (c.smt k m).isSome = true
/-- a piece of syntax: an expression, arguments, what a loop walks -/
inductive Pc where
  | ex (e : Expr) | ar (es : List Expr) | it (e : Expr)

def starB : Expr → Bool
  | .Starred _ _ => true
  | _ => false
def superB : Expr → Bool
  | .Call (.Name _ _) [] [] _ => true
  | _ => false
def sliceB : Expr → Bool
  | .Slice _ _ _ _ => true
  | _ => false
/-- a test that is read by its value, or by a rule of its own -/
def tstB : Expr → Bool
  | .IfExp _ _ _ _ => false
  | _ => true
def setB : Expr → Bool
  | .Set _ _ _ => true
  | _ => false
def visB (sc : Scope) (x : Str) : Bool := match sc.names.lookup x with
  | some .local => true
  | some .cell => true
  | some .free => true
  | _ => false
def locB (sc : Scope) (x : Str) : Bool := match sc.names.lookup x with
  | some .local => true
  | some .cell => true
  | _ => false
def glB (sc : Scope) (x : Str) : Bool := match sc.names.lookup x with
  | some .globalImplicit => true
  | _ => false
def odd (x : Str) : Bool := x == ("__debug__" : Str) || x == ("__classdict__" : Str) || x == ("__name__" : Str)
def biN : Bi → Str
  | .len => "len" | .int => "int" | .bool => "bool" | .list => "list" | .tuple => "tuple" | .sorted => "sorted" | .range => "range" | .abs => "abs" | .sum => "sum" | .str => "str" | .min => "min" | .max => "max"
  | .any => "any" | .all => "all" | .zip => "zip" | .reversed => "reversed"
def isN : Is → Option Str
  | .int => some "int" | .bool => some "bool" | .str => some "str" | .tuple => some "tuple" | .list => some "list" | .cls _ => none
section
variable (t : Tt) (N : List Str)
def slotB (sc : Scope) (i : Nat) (x : Str) : Bool := N[i]? == some x && visB sc x && !odd x
def bltB (sc : Scope) (x y : Str) : Bool := x == y && glB sc x && !odd x
def litB : D → Const → Bool
  | .int i, .int j => i == j
  | .bl a, .bool b => a == b
  | .str a, .str b => a == b
  | .non, .none => true
  | _, _ => false
/-- a row of names -/
def nmsB (f : Str → Bool) : List Nat → List Expr → Bool
  | [], [] => true
  | i :: r, .Name x _ :: es => N[i]? == some x && f x && !r.contains i && nmsB f r es
  | _, _ => false
/-- targets of a for, a comprehension -/
def tgB (sc : Scope) : Tg → Expr → Bool
  | .nm i, .Name x _ => N[i]? == some x && locB sc x
  | .two i j, .Tuple [.Name x _, .Name y _] _ _ => N[i]? == some x && locB sc x && N[j]? == some y && locB sc y && i != j
  | .many l, .Tuple es _ _ => nmsB N (locB sc) l es
  | _, _ => false
/-- targets of a comprehension: its block's own locals -/
def lclB (sc : Scope) (x : Str) : Bool := match sc.names.lookup x with
  | some .local => true
  | _ => false
def tgC (sc : Scope) : Tg → Expr → Bool
  | .nm i, .Name x _ => N[i]? == some x && lclB sc x
  | .two i j, .Tuple [.Name x _, .Name y _] _ _ => N[i]? == some x && lclB sc x && N[j]? == some y && lclB sc y && i != j
  | .many l, .Tuple es _ _ => nmsB N (lclB sc) l es
  | _, _ => false
/-- a method's call on one line -/
def lineB (apos pos : Pos) : Bool := apos.endLine == pos.line
def isNil : E → Bool
  | .nil => true
  | _ => false
def partB (n : Bool) (f : Expr → Bool) : Option Expr → Bool
  | none => n
  | some e => f e
def ifsB (n : Bool) (f : Expr → Bool) : List Expr → Bool
  | [] => n
  | [c] => tstB c && f c
  | _ => false
def tvB (vs : List Nat) : Tg → Bool
  | .nm i => decide (vs = [i])
  | .two i j => decide (vs = [i, j])
  | .many l => decide (vs = l)
def tupB : Expr → Bool
  | .Tuple _ _ _ => true
  | _ => false
def dispB : Expr → Bool
  | .Tuple _ _ _ => true
  | .List _ _ => true
  | _ => false
/-- a zip is walked by pairs -/
def okT (a : E) (tg : Expr) : Bool := match a with
  | .zip _ => tupB tg
  | _ => true
def pfX : Expr → Option (Pf × Expr)
  | .Subscript x (.Slice none none (some (.UnaryOp .USub (.Constant (.int 1) _ _) _)) _) _ => some (.rev, x)
  | _ => none
def bmN : Bm → Str
  | .extend => "extend" | .remove => "remove" | .index => "index" | .get => "get" | .popl => "pop"
def chk : Scope → E → Pc → Bool
  | sc, .var i, .ex (.Name x _) => slotB N sc i x
  | _, .lit d, .ex (.Constant c _ _) => litB d c
  | sc, .glb x d, .ex (.Name y _) => x == y && glB sc x && !odd x && (match d with
      | .int i => t.gi.contains (x, i)
      | _ => false)
  | _, .nil, .ar [] => true
  | sc, .cons a b, .ar (e :: es) => !starB e && chk sc a (.ex e) && chk sc b (.ar es)
  | sc, .tup a, .ex (.Tuple es _ _) => decide (es.length ≤ 1000) && chk sc a (.ar es)
  | sc, .lst a, .ex (.List es _) => decide (es.length ≤ 1000) && chk sc a (.ar es)
  | sc, .bin op a b, .ex (.BinOp x o y _) => decide (o = op) && chk sc a (.ex x) && chk sc b (.ex y)
  | sc, .neg a, .ex (.UnaryOp .USub x _) => chk sc a (.ex x)
  | sc, .inv a, .ex (.UnaryOp .Invert x _) => chk sc a (.ex x)
  | sc, .cmp op a b, .ex (.Compare x [o] [y] _) => decide (o = op) && !setB y && chk sc a (.ex x) && chk sc b (.ex y)
  | sc, .chn op op' a b c, .ex (.Compare x [o, o'] [y, z] _) => decide (o = op) && decide (o' = op') && chk sc a (.ex x) && chk sc b (.ex y) && chk sc c (.ex z)
  | sc, .not a, .ex (.UnaryOp .Not x _) => tstB x && chk sc a (.ex x)
  | sc, .and a b, .ex (.BoolOp .And [x, y] _) => tstB x && tstB y && chk sc a (.ex x) && chk sc b (.ex y)
  | sc, .and a b, .ex (.BoolOp .And (x :: y :: z :: r) p) => tstB x && chk sc a (.ex x) && chk sc b (.ex (.BoolOp .And (y :: z :: r) p)) && (match b with
      | .and _ _ => true
      | _ => false)
  | sc, .or a b, .ex (.BoolOp .Or [x, y] _) => tstB x && tstB y && chk sc a (.ex x) && chk sc b (.ex y)
  | sc, .or a b, .ex (.BoolOp .Or (x :: y :: z :: r) p) => tstB x && chk sc a (.ex x) && chk sc b (.ex (.BoolOp .Or (y :: z :: r) p)) && (match b with
      | .or _ _ => true
      | _ => false)
  | sc, .ite c a b, .ex (.IfExp x y z _) => tstB x && chk sc c (.ex x) && chk sc a (.ex y) && chk sc b (.ex z)
  | sc, .idx a b, .ex (.Subscript x y _) => !sliceB y && chk sc a (.ex x) && chk sc b (.ex y)
  | sc, .slc a lo hi, .ex (.Subscript x (.Slice l h none _) _) => chk sc a (.ex x) && partB (isNil lo) (fun e => chk sc lo (.ex e)) l && partB (isNil hi) (fun e => chk sc hi (.ex e)) h
  | sc, .attr a f, .ex (.Attribute x n _) => decide (n = t.nm f) && !superB x && chk sc a (.ex x)
  | sc, .call g as, .ex (.Call (.Name x _) (e :: es) [] _) => decide (t.gn g = some x) && glB sc x && !odd x && chk sc as (.ar (e :: es))
  | sc, .mk c as, .ex (.Call (.Name x _) (e :: es) [] _) => decide (t.cn c = some x) && glB sc x && !odd x && t.mi c && chk sc as (.ar (e :: es))
  | sc, .bi b as, .ex (.Call (.Name x _) (e :: es) [] _) => bltB sc x (biN b) && chk sc as (.ar (e :: es))
  | sc, .meth a m as, .ex (.Call (.Attribute x n apos) es [] pos) => decide (n = t.nm m) && decide (es.length < 20) && lineB apos pos && !superB x && chk sc a (.ex x) && chk sc as (.ar es)
  | sc, .len a, .ex (.Call (.Name x _) [e] [] _) => bltB sc x "len" && !starB e && chk sc a (.ex e)
  | sc, .lrg a, .ex (.Call (.Name x _) [.Call (.Name y _) [e] [] _] [] _) => bltB sc x "list" && bltB sc y "range" && !starB e && chk sc a (.ex e)
  | sc, .isi a k, .ex (.Call (.Name x _) [y, .Name n _] [] _) => bltB sc x "isinstance" && glB sc n && !odd n && !starB y && (match k with
      | .cls c => decide (t.cn c = some n)
      | k => decide (isN k = some n)) && chk sc a (.ex y)
  | sc, .pf f as, .ex e => (match pfX e with
      | some q => decide (q.1 = f) && chk sc as (.ex q.2)
      | none => false)
  | sc, .bm0 a m, .ex (.Call (.Attribute x n apos) [] [] pos) => decide (m = .popl) && n == bmN m && lineB apos pos && !superB x && chk sc a (.ex x)
  | sc, .bm1 a m b, .ex (.Call (.Attribute x n apos) [y] [] pos) => decide (m ≠ .popl) && n == bmN m && lineB apos pos && !superB x && !starB y && chk sc a (.ex x) && chk sc b (.ex y)
  | sc, .mk0 c, .ex (.Call (.Name x _) [] [] _) => decide (t.cn c = some x) && glB sc x && !odd x
  | sc, .cst c f, .ex (.Attribute (.Name x _) n _) => decide (t.cn c = some x) && glB sc x && !odd x && decide (n = t.nm f)
  | sc, .clm c m as, .ex (.Call (.Attribute (.Name x _) n apos) es [] pos) => decide (t.cn c = some x) && glB sc x && !odd x && decide (n = t.nm m) && lineB apos pos && decide (es.length < 20) && t.sm c m && chk sc as (.ar es)
  | sc, .mkv i c as, .ex (.Call (.Name x _) (e :: es) [] _) => slotB N sc i x && t.mi c && chk sc as (.ar (e :: es))
  | sc, .cal i as, .ex (.Call (.Name x _) (e :: es) [] _) => slotB N sc i x && chk sc as (.ar (e :: es))
  | sc, .pop a i, .ex (.Call (.Attribute x n apos) [y] [] pos) => n == ("pop" : Str) && lineB apos pos && !superB x && !starB y && chk sc a (.ex x) && chk sc i (.ex y)
  | sc, .comp vs tg it ts el, .ex (.ListComp elt [⟨tgt, iter, ifs, 0⟩] scope _) =>
      blkC N sc scope (vs.map fun v => (N.getD v "", v)) && (vs.all fun v => decide (v < N.length)) && tgC N (relS scope sc) tg tgt && tvB vs tg && !setB iter && okT it tgt && chk sc it (.it iter) && ifsB (isNil ts) (fun c => chk (relS scope sc) ts (.ex c)) ifs && chk (relS scope sc) el (.ex elt)
  | sc, .rng as, .it (.Call (.Name x _) es [] _) => bltB sc x "range" && decide (1 ≤ es.length ∧ es.length ≤ 3) && chk sc as (.ar es)
  | sc, .zip as, .it (.Call (.Name x _) [e1, e2] [] _) => bltB sc x "zip" && !starB e1 && !starB e2 && chk sc as (.ar [e1, e2])
  | sc, .itr a, .it e => !setB e && chk sc a (.ex e)
  | _, _, _ => false
end
/-- is x the clause's name? -/
def nmB (N : List Str) (sc : Scope) (n : Option (Nat × Str)) (x : Str) : Bool := match n with
  | some (j, y) => x == y && slotB N sc j x
  | none => false
def neB (n : Option (Nat × Str)) (i : Nat) : Bool := match n with
  | some (j, _) => i != j
  | none => true
def hchk (t : Tt) (N : List Str) (sc : Scope) (n : Option (Nat × Str)) : HE → Pc → Bool
  | .lit d, .ex (.Constant c _ _) => litB d c
  | .var i, .ex (.Name x _) => slotB N sc i x && neB n i
  | .fld f, .ex (.Attribute (.Name x _) m _) => nmB N sc n x && decide (m = t.nm f)
  | .isx c, .ex (.Call (.Name b _) [.Name x _, .Name k _] [] _) => bltB sc b "isinstance" && nmB N sc n x && decide (t.xn c = some k) && glB sc k && !odd k
  | .isv, .ex (.Call (.Name b _) [.Name x _, .Name k _] [] _) => bltB sc b "isinstance" && nmB N sc n x && bltB sc k "ValueError"
  | .not a, .ex (.UnaryOp .Not x _) => tstB x && hchk t N sc n a (.ex x)
  | .and a b, .ex (.BoolOp .And [x, y] _) => tstB x && tstB y && hchk t N sc n a (.ex x) && hchk t N sc n b (.ex y)
  | .and a b, .ex (.BoolOp .And (x :: y :: z :: r) p) => tstB x && hchk t N sc n a (.ex x) && hchk t N sc n b (.ex (.BoolOp .And (y :: z :: r) p))
  | .or a b, .ex (.BoolOp .Or [x, y] _) => tstB x && tstB y && hchk t N sc n a (.ex x) && hchk t N sc n b (.ex y)
  | .or a b, .ex (.BoolOp .Or (x :: y :: z :: r) p) => tstB x && hchk t N sc n a (.ex x) && hchk t N sc n b (.ex (.BoolOp .Or (y :: z :: r) p))
  | .nil, .ar [] => true
  | .cons a b, .ar (e :: es) => !starB e && hchk t N sc n a (.ex e) && hchk t N sc n b (.ar es)
  | .tup a, .ex (.Tuple es _ _) => decide (es.length ≤ 1000) && hchk t N sc n a (.ar es)
  | .lst a, .ex (.List es _) => decide (es.length ≤ 1000) && hchk t N sc n a (.ar es)
  | _, _ => false
end Vm

namespace Vm
open PySem L2 Evl

/-- the text's names: fields, classes -/
structure Tb where
  K : PySem.W.Frag
  ca : Nat → Addr
  nm : Nat → Str
  inj : ∀ f g, nm f = nm g → f = g
  isC : Nat → Prop
  cls : ∀ c, isC c → Cls K (ca c)

section
variable (T : Tb)
mutual
inductive Hd (S : Hp) : V → D → Prop
  | non : Hd S .non .non
  | bl (b : Bool) : Hd S (.bl b) (.bl b)
  | int (i : Int) : Hd S (.int i) (.int i)
  | str (x : Str) : Hd S (.str x) (.str x)
  | tup {p : Addr} {vs : List V} {ds : List D} : SqT T.K S p vs → HdL S vs ds → Hd S (.ref p) (.tup ds)
  | lst {p : Addr} {vs : List V} {ds : List D} : S p = some (.lst vs) → HdL S vs ds → Hd S (.ref p) (.lst ds)
  | scr {p : Addr} {ns : List Int} : SqL T.K S p (ns.map V.int) → Hd S (.ref p) (.scr ns)
  | ins {p dx : Addr} {c : Nat} {fv : List (Str × V)} {fs : List (Nat × D)} : T.isC c → S p = some (.ins (T.ca c) dx fv) → HdF S c fv fs → Hd S (.ref p) (.ins c fs)
  | cls {c : Nat} : T.isC c → Hd S (.ref (T.ca c)) (.cls c)
  | dct {p : Addr} {kvs : List (Key × V)} {ds : List (Int × D)} : S p = some (.dK kvs) → HdK S kvs ds → Hd S (.ref p) (.dct ds)
inductive HdK (S : Hp) : List (Key × V) → List (Int × D) → Prop
  | nil : HdK S [] []
  | cons {k : Int} {v : V} {d : D} {vs : List (Key × V)} {ds : List (Int × D)} : Hd S v d → HdK S vs ds → HdK S ((.inl k, v) :: vs) ((k, d) :: ds)
inductive HdL (S : Hp) : List V → List D → Prop
  | nil : HdL S [] []
  | cons {v : V} {d : D} {vs : List V} {ds : List D} : Hd S v d → HdL S vs ds → HdL S (v :: vs) (d :: ds)
inductive HdF (S : Hp) : Nat → List (Str × V) → List (Nat × D) → Prop
  | nil {c : Nat} : HdF S c [] []
  | cons {c f : Nat} {v : V} {d : D} {vs : List (Str × V)} {ds : List (Nat × D)} : NoAttr T.K (T.ca c) (T.nm f) → Hd S v d → HdF S c vs ds → HdF S c ((T.nm f, v) :: vs) ((f, d) :: ds)
end
mutual
inductive Ow (S H : Hp) : V → O → List Addr → Prop
  | sh {v : V} {d : D} : Hd T S v d → Ow S H v (.sh d) []
  | ol {p : Addr} {vs : List V} {ds : List D} : H p = some (.lst vs) → S p = none → HdL T S vs ds → Ow S H (.ref p) (.ol ds) [p]
  | oo {p dx : Addr} {c : Nat} {fv : List (Str × V)} {fs : List (Nat × O)} {cs : List Addr} : T.isC c → H p = some (.ins (T.ca c) dx fv) → S p = none → OwF S H c fv fs cs → Ow S H (.ref p) (.oo c fs) (p :: cs)
  | od {p : Addr} {kvs : List (Key × V)} {ds : List (Int × D)} : H p = some (.dK kvs) → S p = none → HdK T S kvs ds → Ow S H (.ref p) (.od ds) [p]
inductive OwF (S H : Hp) : Nat → List (Str × V) → List (Nat × O) → List Addr → Prop
  | nil {c : Nat} : OwF S H c [] [] []
  | cons {c f : Nat} {v : V} {o : O} {vs : List (Str × V)} {os : List (Nat × O)} {c1 c2 : List Addr} : NoAttr T.K (T.ca c) (T.nm f) → Ow S H v o c1 → OwF S H c vs os c2 → OwF S H c ((T.nm f, v) :: vs) ((f, o) :: os) (c1 ++ c2)
end
end

section
variable {T : Tb} {S S' H H' : Hp}
mutual
theorem Hd.mono (e : Ex S S') : ∀ {v : V} {d : D}, Hd T S v d → Hd T S' v d
  | _, _, .non => .non
  | _, _, .bl b => .bl b
  | _, _, .int i => .int i
  | _, _, .str x => .str x
  | _, _, .tup h l => .tup (ex_t e h) (HdL.mono e l)
  | _, _, .lst h l => .lst (e _ _ h) (HdL.mono e l)
  | _, _, .scr h => .scr (ex_l e h)
  | _, _, .ins k h l => .ins k (e _ _ h) (HdF.mono e l)
  | _, _, .cls k => .cls k
  | _, _, .dct h l => .dct (e _ _ h) (HdK.mono e l)
theorem HdK.mono (e : Ex S S') : ∀ {v : List (Key × V)} {d : List (Int × D)}, HdK T S v d → HdK T S' v d
  | _, _, .nil => .nil
  | _, _, .cons h l => .cons (Hd.mono e h) (HdK.mono e l)
theorem HdL.mono (e : Ex S S') : ∀ {v : List V} {d : List D}, HdL T S v d → HdL T S' v d
  | _, _, .nil => .nil
  | _, _, .cons h l => .cons (Hd.mono e h) (HdL.mono e l)
theorem HdF.mono (e : Ex S S') : ∀ {c : Nat} {v : List (Str × V)} {d : List (Nat × D)}, HdF T S c v d → HdF T S' c v d
  | _, _, _, .nil => .nil
  | _, _, _, .cons n h l => .cons n (Hd.mono e h) (HdF.mono e l)
end
mutual
/-- what is owned stays so while its own cells stay -/
theorem Ow.mono (e : Ex S S') : ∀ {v : V} {o : O} {c : List Addr}, Ow T S H v o c → (∀ a ∈ c, ∀ u, H a = some u → H' a = some u) → (∀ a ∈ c, S' a = none) → Ow T S' H' v o c
  | _, _, _, .sh h, _, _ => .sh (h.mono e)
  | _, _, _, .ol h s l, k, z => .ol (k _ (by simp) _ h) (z _ (by simp)) (l.mono e)
  | _, _, _, .od h s l, k, z => .od (k _ (by simp) _ h) (z _ (by simp)) (l.mono e)
  | _, _, _, .oo q h s l, k, z => .oo q (k _ (by simp) _ h) (z _ (by simp)) (OwF.mono e l (fun a ha => k a (by simp [ha])) fun a ha => z a (by simp [ha]))
theorem OwF.mono (e : Ex S S') : ∀ {q : Nat} {v : List (Str × V)} {o : List (Nat × O)} {c : List Addr}, OwF T S H q v o c → (∀ a ∈ c, ∀ u, H a = some u → H' a = some u) → (∀ a ∈ c, S' a = none) → OwF T S' H' q v o c
  | _, _, _, _, .nil, _, _ => .nil
  | _, _, _, _, .cons n h l, k, z => .cons n (Ow.mono e h (fun a ha => k a (by simp [ha])) fun a ha => z a (by simp [ha])) (OwF.mono e l (fun a ha => k a (by simp [ha])) fun a ha => z a (by simp [ha]))
end
mutual
theorem Ow.no : ∀ {v : V} {o : O} {c : List Addr}, Ow T S H v o c → ∀ a ∈ c, S a = none ∧ ∃ u, H a = some u
  | _, _, _, .sh _, a, ha => by simp at ha
  | _, _, _, .ol h s _, a, ha => by simp at ha; subst ha; exact ⟨s, _, h⟩
  | _, _, _, .od h s _, a, ha => by simp at ha; subst ha; exact ⟨s, _, h⟩
  | _, _, _, .oo _ h s l, a, ha => by
    rcases List.mem_cons.mp ha with rfl | ha
    · exact ⟨s, _, h⟩
    · exact OwF.no l a ha
theorem OwF.no : ∀ {q : Nat} {v : List (Str × V)} {o : List (Nat × O)} {c : List Addr}, OwF T S H q v o c → ∀ a ∈ c, S a = none ∧ ∃ u, H a = some u
  | _, _, _, _, .nil, a, ha => by simp at ha
  | _, _, _, _, .cons _ h l, a, ha => by
    rcases List.mem_append.mp ha with ha | ha
    · exact Ow.no h a ha
    · exact OwF.no l a ha
end
/-- S with the cells c of H -/
def join (S H : Hp) (c : List Addr) : Hp := fun a => if a ∈ c then H a else S a
theorem join_in {c : List Addr} {a : Addr} (h : a ∈ c) : join S H c a = H a := if_pos h
theorem join_out {c : List Addr} {a : Addr} (h : a ∉ c) : join S H c a = S a := if_neg h
theorem join_ex {c : List Addr} (h : ∀ a ∈ c, S a = none) : Ex S (join S H c) := fun a u e => by
  by_cases ha : a ∈ c
  · rw [h a ha] at e; cases e
  · rw [join_out ha]; exact e
theorem join_sub {c : List Addr} (e : Ex S H) : Ex (join S H c) H := fun a u h => by
  by_cases ha : a ∈ c
  · rw [join_in ha] at h; exact h
  · rw [join_out ha] at h; exact e a u h
mutual
theorem Ow.frz {c0 : List Addr} (hS : ∀ a ∈ c0, S a = none) : ∀ {v : V} {o : O} {c : List Addr}, Ow T S H v o c → (∀ a ∈ c, a ∈ c0) → Hd T (join S H c0) v (Vm.frz o)
  | _, _, _, .sh h, _ => h.mono (join_ex hS)
  | _, _, _, .ol h s l, k => .lst (by rw [join_in (k _ (by simp))]; exact h) (l.mono (join_ex hS))
  | _, _, _, .od h s l, k => .dct (by rw [join_in (k _ (by simp))]; exact h) (l.mono (join_ex hS))
  | _, _, _, .oo q h s l, k => .ins q (by rw [join_in (k _ (by simp))]; exact h) (OwF.frz hS l fun a ha => k a (by simp [ha]))
theorem OwF.frz {c0 : List Addr} (hS : ∀ a ∈ c0, S a = none) : ∀ {q : Nat} {v : List (Str × V)} {o : List (Nat × O)} {c : List Addr}, OwF T S H q v o c → (∀ a ∈ c, a ∈ c0) → HdF T (join S H c0) q v (Vm.frzF o)
  | _, _, _, _, .nil, _ => .nil
  | _, _, _, _, .cons n h l, k => .cons n (Ow.frz hS h fun a ha => k a (by simp [ha])) (OwF.frz hS l fun a ha => k a (by simp [ha]))
end

theorem HdF.get (f : Nat) : ∀ {c : Nat} {fv : List (Str × V)} {fs : List (Nat × D)}, HdF T S c fv fs → (∀ d, getD' f fs = some d → ∃ v, fv.lookup (T.nm f) = some v ∧ Hd T S v d ∧ NoAttr T.K (T.ca c) (T.nm f)) ∧ (getD' f fs = none → fv.lookup (T.nm f) = none)
  | _, _, _, .nil => ⟨fun _ h => (by cases h), fun _ => rfl⟩
  | _, _, _, .cons (f := g) (v := v) (d := d) (vs := vs) (ds := ds) n h l => by
    have ih := HdF.get f l
    unfold getD'
    by_cases e : g = f
    · subst e
      rw [if_pos rfl]
      refine ⟨fun d' h' => ⟨v, by simp [List.lookup], by cases h'; exact h, n⟩, fun h' => by cases h'⟩
    · rw [if_neg e]
      have ne : (T.nm f == T.nm g) = false := beq_eq_false_iff_ne.mpr fun q => e (T.inj _ _ q.symm)
      have el : List.lookup (T.nm f) ((T.nm g, v) :: vs) = List.lookup (T.nm f) vs := by simp [List.lookup, ne]
      rw [el]
      exact ih
theorem OwF.none_ (f : Nat) : ∀ {q : Nat} {fv : List (Str × V)} {fs : List (Nat × O)} {c : List Addr}, OwF T S H q fv fs c → getF f fs = none → fv.lookup (T.nm f) = none
  | _, _, _, _, .nil, _ => rfl
  | _, _, _, _, .cons (f := g) (v := v) (vs := vs) _ h l, e => by
    unfold getF at e
    by_cases q : g = f
    · rw [if_pos q] at e; cases e
    · rw [if_neg q] at e
      have ne : (T.nm f == T.nm g) = false := beq_eq_false_iff_ne.mpr fun z => q (T.inj _ _ z.symm)
      have el : List.lookup (T.nm f) ((T.nm g, v) :: vs) = List.lookup (T.nm f) vs := by simp [List.lookup, ne]
      rw [el]
      exact OwF.none_ f l e
theorem OwF.len : ∀ {q : Nat} {fv : List (Str × V)} {fs : List (Nat × O)} {c : List Addr}, OwF T S H q fv fs c → fv.length = fs.length
  | _, _, _, _, .nil => rfl
  | _, _, _, _, .cons _ _ l => by simp [OwF.len l]
theorem HdL.len : ∀ {vs : List V} {ds : List D}, HdL T S vs ds → vs.length = ds.length
  | _, _, .nil => rfl
  | _, _, .cons _ l => by simp [HdL.len l]
theorem HdL.get : ∀ {vs : List V} {ds : List D} {i : Nat} {d : D}, HdL T S vs ds → ds[i]? = some d → ∃ v, vs[i]? = some v ∧ Hd T S v d
  | _, _, _, _, .nil, h => by simp at h
  | _, _, 0, _, .cons h _, e => by simp at e; subst e; exact ⟨_, rfl, h⟩
  | _, _, i + 1, _, .cons _ l, e => by
    obtain ⟨v, h1, h2⟩ := HdL.get (i := i) l (by simpa using e)
    exact ⟨v, by simpa using h1, h2⟩
theorem HdL.app : ∀ {vs ws : List V} {ds es : List D}, HdL T S vs ds → HdL T S ws es → HdL T S (vs ++ ws) (ds ++ es)
  | _, _, _, _, .nil, h => h
  | _, _, _, _, .cons a l, h => .cons a (HdL.app l h)
theorem HdL.take (n : Nat) : ∀ {vs : List V} {ds : List D}, HdL T S vs ds → HdL T S (vs.take n) (ds.take n) := by
  induction n with
  | zero => intro vs ds h; simp; exact .nil
  | succ n ih =>
    intro vs ds h
    cases h with
    | nil => simp; exact .nil
    | cons a l => simp; exact .cons a (ih l)
theorem HdL.drop (n : Nat) : ∀ {vs : List V} {ds : List D}, HdL T S vs ds → HdL T S (vs.drop n) (ds.drop n) := by
  induction n with
  | zero => intro vs ds h; simpa using h
  | succ n ih =>
    intro vs ds h
    cases h with
    | nil => simp; exact .nil
    | cons a l => simp; exact ih l
theorem HdL.set {v : V} {d : D} (n : Nat) (q : Hd T S v d) : ∀ {vs : List V} {ds : List D}, HdL T S vs ds → HdL T S (vs.set n v) (ds.set n d) := by
  induction n with
  | zero =>
    intro vs ds h
    cases h with
    | nil => exact .nil
    | cons a l => exact .cons q l
  | succ n ih =>
    intro vs ds h
    cases h with
    | nil => exact .nil
    | cons a l => exact .cons a (ih l)
theorem HdL.erase (n : Nat) : ∀ {vs : List V} {ds : List D}, HdL T S vs ds → HdL T S (vs.eraseIdx n) (ds.eraseIdx n) := by
  induction n with
  | zero =>
    intro vs ds h
    cases h with
    | nil => exact .nil
    | cons a l => exact l
  | succ n ih =>
    intro vs ds h
    cases h with
    | nil => exact .nil
    | cons a l => exact .cons a (ih l)

/-- the value at the end of a row of fields -/
def Dn (T : Tb) (H : Hp) : V → List Nat → V → Prop
  | v, [], w => v = w
  | v, f :: r, w => ∃ a C dx fv u, v = .ref a ∧ H a = some (.ins C dx fv) ∧ fv.lookup (T.nm f) = some u ∧ Cls T.K C ∧ NoAttr T.K C (T.nm f) ∧ Dn T H u r w
theorem Dn.mono {H H' : Hp} (e : Ex H H') : ∀ {fs : List Nat} {v w : V}, Dn T H v fs w → Dn T H' v fs w
  | [], _, _, h => h
  | f :: r, _, _, ⟨a, C, dx, fv, u, h1, h2, h3, k1, k2, h4⟩ => ⟨a, C, dx, fv, u, h1, e _ _ h2, h3, k1, k2, Dn.mono e h4⟩
theorem Dn.snoc {H : Hp} : ∀ {fs : List Nat} {v w z : V} {f : Nat}, Dn T H v fs w → Dn T H w [f] z → Dn T H v (fs ++ [f]) z
  | [], _, _, _, _, rfl, k => k
  | g :: r, _, _, _, _, ⟨a, C, dx, fv, u, h1, h2, h3, k1, k2, h4⟩, k => ⟨a, C, dx, fv, u, h1, h2, h3, k1, k2, Dn.snoc h4 k⟩
/-- shared data at the end of a row of fields -/
theorem Hd.dn : ∀ {fs : List Nat} {v : V} {d : D} {u : O}, Hd T S v d → getO (.sh d) fs = some u → ∃ w d', u = .sh d' ∧ Dn T S v fs w ∧ Hd T S w d'
  | [], v, d, u, h, e => by
    have e' : (O.sh d) = u := by simpa [getO] using e
    exact ⟨v, d, e'.symm, rfl, h⟩
  | f :: r, v, d, u, h, e => by
    cases h with
    | @ins p dx c fv fs hc hp l =>
      unfold getO at e
      cases q : getD' f fs with
      | none => rw [q] at e; cases e
      | some d1 =>
        rw [q] at e
        obtain ⟨v1, h1, h2, h9⟩ := (HdF.get f l).1 d1 q
        obtain ⟨w, d', h3, h4, h5⟩ := Hd.dn (fs := r) h2 e
        exact ⟨w, d', h3, ⟨p, _, dx, fv, v1, rfl, hp, h1, T.cls _ hc, h9, h4⟩, h5⟩
    | _ => simp [getO] at e

/-- the rest stays, the part at the place changes -/
structure Sw (S H S' H' : Hp) (c cu cu' : List Addr) : Prop where
  ex : Ex S S'
  keep : ∀ a ∈ c, a ∉ cu → ∀ u, H a = some u → H' a = some u
  out : ∀ a ∈ c, a ∉ cu → S' a = none
  nd : cu'.Nodup
  fresh : ∀ a ∈ cu', a ∈ c → a ∈ cu
mutual
theorem Ow.at : ∀ {v : V} {o : O} {c : List Addr} {fs : List Nat} {u : O}, Ow T S H v o c → c.Nodup → getO o fs = some u → Ex S H →
    ∃ w cu, Dn T H v fs w ∧ Ow T S H w u cu ∧ cu.Nodup ∧ (∀ a ∈ cu, a ∈ c) ∧
      ∀ S' H' u' cu', (u.own = true ∨ (u = u' ∧ cu' = [])) → Ow T S' H' w u' cu' → Sw S H S' H' c cu cu' → ∃ c', Ow T S' H' v (setO o fs u') c' ∧ c'.Nodup ∧ ∀ a ∈ c', (a ∈ c ∧ a ∉ cu) ∨ a ∈ cu'
  | v, o, c, [], u, h, nd, e, ex => by
    have e' : o = u := by simpa [getO] using e
    subst e'
    refine ⟨v, c, rfl, h, nd, fun a ha => ha, fun S' H' u' cu' _ h' sw => ⟨cu', ?_, sw.nd, fun a ha => .inr ha⟩⟩
    have : setO o [] u' = u' := by cases o <;> rfl
    rw [this]; exact h'
  | v, .ol l, c, f :: r, u, h, nd, e, ex => by simp [getO] at e
  | v, .od l, c, f :: r, u, h, nd, e, ex => by simp [getO] at e
  | v, .sh d, c, f :: r, u, h, nd, e, ex => by
    cases h with
    | sh hd =>
      obtain ⟨w, d', e1, e2, e3⟩ := Hd.dn hd e
      subst e1
      refine ⟨w, [], Dn.mono ex e2, .sh e3, .nil, fun a ha => by simp at ha, fun S' H' u' cu' hu h' sw => ?_⟩
      rcases hu with hu | ⟨rfl, rfl⟩
      · cases hu
      · have : setO (.sh d) (f :: r) (.sh d') = .sh d := by simp [setO]
        rw [this]
        exact ⟨[], .sh (hd.mono sw.ex), .nil, fun a ha => by simp at ha⟩
  | v, .oo k fs, c, f :: r, u, h, nd, e, ex => by
    cases h with
    | @oo p dx _ fv _ cs hc hp hs l =>
      unfold getO at e
      cases q : getF f fs with
      | none => rw [q] at e; cases e
      | some o1 =>
        rw [q] at e
        obtain ⟨npc, ndc⟩ := List.nodup_cons.mp nd
        obtain ⟨v1, w, cu, h1, h9, h2, h3, h4, h5, h6⟩ := OwF.at (f := f) (r := r) l ndc q e ex
        refine ⟨w, cu, ⟨p, _, dx, fv, v1, rfl, hp, h1, T.cls _ hc, h9, h2⟩, h3, h4, fun a ha => List.mem_cons_of_mem _ (h5 a ha), fun S' H' u' cu' hu h' sw => ?_⟩
        have npu : p ∉ cu := fun z => npc (h5 p z)
        obtain ⟨c', k1, k2, k3⟩ := h6 S' H' u' cu' hu h' ⟨sw.ex, fun a ha => sw.keep a (List.mem_cons_of_mem _ ha), fun a ha => sw.out a (List.mem_cons_of_mem _ ha), sw.nd, fun a ha hc => sw.fresh a ha (List.mem_cons_of_mem _ hc)⟩
        have es : setO (.oo k fs) (f :: r) u' = .oo k (setF f (setO o1 r u') fs) := by simp [setO, q]
        rw [es]
        have npc' : p ∉ c' := fun z => by
          rcases k3 p z with ⟨z1, _⟩ | z1
          · exact npc z1
          · exact npu (sw.fresh p z1 (by simp))
        refine ⟨p :: c', .oo hc (sw.keep p (by simp) npu _ hp) (sw.out p (by simp) npu) k1, List.nodup_cons.mpr ⟨npc', k2⟩, fun a ha => ?_⟩
        rcases List.mem_cons.mp ha with rfl | ha
        · exact .inl ⟨by simp, npu⟩
        · rcases k3 a ha with ⟨z1, z2⟩ | z
          · exact .inl ⟨List.mem_cons_of_mem _ z1, z2⟩
          · exact .inr z
theorem OwF.at : ∀ {k : Nat} {fv : List (Str × V)} {fs : List (Nat × O)} {c : List Addr} {f : Nat} {r : List Nat} {o1 u : O}, OwF T S H k fv fs c → c.Nodup → getF f fs = some o1 → getO o1 r = some u → Ex S H →
    ∃ v1 w cu, fv.lookup (T.nm f) = some v1 ∧ NoAttr T.K (T.ca k) (T.nm f) ∧ Dn T H v1 r w ∧ Ow T S H w u cu ∧ cu.Nodup ∧ (∀ a ∈ cu, a ∈ c) ∧
      ∀ S' H' u' cu', (u.own = true ∨ (u = u' ∧ cu' = [])) → Ow T S' H' w u' cu' → Sw S H S' H' c cu cu' → ∃ c', OwF T S' H' k fv (setF f (setO o1 r u') fs) c' ∧ c'.Nodup ∧ ∀ a ∈ c', (a ∈ c ∧ a ∉ cu) ∨ a ∈ cu'
  | _, _, [], _, _, _, _, _, h, _, e, _, _ => by cases e
  | _, _, (g, o) :: fs, _, f, r, o1, u, .cons (v := v) (vs := vs) (c1 := c1) (c2 := c2) na h l, nd, e, e2, ex => by
    obtain ⟨nd1, nd2, ndx⟩ := List.nodup_append.mp nd
    unfold getF at e
    by_cases q : g = f
    · subst q
      rw [if_pos rfl] at e
      cases e
      obtain ⟨w, cu, h2, h3, h4, h5, h6⟩ := Ow.at (fs := r) h nd1 e2 ex
      refine ⟨v, w, cu, by simp [List.lookup], na, h2, h3, h4, fun a ha => List.mem_append_left _ (h5 a ha), fun S' H' u' cu' hu h' sw => ?_⟩
      obtain ⟨c', k1, k2, k3⟩ := h6 S' H' u' cu' hu h' ⟨sw.ex, fun a ha => sw.keep a (List.mem_append_left _ ha), fun a ha => sw.out a (List.mem_append_left _ ha), sw.nd, fun a ha hc => sw.fresh a ha (List.mem_append_left _ hc)⟩
      have n2 : ∀ a ∈ c2, a ∉ cu := fun a ha z => ndx a (h5 a z) a ha rfl
      have es : setF g (setO o r u') ((g, o) :: fs) = (g, setO o r u') :: fs := by simp [setF]
      rw [es]
      refine ⟨c' ++ c2, .cons na k1 (l.mono sw.ex (fun a ha => sw.keep a (List.mem_append_right _ ha) (n2 a ha)) fun a ha => sw.out a (List.mem_append_right _ ha) (n2 a ha)), List.nodup_append.mpr ⟨k2, nd2, ?_⟩, fun a ha => ?_⟩
      · rintro a ha b hb rfl
        rcases k3 a ha with ⟨z, _⟩ | z
        · exact ndx a z a hb rfl
        · exact n2 a hb (sw.fresh a z (List.mem_append_right _ hb))
      · rcases List.mem_append.mp ha with ha | ha
        · rcases k3 a ha with ⟨z1, z2⟩ | z
          · exact .inl ⟨List.mem_append_left _ z1, z2⟩
          · exact .inr z
        · exact .inl ⟨List.mem_append_right _ ha, n2 a ha⟩
    · rw [if_neg q] at e
      obtain ⟨v1, w, cu, h1, h9, h2, h3, h4, h5, h6⟩ := OwF.at (f := f) (r := r) l nd2 e e2 ex
      have ne : (T.nm f == T.nm g) = false := beq_eq_false_iff_ne.mpr fun z => q (T.inj _ _ z.symm)
      refine ⟨v1, w, cu, by simp [List.lookup, ne, h1], h9, h2, h3, h4, fun a ha => List.mem_append_right _ (h5 a ha), fun S' H' u' cu' hu h' sw => ?_⟩
      obtain ⟨c', k1, k2, k3⟩ := h6 S' H' u' cu' hu h' ⟨sw.ex, fun a ha => sw.keep a (List.mem_append_right _ ha), fun a ha => sw.out a (List.mem_append_right _ ha), sw.nd, fun a ha hc => sw.fresh a ha (List.mem_append_right _ hc)⟩
      have n1 : ∀ a ∈ c1, a ∉ cu := fun a ha z => ndx a ha a (h5 a z) rfl
      have es : setF f (setO o1 r u') ((g, o) :: fs) = (g, o) :: setF f (setO o1 r u') fs := by simp [setF, q]
      rw [es]
      refine ⟨c1 ++ c', .cons na (h.mono sw.ex (fun a ha => sw.keep a (List.mem_append_left _ ha) (n1 a ha)) fun a ha => sw.out a (List.mem_append_left _ ha) (n1 a ha)) k1, List.nodup_append.mpr ⟨nd1, k2, ?_⟩, fun a ha => ?_⟩
      · rintro a ha b hb rfl
        rcases k3 a hb with ⟨z, _⟩ | z
        · exact ndx a ha a z rfl
        · exact n1 a ha (sw.fresh a z (List.mem_append_left _ ha))
      · rcases List.mem_append.mp ha with ha | ha
        · exact .inl ⟨List.mem_append_left _ ha, n1 a ha⟩
        · rcases k3 a ha with ⟨z1, z2⟩ | z
          · exact .inl ⟨List.mem_append_right _ z1, z2⟩
          · exact .inr z
end
end
end Vm

namespace Vm
open PySem L2 Evl

def Cl (cell : Nat → List Addr) : Addr → Prop := fun a => ∃ i, a ∈ cell i

/-- the slots hold what the environment says: S the shared part of the heap, each owned thing's cells apart -/
structure Good (T : Tb) (v : St) (s : Env) (S H : Hp) (cell : Nat → List Addr) : Prop where
  ln : s.length = v.length
  ex : Ex S H
  sl : ∀ i o, s[i]? = some (some o) → ∃ x, v[i]? = some (some x) ∧ Ow T S H x o (cell i)
  nd : ∀ i, (cell i).Nodup
  nn : ∀ i, (∀ o, s[i]? ≠ some (some o)) → cell i = []
  dj : ∀ i j a, a ∈ cell i → a ∈ cell j → i = j
/-- from then to now -/
structure Step (S H : Hp) (cell : Nat → List Addr) (S' H' : Hp) (cell' : Nat → List Addr) : Prop where
  ss : Ex S S'
  si : ∀ a, H a ≠ none → ¬ Cl cell a → S' a = S a
  hh : ∀ a o, H a = some o → ¬ Cl cell a → H' a = some o
  th : ∀ a, H' a = none → H a = none
  cc : ∀ i a, a ∈ cell' i → a ∈ cell i ∨ H a = none

theorem Step.refl {S H : Hp} {c : Nat → List Addr} : Step S H c S H c := ⟨Ex.refl S, fun _ _ _ => rfl, fun _ _ h _ => h, fun _ h => h, fun _ _ h => .inl h⟩
theorem Step.cl {S H S' H' : Hp} {c c' : Nat → List Addr} (a : Step S H c S' H' c') {x : Addr} (h : Cl c' x) : Cl c x ∨ H x = none := by
  obtain ⟨i, h⟩ := h
  exact (a.cc i x h).elim (fun z => .inl ⟨i, z⟩) .inr
theorem Step.trans {S H S1 H1 S2 H2 : Hp} {c c1 c2 : Nat → List Addr} (a : Step S H c S1 H1 c1) (b : Step S1 H1 c1 S2 H2 c2) : Step S H c S2 H2 c2 where
  ss := a.ss.trans b.ss
  si := fun x h n => by
    have h1 : H1 x ≠ none := fun z => h (a.th x z)
    have n1 : ¬ Cl c1 x := fun z => (a.cl z).elim n h
    rw [b.si x h1 n1, a.si x h n]
  hh := fun x o h n => by
    have n1 : ¬ Cl c1 x := fun z => (a.cl z).elim n fun z => by rw [h] at z; cases z
    exact b.hh x o (a.hh x o h n) n1
  th := fun x h => a.th x (b.th x h)
  cc := fun i x h => by
    rcases b.cc i x h with h | z
    · exact a.cc i x h
    · exact .inr (a.th x z)
theorem ex_th {H H' : Hp} (e : Ex H H') (a : Addr) (h : H' a = none) : H a = none := fresh_back e h
/-- the heap grows, what is shared stays -/
theorem Step.grow {S H H' : Hp} {c : Nat → List Addr} (e : Ex H H') : Step S H c S H' c := ⟨Ex.refl S, fun _ _ _ => rfl, fun a o h _ => e a o h, ex_th e, fun _ _ h => .inl h⟩

section
variable {T : Tb} {v : St} {s : Env} {S S' H H' : Hp} {cell : Nat → List Addr}
theorem Good.no (g : Good T v s S H cell) {i : Nat} {a : Addr} (h : a ∈ cell i) : S a = none ∧ ∃ u, H a = some u := by
  cases e : s[i]? with
  | none => rw [g.nn i (fun o z => by rw [e] at z; cases z)] at h; cases h
  | some x =>
    cases x with
    | none => rw [g.nn i (fun o z => by rw [e] at z; cases z)] at h; cases h
    | some o =>
      obtain ⟨_, _, ow⟩ := g.sl i o e
      exact ow.no a h
theorem Good.noC (g : Good T v s S H cell) {a : Addr} (h : Cl cell a) : S a = none ∧ ∃ u, H a = some u := let ⟨_, h⟩ := h; g.no h
/-- the heap grows -/
theorem Good.grow (g : Good T v s S H cell) (e : Ex H H') : Good T v s S H' cell where
  ln := g.ln
  ex := g.ex.trans e
  sl := fun i o h => let ⟨x, h1, h2⟩ := g.sl i o h; ⟨x, h1, h2.mono (Ex.refl S) (fun a _ u => e a u) fun a ha => (h2.no a ha).1⟩
  nd := g.nd
  nn := g.nn
  dj := g.dj
/-- what is shared grows by what was not known before -/
theorem Good.more (g : Good T v s S H cell) (e : Ex S S') (e' : Ex S' H) (n : ∀ a, Cl cell a → S' a = none) : Good T v s S' H cell where
  ln := g.ln
  ex := e'
  sl := fun i o h => let ⟨x, h1, h2⟩ := g.sl i o h; ⟨x, h1, h2.mono e (fun _ _ _ h => h) fun a ha => n a ⟨i, ha⟩⟩
  nd := g.nd
  nn := g.nn
  dj := g.dj
theorem Good.fresh (g : Good T v s S H cell) {p : Addr} (h : H p = none) : S p = none := fresh_back g.ex h
theorem Good.notC (g : Good T v s S H cell) {p : Addr} (h : H p = none) : ¬ Cl cell p := fun c => by
  obtain ⟨_, u, e⟩ := g.noC c
  rw [h] at e; cases e
/-- a new object that is shared at once -/
theorem Good.new (g : Good T v s S H cell) {p : Addr} {o : HO} (h : H p = none) : Good T v s (upd S p o) (upd H p o) cell := by
  have hS := g.fresh h
  refine (g.grow (Ex.new h)).more (Ex.new hS) (fun a u e => ?_) fun a c => ?_
  · by_cases ha : a = p
    · subst ha; rw [upd_same] at e ⊢; exact e
    · rw [upd_ne ha] at e ⊢; exact g.ex a u e
  · have ha : a ≠ p := fun z => g.notC h (z ▸ c)
    rw [upd_ne ha]; exact (g.noC c).1
theorem Step.new {C : Nat → List Addr} {p : Addr} {o : HO} (h : H p = none) (hS : S p = none) : Step S H C (upd S p o) (upd H p o) C where
  ss := Ex.new hS
  si := fun a ha _ => upd_ne fun z => ha (z ▸ h)
  hh := fun a u e _ => by rw [upd_ne (ne_of_none e h)]; exact e
  th := ex_th (Ex.new h)
  cc := fun _ _ c => .inl c
/-- an address that nothing is known of -/
theorem Step.keep {C C' : Nat → List Addr} (st : Step S H C S' H' C') {a : Addr} {u : HO} (h : S a = some u) : S' a = some u := st.ss a u h

/-- a slot gets another content -/
def setC (cell : Nat → List Addr) (i : Nat) (c : List Addr) : Nat → List Addr := fun j => if j = i then c else cell j
theorem setC_same {i : Nat} {c : List Addr} : setC cell i c i = c := if_pos rfl
theorem setC_ne {i j : Nat} {c : List Addr} (h : j ≠ i) : setC cell i c j = cell j := if_neg h
theorem setC_Cl {i : Nat} {c : List Addr} {a : Addr} (h : Cl (setC cell i c) a) : a ∈ c ∨ ∃ j, j ≠ i ∧ a ∈ cell j := by
  obtain ⟨j, h⟩ := h
  by_cases e : j = i
  · subst e; rw [setC_same] at h; exact .inl h
  · rw [setC_ne e] at h; exact .inr ⟨j, e, h⟩
/-- the frame's slot i is stored: x with o, apart from all others -/
theorem Good.put (g : Good T v s S H cell) {i : Nat} {x : V} {o : O} {c : List Addr} (ow : Ow T S H x o c) (nd : c.Nodup) (dj : ∀ a ∈ c, ∀ j, j ≠ i → a ∉ cell j) (hi : i < v.length) :
    Good T (v.set i (some x)) (s.set i (some o)) S H (setC cell i c) where
  ln := by simp [g.ln]
  ex := g.ex
  sl := fun j u h => by
    by_cases e : j = i
    · subst e
      have hl : j < s.length := by
        by_cases z : j < s.length
        · exact z
        · rw [List.getElem?_eq_none (by simpa using z)] at h; cases h
      rw [List.getElem?_set_self hl] at h
      cases h
      exact ⟨x, List.getElem?_set_self hi, by rw [setC_same]; exact ow⟩
    · rw [List.getElem?_set_ne (Ne.symm e)] at h
      obtain ⟨y, h1, h2⟩ := g.sl j u h
      exact ⟨y, by rw [List.getElem?_set_ne (Ne.symm e)]; exact h1, by rw [setC_ne e]; exact h2⟩
  nd := fun j => by
    by_cases e : j = i
    · subst e; rw [setC_same]; exact nd
    · rw [setC_ne e]; exact g.nd j
  nn := fun j h => by
    by_cases e : j = i
    · subst e
      exact absurd (List.getElem?_set_self (by rw [g.ln]; exact hi)) (h o)
    · rw [setC_ne e]
      exact g.nn j fun u z => h u (by rw [List.getElem?_set_ne (Ne.symm e)]; exact z)
  dj := fun j k a h1 h2 => by
    by_cases e1 : j = i
    · subst e1
      rw [setC_same] at h1
      by_cases e2 : k = j
      · exact e2.symm
      · rw [setC_ne e2] at h2; exact absurd h2 (dj a h1 k e2)
    · rw [setC_ne e1] at h1
      by_cases e2 : k = i
      · subst e2; rw [setC_same] at h2; exact absurd h1 (dj a h2 j e1)
      · rw [setC_ne e2] at h2; exact g.dj j k a h1 h2
/-- a slot is forgotten -/
theorem Good.drop (g : Good T v s S H cell) (i : Nat) : Good T v (s.set i none) S H (setC cell i []) where
  ln := by simp [g.ln]
  ex := g.ex
  sl := fun j u h => by
    by_cases e : j = i
    · subst e
      by_cases hl : j < s.length
      · rw [List.getElem?_set_self hl] at h; cases h
      · rw [List.getElem?_eq_none (by simpa using hl)] at h; cases h
    · rw [List.getElem?_set_ne (Ne.symm e)] at h
      rw [setC_ne e]
      exact g.sl j u h
  nd := fun j => by
    by_cases e : j = i
    · subst e; rw [setC_same]; exact .nil
    · rw [setC_ne e]; exact g.nd j
  nn := fun j h => by
    by_cases e : j = i
    · subst e; exact setC_same
    · rw [setC_ne e]
      exact g.nn j fun u z => h u (by rw [List.getElem?_set_ne (Ne.symm e)]; exact z)
  dj := fun j k a h1 h2 => by
    by_cases e1 : j = i
    · subst e1; rw [setC_same] at h1; cases h1
    · by_cases e2 : k = i
      · subst e2; rw [setC_same] at h2; cases h2
      · rw [setC_ne e1] at h1
        rw [setC_ne e2] at h2
        exact g.dj j k a h1 h2
/-- another frame's values, where the slots that are known agree -/
theorem Good.slots (g : Good T v s S H cell) {v' : St} (h : ∀ (i : Nat) (x : V) (o : O), s[i]? = some (some o) → v[i]? = some (some x) → v'[i]? = some (some x)) (hl : v'.length = v.length) : Good T v' s S H cell :=
  ⟨g.ln.trans hl.symm, g.ex, fun i o e => let ⟨x, h1, h2⟩ := g.sl i o e; ⟨x, h i x o e h1, h2⟩, g.nd, g.nn, g.dj⟩

/-- what may be done at a place that holds u: w stands there, cu are its cells -/
structure Spot (T : Tb) (v : St) (s : Env) (S H : Hp) (cell : Nat → List Addr) (p : Pth) (u : O) (x w : V) (cu : List Addr) : Prop where
  root : v[p.i]? = some (some x)
  dn : Dn T H x p.fs w
  ow : Ow T S H w u cu
  nd : cu.Nodup
  sub : ∀ a ∈ cu, a ∈ cell p.i
  go : ∀ S' H' u' cu', (u.own = true ∨ (u = u' ∧ cu' = [])) → Ow T S' H' w u' cu' → cu'.Nodup → Ex S S' → Ex S' H' → (∀ a, Cl cell a → a ∉ cu → (∀ o, H a = some o → H' a = some o) ∧ S' a = none) → (∀ a ∈ cu', Cl cell a → a ∈ cu) →
    ∃ cell', Good T v (setP s p u') S' H' cell' ∧ ∀ j a, a ∈ cell' j → (a ∈ cell j ∧ a ∉ cu) ∨ (j = p.i ∧ a ∈ cu')
theorem Good.at (g : Good T v s S H cell) {p : Pth} {u : O} (h : getP s p = some u) : ∃ x w cu, Spot T v s S H cell p u x w cu := by
  unfold getP at h
  cases e : s[p.i]? with
  | none => rw [e] at h; cases h
  | some q =>
    cases q with
    | none => rw [e] at h; cases h
    | some o =>
      rw [e] at h
      obtain ⟨x, hx, ow⟩ := g.sl _ _ e
      obtain ⟨w, cu, h1, h2, h3, h4, h5⟩ := ow.at (g.nd _) h g.ex
      refine ⟨x, w, cu, hx, h1, h2, h3, h4, fun S' H' u' cu' hu h' nd' e1 e2 hk hf => ?_⟩
      obtain ⟨c', k1, k2, k3⟩ := h5 S' H' u' cu' hu h' ⟨e1, fun a ha hn => (hk a ⟨_, ha⟩ hn).1, fun a ha hn => (hk a ⟨_, ha⟩ hn).2, nd', fun a ha hc => hf a ha ⟨_, hc⟩⟩
      have hi : p.i < v.length := (List.getElem?_eq_some_iff.mp hx).1
      have es : setP s p u' = s.set p.i (some (setO o p.fs u')) := by unfold setP; rw [e]
      have ncu : ∀ j, j ≠ p.i → ∀ a ∈ cell j, a ∉ cu := fun j hj a ha z => hj (g.dj j p.i a ha (h4 a z))
      -- all other slots as they are, over the new heap
      have g1 : Good T v (s.set p.i none) S' H' (setC cell p.i []) := by
        have gd := g.drop p.i
        refine ⟨gd.ln, e2, fun j o2 hj => ?_, gd.nd, gd.nn, gd.dj⟩
        obtain ⟨y, y1, y2⟩ := gd.sl j o2 hj
        have hne : j ≠ p.i := fun z => by
          subst z
          rw [List.getElem?_set_self (by rw [g.ln]; exact hi)] at hj
          cases hj
        rw [setC_ne hne] at y2 ⊢
        exact ⟨y, y1, y2.mono e1 (fun a ha o ho => (hk a ⟨j, ha⟩ (ncu j hne a ha)).1 o ho) fun a ha => (hk a ⟨j, ha⟩ (ncu j hne a ha)).2⟩
      refine ⟨setC cell p.i c', ?_, fun j a ha => ?_⟩
      · have g2 := g1.put (i := p.i) (x := x) (o := setO o p.fs u') (c := c') k1 k2 (fun a ha j hj hm => by
          rw [setC_ne hj] at hm
          rcases k3 a ha with ⟨z, _⟩ | z
          · exact hj (g.dj j p.i a hm z)
          · exact ncu j hj a hm (hf a z ⟨j, hm⟩)) hi
        have ev : v.set p.i (some x) = v := by
          apply List.ext_getElem?
          intro j
          by_cases hj : j = p.i
          · subst hj; rw [List.getElem?_set_self hi, hx]
          · rw [List.getElem?_set_ne (Ne.symm hj)]
        have ee : (s.set p.i none).set p.i (some (setO o p.fs u')) = s.set p.i (some (setO o p.fs u')) := List.set_set ..
        rw [ev, ee] at g2
        rw [es]
        have ec : setC (setC cell p.i []) p.i c' = setC cell p.i c' := by
          funext j; unfold setC; split <;> rfl
        rw [ec] at g2
        exact g2
      · by_cases hj : j = p.i
        · subst hj
          rw [setC_same] at ha
          exact (k3 a ha).imp id fun z => ⟨rfl, z⟩
        · rw [setC_ne hj] at ha
          exact .inl ⟨ha, ncu j hj a ha⟩
/-- the place is shared from now on -/
theorem Spot.share (g : Good T v s S H cell) {p : Pth} {u : O} {x w : V} {cu : List Addr} (k : Spot T v s S H cell p u x w cu) (hu : u.own = true) :
    ∃ S' cell', Good T v (setP s p (.sh (frz u))) S' H cell' ∧ Hd T S' w (frz u) ∧ Step S H cell S' H cell' := by
  have hS : ∀ a ∈ cu, S a = none := fun a ha => (k.ow.no a ha).1
  have hw := k.ow.frz hS (fun a ha => ha)
  obtain ⟨cell', g', hc⟩ := k.go (join S H cu) H (.sh (frz u)) [] (.inl hu) (.sh hw) .nil (join_ex hS) (join_sub g.ex) (fun a ha hn => ⟨fun _ h => h, by rw [join_out hn]; exact (g.noC ha).1⟩) (fun a ha => by simp at ha)
  refine ⟨_, cell', g', hw, ⟨join_ex hS, fun a h1 h2 => ?_, fun _ _ h _ => h, fun _ h => h, fun j a ha => .inl ((hc j a ha).elim (fun z => z.1) fun z => by simp at z)⟩⟩
  exact join_out fun z => h2 ⟨_, k.sub a z⟩
/-- an owned list changes -/
theorem Spot.change (g : Good T v s S H cell) {p : Pth} {l l' : List D} {x : V} {a : Addr} {cu : List Addr} (k : Spot T v s S H cell p (.ol l) x (.ref a) cu) {vs' : List V} (h' : HdL T S vs' l') :
    ∃ cell', Good T v (setP s p (.ol l')) S (upd H a (.lst vs')) cell' ∧ Step S H cell S (upd H a (.lst vs')) cell' := by
  obtain ⟨hcu, hs, hh⟩ : cu = [a] ∧ S a = none ∧ H a ≠ none := by
    cases k.ow with
    | ol h s _ => exact ⟨rfl, s, by rw [h]; simp⟩
  subst hcu
  have hca : Cl cell a := ⟨_, k.sub a (by simp)⟩
  obtain ⟨cell', g', hc⟩ := k.go S (upd H a (.lst vs')) (.ol l') [a] (.inl rfl) (.ol upd_same hs h') (by simp) (Ex.refl S) (Ex.mut g.ex hs)
    (fun b hb hn => ⟨fun o ho => by rw [upd_ne (by simpa using hn)]; exact ho, (g.noC hb).1⟩) (fun b hb _ => hb)
  refine ⟨cell', g', ⟨Ex.refl S, fun _ _ _ => rfl, fun b o ho hn => ?_, fun b hb => ?_, fun j b hb => .inl ((hc j b hb).elim (fun z => z.1) fun z => ?_)⟩⟩
  · have hne : b ≠ a := fun z => by subst z; exact hn hca
    rw [upd_ne hne]
    exact ho
  · by_cases e : b = a
    · subst e; rw [upd_same] at hb; cases hb
    · rw [upd_ne e] at hb; exact hb
  · obtain ⟨z1, z2⟩ := z
    subst z1
    have : b = a := by simpa using z2
    subst this
    exact k.sub b (by simp)
end
end Vm

namespace Vm
open PySem L2 Evl

def wE (X : Cx) (e : Expr) : TE := fun σ H Q => ∃ t, PE X e t ∧ t σ H Q
def wT (X : Cx) (e : Expr) : TT := fun σ H Q => ∃ t, PT X e t ∧ t σ H Q
def wA (X : Cx) (es : List Expr) : TA := fun σ H Q => ∃ t, PA X es t ∧ t σ H Q
def wS (X : Cx) (st : Stmt) : TS := fun D σ H => ∃ t, PS X st t ∧ t D σ H
def wSs (X : Cx) (st : List Stmt) : TS := fun D σ H => ∃ t, PSs X st t ∧ t D σ H
def wOp (X : Cx) (f : Value → Value → Sem Value) : R2 := fun x y H Q => ∃ r, OpR X f r ∧ r x y H Q
def wUn (X : Cx) (f : Value → Sem Value) : V → Hp → VK → Prop := fun x H Q => ∃ r, UnR X f r ∧ r x H Q
def wC (X : Cx) (f : Value) : List V → Hp → VK → Prop := fun xs H Q => ∃ r, CallR X f r ∧ r xs H Q
def wIx (X : Cx) : R2 := fun x y H Q => ∃ r, IxR X r ∧ r x y H Q
def wSl (X : Cx) : V → Option Int → Option Int → Hp → VK → Prop := fun x lo hi H Q => ∃ r, SlR X r ∧ r x lo hi H Q
section
variable {X : Cx}
theorem wE_ok (e : Expr) : PE X e (wE X e) := ⟨fun pins s σ H Q I ⟨_, h, q⟩ => h.run pins s σ H Q I q⟩
theorem wT_ok (e : Expr) : PT X e (wT X e) := ⟨fun pins s σ H Q I ⟨_, h, q⟩ => h.run pins s σ H Q I q⟩
theorem wA_ok (es : List Expr) : PA X es (wA X es) := ⟨fun pos pins s σ H Q I ⟨_, h, q⟩ => h.run pos pins s σ H Q I q⟩
theorem wS_ok (st : Stmt) : PS X st (wS X st) := ⟨fun pins s σ H D I ⟨_, h, q⟩ => h.run pins s σ H D I q⟩
theorem wSs_ok (st : List Stmt) : PSs X st (wSs X st) := ⟨fun pins s σ H D I ⟨_, h, q⟩ => h.run pins s σ H D I q⟩
theorem wOp_ok (f : Value → Value → Sem Value) : OpR X f (wOp X f) := fun pins s σ H x y v u Q I rx ry ⟨_, h, q⟩ => h pins s σ H x y v u Q I rx ry q
theorem wUn_ok (f : Value → Sem Value) : UnR X f (wUn X f) := fun pins s σ H x v Q I rx ⟨_, h, q⟩ => h pins s σ H x v Q I rx q
theorem wC_ok (f : Value) : CallR X f (wC X f) := fun pins s σ H xs us Q I r ⟨_, h, q⟩ => h pins s σ H xs us Q I r q
theorem wIx_ok : IxR X (wIx X) := fun value slice pins s σ H x y v u Q I rx ry ⟨_, h, q⟩ hs => h value slice pins s σ H x y v u Q I rx ry q hs
theorem wSl_ok : SlR X (wSl X) := fun pins s σ H x v vl vu lo hi sl Q I rx hs pl pu ⟨_, h, q⟩ => h pins s σ H x v vl vu lo hi sl Q I rx hs pl pu q
end

def starred : Expr → Bool
  | .Starred _ _ => true
  | _ => false
theorem star_cons {e : Expr} {es : List Expr} {env : PySem.Env} (h : starred e = false) : starEach (e :: es) env = (false, eval e env) :: starEach es env := by
  cases e <;> first | rfl | cases h
def anyStar : List Expr → Bool
  | [] => false
  | e :: es => starred e || anyStar es
theorem star_any {es : List Expr} {env : PySem.Env} {pos : Pos} (h : anyStar es = false) : (backTo pos (starEach es env)).any (·.1) = false := by
  induction es with
  | nil => rfl
  | cons e es ih =>
    have h2 : (starred e || anyStar es) = false := h
    rw [Bool.or_eq_false_iff] at h2
    rw [star_cons h2.1]
    show (false || (backTo pos (starEach es env)).any (·.1)) = false
    rw [ih h2.2]; rfl
/-- a call written .. super() .. has a road of its own -/
def isSuper : Expr → Bool
  | .Call (.Name _ _) [] [] _ => true
  | _ => false
theorem base_plain {o : Expr} {f : Str} {env : PySem.Env} {w : Sem Value} (h : isSuper o = false) : attributeBase o f env w = w := by
  unfold attributeBase
  split
  · cases h
  · rfl
def isComp : Expr → Bool
  | .ListComp .. | .SetComp .. | .DictComp .. => true
  | _ => false
theorem swaps_not {e : Expr} {t : Option Expr} {l : Nat} {env : PySem.Env} (h : isComp e = false) : swapsWith e t l env = pure false := by
  cases e <;> first | rfl | cases h
def testy : Expr → Bool
  | .UnaryOp .Not _ _ | .BoolOp .. | .IfExp .. | .Compare .. => true
  | _ => false
theorem isTrue_val {e : Expr} {env : PySem.Env} (h : testy e = false) (whole : Sem Value) : isTrue e env whole = (do let v ← whole; standAt e.pos; holding [v] (truthy v)) := by
  cases e <;> first | rfl | cases h | skip
  rename_i op x pos
  cases op <;> first | rfl | cases h
def slicy : Expr → Bool
  | .Slice .. => true
  | .Tuple .. => true
  | .List .. => true
  | .Constant .. => false
  | _ => false
theorem folded_not {e : Expr} {env : PySem.Env} (h : (match e with | .Set .. => true | _ => false) = false) (x : Value) : foldedSetIterable e env x = pure x := by
  cases e <;> first | rfl | cases h

structure Res (T : Tb) (v : St) (s : Env) (S H : Hp) (C : Nat → List Addr) (S' H' : Hp) (cell : Nat → List Addr) (x : V) (o : O) (c : List Addr) : Prop where
  g : Good T v s S' H' cell
  o : Ow T S' H' x o c
  nd : c.Nodup
  dj : ∀ a ∈ c, ¬ Cl cell a
  fr : ∀ a ∈ c, H a = none
  st : Step S H C S' H' cell
/-- the own dict of an exception with these fields -/
inductive XF (T : Tb) (S H : Hp) : Option Addr → List (Nat × D) → Prop
  | none : XF T S H Option.none []
  | some {d : Addr} {fv : List (Str × V)} {fs : List (Nat × D)} : H d = Option.some (.xd fv) → Paired (fun (p : Str × V) (q : Nat × D) => p.1 = T.nm q.1 ∧ Hd T S p.2 q.2) fv fs → XF T S H (Option.some d) fs
structure Exc (T : Tb) (v : St) (s : Env) (S H : Hp) (C : Nat → List Addr) (S' H' : Hp) (cell : Nat → List Addr) (d : Option Addr) (fs : List (Nat × D)) : Prop where
  g : Good T v s S' H' cell
  x : XF T S' H' d fs
  st : Step S H C S' H' cell
/-- the wish for exceptions: class, fields, environment -/
def PX (T : Tb) (v : St) (S H : Hp) (C : Nat → List Addr) (E : WX) (k : Nat) (fs : List (Nat × D)) (s : Env) : Prop :=
  ∀ S' H' cell d, Exc T v s S H C S' H' cell d fs → E (.ref (T.ca k)) d v H'
def PO (T : Tb) (v : St) (S H : Hp) (C : Nat → List Addr) (E : WX) (Q : VK) : R O → Prop
  | .ok o s => ∀ x S' H' cell c, Res T v s S H C S' H' cell x o c → Q x H'
  | .ex k fs s => PX T v S H C E k fs s
  | .er => False
def PD (T : Tb) (v : St) (S H : Hp) (C : Nat → List Addr) (E : WX) (Q : VK) : R D → Prop
  | .ok d s => ∀ x S' H' cell, Good T v s S' H' cell → Hd T S' x d → Step S H C S' H' cell → Q x H'
  | .ex k fs s => PX T v S H C E k fs s
  | .er => False
def PB (T : Tb) (v : St) (S H : Hp) (C : Nat → List Addr) (E : WX) (Q : Bool → Hp → Prop) : R Bool → Prop
  | .ok b s => ∀ S' H' cell, Good T v s S' H' cell → Step S H C S' H' cell → Q b H'
  | .ex k fs s => PX T v S H C E k fs s
  | .er => False
/-- an operand: data, or an owned place (what stands there) -/
inductive Opd (T : Tb) (v : St) (S H : Hp) : V → A → Prop
  | val {x : V} {d : D} : Hd T S x d → Opd T v S H x (.val d)
  | ref {x r : V} {p : Pth} : v[p.i]? = some (some r) → Dn T H r p.fs x → Opd T v S H x (.ref p)
/-- it is a name, or what follows changes nothing -/
def firm (rest : E) : A → Prop
  | .val _ => True
  | .ref p => p.fs = [] ∨ simple rest = true
def PA' (T : Tb) (v : St) (S H : Hp) (C : Nat → List Addr) (E : WX) (rest : Vm.E) (Q : VK) : R A → Prop
  | .ok a s => ∀ x S' H' cell, Good T v s S' H' cell → Opd T v S' H' x a → firm rest a → Step S H C S' H' cell → Q x H'
  | .ex k fs s => PX T v S H C E k fs s
  | .er => False
inductive Opds (T : Tb) (v : St) (S H : Hp) : List V → List A → Prop
  | nil : Opds T v S H [] []
  | cons {x : V} {a : A} {xs : List V} {as : List A} : Opd T v S H x a → Opds T v S H xs as → Opds T v S H (x :: xs) (a :: as)
def PL (T : Tb) (v : St) (S H : Hp) (C : Nat → List Addr) (E : WX) (Q : List V → Hp → Prop) : R (List A) → Prop
  | .ok l s => ∀ xs S' H' cell, Good T v s S' H' cell → Opds T v S' H' xs l → Step S H C S' H' cell → Q xs H'
  | .ex k fs s => PX T v S H C E k fs s
  | .er => False
section
variable {T : Tb} {v : St} {S H S1 H1 : Hp} {C C1 : Nat → List Addr} {E : WX}
theorem PX.step (st : Step S H C S1 H1 C1) {k : Nat} {fs : List (Nat × D)} {s : Env} (h : PX T v S H C E k fs s) : PX T v S1 H1 C1 E k fs s :=
  fun S' H' cell d x => h S' H' cell d ⟨x.g, x.x, st.trans x.st⟩
theorem PO.step (st : Step S H C S1 H1 C1) {Q : VK} {r : R O} (h : PO T v S H C E Q r) : PO T v S1 H1 C1 E Q r := by
  cases r with
  | ok o s => exact fun x S' H' cell c r => h x S' H' cell c ⟨r.g, r.o, r.nd, r.dj, fun a ha => st.th a (r.fr a ha), st.trans r.st⟩
  | ex k fs s => exact PX.step st h
  | er => exact h
theorem PD.step (st : Step S H C S1 H1 C1) {Q : VK} {r : R D} (h : PD T v S H C E Q r) : PD T v S1 H1 C1 E Q r := by
  cases r with
  | ok o s => exact fun x S' H' cell g hd r => h x S' H' cell g hd (st.trans r)
  | ex k fs s => exact PX.step st h
  | er => exact h
theorem PL.step (st : Step S H C S1 H1 C1) {Q : List V → Hp → Prop} {r : R (List A)} (h : PL T v S H C E Q r) : PL T v S1 H1 C1 E Q r := by
  cases r with
  | ok o s => exact fun x S' H' cell g hd r => h x S' H' cell g hd (st.trans r)
  | ex k fs s => exact PX.step st h
  | er => exact h
/-- freezing what has come -/
theorem Res.frz {s : Env} {S' H' : Hp} {cell : Nat → List Addr} {x : V} {o : O} {c : List Addr} (r : Res T v s S H C S' H' cell x o c) :
    ∃ S2, Good T v s S2 H' cell ∧ Hd T S2 x (frz o) ∧ Step S H C S2 H' cell := by
  have hS : ∀ a ∈ c, S' a = none := fun a ha => (r.o.no a ha).1
  have hw := r.o.frz hS (fun a ha => ha)
  refine ⟨join S' H' c, r.g.more (join_ex hS) (join_sub r.g.ex) (fun a ha => ?_), hw, ⟨r.st.ss.trans (join_ex hS), fun a h1 h2 => ?_, r.st.hh, r.st.th, r.st.cc⟩⟩
  · have : a ∉ c := fun z => r.dj a z ha
    rw [join_out this]; exact (r.g.noC ha).1
  · have : a ∉ c := fun z => h1 (r.fr a z)
    rw [join_out this]
    exact r.st.si a h1 h2
theorem Res.sh {s : Env} {S' H' : Hp} {cell : Nat → List Addr} {x : V} {d : D} (g : Good T v s S' H' cell) (h : Hd T S' x d) (st : Step S H C S' H' cell) : Res T v s S H C S' H' cell x (.sh d) [] :=
  ⟨g, .sh h, .nil, fun a ha => by simp at ha, fun a ha => by simp at ha, st⟩
/-- from the value to the shared value -/
theorem PO.ofD {r : R Vl} {Q : VK} (h : PD T v S H C E Q (asD r)) : PO T v S H C E Q (asO r) := by
  cases r with
  | ok w s =>
    cases w with
    | o o =>
      intro x S' H' cell c k
      obtain ⟨S2, g, hd, st⟩ := k.frz
      exact h x S2 H' cell g hd st
    | l l => exact h
  | ex k fs s => exact h
  | er => exact h
theorem PD.bindO {Q Q' : VK} {r : R D} {k : D → Env → R Vl} (h : PO T v S H C E Q (asO (r.bind k)))
    (go : ∀ d s1, r = .ok d s1 → ∀ x S1 H1 cell, Good T v s1 S1 H1 cell → Hd T S1 x d → Step S H C S1 H1 cell → PO T v S1 H1 cell E Q (asO (k d s1)) → Q' x H1) : PD T v S H C E Q' r := by
  cases r with
  | ok d s => exact fun x S1 H1 cell g hd st => go d s rfl x S1 H1 cell g hd st (PO.step st h)
  | ex k fs s => exact h
  | er => exact h
theorem PA'.bindO {Q Q' : VK} {rest : Vm.E} {r : R A} {k : A → Env → R Vl} (h : PO T v S H C E Q (asO (r.bind k)))
    (go : ∀ a s1, r = .ok a s1 → ∀ x S1 H1 cell, Good T v s1 S1 H1 cell → Opd T v S1 H1 x a → firm rest a → Step S H C S1 H1 cell → PO T v S1 H1 cell E Q (asO (k a s1)) → Q' x H1) : PA' T v S H C E rest Q' r := by
  cases r with
  | ok d s => exact fun x S1 H1 cell g hd f st => go d s rfl x S1 H1 cell g hd f st (PO.step st h)
  | ex k fs s => exact h
  | er => exact h
theorem PL.bindO {Q : VK} {Q' : List V → Hp → Prop} {r : R (List A)} {k : List A → Env → R Vl} (h : PO T v S H C E Q (asO (r.bind k)))
    (go : ∀ l s1, r = .ok l s1 → ∀ xs S1 H1 cell, Good T v s1 S1 H1 cell → Opds T v S1 H1 xs l → Step S H C S1 H1 cell → PO T v S1 H1 cell E Q (asO (k l s1)) → Q' xs H1) : PL T v S H C E Q' r := by
  cases r with
  | ok d s => exact fun x S1 H1 cell g hd st => go d s rfl x S1 H1 cell g hd st (PO.step st h)
  | ex k fs s => exact h
  | er => exact h
theorem PB.bindO {Q : VK} {Q' : Bool → Hp → Prop} {r : R Bool} {k : Bool → Env → R Vl} (h : PO T v S H C E Q (asO (r.bind k)))
    (go : ∀ b s1, r = .ok b s1 → ∀ S1 H1 cell, Good T v s1 S1 H1 cell → Step S H C S1 H1 cell → PO T v S1 H1 cell E Q (asO (k b s1)) → Q' b H1) : PB T v S H C E Q' r := by
  cases r with
  | ok d s => exact fun S1 H1 cell g st => go d s rfl S1 H1 cell g st (PO.step st h)
  | ex k fs s => exact h
  | er => exact h
theorem okO_ok {α : Type} {o : Option α} {k : α → R Vl} {Q : VK} (h : PO T v S H C E Q (asO (okO o k))) : ∃ a, o = some a ∧ PO T v S H C E Q (asO (k a)) := by
  cases o with
  | none => exact False.elim h
  | some a => exact ⟨a, rfl, h⟩
/-- an answer that is shared data, the state as it is -/
theorem PO.sh {s : Env} {cell : Nat → List Addr} {x : V} {d : D} {Q : VK} (h : PO T v S H cell E Q (.ok (.sh d) s)) (g : Good T v s S H cell) (hd : Hd T S x d) : Q x H :=
  h x S H cell [] (Res.sh g hd Step.refl)
end
end Vm

namespace Vm
open PySem L2 Evl

theorem Dn.uniq {T : Tb} {H : Hp} : ∀ {fs : List Nat} {v w w' : V}, Dn T H v fs w → Dn T H v fs w' → w = w'
  | [], _, _, _, rfl, rfl => rfl
  | f :: r, _, _, _, ⟨a, C, dx, fv, u, h1, h2, h3, _, _, h4⟩, ⟨a', C', dx', fv', u', k1, k2, k3, _, _, k4⟩ => by
    rw [h1] at k1; cases k1
    rw [h2] at k2; cases k2
    rw [h3] at k3; cases k3
    exact Dn.uniq h4 k4

/-- the defs of the text -/
structure Tx extends Tb where
  fa : Nat → Addr
  fd : Nat → FuncData
  ps : Nat → List Str
/-- what a def promises: what FR tells -/
def spR (T : Tb) (vs : List V) (H : Hp) (Q : VK) (E : XK) (os : List O) (r : FR) : Prop :=
  ∃ S cell, Good T (vs.map some) (os.map some) S H cell ∧ (match r with
    | .ret o f => ∀ x S' H' cell' c, Res T (vs.map some) f S H cell S' H' cell' x o c → Q x H'
    | .ex k fs f => PX T (vs.map some) S H cell (fun c d _ H => E c d H) k fs f
    | .er => False)
def spF (T : Tx) (F : Nat → List O → FR) (g : Nat) : Sp := fun vs H Q E => vs.length = (T.ps g).length ∧ ∃ os, spR T.toTb vs H Q E os (F g os)

section
variable {T : Tb} {v : St} {s : Env} {S H S' H' : Hp} {cell : Nat → List Addr}
/-- one argument: its value, how it was written, what it holds, its cells; what comes back, its cells then -/
structure Arg where
  x : V
  a : A
  o : O
  c : List Addr
def rootA : A → Nat
  | .ref p => p.i
  | .val _ => 0
/-- ahead of the call -/
structure ArgOk (T : Tb) (v : St) (s : Env) (S H : Hp) (cell : Nat → List Addr) (q : Arg) : Prop where
  res : q.a.res s = some q.o
  ow : Ow T S H q.x q.o q.c
  nd : q.c.Nodup
  sh : q.o.own = false → q.c = []
  own : q.o.own = true → ∃ p r o0, q.a = .ref p ∧ s[p.i]? = some (some o0) ∧ v[p.i]? = some (some r) ∧ (∀ a ∈ q.c, a ∈ cell p.i) ∧
    ∀ S' H' u' cu', Ow T S' H' q.x u' cu' → Sw S H S' H' (cell p.i) q.c cu' → ∃ c', Ow T S' H' r (setO o0 p.fs u') c' ∧ c'.Nodup ∧ ∀ a ∈ c', (a ∈ cell p.i ∧ a ∉ q.c) ∨ a ∈ cu'
theorem own_sh {o : O} (h : o.own = false) : ∃ d, o = .sh d := by
  cases o with
  | sh d => exact ⟨d, rfl⟩
  | ol l => cases h
  | oo c fs => cases h
  | od l => cases h
theorem arg_of (g : Good T v s S H cell) {x : V} {a : A} {o : O} (k : Opd T v S H x a) (h : a.res s = some o) : ∃ c, ArgOk T v s S H cell ⟨x, a, o, c⟩ := by
  cases k with
  | val hd =>
    have e : O.sh _ = o := Option.some.inj h
    subst e
    exact ⟨[], h, .sh hd, .nil, fun _ => rfl, fun q => (by cases q)⟩
  | @ref r p hr dn =>
    have h0 : getP s p = some o := h
    have h1 := h0
    unfold getP at h1
    cases e : s[p.i]? with
    | none => rw [e] at h1; cases h1
    | some q =>
      cases q with
      | none => rw [e] at h1; cases h1
      | some o0 =>
        rw [e] at h1
        obtain ⟨r', hr', ow⟩ := g.sl _ _ e
        rw [hr] at hr'
        cases hr'
        obtain ⟨w, cu, k1, k2, k3, k4, k5⟩ := ow.at (g.nd _) h1 g.ex
        have ew := Dn.uniq k1 dn
        subst ew
        by_cases ho : o.own = true
        · exact ⟨cu, h, k2, k3, fun z => (by rw [ho] at z; cases z), fun _ => ⟨p, r, o0, rfl, e, hr, k4, fun S' H' u' cu' a b => k5 S' H' u' cu' (.inl ho) a b⟩⟩
        · have ho' : o.own = false := by simpa using ho
          obtain ⟨d, rfl⟩ := own_sh ho'
          cases k2 with
          | sh hd => exact ⟨[], h, .sh hd, .nil, fun _ => rfl, fun z => (by cases z)⟩
inductive ArgsOk (T : Tb) (v : St) (s : Env) (S H : Hp) (cell : Nat → List Addr) : List Arg → Prop
  | nil : ArgsOk T v s S H cell []
  | cons {q : Arg} {r : List Arg} : ArgOk T v s S H cell q → ArgsOk T v s S H cell r → ArgsOk T v s S H cell (q :: r)
theorem args_of (g : Good T v s S H cell) : ∀ {xs : List V} {as : List A} {os : List O}, Opds T v S H xs as → resAll s as = some os →
    ∃ L : List Arg, ArgsOk T v s S H cell L ∧ L.map Arg.x = xs ∧ L.map Arg.a = as ∧ L.map Arg.o = os
  | _, _, _, .nil, h => by
    have e : [] = _ := Option.some.inj h
    subst e
    exact ⟨[], .nil, rfl, rfl, rfl⟩
  | _, _, _, .cons (a := a) (as := as) k l, h => by
    unfold resAll at h
    cases e1 : a.res s with
    | none => rw [e1] at h; cases h
    | some o =>
      cases e2 : resAll s as with
      | none => rw [e1, e2] at h; cases h
      | some os =>
        rw [e1, e2] at h
        have e : o :: os = _ := Option.some.inj h
        subst e
        obtain ⟨c, ok⟩ := arg_of g k e1
        obtain ⟨L, h1, h2, h3, h4⟩ := args_of g l e2
        exact ⟨⟨_, a, o, c⟩ :: L, .cons ok h1, by simp [h2], by simp [h3], by simp [h4]⟩
/-- the roots of the owned arguments -/
def roots : List Arg → List Nat
  | [] => []
  | q :: r => if q.o.own then rootA q.a :: roots r else roots r
theorem roots_eq : ∀ {L : List Arg}, ArgsOk T v s S H cell L → ownIx s (L.map Arg.a) = roots L
  | _, .nil => rfl
  | _, .cons (q := q) (r := r) ok l => by
    have ih := roots_eq l
    obtain ⟨x, a, o, c⟩ := q
    cases a with
    | val d =>
      have e : O.sh d = o := Option.some.inj ok.res
      subst e
      show ownIx s (r.map Arg.a) = _
      rw [ih]; rfl
    | ref p =>
      have e : getP s p = some o := ok.res
      show (match getP s p with
        | some o => if o.own then p.i :: ownIx s (r.map Arg.a) else ownIx s (r.map Arg.a)
        | none => ownIx s (r.map Arg.a)) = _
      rw [e, ih]
      rfl
theorem mem_roots : ∀ {L : List Arg} {q : Arg}, q ∈ L → q.o.own = true → rootA q.a ∈ roots L
  | q :: r, _, h, ho => by
    unfold roots
    rcases List.mem_cons.mp h with rfl | h
    · rw [if_pos ho]; exact List.mem_cons_self
    · split
      · exact List.mem_cons_of_mem _ (mem_roots h ho)
      · exact mem_roots h ho
theorem ArgsOk.get : ∀ {L : List Arg}, ArgsOk T v s S H cell L → ∀ q ∈ L, ArgOk T v s S H cell q
  | _, .nil, q, h => by cases h
  | _, .cons ok l, q, h => by
    rcases List.mem_cons.mp h with rfl | h
    · exact ok
    · exact l.get q h
/-- the cells of two owned arguments are apart -/
theorem apart (g : Good T v s S H cell) : ∀ {L : List Arg}, ArgsOk T v s S H cell L → (roots L).Nodup → ∀ (i j : Nat) (q q' : Arg), L[i]? = some q → L[j]? = some q' → ∀ a, a ∈ q.c → a ∈ q'.c → i = j
  | L, ok, nd, i, j, q, q', hi, hj, a, ha, ha' => by
    have hq := ok.get q (List.mem_of_getElem? hi)
    have hq' := ok.get q' (List.mem_of_getElem? hj)
    have o1 : q.o.own = true := by
      cases e : q.o.own with
      | true => rfl
      | false => rw [hq.sh e] at ha; cases ha
    have o2 : q'.o.own = true := by
      cases e : q'.o.own with
      | true => rfl
      | false => rw [hq'.sh e] at ha'; cases ha'
    obtain ⟨p, _, _, ea, _, _, sub, _⟩ := hq.own o1
    obtain ⟨p', _, _, ea', _, _, sub', _⟩ := hq'.own o2
    have er : p.i = p'.i := g.dj _ _ a (sub a ha) (sub' a ha')
    have key : ∀ (L : List Arg), (roots L).Nodup → ∀ (i j : Nat), L[i]? = some q → L[j]? = some q' → i = j := by
      intro L
      induction L with
      | nil => intro _ i j h; simp at h
      | cons z r ih =>
        intro nd i j hi hj
        have ndr : (roots r).Nodup := by
          unfold roots at nd
          split at nd
          · exact (List.nodup_cons.mp nd).2
          · exact nd
        cases i with
        | zero =>
          cases j with
          | zero => rfl
          | succ j =>
            simp at hi hj
            subst hi
            have m := mem_roots (List.mem_of_getElem? hj) o2
            unfold roots at nd
            rw [if_pos o1] at nd
            have := (List.nodup_cons.mp nd).1
            rw [ea] at this
            rw [ea'] at m
            exact absurd (show p.i ∈ roots r by rw [er]; exact m) this
        | succ i =>
          cases j with
          | zero =>
            simp at hi hj
            subst hj
            have m := mem_roots (List.mem_of_getElem? hi) o1
            unfold roots at nd
            rw [if_pos o2] at nd
            have := (List.nodup_cons.mp nd).1
            rw [ea'] at this
            rw [ea] at m
            exact absurd (show p'.i ∈ roots r by rw [← er]; exact m) this
          | succ j =>
            have := ih ndr i j (by simpa using hi) (by simpa using hj)
            omega
    exact key L nd i j hi hj
def cellsL (L : List Arg) : Nat → List Addr := fun j => (L[j]?.map Arg.c).getD []
/-- what the callee sees -/
theorem callee (g : Good T v s S H cell) {L : List Arg} (ok : ArgsOk T v s S H cell L) (nd : (roots L).Nodup) : Good T ((L.map Arg.x).map some) ((L.map Arg.o).map some) S H (cellsL L) where
  ln := by simp
  ex := g.ex
  sl := fun i o h => by
    rw [List.getElem?_map, List.getElem?_map] at h
    cases e : L[i]? with
    | none => rw [e] at h; cases h
    | some q =>
      rw [e] at h
      have eo : q.o = o := by simpa using h
      subst eo
      refine ⟨q.x, by simp [e], ?_⟩
      unfold cellsL
      rw [e]
      exact (ok.get q (List.mem_of_getElem? e)).ow
  nd := fun i => by
    unfold cellsL
    cases e : L[i]? with
    | none => exact .nil
    | some q => exact (ok.get q (List.mem_of_getElem? e)).nd
  nn := fun i h => by
    unfold cellsL
    cases e : L[i]? with
    | none => rfl
    | some q => exact absurd (by simp [e]) (h q.o)
  dj := fun i j a h1 h2 => by
    unfold cellsL at h1 h2
    cases e : L[i]? with
    | none => rw [e] at h1; simp at h1
    | some q =>
      cases e' : L[j]? with
      | none => rw [e'] at h2; simp at h2
      | some q' =>
        rw [e] at h1; rw [e'] at h2
        exact apart g ok nd i j q q' e e' a h1 h2
/-- what stands in the slots behind it -/
theorem give_out : ∀ {L : List Arg} {f : Env}, ArgsOk T v s S H cell L → ∀ i, i ∉ roots L → (give s (L.map Arg.a) f)[i]? = s[i]?
  | _, _, .nil, i, _ => by simp [give]
  | _, [], .cons (q := q) ok l, i, h => by
    obtain ⟨x, a, o, c⟩ := q
    cases a <;> rfl
  | _, f0 :: f, .cons (q := q) (r := r) ok l, i, h => by
    obtain ⟨x, a, o, c⟩ := q
    have h2 : i ∉ roots r := fun z => h (by
      unfold roots
      split
      · exact List.mem_cons_of_mem _ z
      · exact z)
    have ih := give_out (f := f) l i h2
    cases a with
    | val d => exact ih
    | ref p =>
      cases f0 with
      | none => exact ih
      | some o' =>
        have e : getP s p = some o := ok.res
        show (match getP s p with
          | some u => if u.own then setP (give s (r.map Arg.a) f) p o' else give s (r.map Arg.a) f
          | none => give s (r.map Arg.a) f)[i]? = _
        rw [e]
        show (if o.own then setP (give s (r.map Arg.a) f) p o' else give s (r.map Arg.a) f)[i]? = _
        split
        · rename_i ho
          have hne : p.i ≠ i := fun z => h (by unfold roots; rw [if_pos ho]; exact z ▸ List.mem_cons_self)
          unfold setP
          split
          · rw [List.getElem?_set_ne hne]; exact ih
          · exact ih
        · exact ih
theorem give_in : ∀ {L : List Arg} {f : Env}, ArgsOk T v s S H cell L → (roots L).Nodup → ∀ (j : Nat) (q : Arg) (p : Pth) (o0 o' : O), L[j]? = some q → q.o.own = true → q.a = .ref p → s[p.i]? = some (some o0) → f[j]? = some (some o') →
    (give s (L.map Arg.a) f)[p.i]? = some (some (setO o0 p.fs o'))
  | _, _, .nil, _, j, q, p, o0, o', h, _, _, _, _ => by simp at h
  | _, [], .cons ok l, _, j, q, p, o0, o', h, _, _, _, hf => by simp at hf
  | _, f0 :: f, .cons (q := z) (r := r) ok l, nd, j, q, p, o0, o', h, ho, ha, h0, hf => by
    have ndr : (roots r).Nodup := by
      unfold roots at nd
      split at nd
      · exact (List.nodup_cons.mp nd).2
      · exact nd
    cases j with
    | zero =>
      simp at h hf
      subst h hf
      obtain ⟨x, a, o, c⟩ := z
      have ha : a = .ref p := ha
      subst ha
      have e : getP s p = some o := ok.res
      have ho : o.own = true := ho
      have hn : p.i ∉ roots r := by
        unfold roots at nd
        rw [if_pos ho] at nd
        exact (List.nodup_cons.mp nd).1
      show (match getP s p with
        | some u => if u.own then setP (give s (r.map Arg.a) f) p o' else give s (r.map Arg.a) f
        | none => give s (r.map Arg.a) f)[p.i]? = _
      rw [e]
      show (if o.own then setP (give s (r.map Arg.a) f) p o' else give s (r.map Arg.a) f)[p.i]? = _
      rw [if_pos ho]
      have eo := give_out (f := f) l p.i hn
      rw [h0] at eo
      unfold setP
      rw [eo]
      have hl : p.i < (give s (r.map Arg.a) f).length := (List.getElem?_eq_some_iff.mp eo).1
      exact List.getElem?_set_self hl
    | succ j =>
      have h' : r[j]? = some q := by simpa using h
      have hf' : f[j]? = some (some o') := by simpa using hf
      have ih := give_in (f := f) l ndr j q p o0 o' h' ho ha h0 hf'
      obtain ⟨x, a, o, c⟩ := z
      cases a with
      | val d => exact ih
      | ref p' =>
        cases f0 with
        | none => exact ih
        | some o1 =>
          have e : getP s p' = some o := ok.res
          show (match getP s p' with
            | some u => if u.own then setP (give s (r.map Arg.a) f) p' o1 else give s (r.map Arg.a) f
            | none => give s (r.map Arg.a) f)[p.i]? = _
          rw [e]
          show (if o.own then setP (give s (r.map Arg.a) f) p' o1 else give s (r.map Arg.a) f)[p.i]? = _
          split
          · rename_i ho'
            have hm := mem_roots (List.mem_of_getElem? h') ho
            rw [ha] at hm
            have hne : p'.i ≠ p.i := fun z => by
              have nd' := nd
              unfold roots at nd'
              rw [if_pos ho'] at nd'
              exact (List.nodup_cons.mp nd').1 (by show p'.i ∈ _; rw [z]; exact hm)
            unfold setP
            split
            · rw [List.getElem?_set_ne hne]; exact ih
            · exact ih
          · exact ih
theorem give_len : ∀ {as : List A} {f : Env}, (give s as f).length = s.length
  | [], _ => by simp [give]
  | .val _ :: r, [] => rfl
  | .ref _ :: r, [] => rfl
  | .val _ :: r, _ :: f => give_len (as := r) (f := f)
  | .ref _ :: r, none :: f => give_len (as := r) (f := f)
  | .ref p :: r, some o :: f => by
    have ih := give_len (as := r) (f := f)
    have es : ∀ (e : Env), (setP e p o).length = e.length := fun e => by unfold setP; split <;> simp
    show (match getP s p with
      | some u => if u.own then setP (give s r f) p o else give s r f
      | none => give s r f).length = _
    split
    · split
      · rw [es, ih]
      · exact ih
    · exact ih

/-- BEHIND A CALL: the callee's owned parameters are the caller's places again -/
theorem back_ok (g : Good T v s S H cell) {L : List Arg} (ok : ArgsOk T v s S H cell L) (nd : (roots L).Nodup) {f : Env} {cf : Nat → List Addr} (gf : Good T ((L.map Arg.x).map some) f S' H' cf)
    (hf : ∀ (j : Nat) (q : Arg), L[j]? = some q → q.o.own = true → ∃ o', f[j]? = some (some o')) (st : Step S H (cellsL L) S' H' cf) :
    ∃ cell', Good T v (give s (L.map Arg.a) f) S' H' cell' ∧ Step S H cell S' H' cell' ∧ ∀ a, Cl cell' a → (Cl cell a ∨ Cl cf a) := by
  -- a slot's cells are a callee's, or they are as they were
  have part : ∀ a, Cl (cellsL L) a → Cl cell a := fun a ⟨j, hj⟩ => by
    unfold cellsL at hj
    cases e : L[j]? with
    | none => rw [e] at hj; simp at hj
    | some q =>
      rw [e] at hj
      have hj : a ∈ q.c := hj
      have hq := ok.get q (List.mem_of_getElem? e)
      cases eo : q.o.own with
      | true =>
        obtain ⟨p, _, _, _, _, _, sub, _⟩ := hq.own eo
        exact ⟨p.i, sub a hj⟩
      | false => rw [hq.sh eo] at hj; cases hj
  have stay : ∀ a, Cl cell a → ¬ Cl (cellsL L) a → (∀ o, H a = some o → H' a = some o) ∧ S' a = none := fun a hc hn =>
    ⟨fun o ho => st.hh a o ho hn, by
      obtain ⟨n1, u, n2⟩ := g.noC hc
      rw [st.si a (by rw [n2]; simp) hn]; exact n1⟩
  -- for every slot: what it holds, whence its cells are
  have each : ∀ i, ∃ c : List Addr, c.Nodup ∧ (∀ o, (give s (L.map Arg.a) f)[i]? = some (some o) → ∃ x, v[i]? = some (some x) ∧ Ow T S' H' x o c) ∧ ((∀ o, (give s (L.map Arg.a) f)[i]? ≠ some (some o)) → c = []) ∧
      ∀ a ∈ c, (a ∈ cell i ∧ ¬ Cl (cellsL L) a) ∨ ∃ j q, L[j]? = some q ∧ q.o.own = true ∧ rootA q.a = i ∧ a ∈ cf j := by
    intro i
    by_cases hi : i ∈ roots L
    · -- an owned argument's root
      have key : ∀ (M : List Arg), i ∈ roots M → ∃ (j : Nat) (q : Arg), M[j]? = some q ∧ q.o.own = true ∧ rootA q.a = i := by
        intro M
        induction M with
        | nil => intro h; cases h
        | cons z r ih =>
          intro h
          unfold roots at h
          split at h
          · rename_i ho
            rcases List.mem_cons.mp h with e | h
            · exact ⟨0, z, rfl, ho, e.symm⟩
            · obtain ⟨j, q, h1, h2, h3⟩ := ih h
              exact ⟨j + 1, q, by simpa using h1, h2, h3⟩
          · obtain ⟨j, q, h1, h2, h3⟩ := ih h
            exact ⟨j + 1, q, by simpa using h1, h2, h3⟩
      obtain ⟨j, q, hj, ho, hr⟩ := key L hi
      have hq := ok.get q (List.mem_of_getElem? hj)
      obtain ⟨p, r, o0, ea, e0, ev, sub, loc⟩ := hq.own ho
      rw [ea] at hr
      have hr : p.i = i := hr
      subst hr
      obtain ⟨o', ef⟩ := hf j q hj ho
      obtain ⟨x', ex', ow'⟩ := gf.sl j o' ef
      have ex2 : ((L.map Arg.x).map some)[j]? = some (some q.x) := by simp [hj]
      rw [ex2] at ex'
      have exx : q.x = x' := by simpa using ex'
      subst exx
      have mine : ∀ a, a ∈ cell p.i → Cl (cellsL L) a → a ∈ q.c := fun a ha ⟨k, hk⟩ => by
        unfold cellsL at hk
        cases e : L[k]? with
        | none => rw [e] at hk; simp at hk
        | some q' =>
          rw [e] at hk
          have hk : a ∈ q'.c := hk
          have hq' := ok.get q' (List.mem_of_getElem? e)
          cases eo : q'.o.own with
          | false => rw [hq'.sh eo] at hk; cases hk
          | true =>
            obtain ⟨p', _, _, ea', _, _, sub', _⟩ := hq'.own eo
            have er : p.i = p'.i := g.dj _ _ a ha (sub' a hk)
            -- the same root: the same argument
            have hkj : k = j := by
              have key2 : ∀ (M : List Arg), (roots M).Nodup → ∀ (k j : Nat), M[k]? = some q' → M[j]? = some q → k = j := by
                intro M
                induction M with
                | nil => intro _ i j h; simp at h
                | cons z r ih =>
                  intro ndM k j hk hj
                  have ndr : (roots r).Nodup := by
                    unfold roots at ndM
                    split at ndM
                    · exact (List.nodup_cons.mp ndM).2
                    · exact ndM
                  cases k with
                  | zero =>
                    cases j with
                    | zero => rfl
                    | succ j =>
                      simp at hk hj
                      subst hk
                      have m := mem_roots (List.mem_of_getElem? hj) ho
                      unfold roots at ndM
                      rw [if_pos eo] at ndM
                      have t := (List.nodup_cons.mp ndM).1
                      rw [ea'] at t
                      rw [ea] at m
                      exact absurd (show p'.i ∈ roots r by rw [← er]; exact m) t
                  | succ k =>
                    cases j with
                    | zero =>
                      simp at hk hj
                      subst hj
                      have m := mem_roots (List.mem_of_getElem? hk) eo
                      unfold roots at ndM
                      rw [if_pos ho] at ndM
                      have t := (List.nodup_cons.mp ndM).1
                      rw [ea] at t
                      rw [ea'] at m
                      exact absurd (show p.i ∈ roots r by rw [er]; exact m) t
                    | succ j =>
                      have := ih ndr k j (by simpa using hk) (by simpa using hj)
                      omega
              exact key2 L nd k j e hj
            subst hkj
            rw [hj] at e
            cases e
            exact hk
      obtain ⟨c', k1, k2, k3⟩ := loc S' H' o' (cf j) ow' ⟨st.ss, fun a ha hn => (stay a ⟨_, ha⟩ fun z => hn (mine a ha z)).1, fun a ha hn => (stay a ⟨_, ha⟩ fun z => hn (mine a ha z)).2, gf.nd j, fun a ha hc => by
        rcases st.cc j a ha with z | z
        · exact mine a hc ⟨j, z⟩
        · obtain ⟨_, u, e⟩ := g.no hc
          rw [z] at e; cases e⟩
      have eg := give_in (f := f) ok nd j q p o0 o' hj ho ea e0 ef
      refine ⟨c', k2, fun o h => ?_, fun h => absurd eg (h _), fun a ha => ?_⟩
      · rw [eg] at h
        cases h
        exact ⟨r, ev, k1⟩
      · rcases k3 a ha with ⟨z1, z2⟩ | z
        · exact .inl ⟨z1, fun y => z2 (mine a z1 y)⟩
        · exact .inr ⟨j, q, hj, ho, by rw [ea]; rfl, z⟩
    · -- any other slot
      have eg := give_out (f := f) ok i hi
      have nc : ∀ a ∈ cell i, ¬ Cl (cellsL L) a := fun a ha ⟨j, hj⟩ => by
        unfold cellsL at hj
        cases e : L[j]? with
        | none => rw [e] at hj; simp at hj
        | some q =>
          rw [e] at hj
          have hj : a ∈ q.c := hj
          have hq := ok.get q (List.mem_of_getElem? e)
          cases eo : q.o.own with
          | false => rw [hq.sh eo] at hj; cases hj
          | true =>
            obtain ⟨p, _, _, ea, _, _, sub, _⟩ := hq.own eo
            have er : i = p.i := g.dj _ _ a ha (sub a hj)
            have m := mem_roots (List.mem_of_getElem? e) eo
            rw [ea] at m
            exact hi (by rw [er]; exact m)
      refine ⟨cell i, g.nd i, fun o h => ?_, fun h => g.nn i fun o z => h o (by rw [eg]; exact z), fun a ha => .inl ⟨ha, nc a ha⟩⟩
      rw [eg] at h
      obtain ⟨x, h1, h2⟩ := g.sl i o h
      exact ⟨x, h1, h2.mono st.ss (fun a ha o ho => (stay a ⟨_, ha⟩ (nc a ha)).1 o ho) fun a ha => (stay a ⟨_, ha⟩ (nc a ha)).2⟩
  obtain ⟨cell', hcell⟩ := Classical.axiomOfChoice each
  have src : ∀ i a, a ∈ cell' i → a ∈ cell i ∨ H a = none := fun i a ha => by
    rcases (hcell i).2.2.2 a ha with ⟨z, _⟩ | ⟨j, q, hj, ho, hr, z⟩
    · exact .inl z
    · rcases st.cc j a z with z1 | z1
      · have hq := ok.get q (List.mem_of_getElem? hj)
        obtain ⟨p, _, _, ea, _, _, sub, _⟩ := hq.own ho
        rw [ea] at hr
        have hr : p.i = i := hr
        subst hr
        unfold cellsL at z1
        rw [hj] at z1
        exact .inl (sub a z1)
      · exact .inr z1
  refine ⟨cell', ⟨give_len.trans g.ln, gf.ex, fun i o h => (hcell i).2.1 o h, fun i => (hcell i).1, fun i h => (hcell i).2.2.1 h, fun i k a h1 h2 => ?_⟩,
    ⟨st.ss, fun a h1 h2 => st.si a h1 fun z => h2 (part a z), fun a o h1 h2 => st.hh a o h1 fun z => h2 (part a z), st.th, src⟩, fun a ⟨i, ha⟩ => ?_⟩
  · rcases (hcell i).2.2.2 a h1 with ⟨z, zn⟩ | ⟨j, q, hj, ho, hr, z⟩
    · rcases (hcell k).2.2.2 a h2 with ⟨y, _⟩ | ⟨j', q', hj', ho', hr', y⟩
      · exact g.dj i k a z y
      · rcases st.cc j' a y with y1 | y1
        · exact absurd ⟨j', y1⟩ zn
        · obtain ⟨_, u, e⟩ := g.no z
          rw [y1] at e; cases e
    · rcases (hcell k).2.2.2 a h2 with ⟨y, yn⟩ | ⟨j', q', hj', ho', hr', y⟩
      · rcases st.cc j a z with z1 | z1
        · exact absurd ⟨j, z1⟩ yn
        · obtain ⟨_, u, e⟩ := g.no y
          rw [z1] at e; cases e
      · have ej := gf.dj j j' a z y
        subst ej
        rw [hj] at hj'
        cases hj'
        exact hr.symm.trans hr'
  · rcases (hcell i).2.2.2 a ha with ⟨z, _⟩ | ⟨j, q, hj, ho, hr, z⟩
    · exact .inl ⟨i, z⟩
    · exact .inr ⟨j, z⟩
end
end Vm

namespace Vm
open PySem L2 Evl
section
variable {T : Tb} {v : St} {s : Env} {S H S' H' : Hp} {cell : Nat → List Addr} {E : WX} {Q : VK}
theorem back_some : ∀ {L : List Arg} {f : Env}, ArgsOk T v s S H cell L → backOk s (L.map Arg.a) f = true → ∀ (j : Nat) (q : Arg), L[j]? = some q → q.o.own = true → ∃ o', f[j]? = some (some o')
  | _, _, .nil, _, j, q, h, _ => by simp at h
  | _, f, .cons (q := z) (r := r) ok l, hb, j, q, h, ho => by
    obtain ⟨x, a, o, c⟩ := z
    have ht : backOk s (r.map Arg.a) f.tail = true := by
      cases a with
      | val d => exact hb
      | ref p => exact (Bool.and_eq_true_iff.mp (show (_ && backOk s (r.map Arg.a) f.tail) = true from hb)).2
    cases j with
    | zero =>
      simp at h
      subst h
      cases a with
      | val d =>
        have e : O.sh d = o := Option.some.inj ok.res
        subst e
        cases ho
      | ref p =>
        have e : getP s p = some o := ok.res
        have hb1 := (Bool.and_eq_true_iff.mp (show ((match getP s p with
          | some o => (!o.own || headSome f)
          | none => true) && backOk s (r.map Arg.a) f.tail) = true from hb)).1
        rw [e] at hb1
        have ho : o.own = true := ho
        cases f with
        | nil =>
          simp [ho] at hb1
          exact absurd hb1 (by simp [headSome])
        | cons f0 f =>
          cases f0 with
          | none =>
            simp [ho] at hb1
            exact absurd hb1 (by simp [headSome])
          | some o' => exact ⟨o', rfl⟩
    | succ j =>
      obtain ⟨o', h'⟩ := back_some (f := f.tail) l ht j q (by simpa using h) ho
      refine ⟨o', ?_⟩
      cases f with
      | nil => simp at h'
      | cons f0 f => simpa using h'
/-- THE CALL -/
theorem call_ok {F : Nat → List O → FR} {g : Nat} (gd : Good T v s S H cell) {xs : List V} {as : List A} (k : Opds T v S H xs as) (h : PO T v S H cell E Q (callF F g as s)) : ∃ os, spR T xs H Q (WE E v) os (F g os) := by
  unfold callF at h
  cases er : resAll s as with
  | none => rw [er] at h; exact False.elim h
  | some os =>
    rw [er] at h
    have h : PO T v S H cell E Q (if (ownIx s as).Nodup then done s as (F g os) else .er) := h
    by_cases nd : (ownIx s as).Nodup
    · rw [if_pos nd] at h
      obtain ⟨L, ok, ex, ea, eo⟩ := args_of gd k er
      have nd' : (roots L).Nodup := by rw [← roots_eq ok, ea]; exact nd
      have gc := callee gd ok nd'
      refine ⟨os, S, cellsL L, by rw [← ex, ← eo]; exact gc, ?_⟩
      have fin : ∀ {f : Env} {S' H' : Hp} {cf : Nat → List Addr}, backOk s as f = true → Good T (xs.map some) f S' H' cf → Step S H (cellsL L) S' H' cf → ∃ cell', Good T v (give s as f) S' H' cell' ∧ Step S H cell S' H' cell' ∧ ∀ a, Cl cell' a → (Cl cell a ∨ Cl cf a) := fun {f S' H' cf} hb gf st => by
        have := back_ok gd ok nd' (f := f) (by rw [ex]; exact gf) (back_some ok (by rw [ea]; exact hb)) st
        rw [ea] at this
        exact this
      cases e : F g os with
      | ret o f =>
        rw [e] at h
        show ∀ x S' H' cell' c, Res T (xs.map some) f S H (cellsL L) S' H' cell' x o c → Q x H'
        intro x S' H' cf c r
        have h : PO T v S H cell E Q (if backOk s as f = true then .ok o (give s as f) else .er) := h
        by_cases hb : backOk s as f = true
        · rw [if_pos hb] at h
          obtain ⟨cell', g', st', sub⟩ := fin hb r.g r.st
          refine h x S' H' cell' c ⟨g', r.o, r.nd, fun a ha hc => ?_, r.fr, st'⟩
          rcases sub a hc with z | z
          · obtain ⟨_, u, e⟩ := gd.noC z
            rw [r.fr a ha] at e; cases e
          · exact r.dj a ha z
        · rw [if_neg hb] at h; exact False.elim h
      | ex k fs f =>
        rw [e] at h
        show PX T (xs.map some) S H (cellsL L) (fun c d _ H => E c d v H) k fs f
        intro S' H' cf d x
        have h : PO T v S H cell E Q (if backOk s as f = true then .ex k fs (give s as f) else .er) := h
        by_cases hb : backOk s as f = true
        · rw [if_pos hb] at h
          obtain ⟨cell', g', st', _⟩ := fin hb x.g x.st
          exact h S' H' cell' d ⟨g', x.x, st'⟩
        · rw [if_neg hb] at h; exact False.elim h
      | er => rw [e] at h; exact False.elim h
    · rw [if_neg nd] at h; exact False.elim h

theorem Good.more1 (g : Good T v s S H cell) {y : V} {o : O} {c : List Addr} (ow : Ow T S H y o c) (nd : c.Nodup) (dj : ∀ a ∈ c, ¬ Cl cell a) : Good T (v ++ [some y]) (s ++ [some o]) S H (setC cell v.length c) where
  ln := by simp [g.ln]
  ex := g.ex
  sl := fun i u h => by
    by_cases hi : i < s.length
    · rw [List.getElem?_append_left hi] at h
      obtain ⟨x, h1, h2⟩ := g.sl i u h
      have hv : i < v.length := by rw [← g.ln]; exact hi
      exact ⟨x, by rw [List.getElem?_append_left hv]; exact h1, by rw [setC_ne (Nat.ne_of_lt hv)]; exact h2⟩
    · have hi' : i = s.length := by
        rw [List.getElem?_append_right (Nat.le_of_not_lt hi)] at h
        have := (List.getElem?_eq_some_iff.mp h).1
        simp at this
        omega
      subst hi'
      simp at h
      subst h
      refine ⟨y, by rw [g.ln]; simp, ?_⟩
      rw [g.ln, setC_same]
      exact ow
  nd := fun i => by
    by_cases e : i = v.length
    · subst e; rw [setC_same]; exact nd
    · rw [setC_ne e]; exact g.nd i
  nn := fun i h => by
    by_cases e : i = v.length
    · subst e
      exact absurd (by rw [← g.ln]; simp) (h o)
    · rw [setC_ne e]
      refine g.nn i fun u z => h u ?_
      have hi := (List.getElem?_eq_some_iff.mp z).1
      rw [List.getElem?_append_left hi]; exact z
  dj := fun i j a h1 h2 => by
    by_cases e1 : i = v.length
    · subst e1
      rw [setC_same] at h1
      by_cases e2 : j = v.length
      · exact e2.symm
      · rw [setC_ne e2] at h2; exact absurd ⟨j, h2⟩ (dj a h1)
    · rw [setC_ne e1] at h1
      by_cases e2 : j = v.length
      · subst e2; rw [setC_same] at h2; exact absurd ⟨i, h1⟩ (dj a h2)
      · rw [setC_ne e2] at h2; exact g.dj i j a h1 h2
theorem Good.less1 {y : V} {o : O} (g : Good T (v ++ [some y]) (s ++ [some o]) S H cell) : Good T v s S H (setC cell v.length []) ∧ Ow T S H y o (cell v.length) where
  left := by
    have ln : s.length = v.length := by have := g.ln; simpa using this
    refine ⟨ln, g.ex, fun i u h => ?_, fun i => ?_, fun i h => ?_, fun i j a h1 h2 => ?_⟩
    · have hi := (List.getElem?_eq_some_iff.mp h).1
      have hv : i < v.length := by rw [← ln]; exact hi
      obtain ⟨x, h1, h2⟩ := g.sl i u (by rw [List.getElem?_append_left hi]; exact h)
      rw [List.getElem?_append_left hv] at h1
      exact ⟨x, h1, by rw [setC_ne (Nat.ne_of_lt hv)]; exact h2⟩
    · by_cases e : i = v.length
      · subst e; rw [setC_same]; exact .nil
      · rw [setC_ne e]; exact g.nd i
    · by_cases e : i = v.length
      · subst e; exact setC_same
      · rw [setC_ne e]
        refine g.nn i fun u z => ?_
        by_cases hi : i < s.length
        · rw [List.getElem?_append_left hi] at z; exact h u z
        · have hl := (List.getElem?_eq_some_iff.mp z).1
          simp at hl
          omega
    · by_cases e1 : i = v.length
      · subst e1; rw [setC_same] at h1; cases h1
      · by_cases e2 : j = v.length
        · subst e2; rw [setC_same] at h2; cases h2
        · rw [setC_ne e1] at h1; rw [setC_ne e2] at h2; exact g.dj i j a h1 h2
  right := by
    have ln : s.length = v.length := by have := g.ln; simpa using this
    obtain ⟨x, h1, h2⟩ := g.sl v.length o (by rw [← ln]; simp)
    rw [List.getElem?_append_right (Nat.le_refl _)] at h1
    simp at h1
    subst h1
    exact h2
/-- a place of the frame, seen with one more slot -/
theorem getP_app {z : Option O} {p : Pth} {u : O} (h : getP s p = some u) : getP (s ++ [z]) p = some u := by
  unfold getP at h ⊢
  cases e : s[p.i]? with
  | none => rw [e] at h; cases h
  | some q =>
    rw [List.getElem?_append_left (List.getElem?_eq_some_iff.mp e).1, e]
    rw [e] at h
    exact h
theorem res_app {z : Option O} {a : A} {u : O} (h : a.res s = some u) : a.res (s ++ [z]) = some u := by
  cases a with
  | val d => exact h
  | ref p => exact getP_app h
theorem resAll_app {z : Option O} : ∀ {as : List A} {os : List O}, resAll s as = some os → resAll (s ++ [z]) as = some os
  | [], _, h => h
  | a :: r, os, h => by
    unfold resAll at h ⊢
    cases e1 : a.res s with
    | none => rw [e1] at h; cases h
    | some o =>
      cases e2 : resAll s r with
      | none => rw [e1, e2] at h; cases h
      | some l =>
        rw [e1, e2] at h
        rw [res_app e1, resAll_app e2]
        exact h
theorem own_app {z : Option O} : ∀ {as : List A} {os : List O}, resAll s as = some os → ownIx (s ++ [z]) as = ownIx s as ∧ ∀ i ∈ ownIx s as, i < s.length
  | [], _, _ => ⟨rfl, fun i h => by cases h⟩
  | a :: r, os, h => by
    unfold resAll at h
    cases e1 : a.res s with
    | none => rw [e1] at h; cases h
    | some o =>
      cases e2 : resAll s r with
      | none => rw [e1, e2] at h; cases h
      | some l =>
        obtain ⟨ih, ih2⟩ := own_app (z := z) e2
        cases a with
        | val d => exact ⟨ih, ih2⟩
        | ref p =>
          have e : getP s p = some o := e1
          have hp : p.i < s.length := by
            unfold getP at e
            cases q : s[p.i]? with
            | none => rw [q] at e; cases e
            | some w => exact (List.getElem?_eq_some_iff.mp q).1
          show (match getP (s ++ [z]) p with
            | some o => if o.own then p.i :: ownIx (s ++ [z]) r else ownIx (s ++ [z]) r
            | none => ownIx (s ++ [z]) r) = (match getP s p with
            | some o => if o.own then p.i :: ownIx s r else ownIx s r
            | none => ownIx s r) ∧ ∀ i ∈ (match getP s p with
            | some o => if o.own then p.i :: ownIx s r else ownIx s r
            | none => ownIx s r), i < s.length
          rw [getP_app e, e, ih]
          refine ⟨rfl, fun i hi => ?_⟩
          have hi : i ∈ (if o.own then p.i :: ownIx s r else ownIx s r) := hi
          split at hi
          · rcases List.mem_cons.mp hi with rfl | hi
            · exact hp
            · exact ih2 i hi
          · exact ih2 i hi
theorem setP_app {z : Option O} {p : Pth} {o : O} (h : p.i < s.length) : setP (s ++ [z]) p o = setP s p o ++ [z] := by
  unfold setP
  simp only [List.getElem?_append_left h]
  cases s[p.i]? with
  | none => rfl
  | some q =>
    cases q with
    | none => rfl
    | some o' => exact List.set_append_left _ _ h
theorem setP_len {p : Pth} {o : O} : (setP s p o).length = s.length := by unfold setP; split <;> simp
theorem give_app {z : Option O} : ∀ {as : List A} {os : List O} {f : Env}, resAll s as = some os → give (s ++ [z]) as f = give s as f ++ [z]
  | [], _, f, _ => by simp [give]
  | .val _ :: r, _, [], _ => rfl
  | .ref _ :: r, _, [], _ => rfl
  | a :: r, os, f0 :: f, h => by
    unfold resAll at h
    cases e1 : a.res s with
    | none => rw [e1] at h; cases h
    | some o =>
      cases e2 : resAll s r with
      | none => rw [e1, e2] at h; cases h
      | some l =>
        have ih := give_app (z := z) (f := f) e2
        cases a with
        | val d => exact ih
        | ref p =>
          cases f0 with
          | none => exact ih
          | some o' =>
            have e : getP s p = some o := e1
            have hp : p.i < s.length := by
              unfold getP at e
              cases q : s[p.i]? with
              | none => rw [q] at e; cases e
              | some w => exact (List.getElem?_eq_some_iff.mp q).1
            show (match getP (s ++ [z]) p with
              | some u => if u.own then setP (give (s ++ [z]) r f) p o' else give (s ++ [z]) r f
              | none => give (s ++ [z]) r f) = (match getP s p with
              | some u => if u.own then setP (give s r f) p o' else give s r f
              | none => give s r f) ++ [z]
            rw [getP_app e, e, ih]
            show (if o.own then setP (give s r f ++ [z]) p o' else give s r f ++ [z]) = (if o.own then setP (give s r f) p o' else give s r f) ++ [z]
            split
            · rw [setP_app (by rw [give_len]; exact hp)]
            · rfl
theorem backOk_app {z : Option O} : ∀ {as : List A} {os : List O} {f : Env}, resAll s as = some os → backOk (s ++ [z]) as f = backOk s as f
  | [], _, f, _ => rfl
  | a :: r, os, f, h => by
    unfold resAll at h
    cases e1 : a.res s with
    | none => rw [e1] at h; cases h
    | some o =>
      cases e2 : resAll s r with
      | none => rw [e1, e2] at h; cases h
      | some l =>
        have ih := backOk_app (z := z) (f := f.tail) e2
        cases a with
        | val d => exact ih
        | ref p =>
          have e : getP s p = some o := e1
          show ((match getP (s ++ [z]) p with
            | some o => (!o.own || headSome f)
            | none => true) && backOk (s ++ [z]) r f.tail) = ((match getP s p with
            | some o => (!o.own || headSome f)
            | none => true) && backOk s r f.tail)
          rw [getP_app e, e, ih]
theorem opds_app {z : Option V} : ∀ {xs : List V} {as : List A}, Opds T v S H xs as → Opds T (v ++ [z]) S H xs as
  | _, _, .nil => .nil
  | _, _, .cons k l => .cons (match k with
    | .val h => .val h
    | .ref h d => .ref (by rw [List.getElem?_append_left (List.getElem?_eq_some_iff.mp h).1]; exact h) d) (opds_app l)
theorem opds_ex {S2 H2 : Hp} (e1 : Ex S S2) (e2 : Ex H H2) : ∀ {xs : List V} {as : List A}, Opds T v S H xs as → Opds T v S2 H2 xs as
  | _, _, .nil => .nil
  | _, _, .cons k l => .cons (match k with
    | .val h => .val (h.mono e1)
    | .ref h d => .ref h (d.mono e2)) (opds_ex e1 e2 l)

/-- THE MAKING of an instance of the class c, at x -/
theorem make_ok {F : Nat → List O → FR} {c g : Nat} (gd : Good T v s S H cell) {xs : List V} {as : List A} (k : Opds T v S H xs as) (h : PO T v S H cell E Q (makeF F c g as s)) (hc : T.isC c) {x dx : Addr} (hx : H x = none) (hdx : H dx = none) (hne : dx ≠ x) :
    ∃ os, spR T (.ref x :: xs) (upd (upd H dx (.own x)) x (.ins (T.ca c) dx [])) (fun w H2 => w = .non ∧ Q (.ref x) H2) (WE E v) os (F g os) := by
  unfold makeF at h
  cases er : resAll s as with
  | none => rw [er] at h; exact False.elim h
  | some os =>
    rw [er] at h
    have h : PO T v S H cell E Q (if (ownIx s as).Nodup then made s as (F g (.oo c [] :: os)) else .er) := h
    by_cases nd : (ownIx s as).Nodup
    · rw [if_pos nd] at h
      -- the new heap
      have hx1 : (upd H dx (.own x)) x = none := by rw [upd_ne (Ne.symm hne)]; exact hx
      have eH : Ex H (upd (upd H dx (.own x)) x (.ins (T.ca c) dx [])) := (Ex.new hdx).trans (Ex.new hx1)
      generalize hH : upd (upd H dx (.own x)) x (.ins (T.ca c) dx []) = H1 at eH ⊢
      have hat : H1 x = some (.ins (T.ca c) dx []) := by rw [← hH]; exact upd_same
      have hSx : S x = none := gd.fresh hx
      have g1 := gd.grow eH
      have nx : ¬ Cl cell x := gd.notC hx
      have ow : Ow T S H1 (.ref x) (.oo c []) [x] := .oo hc hat hSx .nil
      have g2 := g1.more1 (y := .ref x) (o := .oo c []) (c := [x]) ow (by simp) (fun a ha z => by
        have : a = x := by simpa using ha
        subst this
        exact nx z)
      -- the arguments, the new instance ahead
      have k2 : Opds T (v ++ [some (.ref x)]) S H1 (.ref x :: xs) (.ref ⟨s.length, []⟩ :: as) := .cons (.ref (by rw [gd.ln]; simp) rfl) (opds_app (opds_ex (Ex.refl S) eH k))
      have r2 : resAll (s ++ [some (O.oo c [])]) (.ref ⟨s.length, []⟩ :: as) = some (.oo c [] :: os) := by
        unfold resAll
        have e : (A.ref ⟨s.length, []⟩).res (s ++ [some (O.oo c [])]) = some (.oo c []) := by
          show getP _ _ = _
          unfold getP
          simp [getO]
        rw [e, resAll_app (z := some (O.oo c [])) er]
      obtain ⟨L, ok, ex, ea, eo⟩ := args_of g2 k2 r2
      obtain ⟨oa, ob⟩ := own_app (z := some (O.oo c [])) er
      have nd2 : (ownIx (s ++ [some (O.oo c [])]) (.ref ⟨s.length, []⟩ :: as)).Nodup := by
        show (match getP (s ++ [some (O.oo c [])]) ⟨s.length, []⟩ with
          | some o => if o.own then s.length :: ownIx (s ++ [some (O.oo c [])]) as else ownIx (s ++ [some (O.oo c [])]) as
          | none => ownIx (s ++ [some (O.oo c [])]) as).Nodup
        have e : getP (s ++ [some (O.oo c [])]) ⟨s.length, []⟩ = some (.oo c []) := by unfold getP; simp [getO]
        rw [e]
        show (if (O.oo c []).own then s.length :: ownIx (s ++ [some (O.oo c [])]) as else ownIx (s ++ [some (O.oo c [])]) as).Nodup
        rw [if_pos (show (O.oo c []).own = true from rfl), oa]
        exact List.nodup_cons.mpr ⟨fun z => absurd (ob _ z) (Nat.lt_irrefl _), nd⟩
      have nd' : (roots L).Nodup := by rw [← roots_eq ok, ea]; exact nd2
      have gc := callee g2 ok nd'
      refine ⟨.oo c [] :: os, S, cellsL L, by rw [← ex, ← eo]; exact gc, ?_⟩
      -- behind it
      have fin : ∀ {o : O} {f : Env} {S' H' : Hp} {cf : Nat → List Addr}, backOk s as f = true → Good T ((V.ref x :: xs).map some) (some o :: f) S' H' cf → Step S H1 (cellsL L) S' H' cf →
          ∃ cell' co, Good T v (give s as f) S' H' cell' ∧ Ow T S' H' (.ref x) o co ∧ co.Nodup ∧ (∀ a ∈ co, ¬ Cl cell' a) ∧ (∀ a ∈ co, H a = none) ∧ Step S H cell S' H' cell' := fun {o f S' H' cf} hb gf st => by
        have b2 : backOk (s ++ [some (O.oo c [])]) (.ref ⟨s.length, []⟩ :: as) (some o :: f) = true := by
          show ((match getP (s ++ [some (O.oo c [])]) ⟨s.length, []⟩ with
            | some u => (!u.own || true)
            | none => true) && backOk (s ++ [some (O.oo c [])]) as f) = true
          rw [backOk_app er, hb]
          split <;> simp
        obtain ⟨cell', g', st', _⟩ := back_ok g2 ok nd' (f := some o :: f) (by rw [ex]; exact gf) (back_some ok (by rw [ea]; exact b2)) st
        rw [ea] at g'
        have eg : give (s ++ [some (O.oo c [])]) (.ref ⟨s.length, []⟩ :: as) (some o :: f) = give s as f ++ [some o] := by
          show (match getP (s ++ [some (O.oo c [])]) ⟨s.length, []⟩ with
            | some u => if u.own then setP (give (s ++ [some (O.oo c [])]) as f) ⟨s.length, []⟩ o else give (s ++ [some (O.oo c [])]) as f
            | none => give (s ++ [some (O.oo c [])]) as f) = _
          have e : getP (s ++ [some (O.oo c [])]) ⟨s.length, []⟩ = some (.oo c []) := by unfold getP; simp [getO]
          rw [e]
          show (if (O.oo c []).own then setP (give (s ++ [some (O.oo c [])]) as f) ⟨s.length, []⟩ o else give (s ++ [some (O.oo c [])]) as f) = _
          rw [if_pos (show (O.oo c []).own = true from rfl), give_app er]
          unfold setP
          have hl : (give s as f).length = s.length := give_len
          have e2 : (give s as f ++ [some (O.oo c [])])[s.length]? = some (some (.oo c [])) := by rw [← hl]; simp
          rw [e2]
          show (give s as f ++ [some (O.oo c [])]).set s.length (some (setO (.oo c []) [] o)) = _
          have e3 : setO (.oo c []) [] o = o := rfl
          rw [e3, ← hl]
          simp
        rw [eg] at g'
        obtain ⟨ga, gb⟩ := g'.less1
        refine ⟨_, _, ga, gb, g'.nd _, fun a ha ⟨j, hj⟩ => ?_, fun a ha => ?_, ?_⟩
        · by_cases e : j = v.length
          · subst e; rw [setC_same] at hj; cases hj
          · rw [setC_ne e] at hj
            exact e (g'.dj _ _ a hj ha)
        · rcases st'.cc _ a ha with z | z
          · rw [setC_same] at z
            have : a = x := by simpa using z
            subst this
            exact hx
          · exact ex_th eH a z
        · have nin : ∀ a, H a ≠ none → ¬ Cl cell a → ¬ Cl (setC cell v.length [x]) a := fun a h1 h2 z => by
            rcases setC_Cl z with z | ⟨j, _, z⟩
            · have : a = x := by simpa using z
              subst this
              exact h1 hx
            · exact h2 ⟨j, z⟩
          have up : ∀ a, H a ≠ none → H1 a ≠ none := fun a h1 z => h1 (ex_th eH a z)
          refine ⟨st'.ss, fun a h1 h2 => st'.si a (up a h1) (nin a h1 h2), fun a u h1 h2 => st'.hh a u (eH a u h1) (nin a (by rw [h1]; simp) h2), fun a z => ex_th eH a (st'.th a z), fun i a ha => ?_⟩
          by_cases e : i = v.length
          · subst e; rw [setC_same] at ha; cases ha
          · rw [setC_ne e] at ha
            have z := st'.cc i a ha
            rw [setC_ne e] at z
            exact z.imp id (ex_th eH a)
      cases e : F g (.oo c [] :: os) with
      | ret o f =>
        rw [e] at h
        show ∀ y S' H' cell' co, Res T ((V.ref x :: xs).map some) f S H1 (cellsL L) S' H' cell' y o co → y = .non ∧ Q (.ref x) H'
        intro y S' H' cf co r
        unfold made at h
        split at h
        · rename_i o1 f1 heq
          cases heq
          have h : PO T v S H cell E Q (if backOk s as f1 = true then .ok o1 (give s as f1) else .er) := h
          by_cases hb : backOk s as f1 = true
          · rw [if_pos hb] at h
            obtain ⟨cell', c1, ga, gb, g3, g4, g5, g6⟩ := fin hb r.g r.st
            refine ⟨?_, h (.ref x) S' H' cell' c1 ⟨ga, gb, g3, g4, g5, g6⟩⟩
            cases r.o with
            | sh hd => cases hd; rfl
          · rw [if_neg hb] at h; exact False.elim h
        · rename_i heq; cases heq
        · exact False.elim h
      | ex k fs f =>
        rw [e] at h
        show PX T ((V.ref x :: xs).map some) S H1 (cellsL L) (fun c d _ H => E c d v H) k fs f
        intro S' H' cf d r
        unfold made at h
        split at h
        · rename_i heq; cases heq
        · rename_i k1 fs1 o1 f1 heq
          cases heq
          have h : PO T v S H cell E Q (if backOk s as f1 = true then .ex k fs (give s as f1) else .er) := h
          by_cases hb : backOk s as f1 = true
          · rw [if_pos hb] at h
            obtain ⟨cell', c1, ga, gb, g3, g4, g5, g6⟩ := fin hb r.g r.st
            exact h S' H' cell' d ⟨ga, r.x, g6⟩
          · rw [if_neg hb] at h; exact False.elim h
        · exact False.elim h
      | er =>
        rw [e] at h
        exact False.elim h
    · rw [if_neg nd] at h; exact False.elim h
end
end Vm

namespace Vm
open PySem L2 Evl

theorem lim_ok {n : Nat} (h : n ≤ lim) : n ≤ sizeLine := Nat.le_trans h (by decide)
theorem lim_lt {n : Nat} (h : n < lim) : n < sizeLine := Nat.lt_of_lt_of_le h (by decide)

section
variable {T : Tb} {v : St} {s : Env} {S H : Hp} {cell : Nat → List Addr} {E : WX} {Q : VK}
/-- a new list -/
theorem PO.newL {l : List D} {vs : List V} {p : Addr} (h : PO T v S H cell E Q (.ok (.ol l) s)) (g : Good T v s S H cell) (hp : H p = none) (k : HdL T S vs l) : Q (.ref p) (upd H p (.lst vs)) := by
  have hS := g.fresh hp
  exact h (.ref p) S _ cell [p] ⟨g.grow (Ex.new hp), .ol upd_same hS k, by simp, fun a ha c => (by
    have : a = p := by simpa using ha
    subst this
    exact g.notC hp c), fun a ha => (by
    have : a = p := by simpa using ha
    subst this
    exact hp), Step.grow (Ex.new hp)⟩
/-- a new tuple -/
theorem PO.newT {l : List D} {vs : List V} {p : Addr} (h : PO T v S H cell E Q (.ok (.sh (.tup l)) s)) (g : Good T v s S H cell) (hp : H p = none) (k : HdL T S vs l) : Q (.ref p) (upd H p (.tup vs)) := by
  have hS := g.fresh hp
  exact h (.ref p) _ _ cell [] (Res.sh (g.new hp) (.tup (st_of upd_same) (k.mono (Ex.new hS))) (Step.new hp hS))

theorem HdL.rep {vs : List V} {ds : List D} (k : HdL T S vs ds) : ∀ n : Nat, HdL T S (List.replicate n vs).flatten (List.replicate n ds).flatten
  | 0 => by simp; exact .nil
  | n + 1 => by
    rw [List.replicate_succ, List.replicate_succ, List.flatten_cons, List.flatten_cons]
    exact k.app (HdL.rep k n)
theorem HdL.ints : ∀ ns : List Int, HdL T S (ns.map V.int) (ns.map D.int)
  | [] => .nil
  | n :: r => .cons (.int n) (HdL.ints r)
theorem HdL.ofInts : ∀ {vs : List V} {ds : List D} {ns : List Int}, HdL T S vs ds → intsOf ds = some ns → vs = ns.map V.int ∧ ds = ns.map D.int
  | _, _, _, .nil, h => by
    have e : [] = _ := Option.some.inj h
    subst e
    exact ⟨rfl, rfl⟩
  | _, _, _, .cons (d := d) (ds := ds) h l, e => by
    cases d with
    | int i =>
      cases h
      have e2 : (intsOf ds).map (i :: ·) = some _ := e
      cases q : intsOf ds with
      | none => rw [q] at e2; cases e2
      | some ms =>
        rw [q] at e2
        have e3 := Option.some.inj e2
        obtain ⟨h1, h2⟩ := HdL.ofInts l q
        subst e3
        exact ⟨by rw [h1]; rfl, by rw [h2]; rfl⟩
    | _ => cases e
/-- pins down what a list of data is, in the library's own words -/
theorem hd_py {K : PySem.W.Frag} (hK : T.K = K) (e : Ex S H) : ∀ (d : D) (x : V) (p : PyData), Hd T S x d → toPy d = some p → Dp K H x p
  | .non, _, _, .non, h => by cases h; exact .non
  | .bl b, _, _, .bl _, h => by cases h; exact .bl b
  | .int i, _, _, .int _, h => by cases h; exact .int i
  | .str z, _, _, .str _, h => by cases h; exact .str z
  | .tup l, _, p, .tup q k, h => by
    unfold toPy at h
    cases z : toPyL l with
    | none => rw [z] at h; cases h
    | some ps =>
      rw [z] at h
      cases h
      subst hK
      exact .tup (ex_t e q) (hd_pyL rfl e l _ ps k z)
  | .lst l, _, p, .lst q k, h => by
    unfold toPy at h
    cases z : toPyL l with
    | none => rw [z] at h; cases h
    | some ps =>
      rw [z] at h
      cases h
      subst hK
      exact .lst (sq_of (e _ _ q)) (hd_pyL rfl e l _ ps k z)
where hd_pyL {K : PySem.W.Frag} (hK : T.K = K) (e : Ex S H) : ∀ (l : List D) (vs : List V) (ps : List PyData), HdL T S vs l → toPyL l = some ps → DpAll K H vs ps
  | [], _, _, .nil, h => by cases h; exact .nil
  | d :: r, _, _, .cons k l, h => by
    unfold toPyL at h
    cases z : toPy d with
    | none => rw [z] at h; cases h
    | some p =>
      cases y : toPyL r with
      | none => rw [z, y] at h; cases h
      | some q =>
        rw [z, y] at h
        cases h
        exact .cons (hd_py hK e d _ p k z) (hd_pyL hK e r _ q l y)
theorem flat_hd {d : D} {x : V} (h : Hd T S x d) (f : flatD d = true) : flatV x = true := by
  cases h <;> first | rfl | cases f
theorem flat_eq {d d' : D} {x y : V} (h : Hd T S x d) (k : Hd T S y d') (f : flatD d = true) (f' : flatD d' = true) : eqV x y = eqD d d' := by
  cases h <;> first | (cases f; done) | skip
  all_goals (cases k <;> first | (cases f'; done) | rfl)
theorem flat_all : ∀ {l : List D} {vs : List V}, HdL T S vs l → l.all flatD = true → vs.all flatV = true
  | _, _, .nil, _ => rfl
  | _, _, .cons h l, f => by
    rw [List.all_cons, Bool.and_eq_true] at f ⊢
    exact ⟨flat_hd h f.1, flat_all l f.2⟩
theorem in_flat {S1 S2 : Hp} {d : D} {x : V} (h : Hd T S1 x d) (f : flatD d = true) : ∀ {l : List D} {vs : List V}, HdL T S2 vs l → l.all flatD = true → inV x vs = inD d l
  | _, _, .nil, _ => rfl
  | _, _, .cons (v := y) (d := d') k l, g => by
    rw [List.all_cons, Bool.and_eq_true] at g
    have ih := in_flat h f l g.2
    have e : eqV y x = eqD d' d := by
      cases h <;> first | (cases f; done) | skip
      all_goals (cases k <;> first | (cases g.1; done) | rfl)
    unfold inV inD at ih ⊢
    rw [List.any_cons, List.any_cons, ih, e]
theorem in_hd {d : D} {x : V} (h : Hd T S x d) (f : flatD d = true) : ∀ {l : List D} {vs : List V}, HdL T S vs l → l.all flatD = true → inV x vs = inD d l
  | _, _, .nil, _ => rfl
  | _, _, .cons k l, g => by
    rw [List.all_cons, Bool.and_eq_true] at g
    have ih := in_hd h f l g.2
    unfold inV inD at ih ⊢
    rw [List.any_cons, List.any_cons, ih, flat_eq k h g.1 f]

theorem insI_mem (x : Int) : ∀ l : List Int, ∀ y, y ∈ insI x l → y = x ∨ y ∈ l
  | [], y, h => by
    have : y = x := by simpa [insI] using h
    exact .inl this
  | z :: r, y, h => by
    unfold insI at h
    split at h
    · rcases List.mem_cons.mp h with e | h
      · exact .inl e
      · exact .inr h
    · rcases List.mem_cons.mp h with e | h
      · exact .inr (e ▸ List.mem_cons_self)
      · exact (insI_mem x r y h).imp id (List.mem_cons_of_mem _)
theorem insI_perm (x : Int) : ∀ l : List Int, (insI x l).Perm (x :: l)
  | [] => List.Perm.refl _
  | z :: r => by
    unfold insI
    split
    · exact List.Perm.refl _
    · exact ((insI_perm x r).cons z).trans (List.Perm.swap x z r)
theorem insI_up (x : Int) : ∀ l : List Int, l.Pairwise (· ≤ ·) → (insI x l).Pairwise (· ≤ ·)
  | [], _ => by simp [insI]
  | z :: r, h => by
    obtain ⟨h1, h2⟩ := List.pairwise_cons.mp h
    unfold insI
    split
    · rename_i q
      exact List.pairwise_cons.mpr ⟨fun y hy => by
        rcases List.mem_cons.mp hy with e | hy
        · rw [e]; exact q
        · exact Int.le_trans q (h1 y hy), h⟩
    · rename_i q
      exact List.pairwise_cons.mpr ⟨fun y hy => by
        rcases insI_mem x r y hy with e | hy
        · rw [e]; omega
        · exact h1 y hy, insI_up x r h2⟩
theorem sortI_perm : ∀ l : List Int, (sortI l).Perm l
  | [] => List.Perm.refl _
  | x :: r => (insI_perm x (sortI r)).trans ((sortI_perm r).cons x)
theorem sortI_up : ∀ l : List Int, (sortI l).Pairwise (· ≤ ·)
  | [] => .nil
  | x :: r => insI_up x _ (sortI_up r)
theorem up_one : ∀ {l m : List Int}, l.Perm m → l.Pairwise (· ≤ ·) → m.Pairwise (· ≤ ·) → l = m
  | [], m, p, _, _ => (List.Perm.nil_eq p)
  | x :: l, [], p, _, _ => absurd p.symm (by simp)
  | x :: l, y :: m, p, h, k => by
    obtain ⟨h1, h2⟩ := List.pairwise_cons.mp h
    obtain ⟨k1, k2⟩ := List.pairwise_cons.mp k
    have e : x = y := by
      have a : x ∈ y :: m := p.subset List.mem_cons_self
      have b : y ∈ x :: l := p.symm.subset List.mem_cons_self
      rcases List.mem_cons.mp a with a | a
      · exact a
      · rcases List.mem_cons.mp b with b | b
        · exact b.symm
        · have := k1 x a
          have := h1 y b
          omega
    subst e
    rw [up_one (List.Perm.cons_inv p) h2 k2]
theorem sortI_one {l m : List Int} (p : m.Perm l) (h : m.Pairwise (· ≤ ·)) : m = sortI l := up_one (p.trans (sortI_perm l).symm) h (sortI_up l)

variable {X : Cx}
theorem opr_I {r : R2} {f : Value → Value → Sem Value} (h : OpR X f r) {x y : V} (q : r x y H Q) : wOp X f x y H Q := ⟨r, h, q⟩
theorem bin_ok (hK : X.K = T.K) {op : Operator} {d e : D} {x y : V} {o : O} (b : binD op d e = some o) (g : Good T v s S H cell) (h1 : Hd T S x d) (h2 : Hd T S y e) (h : PO T v S H cell E Q (.ok o s)) : wOp X (binaryOp op) x y H Q := by
  unfold binD at b
  split at b
  · cases h1; cases h2; cases b
    exact opr_I op_add ⟨_, _, rfl, rfl, h.sh g (.int _)⟩
  · cases h1; cases h2; cases b
    exact opr_I op_sub ⟨_, _, rfl, rfl, h.sh g (.int _)⟩
  · cases h1; cases h2
    split at b
    · rename_i c
      cases b
      have c2 := of_decide_eq_true c
      exact opr_I op_mul ⟨_, _, rfl, rfl, c2, h.sh g (.int _)⟩
    · cases b
  · cases h1; cases h2
    split at b
    · rename_i c
      cases b
      have c0 : (0 : Int) < _ := of_decide_eq_true (Bool.and_eq_true_iff.mp c).1
      have c1 := of_decide_eq_true (Bool.and_eq_true_iff.mp c).2
      exact opr_I op_fdivW ⟨_, _, rfl, rfl, wide_div c0 (b := 200) (by rw [← Int.toNat_of_nonneg (Int.le_of_lt c0)]; exact c1) (by decide) (by decide), h.sh g (.int _)⟩
    · cases b
  · cases h1; cases h2
    split at b
    · rename_i c
      cases b
      exact opr_I op_mod ⟨_, _, rfl, rfl, c, h.sh g (.int _)⟩
    · cases b
  · cases h1; cases h2
    split at b
    · rename_i c
      cases b
      exact opr_I op_pow ⟨_, _, rfl, rfl, ⟨c.1, by omega, by have := c.2.2; exact Nat.lt_trans this (by decide)⟩, h.sh g (.int _)⟩
    · cases b
  · split at b
    · rename_i c
      cases b
      cases h1 with
      | lst q1 k1 =>
        cases h2 with
        | lst q2 k2 =>
          refine opr_I op_cat ⟨_, _, _, _, rfl, rfl, g.ex _ _ q1, g.ex _ _ q2, lim_ok (by rw [k1.len, k2.len]; exact c), fun p hp => h.newL g hp (k1.app k2)⟩
    · cases b
  · split at b
    · rename_i c
      cases b
      cases h1 with
      | lst q1 k1 =>
        cases h2
        refine opr_I op_rep ⟨_, _, _, rfl, rfl, g.ex _ _ q1, by omega, by omega, lim_ok (by rw [k1.len]; exact c.2.2), fun p hp => h.newL g hp (k1.rep _)⟩
    · cases b
  · split at b
    · rename_i c
      cases b
      cases h1 with
      | tup q1 k1 =>
        cases h2 with
        | @tup p2 ys b2 q2 k2 =>
          rw [← hK] at q1 q2
          have hl := k1.len
          refine opr_I op_catA ⟨_, _, _, _, rfl, rfl, ex_t g.ex q1, ex_t g.ex q2, lim_ok (by rw [k1.len, k2.len]; exact c), fun z => ?_, fun _ z => ?_, fun _ z p hp => h.newT g hp (k1.app k2)⟩
          · subst z
            cases k1
            rw [List.nil_append] at h
            rw [hK] at q2
            exact h.sh g (.tup q2 k2)
          · subst z
            cases k2
            rw [List.append_nil] at h
            rw [hK] at q1
            exact h.sh g (.tup q1 k1)
    · cases b
  · cases b

theorem view (g : Ex S H) {x : V} {o : O} {c : List Addr} (h : Ow T S H x o c) : ∃ S2, Ex S S2 ∧ Ex S2 H ∧ Hd T S2 x (frz o) := by
  have hS : ∀ a ∈ c, S a = none := fun a ha => (h.no a ha).1
  exact ⟨join S H c, join_ex hS, join_sub g, h.frz hS fun _ ha => ha⟩
theorem view_lst (g : Ex S H) {x : V} {o : O} {c : List Addr} {l : List D} (h : Ow T S H x o c) (e : frz o = .lst l) : ∃ p vs, x = .ref p ∧ H p = some (.lst vs) ∧ HdL T S vs l := by
  cases h with
  | sh hd =>
    have e : _ = D.lst l := e
    subst e
    cases hd with
    | lst q k => exact ⟨_, _, rfl, g _ _ q, k⟩
  | ol q _ k =>
    have e2 : D.lst _ = D.lst l := e
    cases e2
    exact ⟨_, _, rfl, q, k⟩
  | oo _ _ _ _ => cases e
  | od _ _ _ => cases e
theorem view_tup (g : Ex S H) {x : V} {o : O} {c : List Addr} {l : List D} (h : Ow T S H x o c) (e : frz o = .tup l) : ∃ p vs, x = .ref p ∧ SqT T.K S p vs ∧ HdL T S vs l := by
  cases h with
  | sh hd =>
    have e : _ = D.tup l := e
    subst e
    cases hd with
    | tup q k => exact ⟨_, _, rfl, q, k⟩
  | ol q _ k => cases e
  | oo _ _ _ _ => cases e
  | od _ _ _ => cases e

theorem cmp_b {op : CmpOp} {r : R2} (h : OpR X (compareOp op) r) {x y : V} (q : r x y H Q) : wOp X (compareOp op) x y H Q := ⟨r, h, q⟩
/-- two things that read as data in order -/
def rOrd (K : PySem.W.Frag) (f : PyData → PyData → Bool) : R2 := fun x y H Q => ∃ p q, Dp K H x p ∧ Dp K H y q ∧ W.alike p q = true ∧ nonP p = false ∧ p.depth ≤ 60 ∧ Q (.bl (f p q)) H
theorem ord_hn {p : PyData} (h : nonP p = false) : p ≠ .none := by
  rintro rfl
  cases h
theorem ord_hu {A : Around} {p q : PyData} (hu : A.units + 64 < cLine) (h : p.depth ≤ 60) : A.units + min p.depth q.depth < cLine := by
  have : min p.depth q.depth ≤ p.depth := Nat.min_le_left _ _
  omega
theorem op_ltD (hu : X.A.units + 64 < cLine) : OpR X (compareOp .Lt) (rOrd X.K W.dataLt) := by
  intro pins s σ H x y v u Q I rx ry ⟨p, q, h1, h2, al, hn, hd, k⟩
  obtain ⟨as, r1⟩ := Dp.reads I p x v h1 rx
  obtain ⟨bs, r2⟩ := Dp.reads I q y u h2 ry
  exact W.lt_data r1 r2 al (ord_hn hn) (ord_hu hu hd) ⟨.bl _, H, I, rfl, k⟩
theorem op_gtD (hu : X.A.units + 64 < cLine) : OpR X (compareOp .Gt) (rOrd X.K fun p q => W.dataLt q p) := by
  intro pins s σ H x y v u Q I rx ry ⟨p, q, h1, h2, al, hn, hd, k⟩
  obtain ⟨as, r1⟩ := Dp.reads I p x v h1 rx
  obtain ⟨bs, r2⟩ := Dp.reads I q y u h2 ry
  exact W.gt_data r1 r2 al (ord_hn hn) (ord_hu hu hd) ⟨.bl _, H, I, rfl, k⟩
theorem op_leD (hu : X.A.units + 64 < cLine) : OpR X (compareOp .LtE) (rOrd X.K fun p q => !W.dataLt q p) := by
  intro pins s σ H x y v u Q I rx ry ⟨p, q, h1, h2, al, hn, hd, k⟩
  obtain ⟨as, r1⟩ := Dp.reads I p x v h1 rx
  obtain ⟨bs, r2⟩ := Dp.reads I q y u h2 ry
  exact W.le_data r1 r2 al (ord_hn hn) (ord_hu hu hd) ⟨.bl _, H, I, rfl, k⟩
theorem op_geD (hu : X.A.units + 64 < cLine) : OpR X (compareOp .GtE) (rOrd X.K fun p q => !W.dataLt p q) := by
  intro pins s σ H x y v u Q I rx ry ⟨p, q, h1, h2, al, hn, hd, k⟩
  obtain ⟨as, r1⟩ := Dp.reads I p x v h1 rx
  obtain ⟨bs, r2⟩ := Dp.reads I q y u h2 ry
  exact W.ge_data r1 r2 al (ord_hn hn) (ord_hu hu hd) ⟨.bl _, H, I, rfl, k⟩
theorem ord_ok {f : PyData → PyData → Bool} {d e : D} {x y : V} {b : Bool} (hK : X.K = T.K) {S1 S2 : Hp} (e1 : Ex S1 H) (e2 : Ex S2 H) (h1 : Hd T S1 x d) (h2 : Hd T S2 y e) (h : ordQ f d e = some b) (q : Q (.bl b) H) : rOrd X.K f x y H Q := by
  unfold ordQ at h
  cases z1 : toPy d with
  | none => rw [z1] at h; cases h
  | some p =>
    cases z2 : toPy e with
    | none => rw [z1, z2] at h; cases h
    | some p2 =>
      rw [z1, z2] at h
      have h : (if W.alike p p2 = true ∧ nonP p = false ∧ p.depth ≤ 60 then some (f p p2) else none) = some b := h
      split at h
      · rename_i c
        cases h
        exact ⟨p, p2, hd_py hK.symm e1 d x p h1 z1, hd_py hK.symm e2 e y p2 h2 z2, c.1, c.2.1, c.2.2, q⟩
      · cases h
theorem eq_ok {d e : D} {x y : V} {b : Bool} (hK : X.K = T.K) {S1 S2 : Hp} (e1 : Ex S1 H) (e2 : Ex S2 H) (h1 : Hd T S1 x d) (h2 : Hd T S2 y e) (h : eqQ d e = some b) (Q' : Bool → Prop) (q : Q' b) :
    (scal x y = true ∧ Q' (decide (x = y))) ∨ ∃ p p2, Dp X.K H x p ∧ Dp X.K H y p2 ∧ SeqAt.shaped p = true ∧ SeqAt.shaped p2 = true ∧ Q' (PyData.eqv p p2) := by
  unfold eqQ at h
  split at h
  · cases h1; cases h2; cases h
    exact .inl ⟨rfl, by simpa using q⟩
  · cases h1; cases h2; cases h
    exact .inl ⟨rfl, by simpa using q⟩
  · cases h1; cases h2; cases h
    exact .inl ⟨rfl, by simpa using q⟩
  · cases h1; cases h2; cases h
    exact .inl ⟨rfl, by simpa using q⟩
  · rename_i a b'
    cases z1 : toPyL a with
    | none => rw [z1] at h; cases h
    | some p =>
      cases z2 : toPyL b' with
      | none => rw [z1, z2] at h; cases h
      | some p2 =>
        rw [z1, z2] at h
        have h : (if SeqAt.shaped (.tuple p) = true ∧ SeqAt.shaped (.tuple p2) = true then some (PyData.eqv (.tuple p) (.tuple p2)) else none) = some b := h
        split at h
        · rename_i c
          cases h
          exact .inr ⟨_, _, hd_py hK.symm e1 _ x _ h1 (by unfold toPy; rw [z1]; rfl), hd_py hK.symm e2 _ y _ h2 (by unfold toPy; rw [z2]; rfl), c.1, c.2, q⟩
        · cases h
  · rename_i a b'
    cases z1 : toPyL a with
    | none => rw [z1] at h; cases h
    | some p =>
      cases z2 : toPyL b' with
      | none => rw [z1, z2] at h; cases h
      | some p2 =>
        rw [z1, z2] at h
        have h : (if SeqAt.shaped (.list p) = true ∧ SeqAt.shaped (.list p2) = true then some (PyData.eqv (.list p) (.list p2)) else none) = some b := h
        split at h
        · rename_i c
          cases h
          exact .inr ⟨_, _, hd_py hK.symm e1 _ x _ h1 (by unfold toPy; rw [z1]; rfl), hd_py hK.symm e2 _ y _ h2 (by unfold toPy; rw [z2]; rfl), c.1, c.2, q⟩
        · cases h
  · cases h
theorem items_seq {K : PySem.W.Frag} {d : D} {l : List D} {x : V} {S1 : Hp} (hK : K = T.K) (e1 : Ex S1 H) (h : Hd T S1 x d) (e : itemsD d = some l) : ∃ p vs, x = .ref p ∧ (SqL K H p vs ∨ SqT K H p vs) ∧ HdL T S1 vs l := by
  subst hK
  cases h with
  | tup q k => cases e; exact ⟨_, _, rfl, .inr (ex_t e1 q), k⟩
  | lst q k => cases e; exact ⟨_, _, rfl, .inl (sq_of (e1 _ _ q)), k⟩
  | _ => cases e
theorem cmp_ok (hK : X.K = T.K) (hu : X.A.units + 64 < cLine) {op : CmpOp} {d e : D} {x y : V} {b : Bool} {S1 S2 : Hp} (e1 : Ex S1 H) (e2 : Ex S2 H) (h1 : Hd T S1 x d) (h2 : Hd T S2 y e) (h : cmpD op d e = some b) (q : Q (.bl b) H) : wOp X (compareOp op) x y H Q := by
  unfold cmpD at h
  split at h
  · rcases eq_ok hK e1 e2 h1 h2 h (fun b => Q (.bl b) H) q with ⟨z1, z2⟩ | ⟨p, p2, z⟩
    · exact cmp_b op_eq ⟨z1, z2⟩
    · exact cmp_b (op_eqD hu) ⟨p, p2, z⟩
  · cases z : eqQ d e with
    | none => rw [z] at h; cases h
    | some k =>
      rw [z] at h
      cases h
      rcases eq_ok hK e1 e2 h1 h2 z (fun b => Q (.bl (!b)) H) q with ⟨z1, z2⟩ | ⟨p, p2, z⟩
      · exact cmp_b op_ne ⟨z1, z2⟩
      · exact cmp_b (op_neD hu) ⟨p, p2, z⟩
  · unfold ltQ at h
    split at h
    · cases h1; cases h2; cases h
      exact cmp_b op_lt ⟨_, _, rfl, rfl, q⟩
    · exact cmp_b (op_ltD hu) (ord_ok hK e1 e2 h1 h2 h q)
  · split at h
    · cases h1; cases h2; cases h
      exact cmp_b op_gt ⟨_, _, rfl, rfl, q⟩
    · exact cmp_b (op_gtD hu) (ord_ok hK e1 e2 h1 h2 h q)
  · unfold leQ at h
    split at h
    · cases h1; cases h2; cases h
      exact cmp_b op_le ⟨_, _, rfl, rfl, q⟩
    · exact cmp_b (op_leD hu) (ord_ok hK e1 e2 h1 h2 h q)
  · split at h
    · cases h1; cases h2; cases h
      exact cmp_b op_ge ⟨_, _, rfl, rfl, q⟩
    · exact cmp_b (op_geD hu) (ord_ok hK e1 e2 h1 h2 h q)
  · cases z : itemsD e with
    | none => rw [z] at h; cases h
    | some l =>
      rw [z] at h
      have h : (if flatD d = true ∧ l.all flatD = true then some (inD d l) else none) = some b := h
      split at h
      · rename_i c
        cases h
        obtain ⟨p, vs, rfl, hq, k⟩ := items_seq (K := X.K) hK e2 h2 z
        refine cmp_b op_in_seq ⟨p, vs, rfl, hq, flat_hd h1 c.1, flat_all k c.2, ?_⟩
        have : inV x vs = inD d l := by
          have h1' : Hd T S1 x d := h1
          have k' : HdL T S2 vs l := k
          -- flat values do not lean on the heap
          exact in_flat h1' c.1 k' c.2
        show Q (.bl (if false = true then !inV x vs else inV x vs)) H
        rw [if_neg Bool.false_ne_true, this]
        exact q
      · cases h
  · cases z : itemsD e with
    | none => rw [z] at h; cases h
    | some l =>
      rw [z] at h
      have h : (if flatD d = true ∧ l.all flatD = true then some (!inD d l) else none) = some b := h
      split at h
      · rename_i c
        cases h
        obtain ⟨p, vs, rfl, hq, k⟩ := items_seq (K := X.K) hK e2 h2 z
        refine cmp_b op_notIn_seq ⟨p, vs, rfl, hq, flat_hd h1 c.1, flat_all k c.2, ?_⟩
        have : inV x vs = inD d l := in_flat h1 c.1 k c.2
        show Q (.bl (if true = true then !inV x vs else inV x vs)) H
        rw [if_pos rfl, this]
        exact q
      · cases h
  · split at h
    · cases h2
      refine cmp_b op_isN ⟨rfl, ?_⟩
      split at h
      · cases h1; cases h; exact q
      · rename_i hn
        cases h
        have : decide (x = V.non) = false := decide_eq_false fun z => by
          subst z
          cases h1
          exact hn rfl
        rw [this]; exact q
    · cases h
  · split at h
    · cases h2
      refine cmp_b op_notN ⟨rfl, ?_⟩
      split at h
      · cases h1; cases h; exact q
      · rename_i hn
        cases h
        have : decide (x = V.non) = false := decide_eq_false fun z => by
          subst z
          cases h1
          exact hn rfl
        rw [this]; exact q
    · cases h
end
end Vm

namespace VmX
open PySem PySem.Spec PyProof.Rows
section
variable {prog : Program} {w : World} {A : Around} {E : Value → Shared → Prop} {s : Shared}
/-- the list that a tuple's items are gathered in -/
abbrev gath (h : Heap) (vs : List Value) : Heap := (h.push (seqObj "list" #[] 0)).update h.objs.size (Obj.mapSeq (· ++ vs.toArray))
theorem gather_tup {a : Addr} {vs : List Value} {Q : List Value → Shared → Prop} (ht : IsTup s.heap a vs.toArray) (hz : vs.length ≤ sizeLine) (h : Q vs { s with heap := gath s.heap vs }) : wpAny (model prog w) A (collect (.ref a)) Q E s := by
  obtain ⟨o, ho, hc, n, hd⟩ := ht
  have ho2 : (s.heap.push (seqObj "list" #[] 0)).get? a = some o := Heap.get?_push_of_some _ ho
  have hn : (s.heap.push (seqObj "list" #[] 0)).get? s.heap.objs.size = some (seqObj "list" #[] 0) := Heap.get?_push_size _ rfl
  have body : ∀ {P : Fin → Shared → Prop} {A' : Around} {E' : Value → Shared → Prop}, P (.done (.ret (.ref s.heap.objs.size))) { s with heap := gath s.heap vs } →
      wpAny (model prog w) A' (Builtin.List.listExtendWith (.ref s.heap.objs.size) (.ref a) (.ref s.heap.objs.size)) P E' { s with heap := s.heap.push (seqObj "list" #[] 0) } := fun {P A' E'} q => by
    unfold Builtin.List.listExtendWith
    refine wpAny_bind (wpAny_typeOf (T := "tuple") ⟨o, ho2, hc⟩ ?_)
    have yes : (Builtin.List.listSameRef (.ref s.heap.objs.size) (.ref a) || Value.type "tuple" == Value.type "list" || Value.type "tuple" == Value.type "tuple") = true := by
      rw [show (Value.type "tuple" == Value.type "tuple") = true from by decide, Bool.or_true]
    rw [if_pos yes]
    refine wpAny_bind (listItems_at ho2 hd (wpAny_bind (listItems_at (xs := #[]) (n := 0) hn rfl ?_)))
    rw [if_neg (by simp)]
    exact wpAny_bind (listUpdate_at (xs := #[]) (n := 0) hn rfl (wpAny_pure q) (Nat.zero_le _) (by
      show (#[] ++ vs.toArray).size ≤ sizeLine + 1
      simp only [Array.size_append, List.size_toArray, List.length_nil]
      omega))
  unfold collect
  refine wpAny_bind (wpAny_runValue (codeAny_builtin entry_proto_collect' ?_))
  show wpAny _ _ (newList [] >>= fun l => again (.builtin "list.__iadd__" ⟨[l, .ref a], []⟩)) _ _ s
  refine wpAny_bind (wpAny_newList (wpAny_pure ⟨Code.quiet_builtin _ (by decide +kernel), codeAny_builtin entry_list_iadd' (body ?_)⟩))
  have got := get?_update_seq hn (xs := #[]) (n := 0) (· ++ vs.toArray)
  show wpAny (model prog w) A (load s.heap.objs.size >>= fun o => match o.data with
    | .seq xs _ => pure xs.toList
    | _ => unsupported "internal:collect") Q E { s with heap := gath s.heap vs }
  refine wpAny_bind (wpAny_load got ?_)
  have e : ((#[] : Array Value) ++ vs.toArray).toList = vs := by simp
  show wpAny _ _ (pure ((#[] : Array Value) ++ vs.toArray).toList) Q E _
  rw [e]
  exact wpAny_pure h
theorem sorted_tup {a : Addr} {vs : List Value} {ns : List Int} {Q : Value → Shared → Prop} (ht : IsTup s.heap a vs.toArray) (hz : vs.length ≤ sizeLine) (hI : IntsAre vs ns)
    (h : ∀ out : List Value, SrtO.Srtd SrtO.ltIv out → SrtO.Stb SrtO.ltIv out vs → Q (.ref (s.heap.objs.size + 1)) { s with heap := sortedAll s.heap vs out.toArray }) : wpAny (model prog w) A (call (.builtin "sorted") [.ref a]) Q E s := by
  have size : (gath s.heap vs).objs.size = s.heap.objs.size + 1 := (Heap.size_update _ _ _).trans (size_push' _ _)
  have at_ : ((gath s.heap vs).push (seqObj "list" vs.toArray 0)).get? (s.heap.objs.size + 1) = some (seqObj "list" vs.toArray 0) := size ▸ Heap.get?_push_size _ rfl
  refine Calls.call_function_entry kind_sorted plain_sorted entry_sorted (args_sorted1 _) ?_
  unfold Builtin.«sorted»
  refine wpAny_bind (m := checkCount "sorted" 1 1 _) (wpAny_pure (wpAny_bind (gather_tup ht hz (wpAny_bind (wpAny_newList ?_ hz)))))
  show wpAny _ _ (holding [.ref (gath s.heap vs).objs.size] (call (.builtin "list.sort") [.ref (gath s.heap vs).objs.size] []) >>= fun _ => ret (.ref (gath s.heap vs).objs.size)) _ _ { s with heap := (gath s.heap vs).push (seqObj "list" vs.toArray 0) }
  rw [size]
  exact wpAny_bind (wpAny_holding (wpAny_call_entry slot_list_sort ⟨_, at_, rfl⟩ entry_list_sort (SrtO.list_sort_ord SrtO.swo_int at_ hz (fun h2 => SrtO.ints_sortable hI h2) fun out h1 h2 => ⟨_, rfl, wpAny_pure ⟨_, rfl, h out h1 h2⟩⟩) (args_list_sort _)))
end
end VmX
namespace Vm
open PySem PySem.Spec PyProof.Rows L2
theorem cr_sortedTup {X : Cx} : CallR X (.builtin "sorted") (fun vs H Q => ∃ (a : Addr) (ns : List Int), vs = [V.ref a] ∧ SqT X.K H a (ns.map V.int) ∧
    ∀ (ns' : List Int) (p : Addr), ns'.Perm ns → ns'.Pairwise (· ≤ ·) → H p = none → Q (.ref p) (upd H p (.lst (ns'.map V.int)))) := by
  intro pins s σ H vs us Q I r h
  obtain ⟨a, ns, rfl, hs, q⟩ := h
  obtain ⟨its, rv, ht, hz⟩ := I.tuple hs
  rw [Vals.ref1 r]
  have hi := rv.ints
  have hz' : ns.length ≤ sizeLine := by rwa [List.length_map] at hz
  refine VmX.sorted_tup ht (by rw [← rv.length]; exact hz) hi fun out h1 h2 => ?_
  obtain ⟨k1, k2, k3⟩ := SrtO.ints_out hi h1 h2
  obtain ⟨ep, at_⟩ := PyProof.Rows.sortedAll_at s.heap its out.toArray
  have hl : ((out.map SrtO.iv).map V.int).length ≤ sizeLine := by rw [List.length_map, k2.length_eq]; exact hz'
  exact ⟨.ref _, upd H (s.heap.objs.size + 1) (.lst ((out.map SrtO.iv).map V.int)), I.laid (t' := s.toks) (fun _ _ => PyProof.Rows.sortedAll_old) (Nat.le_succ _) ⟨hl, out, ep, vals_of_ints k1, at_⟩, rfl, q _ _ k2 k3 (I.hok.fresh (Nat.le_succ _))⟩
end Vm

namespace Vm
open PySem L2 Evl
section
variable {T : Tb} {v : St} {s : Env} {S H : Hp} {cell : Nat → List Addr} {E : WX} {Q : VK} {X : Cx}
theorem at_ok {l : List D} {vs : List V} {i : Int} {d : D} (k : HdL T S vs l) (h : atD l i = some d) : ∃ x, atI vs i = some x ∧ Hd T S x d := by
  unfold atD atI at h
  unfold atI
  rw [k.len]
  cases e : ixN l.length i with
  | none => rw [e] at h; cases h
  | some j =>
    rw [e] at h
    exact k.get h
theorem idx_ok (hK : X.K = T.K) {o : O} {d r : D} {x y : V} {c : List Addr} (g : Good T v s S H cell) (h1 : Ow T S H x o c) (h2 : Hd T S y d) (h : idxO o d = some r) (q : PO T v S H cell E Q (.ok (.sh r) s)) : wIx X x y H Q := by
  unfold idxO at h
  split at h
  · rename_i i
    cases h2
    split at h
    · cases h1 with
      | sh hd =>
        cases hd with
        | lst z k =>
          obtain ⟨w, e, hw⟩ := at_ok k h
          exact ⟨_, ix_list, _, _, _, w, rfl, rfl, sq_of (g.ex _ _ z), e, q.sh g hw⟩
    · cases h1 with
      | ol z _ k =>
        obtain ⟨w, e, hw⟩ := at_ok k h
        exact ⟨_, ix_list, _, _, _, w, rfl, rfl, sq_of z, e, q.sh g hw⟩
    · cases h1 with
      | sh hd =>
        cases hd with
        | tup z k =>
          obtain ⟨w, e, hw⟩ := at_ok k h
          rw [← hK] at z
          exact ⟨_, ix_tup, _, _, _, w, rfl, rfl, ex_t g.ex z, e, q.sh g hw⟩
    · cases h
  · cases h
theorem cut_ok {l : List D} {vs : List V} (lo hi : Option Int) (k : HdL T S vs l) : HdL T S (cutV vs lo hi) (cutD l lo hi) := by
  unfold cutV cutD
  rw [k.len]
  exact (k.drop _).take _
theorem slc_ok (hK : X.K = T.K) {o r : O} {x : V} {lo hi : Option Int} {c : List Addr} (g : Good T v s S H cell) (h1 : Ow T S H x o c) (h : slcO o lo hi = some r) (q : PO T v S H cell E Q (.ok r s)) : wSl X x lo hi H Q := by
  unfold slcO at h
  split at h
  · cases h
    cases h1 with
    | sh hd =>
      cases hd with
      | lst z k => exact ⟨_, sl_list, _, _, rfl, sq_of (g.ex _ _ z), fun p hp => q.newL g hp (cut_ok lo hi k)⟩
  · cases h
    cases h1 with
    | ol z _ k => exact ⟨_, sl_list, _, _, rfl, sq_of z, fun p hp => q.newL g hp (cut_ok lo hi k)⟩
  · rename_i ys
    cases h
    cases h1 with
    | sh hd =>
      cases hd with
      | @tup p vs _ z k =>
        have z0 := z
        rw [← hK] at z
        refine ⟨_, sl_tupA, _, _, rfl, ex_t g.ex z, fun w => ?_, fun _ p hp => q.newT g hp (cut_ok lo hi k)⟩
        have e : cutD ys lo hi = ys := by
          unfold cutD
          rw [← k.len, w.1, w.2, k.len]
          simp
        rw [e] at q
        exact q.sh g (.tup z0 k)
  · cases h

/-- arguments that are only looked at -/
inductive Vws (T : Tb) (S H : Hp) : List V → List D → Prop
  | nil : Vws T S H [] []
  | cons {x : V} {o : O} {c : List Addr} {xs : List V} {ds : List D} : Ow T S H x o c → Vws T S H xs ds → Vws T S H (x :: xs) (frz o :: ds)
theorem opd_ow (g : Good T v s S H cell) {x : V} {a : A} {o : O} (k : Opd T v S H x a) (h : a.res s = some o) : ∃ c, Ow T S H x o c := by
  obtain ⟨c, q⟩ := arg_of g k h
  exact ⟨c, q.ow⟩
theorem vws_of (g : Good T v s S H cell) : ∀ {xs : List V} {as : List A} {ds : List D}, Opds T v S H xs as → dsA s as = some ds → Vws T S H xs ds
  | _, _, _, .nil, h => by
    have e : [] = _ := Option.some.inj h
    subst e
    exact .nil
  | _, _, _, .cons (a := a) (as := as) k l, h => by
    unfold dsA at h
    cases e1 : a.res s with
    | none => rw [e1] at h; cases h
    | some o =>
      cases e2 : dsA s as with
      | none => rw [e1, e2] at h; cases h
      | some ds =>
        rw [e1, e2] at h
        have e := Option.some.inj h
        subst e
        obtain ⟨c, ow⟩ := opd_ow g k e1
        exact .cons ow (vws_of g l e2)
theorem Vws.one {xs : List V} {d : D} (h : Vws T S H xs [d]) : ∃ x o c, xs = [x] ∧ Ow T S H x o c ∧ frz o = d := by
  generalize e : [d] = l at h
  cases h with
  | nil => cases e
  | cons k r =>
    cases e
    cases r
    exact ⟨_, _, _, rfl, k, rfl⟩
theorem Vws.two {xs : List V} {d d' : D} (h : Vws T S H xs [d, d']) : ∃ x o c x' o' c', xs = [x, x'] ∧ Ow T S H x o c ∧ frz o = d ∧ Ow T S H x' o' c' ∧ frz o' = d' := by
  generalize e : [d, d'] = l at h
  cases h with
  | nil => cases e
  | cons k r =>
    cases e
    obtain ⟨x', o', c', e1, k', e2⟩ := r.one
    subst e1
    exact ⟨_, _, _, _, _, _, rfl, k, rfl, k', e2⟩
theorem view_int {x : V} {o : O} {c : List Addr} {i : Int} (h : Ow T S H x o c) (e : frz o = .int i) : x = .int i := by
  cases h with
  | sh hd =>
    have e : _ = D.int i := e
    subst e
    cases hd; rfl
  | ol _ _ _ => cases e
  | oo _ _ _ _ => cases e
  | od _ _ _ => cases e
theorem view_bl {x : V} {o : O} {c : List Addr} {i : Bool} (h : Ow T S H x o c) (e : frz o = .bl i) : x = .bl i := by
  cases h with
  | sh hd =>
    have e : _ = D.bl i := e
    subst e
    cases hd; rfl
  | ol _ _ _ => cases e
  | oo _ _ _ _ => cases e
  | od _ _ _ => cases e
theorem view_scr {x : V} {o : O} {c : List Addr} {ns : List Int} (h : Ow T S H x o c) (e : frz o = .scr ns) : ∃ p, x = .ref p ∧ SqL T.K S p (ns.map V.int) := by
  cases h with
  | sh hd =>
    have e : _ = D.scr ns := e
    subst e
    cases hd with
    | scr q => exact ⟨_, rfl, q⟩
  | ol _ _ _ => cases e
  | oo _ _ _ _ => cases e
  | od _ _ _ => cases e
def biV : Bi → Value
  | .len => .builtin "len" | .int => .type "int" | .bool => .type "bool" | .list => .type "list" | .tuple => .type "tuple" | .sorted => .builtin "sorted" | .range => .type "range" | .abs => .builtin "abs" | .sum => .builtin "sum"
  | .str => .type "str" | .min => .builtin "min" | .max => .builtin "max" | .any => .builtin "any" | .all => .builtin "all" | .zip => .type "zip" | .reversed => .type "reversed"
theorem boot_bi (b : Bi) : bootBuiltins (biN b) = some (biV b) := by
  cases b <;> decide +kernel
theorem HdL.ofBls : ∀ {l : List D} {vs : List V} {bs : List Bool}, HdL T S vs l → blsOf l = some bs → vs = bs.map V.bl
  | [], _, bs, h, e => by
    cases h
    cases e
    rfl
  | d :: r, _, bs, .cons h k, e => by
    unfold blsOf at e
    cases d <;> first | (cases e; done) | skip
    cases h
    cases q : blsOf r with
    | none => simp [q] at e
    | some cs =>
      simp [q] at e
      subst e
      rw [HdL.ofBls k q]
      rfl
theorem minI_ok : ∀ (ns : List Int) (m : Int), minI m ns ∈ m :: ns ∧ ∀ y ∈ m :: ns, minI m ns ≤ y
  | [], m => ⟨by simp [minI], fun y hy => by simp at hy; subst hy; exact Int.le_refl _⟩
  | x :: r, m => by
    unfold minI
    by_cases hx : x < m
    · rw [if_pos hx]
      obtain ⟨h1, h2⟩ := minI_ok r x
      have h0 := h2 _ List.mem_cons_self
      refine ⟨List.mem_cons_of_mem _ h1, fun y hy => ?_⟩
      rcases List.mem_cons.mp hy with rfl | hy
      · omega
      · exact h2 y hy
    · rw [if_neg hx]
      obtain ⟨h1, h2⟩ := minI_ok r m
      have h0 := h2 _ List.mem_cons_self
      refine ⟨?_, fun y hy => ?_⟩
      · rcases List.mem_cons.mp h1 with h | h
        · rw [h]; simp
        · simp [h]
      · rcases List.mem_cons.mp hy with rfl | hy
        · exact h0
        · rcases List.mem_cons.mp hy with rfl | hy
          · omega
          · exact h2 y (List.mem_cons_of_mem _ hy)
theorem maxI_ok : ∀ (ns : List Int) (m : Int), maxI m ns ∈ m :: ns ∧ ∀ y ∈ m :: ns, y ≤ maxI m ns
  | [], m => ⟨by simp [maxI], fun y hy => by simp at hy; subst hy; exact Int.le_refl _⟩
  | x :: r, m => by
    unfold maxI
    by_cases hx : m < x
    · rw [if_pos hx]
      obtain ⟨h1, h2⟩ := maxI_ok r x
      have h0 := h2 _ List.mem_cons_self
      refine ⟨List.mem_cons_of_mem _ h1, fun y hy => ?_⟩
      rcases List.mem_cons.mp hy with rfl | hy
      · omega
      · exact h2 y hy
    · rw [if_neg hx]
      obtain ⟨h1, h2⟩ := maxI_ok r m
      have h0 := h2 _ List.mem_cons_self
      refine ⟨?_, fun y hy => ?_⟩
      · rcases List.mem_cons.mp h1 with h | h
        · rw [h]; simp
        · simp [h]
      · rcases List.mem_cons.mp hy with rfl | hy
        · exact h0
        · rcases List.mem_cons.mp hy with rfl | hy
          · omega
          · exact h2 y (List.mem_cons_of_mem _ hy)
theorem view_dct (g : Ex S H) {x : V} {o : O} {c : List Addr} {l : List (Int × D)} (h : Ow T S H x o c) (e : frz o = .dct l) : ∃ p vs, x = .ref p ∧ H p = some (.dK vs) ∧ HdK T S vs l := by
  cases h with
  | sh hd =>
    have e : _ = D.dct l := e
    subst e
    cases hd with
    | dct q k => exact ⟨_, _, rfl, g _ _ q, k⟩
  | ol _ _ _ => cases e
  | oo _ _ _ _ => cases e
  | od q _ k =>
    have e2 : D.dct _ = D.dct l := e
    cases e2
    exact ⟨_, _, rfl, q, k⟩
theorem HdK.keys : ∀ {vs : List (Key × V)} {l : List (Int × D)}, HdK T S vs l → vs.map (fun kv => kV kv.1) = (l.map fun q => V.int q.1)
  | _, _, .nil => rfl
  | _, _, .cons _ k => by simp only [List.map_cons, HdK.keys k]; rfl
theorem HdK.len : ∀ {vs : List (Key × V)} {l : List (Int × D)}, HdK T S vs l → vs.length = l.length
  | _, _, .nil => rfl
  | _, _, .cons _ k => by simp [HdK.len k]
theorem HdK.get (i : Int) : ∀ {vs : List (Key × V)} {l : List (Int × D)}, HdK T S vs l → (∀ d, getK i l = some d → ∃ w, valV vs (.inl i) = some w ∧ Hd T S w d) ∧ (getK i l = none → valV vs (.inl i) = none)
  | _, _, .nil => ⟨fun _ h => (by cases h), fun _ => rfl⟩
  | _, _, .cons (k := j) (v := v) (d := d) h k => by
    have ih := HdK.get i k
    unfold getK
    by_cases e : j = i
    · subst e
      rw [if_pos rfl, valV_pos rfl]
      exact ⟨fun d' h' => (by cases h'; exact ⟨_, rfl, h⟩), fun h' => (by cases h')⟩
    · rw [if_neg e, valV_neg (fun z => e (by injection z))]
      exact ih
theorem bi_ok (hcm : X.calm = true) (hK : X.K = T.K) {b : Bi} {ds : List D} {o : O} {xs : List V} (g : Good T v s S H cell) (h : biD b ds = some o) (k : Vws T S H xs ds) (q : PO T v S H cell E Q (.ok o s)) : wC X (biV b) xs H Q := by
  unfold biD at h
  split at h
  · cases h
    obtain ⟨x, u, c, rfl, ow, e⟩ := k.one
    obtain ⟨p, vs, rfl, z, hl⟩ := view_tup g.ex ow e
    rw [← hK] at z
    refine ⟨_, call_len_seq, _, vs, rfl, .inr (ex_t g.ex z), ?_⟩
    rw [hl.len]
    exact q.sh g (.int _)
  · cases h
    obtain ⟨x, u, c, rfl, ow, e⟩ := k.one
    obtain ⟨p, vs, rfl, z, hl⟩ := view_lst g.ex ow e
    refine ⟨_, call_len_seq, _, vs, rfl, .inl (sq_of z), ?_⟩
    rw [hl.len]
    exact q.sh g (.int _)
  · cases h
    obtain ⟨x, u, c, rfl, ow, e⟩ := k.one
    cases view_int ow e
    exact ⟨_, call_int1, .inl ⟨_, rfl, q.sh g (.int _)⟩⟩
  · cases h
    obtain ⟨x, u, c, rfl, ow, e⟩ := k.one
    cases view_bl ow e
    exact ⟨_, call_int1, .inr ⟨_, rfl, q.sh g (.int _)⟩⟩
  · cases h
    obtain ⟨x, u, c, rfl, ow, e⟩ := k.one
    cases view_bl ow e
    exact ⟨_, call_bool1, .inr ⟨_, rfl, q.sh g (.bl _)⟩⟩
  · cases h
    obtain ⟨x, u, c, rfl, ow, e⟩ := k.one
    cases view_int ow e
    exact ⟨_, call_bool1, .inl ⟨_, rfl, q.sh g (.bl _)⟩⟩
  · cases h
    obtain ⟨x, u, c, rfl, ow, e⟩ := k.one
    obtain ⟨p, vs, rfl, z, hl⟩ := view_tup g.ex ow e
    rw [← hK] at z
    exact ⟨_, call_list_of, _, vs, rfl, .inr (ex_t g.ex z), fun p hp => q.newL g hp hl⟩
  · cases h
    obtain ⟨x, u, c, rfl, ow, e⟩ := k.one
    obtain ⟨p, vs, rfl, z, hl⟩ := view_lst g.ex ow e
    exact ⟨_, call_list_of, _, vs, rfl, .inl (sq_of z), fun p hp => q.newL g hp hl⟩
  · cases h
    obtain ⟨x, u, c, rfl, ow, e⟩ := k.one
    obtain ⟨p, rfl, z⟩ := view_scr ow e
    rw [← hK] at z
    exact ⟨_, call_list_of, _, _, rfl, .inl (ex_l g.ex z), fun p hp => q.newL g hp (HdL.ints _)⟩
  · cases h
    obtain ⟨x, u, c, rfl, ow, e⟩ := k.one
    obtain ⟨p, vs, rfl, z, hl⟩ := view_tup g.ex ow e
    have z0 := z
    rw [← hK] at z
    exact ⟨_, call_tuple_of, _, vs, rfl, .inr ⟨ex_t g.ex z, q.sh g (.tup z0 hl)⟩⟩
  · cases h
    obtain ⟨x, u, c, rfl, ow, e⟩ := k.one
    obtain ⟨p, vs, rfl, z, hl⟩ := view_lst g.ex ow e
    exact ⟨_, call_tuple_of, _, vs, rfl, .inl ⟨sq_of z, fun p hp => q.newT g hp hl⟩⟩
  · rename_i a
    cases en : intsOf a with
    | none => rw [en] at h; cases h
    | some ns =>
      rw [en] at h
      cases h
      obtain ⟨x, u, c, rfl, ow, e⟩ := k.one
      obtain ⟨p, vs, rfl, z, hl⟩ := view_lst g.ex ow e
      obtain ⟨rfl, _⟩ := hl.ofInts en
      refine ⟨_, cr_sortedI, _, ns, rfl, sq_of z, fun ns' p' perm up hp => ?_⟩
      rw [sortI_one perm up]
      exact q.newL g hp (HdL.ints _)
  · rename_i a
    cases en : intsOf a with
    | none => rw [en] at h; cases h
    | some ns =>
      rw [en] at h
      cases h
      obtain ⟨x, u, c, rfl, ow, e⟩ := k.one
      obtain ⟨p, vs, rfl, z, hl⟩ := view_tup g.ex ow e
      obtain ⟨rfl, _⟩ := hl.ofInts en
      rw [← hK] at z
      refine ⟨_, cr_sortedTup, _, ns, rfl, ex_t g.ex z, fun ns' p' perm up hp => ?_⟩
      rw [sortI_one perm up]
      exact q.newL g hp (HdL.ints _)
  · cases h
    obtain ⟨x, u, c, rfl, ow, e⟩ := k.one
    cases view_int ow e
    exact ⟨_, call_abs, _, rfl, q.sh g (.int _)⟩
  · rename_i a
    cases en : blsOf a with
    | none => rw [en] at h; cases h
    | some bs =>
      rw [en] at h
      cases h
      obtain ⟨x, u, c, rfl, ow, e⟩ := k.one
      obtain ⟨p, vs, rfl, z, hl⟩ := view_lst g.ex ow e
      cases hl.ofBls en
      exact ⟨_, cr_any hcm, _, bs, rfl, sq_of z, q.sh g (.bl _)⟩
  · rename_i a
    cases en : blsOf a with
    | none => rw [en] at h; cases h
    | some bs =>
      rw [en] at h
      cases h
      obtain ⟨x, u, c, rfl, ow, e⟩ := k.one
      obtain ⟨p, vs, rfl, z, hl⟩ := view_lst g.ex ow e
      cases hl.ofBls en
      exact ⟨_, cr_all hcm, _, bs, rfl, sq_of z, q.sh g (.bl _)⟩
  · rename_i a
    cases en : intsOf a with
    | none => rw [en] at h; cases h
    | some ns =>
      rw [en] at h
      cases h
      obtain ⟨x, u, c, rfl, ow, e⟩ := k.one
      obtain ⟨p, vs, rfl, z, hl⟩ := view_lst g.ex ow e
      obtain ⟨rfl, _⟩ := hl.ofInts en
      exact ⟨_, cr_sum hcm, _, ns, rfl, sq_of z, q.sh g (.int _)⟩
  · rename_i a
    cases en : intsOf a with
    | none => rw [en] at h; cases h
    | some ns =>
      rw [en] at h
      cases ns with
      | nil => cases h
      | cons n ns =>
        cases h
        obtain ⟨x, u, c, rfl, ow, e⟩ := k.one
        obtain ⟨p, vs, rfl, z, hl⟩ := view_lst g.ex ow e
        obtain ⟨rfl, _⟩ := hl.ofInts en
        obtain ⟨m1, m2⟩ := minI_ok ns n
        refine ⟨_, cr_min hcm, _, n :: ns, rfl, sq_of z, by simp, fun m hm hy => ?_⟩
        have : m = minI n ns := by have a := hy _ m1; have b := m2 _ hm; omega
        subst this
        exact q.sh g (.int _)
  · rename_i a
    cases en : intsOf a with
    | none => rw [en] at h; cases h
    | some ns =>
      rw [en] at h
      cases ns with
      | nil => cases h
      | cons n ns =>
        cases h
        obtain ⟨x, u, c, rfl, ow, e⟩ := k.one
        obtain ⟨p, vs, rfl, z, hl⟩ := view_lst g.ex ow e
        obtain ⟨rfl, _⟩ := hl.ofInts en
        obtain ⟨m1, m2⟩ := maxI_ok ns n
        refine ⟨_, cr_max hcm, _, n :: ns, rfl, sq_of z, by simp, fun m hm hy => ?_⟩
        have : m = maxI n ns := by have a := hy _ m1; have b := m2 _ hm; omega
        subst this
        exact q.sh g (.int _)
  · cases h
    obtain ⟨y1, o, c, y2, o2, c2, rfl, ow, e, ow2, e'⟩ := k.two
    cases view_int ow e
    cases view_int ow2 e'
    exact ⟨_, call_min2 hcm, _, _, rfl, q.sh g (.int _)⟩
  · cases h
    obtain ⟨y1, o, c, y2, o2, c2, rfl, ow, e, ow2, e'⟩ := k.two
    cases view_int ow e
    cases view_int ow2 e'
    exact ⟨_, call_max2 hcm, _, _, rfl, q.sh g (.int _)⟩
  · cases h
    obtain ⟨x, u, c, rfl, ow, e⟩ := k.one
    obtain ⟨p, vs, rfl, z, hl⟩ := view_dct g.ex ow e
    refine ⟨_, call_list_dK hcm, _, vs, rfl, z, fun p hp => q.newL g hp ?_⟩
    rw [hl.keys]
    have : ∀ l : List (Int × D), HdL T S (l.map fun q => V.int q.1) (l.map fun q => D.int q.1) := by
      intro l
      induction l with
      | nil => exact .nil
      | cons a r ih => exact .cons (.int _) ih
    exact this _
  · cases h
    obtain ⟨x, u, c, rfl, ow, e⟩ := k.one
    obtain ⟨p, vs, rfl, z, hl⟩ := view_dct g.ex ow e
    refine ⟨_, call_lenD, _, vs, rfl, z, ?_⟩
    rw [hl.len]
    exact q.sh g (.int _)
  · cases h
end
end Vm

namespace Vm
open PySem L2 Evl

/-- a class without __init__ -/
structure Mk0 (K : PySem.W.Frag) (C : Addr) : Prop where
  makes : PySem.W.makesIn K C = true
  init : PySem.W.findIn K (.ref C) "__init__" = some (some (.builtin "object.__init__"))
  top : PySem.W.mroIn K C (.type "object") = some true
  kp : PySem.W.keepIn K (.ref C) = true
/-- C.m is a static method: its record at p, its def at g -/
structure SMet (K : PySem.W.Frag) (C : Addr) (mc : Value) (m : Str) (p g : Addr) : Prop where
  at_ : PySem.W.findCls K (.ref C) mc m = some (.get (.builtin "staticmethod.__get__") (.ref p) .none (.ref C))
  rc : ∃ rest, PySem.W.recIn K p "staticmethod" = some (.ref g :: rest)
  kp : PySem.W.keepIn K (.ref g) = true
  hd : PySem.W.handedIn (.ref g) = true
/-- what the top has left -/
structure Fx (T : Tx) (t : Tt) (G : Ct) (mg : Str → Option Value) : Prop where
  nm : t.nm = T.nm
  gl : ∀ g x, t.gn g = some x → mg x = some (.ref (T.fa g)) ∧ PySem.W.keepIn T.K (.ref (T.fa g)) = true ∧ Binds T.K (T.fd g) (T.ps g) []
  cl : ∀ c x, t.cn c = some x → mg x = some (.ref (T.ca c)) ∧ T.isC c
  mkc : ∀ c g, G.mth c 0 = some g → Mk T.K (T.ca c) (T.fa g) ∧ Binds T.K (T.fd g) (T.ps g) []
  bl : ∀ b, mg (biN b) = none
  isi : mg "isinstance" = none
  gi : ∀ x i, (x, i) ∈ t.gi → ∃ u, mg x = some u ∧ RelV (.int i) u
  op : ∀ c op g, G.mth c (cmpN op) = some g → (op = .Eq ∨ op = .Lt ∨ op = .LtE) → PySem.W.findIn T.K (.ref (T.ca c)) (cmpInfo op).2.1 = some (some (.ref (T.fa g))) ∧ PySem.W.isFn T.K (.ref (T.fa g)) = true ∧ Binds T.K (T.fd g) (T.ps g) []
  opB : ∀ c op g, T.isC c → G.mth c (pinD op) = some g → PySem.W.findIn T.K (.ref (T.ca c)) (PySem.dunder op.info.2) = some (some (.ref (T.fa g))) ∧ PySem.W.isFn T.K (.ref (T.fa g)) = true ∧ PySem.W.selfFirst T.K (T.ca c) = true ∧ Binds T.K (T.fd g) (T.ps g) [] ∧
    ∃ fo ro rc, PySem.W.findIn T.K (.ref (T.ca c)) (dunderR op.info.2) = some rc ∧ (rc = none ∨ ∃ g : Addr, rc = some (.ref g)) ∧ PySem.W.findIn T.K (.type "int") (PySem.dunder op.info.2) = some fo ∧ PySem.W.findIn T.K (.type "int") (dunderR op.info.2) = some ro ∧ PySem.W.subIn T.K (.type "int") (.ref (T.ca c)) = some false
  m19 : ∀ c, G.mth c 19 = none
  inv : ∀ c g, T.isC c → G.mth c 20 = some g → PySem.W.findIn T.K (.ref (T.ca c)) "__invert__" = some (some (.ref (T.fa g))) ∧ PySem.W.isFn T.K (.ref (T.fa g)) = true ∧ Binds T.K (T.fd g) (T.ps g) []
  len : ∀ c g, T.isC c → G.mth c 18 = some g → PySem.W.findIn T.K (.ref (T.ca c)) "__len__" = some (some (.ref (T.fa g))) ∧ PySem.W.isFn T.K (.ref (T.fa g)) = true ∧ Binds T.K (T.fd g) (T.ps g) []
  prp : ∀ c f g, T.isC c → G.prp c f = some g → ∃ p, PropOf T.K (T.ca c) (T.nm f) p (T.fa g) ∧ Binds T.K (T.fd g) (T.ps g) []
  mt : ∀ c m g, T.isC c → G.mth c m = some g → Meth T.K (T.ca c) (T.nm m) (T.fa g) ∧ Binds T.K (T.fd g) (T.ps g) []
  na : ∀ c f, T.isC c → G.fld c f = true → NoAttr T.K (T.ca c) (T.nm f)
  /-- classes without __init__, constants of classes, special methods, static and class methods -/
  mk0 : ∀ c, T.isC c → (G.cst c 0).isSome = true → Mk0 T.K (T.ca c)
  con : ∀ c f d, T.isC c → f ≠ 0 → G.cst c f = some d → (∃ v u, Con T.K (T.ca c) (T.nm f) v u ∧ ∀ S, Hd T.toTb S v d) ∧ ∃ mc v u, ClX.CRead T.K (T.ca c) mc ∧ ClX.CVal T.K (T.ca c) mc (T.nm f) v u ∧ ∀ S, Hd T.toTb S v d
  getm : ∀ c g, T.isC c → G.mth c 14 = some g → PySem.W.findIn T.K (.ref (T.ca c)) "__getitem__" = some (some (.ref (T.fa g))) ∧ PySem.W.isFn T.K (.ref (T.fa g)) = true ∧ PySem.W.fnIn T.K (T.fa g) = true ∧ Binds T.K (T.fd g) (T.ps g) []
  setm : ∀ c g, T.isC c → G.mth c 15 = some g → PySem.W.findIn T.K (.ref (T.ca c)) "__setitem__" = some (some (.ref (T.fa g))) ∧ PySem.W.isFn T.K (.ref (T.fa g)) = true ∧ PySem.W.noSeq T.K (T.ca c) = true ∧ Binds T.K (T.fd g) (T.ps g) []
  calm : ∀ c g, T.isC c → G.mth c 17 = some g → StX.CallO T.K (T.ca c) (T.fa g) ∧ Binds T.K (T.fd g) (T.ps g) []
  smt : ∀ c m g k, T.isC c → G.smt c m = some (g, k) → Binds T.K (T.fd g) (T.ps g) [] ∧ ∃ mc p, ClX.CRead T.K (T.ca c) mc ∧ (k = true → ClX.CMet T.K (T.ca c) mc (T.nm m) p (T.fa g)) ∧ (k = false → SMet T.K (T.ca c) mc (T.nm m) p (T.fa g))
  tyF : mg "int" = none ∧ mg "bool" = none ∧ mg "str" = none ∧ mg "tuple" = none ∧ mg "list" = none
  insF : ∀ c, T.isC c → PySem.W.findIn T.K (.ref (T.ca c)) "__class__" = some (some (.builtin "object.__class__")) ∧ PySem.W.specialIn T.K (.builtin "object.__class__") "__get__" = some (some (.builtin "getset_descriptor.__get__")) ∧
    PySem.W.takesIn T.K (.builtin "object.__class__") = some true ∧ PySem.W.mroIn T.K (T.ca c) (.type "object") = some true
  kCC : ∀ c c', T.isC c → T.isC c' → PySem.W.kitOne T.K (.ref (T.ca c)) (.ref (T.ca c')) = some (c == c') ∧ PySem.W.notFirst T.K (T.ca c) (.ref (T.ca c')) = true
  kCB : ∀ c, T.isC c → ∀ z ∈ ["int", "bool", "str", "tuple", "list"], PySem.W.kitOne T.K (.ref (T.ca c)) (.type z) = some false
  kBC : ∀ c, T.isC c → ∀ z ∈ ["NoneType", "int", "bool", "str", "tuple", "list"], PySem.W.kitOne T.K (.type z) (.ref (T.ca c)) = some false
/-- where one stands -/
structure Xk (T : Tx) (t : Tt) (N : List Str) (G : Ct) (CX : CXT) (E : WX) (k : Nat) (sc : Scope) (X : Cx) : Prop where
  K : X.K = T.K
  fx : Fx T t G X.mg
  N : X.N = N
  nd : X.N.Nodup
  calm : X.calm = true
  sc : X.env.scope = sc
  room : Room (k + 2) X.A
  pass : ∀ σ, PassesAt CX X σ (WE E σ)
  nox : ∀ st H s e s', CX st H s (fun _ _ _ => False) e s' → False
  ln : ∀ g os, G.F g os ≠ .er → os.length = (T.ps g).length
  fn : ∀ g, FnOk X.prog X.w X.K X.mg X.base CX k (T.fa g) (T.fd g) (T.ps g) (spF T G.F g)

section
variable {T : Tx} {t : Tt} {N : List Str} {G : Ct} {CX : CXT} {E : WX} {k : Nat} {sc : Scope} {X : Cx}
theorem Xk.hu (x : Xk T t N G CX E k sc X) : X.A.units + 64 < cLine := x.room.units
theorem Xk.kindOf (x : Xk T t N G CX E k sc X) (y : Str) : X.env.kindOf y = sc.names.lookup y := by
  show X.env.scope.names.lookup y = _
  rw [x.sc]
theorem vis_of {y : Str} (h : visB sc y = true) : Vis sc y := by
  unfold visB at h
  unfold Vis
  split at h
  · exact .inl (by assumption)
  · exact .inr (.inl (by assumption))
  · exact .inr (.inr (by assumption))
  · cases h
theorem loc_of {y : Str} (h : locB sc y = true) : L2.Loc sc y := by
  unfold locB at h
  unfold L2.Loc
  split at h
  · exact .inl (by assumption)
  · exact .inr (by assumption)
  · cases h
theorem Xk.gl (x : Xk T t N G CX E k sc X) {y : Str} (h : glB sc y = true) : Gl X y := by
  unfold Gl
  rw [x.kindOf]
  unfold glB at h
  split at h
  · assumption
  · cases h
theorem odd_of {y : Str} (h : (!odd y) = true) : (y == ("__debug__" : Str)) = false ∧ (y == ("__classdict__" : Str)) = false ∧ y ≠ "__name__" := by
  unfold odd at h
  simp only [Bool.not_eq_true', Bool.or_eq_false_iff] at h
  exact ⟨h.1.1, h.1.2, beq_eq_false_iff_ne.mp h.2⟩
theorem b2 {a b : Bool} (h : (a && b) = true) : a = true ∧ b = true := Bool.and_eq_true_iff.mp h

theorem base_of {o : Expr} {f : Str} {env : PySem.Env} {w : Sem Value} (h : superB o = false) : attributeBase o f env w = w := by
  unfold attributeBase
  split
  · cases h
  · rfl
theorem wE_var (x : Xk T t N G CX E k sc X) {i : Nat} {y : Str} {pos : Pos} (h : slotB N sc i y = true) {v : St} {w : V} {H : Hp} {Q : VK} (hv : v[i]? = some (some w)) (q : Q w H) : wE X (.Name y pos) v H Q := by
  unfold slotB at h
  obtain ⟨h, h3⟩ := b2 h
  obtain ⟨h1, h2⟩ := b2 h
  obtain ⟨o1, o2, _⟩ := odd_of h3
  exact ⟨tVar i, pe_var (by rw [x.N]; exact beq_iff_eq.mp h1) (by rw [x.sc]; exact vis_of h2) o1 o2, w, hv, q⟩
/-- the parts of a row of fields -/
theorem Dn.split {T : Tb} {H : Hp} {f : Nat} : ∀ {fs : List Nat} {v w : V}, Dn T H v (fs ++ [f]) w → ∃ u, Dn T H v fs u ∧ Dn T H u [f] w
  | [], v, w, h => ⟨v, rfl, h⟩
  | g :: r, v, w, ⟨a, C, dx, fv, u, h1, h2, h3, k1, k2, h4⟩ => by
    obtain ⟨z, z1, z2⟩ := Dn.split (fs := r) h4
    exact ⟨z, ⟨a, C, dx, fv, u, h1, h2, h3, k1, k2, z1⟩, z2⟩
/-- a place is read -/
theorem wE_plc (x : Xk T t N G CX E k sc X) : ∀ (a : Vm.E) (e : Expr) (p : Pth), chk t N sc a (.ex e) = true → plc a = some p → ∀ {v : St} {r w : V} {H : Hp} {Q : VK}, v[p.i]? = some (some r) → Dn T.toTb H r p.fs w → Q w H → wE X e v H Q
  | .var i, e, p, h, hp, v, r, w, H, Q, hv, dn, q => by
    cases hp
    cases e <;> first | (cases h; done) | skip
    have dn : r = w := dn
    subst dn
    exact wE_var x h hv q
  | .attr a f, e, p, h, hp, v, r, w, H, Q, hv, dn, q => by
    unfold plc at hp
    cases z : plc a with
    | none => rw [z] at hp; cases hp
    | some p0 =>
      rw [z] at hp
      cases hp
      cases e <;> first | (cases h; done) | skip
      rename_i o n pos
      obtain ⟨h, h3⟩ := b2 h
      obtain ⟨h1, h2⟩ := b2 h
      have en : n = t.nm f := of_decide_eq_true h1
      obtain ⟨u, d1, d2⟩ := Dn.split dn
      obtain ⟨b, C, dx, fv, u', e1, e2, e3, c1, c2, e4⟩ := d2
      have e4 : u' = w := e4
      subst e4
      have hs : superB o = false := by simpa using h2
      refine ⟨tFld X.K (wE X o) n, pe_fld (wE_ok o) ?_, ?_⟩
      · exact base_of hs
      · refine wE_plc x a o p0 h3 z hv d1 ?_
        rw [en, x.fx.nm, x.K]
        exact ⟨b, C, dx, fv, u', e1, e2, c1, c2, e3, q⟩
  | .lit _, _, _, _, hp, _, _, _, _, _, _, _, _ => by cases hp
  | .glb _ _, _, _, _, hp, _, _, _, _, _, _, _, _ => by cases hp
  | .nil, _, _, _, hp, _, _, _, _, _, _, _, _ => by cases hp
  | .cons _ _, _, _, _, hp, _, _, _, _, _, _, _, _ => by cases hp
  | .tup _, _, _, _, hp, _, _, _, _, _, _, _, _ => by cases hp
  | .lst _, _, _, _, hp, _, _, _, _, _, _, _, _ => by cases hp
  | .bin _ _ _, _, _, _, hp, _, _, _, _, _, _, _, _ => by cases hp
  | .neg _, _, _, _, hp, _, _, _, _, _, _, _, _ => by cases hp
  | .inv _, _, _, _, hp, _, _, _, _, _, _, _, _ => by cases hp
  | .cmp _ _ _, _, _, _, hp, _, _, _, _, _, _, _, _ => by cases hp
  | .chn _ _ _ _ _, _, _, _, hp, _, _, _, _, _, _, _, _ => by cases hp
  | .not _, _, _, _, hp, _, _, _, _, _, _, _, _ => by cases hp
  | .and _ _, _, _, _, hp, _, _, _, _, _, _, _, _ => by cases hp
  | .or _ _, _, _, _, hp, _, _, _, _, _, _, _, _ => by cases hp
  | .ite _ _ _, _, _, _, hp, _, _, _, _, _, _, _, _ => by cases hp
  | .idx _ _, _, _, _, hp, _, _, _, _, _, _, _, _ => by cases hp
  | .slc _ _ _, _, _, _, hp, _, _, _, _, _, _, _, _ => by cases hp
  | .call _ _, _, _, _, hp, _, _, _, _, _, _, _, _ => by cases hp
  | .mk _ _, _, _, _, hp, _, _, _, _, _, _, _, _ => by cases hp
  | .meth _ _ _, _, _, _, hp, _, _, _, _, _, _, _, _ => by cases hp
  | .bi _ _, _, _, _, hp, _, _, _, _, _, _, _, _ => by cases hp
  | .isi _ _, _, _, _, hp, _, _, _, _, _, _, _, _ => by cases hp
  | .len _, _, _, _, hp, _, _, _, _, _, _, _, _ => by cases hp
  | .lrg _, _, _, _, hp, _, _, _, _, _, _, _, _ => by cases hp
  | .rng _, _, _, _, hp, _, _, _, _, _, _, _, _ => by cases hp
  | .zip _, _, _, _, hp, _, _, _, _, _, _, _, _ => by cases hp
  | .itr _, _, _, _, hp, _, _, _, _, _, _, _, _ => by cases hp
  | .pop _ _, _, _, _, hp, _, _, _, _, _, _, _, _ => by cases hp
  | .comp _ _ _ _ _, _, _, _, hp, _, _, _, _, _, _, _, _ => by cases hp

variable (T t N G) in
def SndE (a : Vm.E) (sc : Scope) (e : Expr) : Prop := ∀ {CX : CXT} {E : WX} {k : Nat} {X : Cx}, Xk T t N G CX E k sc X → ∀ {v : St} {s : Env} {S H : Hp} {cell : Nat → List Addr} {Q : VK}, Good T.toTb v s S H cell → PO T.toTb v S H cell E Q (asO (ev G a s)) → wE X e v H Q
variable (T t N G) in
def SndA (a : Vm.E) (sc : Scope) (es : List Expr) : Prop := ∀ {CX : CXT} {E : WX} {k : Nat} {X : Cx}, Xk T t N G CX E k sc X → ∀ {v : St} {s : Env} {S H : Hp} {cell : Nat → List Addr} {Q : List V → Hp → Prop}, Good T.toTb v s S H cell → PL T.toTb v S H cell E Q (asL (ev G a s)) → wA X es v H Q
variable (T t N G) in
def SndT (a : Vm.E) (sc : Scope) (e : Expr) : Prop := ∀ {CX : CXT} {E : WX} {k : Nat} {X : Cx}, Xk T t N G CX E k sc X → ∀ {v : St} {s : Env} {S H : Hp} {cell : Nat → List Addr} {Q : Bool → Hp → Prop}, Good T.toTb v s S H cell → PB T.toTb v S H cell E Q (tru a s (ev G a s)) → wT X e v H Q

variable {v : St} {s : Env} {S H : Hp} {cell : Nat → List Addr}
/-- a value that is shared at once -/
theorem SndE.d {a : Vm.E} {e : Expr} (h : SndE T t N G a sc e) (x : Xk T t N G CX E k sc X) {Q : VK} (g : Good T.toTb v s S H cell) (q : PD T.toTb v S H cell E Q (asD (ev G a s))) : wE X e v H Q := h x g (PO.ofD q)
/-- an operand -/
theorem SndE.p {a : Vm.E} {e : Expr} (h : SndE T t N G a sc e) (hc : chk t N sc a (.ex e) = true) (x : Xk T t N G CX E k sc X) {rest : Vm.E} {Q : VK} (g : Good T.toTb v s S H cell) (q : PA' T.toTb v S H cell E rest Q (pk a rest s (ev G a s))) : wE X e v H Q := by
  have other : PA' T.toTb v S H cell E rest Q ((asD (ev G a s)).bind fun d s => .ok (.val d) s) → wE X e v H Q := fun q => by
    refine h.d x g ?_
    cases z : asD (ev G a s) with
    | ok d s1 => rw [z] at q; exact fun y S' H' cell' g' hd st => q y S' H' cell' g' (.val hd) trivial st
    | ex c fs s1 => rw [z] at q; exact q
    | er => rw [z] at q; exact q
  unfold pk at q
  cases hp : plc a with
  | none => rw [hp] at q; exact other q
  | some p =>
    rw [hp] at q
    cases hu : getP s p with
    | none => simp only [hu] at q; exact other q
    | some u =>
      obtain ⟨r, w, cu, sp⟩ := g.at hu
      cases u with
      | sh d =>
        simp only [hu] at q
        have hd : Hd T.toTb S w d := by
          cases sp.ow with
          | sh hd => exact hd
        exact wE_plc x a e p hc hp sp.root sp.dn (q w S H cell g (.val hd) trivial Step.refl)
      | ol l =>
        simp only [hu] at q
        split at q
        · rename_i hf
          refine wE_plc x a e p hc hp sp.root sp.dn (q w S H cell g (.ref sp.root sp.dn) ?_ Step.refl)
          rcases Bool.or_eq_true_iff.mp hf with z | z
          · exact .inl (List.isEmpty_iff.mp z)
          · exact .inr z
        · obtain ⟨S', cell', g', hd, st⟩ := sp.share g rfl
          exact wE_plc x a e p hc hp sp.root sp.dn (q w S' H cell' g' (.val hd) trivial st)
      | oo c fs =>
        simp only [hu] at q
        split at q
        · rename_i hf
          refine wE_plc x a e p hc hp sp.root sp.dn (q w S H cell g (.ref sp.root sp.dn) ?_ Step.refl)
          rcases Bool.or_eq_true_iff.mp hf with z | z
          · exact .inl (List.isEmpty_iff.mp z)
          · exact .inr z
        · obtain ⟨S', cell', g', hd, st⟩ := sp.share g rfl
          exact wE_plc x a e p hc hp sp.root sp.dn (q w S' H cell' g' (.val hd) trivial st)
      | od l =>
        simp only [hu] at q
        split at q
        · rename_i hf
          refine wE_plc x a e p hc hp sp.root sp.dn (q w S H cell g (.ref sp.root sp.dn) ?_ Step.refl)
          rcases Bool.or_eq_true_iff.mp hf with z | z
          · exact .inl (List.isEmpty_iff.mp z)
          · exact .inr z
        · obtain ⟨S', cell', g', hd, st⟩ := sp.share g rfl
          exact wE_plc x a e p hc hp sp.root sp.dn (q w S' H cell' g' (.val hd) trivial st)
/-- an operand stays what it is, where the shared part grows and the heap is the same or it is a name -/
theorem Opd.step {T : Tb} {y : V} {a : A} {S1 H1 S2 H2 : Hp} {c1 c2 : Nat → List Addr} (o : Opd T v S1 H1 y a) (st : Step S1 H1 c1 S2 H2 c2) (h : H2 = H1 ∨ ∀ p, a = .ref p → p.fs = []) : Opd T v S2 H2 y a := by
  cases o with
  | val hd => exact .val (hd.mono st.ss)
  | @ref r p hr dn =>
    refine .ref hr ?_
    rcases h with rfl | h
    · exact dn
    · have e := h p rfl
      rw [e] at dn ⊢
      exact dn
/-- a simple expression is read, nothing is called -/
theorem simple_e (x : Xk T t N G CX E k sc X) {b : Vm.E} {e : Expr} (hs : simple b = true) (hc : chk t N sc b (.ex e) = true) (g : Good T.toTb v s S H cell) {d : D} {s' : Env} (h : asD (ev G b s) = .ok d s') :
    ∃ y S' cell', Good T.toTb v s' S' H cell' ∧ Hd T.toTb S' y d ∧ Step S H cell S' H cell' ∧ ∀ Q : VK, Q y H → wE X e v H Q := by
  cases b <;> first | (cases hs; done) | (cases e <;> cases hc; done) | skip
  · rename_i i
    cases e <;> first | (cases hc; done) | skip
    unfold ev at h
    unfold shareP at h
    cases hu : getP s ⟨i, []⟩ with
    | none => rw [hu] at h; cases h
    | some u =>
      obtain ⟨r, w, cu, sp⟩ := g.at hu
      have e1 : r = w := sp.dn
      subst e1
      cases u with
      | sh d0 =>
        rw [hu] at h
        cases h
        cases sp.ow with
        | sh hd => exact ⟨r, S, cell, g, hd, Step.refl, fun Q q => wE_var x hc sp.root q⟩
      | ol l =>
        rw [hu] at h
        cases h
        obtain ⟨S', cell', g', hd, st⟩ := sp.share g rfl
        exact ⟨r, S', cell', g', hd, st, fun Q q => wE_var x hc sp.root q⟩
      | oo c fs =>
        rw [hu] at h
        cases h
        obtain ⟨S', cell', g', hd, st⟩ := sp.share g rfl
        exact ⟨r, S', cell', g', hd, st, fun Q q => wE_var x hc sp.root q⟩
      | od l =>
        rw [hu] at h
        cases h
        obtain ⟨S', cell', g', hd, st⟩ := sp.share g rfl
        exact ⟨r, S', cell', g', hd, st, fun Q q => wE_var x hc sp.root q⟩
  · rename_i d0
    cases e <;> first | (cases hc; done) | skip
    rename_i c kk pos
    unfold ev at h
    cases h
    have key : ∃ y, Hd T.toTb S y d0 ∧ PE X (.Constant c kk pos) (tC y) := by
      have hc : litB d0 c = true := hc
      cases d0 <;> cases c <;> first | (cases hc; done) | skip
      · exact ⟨_, .non, pe_non⟩
      · cases beq_iff_eq.mp hc; exact ⟨_, .bl _, pe_bl⟩
      · cases beq_iff_eq.mp hc; exact ⟨_, .int _, pe_int⟩
      · cases beq_iff_eq.mp hc; exact ⟨_, .str _, pe_str⟩
    obtain ⟨y, hd, pe⟩ := key
    exact ⟨y, S, cell, g, hd, Step.refl, fun Q q => ⟨_, pe, q⟩⟩
  · rename_i gx d0
    cases e <;> first | (cases hc; done) | skip
    rename_i y pos
    unfold ev at h
    cases h
    obtain ⟨hc, h4⟩ := b2 hc
    obtain ⟨hc, h3⟩ := b2 hc
    obtain ⟨h1, h2⟩ := b2 hc
    have e1 : gx = y := beq_iff_eq.mp h1
    subst e1
    cases d0 <;> first | (cases h4; done) | skip
    rename_i i
    obtain ⟨u, hm, ru⟩ := x.fx.gi gx i (by simpa using h4)
    exact ⟨.int i, S, cell, g, .int i, Step.refl, fun Q q => ⟨_, pe_glob (x.gl h2) hm ru (odd_of h3).1, q⟩⟩
/-- the second expression, the first operand kept -/
theorem SndE.dk {b : Vm.E} {e : Expr} (h : SndE T t N G b sc e) (hc : chk t N sc b (.ex e) = true) (x : Xk T t N G CX E k sc X) {y : V} {a : A} (o : Opd T.toTb v S H y a) (f : firm b a) {Q : VK} {K : D → Env → R Vl} {Q0 : VK}
    (g : Good T.toTb v s S H cell) (q : PO T.toTb v S H cell E Q0 (asO ((asD (ev G b s)).bind K)))
    (go : ∀ d s1, asD (ev G b s) = .ok d s1 → ∀ z S1 H1 cell1, Good T.toTb v s1 S1 H1 cell1 → Hd T.toTb S1 z d → Opd T.toTb v S1 H1 y a → Step S H cell S1 H1 cell1 → PO T.toTb v S1 H1 cell1 E Q0 (asO (K d s1)) → Q z H1) : wE X e v H Q := by
  by_cases hn : ∀ p, a = .ref p → p.fs = []
  · exact h.d x g (PD.bindO q fun d s1 hr z S1 H1 cell1 g1 hd st q1 => go d s1 hr z S1 H1 cell1 g1 hd (o.step st (.inr hn)) st q1)
  · have hs : simple b = true := by
      cases a with
      | val d => exact absurd (fun p z => by cases z) hn
      | ref p =>
        rcases f with z | z
        · exact absurd (fun p' z' => by cases z'; exact z) hn
        · exact z
    cases hr : asD (ev G b s) with
    | ok d s1 =>
      rw [hr] at q
      obtain ⟨z, S1, cell1, g1, hd, st, wq⟩ := simple_e x hs hc g hr
      exact wq Q (go d s1 hr z S1 H cell1 g1 hd (o.step st (.inl rfl)) st (PO.step st q))
    | ex c fs s1 =>
      rw [hr] at q
      -- a simple expression raises nothing
      exfalso
      cases b <;> first | (cases hs; done) | skip
      · unfold ev shareP at hr
        split at hr <;> cases hr
      · cases hr
      · cases hr
      · cases hr
      · rename_i b1 b2'
        cases e <;> cases hc
    | er => rw [hr] at q; exact False.elim q
end
end Vm

namespace Vm
open PySem L2 Evl
section
variable {T : Tx} {t : Tt} {N : List Str} {G : Ct} {CX : CXT} {E : WX} {k : Nat} {sc : Scope} {X : Cx} {v : St} {s : Env} {S H : Hp} {cell : Nat → List Addr}

theorem star_of {e : Expr} {es : List Expr} {env : PySem.Env} (h : starB e = false) : starEach (e :: es) env = (false, eval e env) :: starEach es env := by
  cases e <;> first | rfl | cases h
theorem asL_bind {α : Type} (r : R α) (f : α → Env → R Vl) : asL (r.bind f) = r.bind fun a s => asL (f a s) := by cases r <;> rfl
theorem asO_bind {α : Type} (r : R α) (f : α → Env → R Vl) : asO (r.bind f) = r.bind fun a s => asO (f a s) := by cases r <;> rfl
theorem asD_bind {α : Type} (r : R α) (f : α → Env → R Vl) : asD (r.bind f) = r.bind fun a s => asD (f a s) := by cases r <;> rfl
theorem bind_bind {α β γ : Type} (r : R α) (f : α → Env → R β) (g : β → Env → R γ) : (r.bind f).bind g = r.bind fun a s => (f a s).bind g := by cases r <;> rfl

theorem snd_nil : SndA T t N G .nil sc [] := by
  intro CX E k X x v s S H cell Q g q
  exact ⟨tNil, pa_nil, q [] S H cell g .nil Step.refl⟩
/-- a simple operand: read as it stands -/
theorem simple_p (x : Xk T t N G CX E k sc X) (g : Good T.toTb v s S H cell) {a rest : Vm.E} {e : Expr} (hs1 : simple a = true) (hc2 : chk t N sc a (.ex e) = true) : ∀ z s1, pk a rest s (ev G a s) = .ok z s1 → s1 = s ∧ ∃ y, Opd T.toTb v S H y z ∧ ∀ Q : VK, Q y H → wE X e v H Q := by
  intro z s1 hz
  cases a with
  | nil => cases e <;> cases hc2
  | cons _ _ => cases e <;> cases hc2
  | var i =>
    unfold pk at hz
    have ep : plc (.var i) = some ⟨i, []⟩ := rfl
    rw [ep] at hz
    cases hu : getP s ⟨i, []⟩ with
    | none =>
      simp only [hu] at hz
      unfold ev shareP at hz
      rw [hu] at hz
      cases hz
    | some u =>
      obtain ⟨r, w, cu, sp⟩ := g.at hu
      cases u with
      | sh d =>
        simp only [hu] at hz
        cases hz
        refine ⟨rfl, w, ?_, fun Q q => wE_plc x (.var i) e _ hc2 rfl sp.root sp.dn q⟩
        cases sp.ow with
        | sh hd => exact .val hd
      | ol l =>
        simp only [hu] at hz
        cases hz
        exact ⟨rfl, w, .ref sp.root sp.dn, fun Q q => wE_plc x (.var i) e _ hc2 rfl sp.root sp.dn q⟩
      | oo c fs =>
        simp only [hu] at hz
        cases hz
        exact ⟨rfl, w, .ref sp.root sp.dn, fun Q q => wE_plc x (.var i) e _ hc2 rfl sp.root sp.dn q⟩
      | od l =>
        simp only [hu] at hz
        cases hz
        exact ⟨rfl, w, .ref sp.root sp.dn, fun Q q => wE_plc x (.var i) e _ hc2 rfl sp.root sp.dn q⟩
  | lit d0 =>
    have hz : (asD (ev G (.lit d0) s)).bind (fun d s => R.ok (A.val d) s) = .ok z s1 := hz
    obtain ⟨y, S', cell', g', hd, st, wq⟩ := simple_e x (b := .lit d0) rfl hc2 g (d := d0) (s' := s) (by unfold ev; rfl)
    have e2 : z = .val d0 ∧ s1 = s := by unfold ev at hz; cases hz; exact ⟨rfl, rfl⟩
    obtain ⟨rfl, rfl⟩ := e2
    have key : Hd T.toTb S y d0 := by
      cases e with
      | Constant c kk pos =>
        have hc2 : litB d0 c = true := hc2
        cases d0 with
        | non => cases hd; exact .non
        | bl b => cases hd; exact .bl _
        | int i => cases hd; exact .int _
        | str i => cases hd; exact .str _
        | _ => cases c <;> cases hc2
      | _ => cases hc2
    exact ⟨rfl, y, .val key, wq⟩
  | glb gx d0 =>
    have hz : (asD (ev G (.glb gx d0) s)).bind (fun d s => R.ok (A.val d) s) = .ok z s1 := hz
    obtain ⟨y, S', cell', g', hd, st, wq⟩ := simple_e x (b := .glb gx d0) rfl hc2 g (d := d0) (s' := s) (by unfold ev; rfl)
    have e2 : z = .val d0 ∧ s1 = s := by unfold ev at hz; cases hz; exact ⟨rfl, rfl⟩
    obtain ⟨rfl, rfl⟩ := e2
    have key : Hd T.toTb S y d0 := by
      cases e with
      | Name y' pos =>
        have h4 := (b2 hc2).2
        cases d0 with
        | int i => cases hd; exact .int _
        | _ => cases h4
      | _ => cases hc2
    exact ⟨rfl, y, .val key, wq⟩
  | _ => cases hs1
/-- simple arguments: read as they stand -/
theorem simple_l (x : Xk T t N G CX E k sc X) (g : Good T.toTb v s S H cell) : ∀ {b : Vm.E} {es : List Expr} {l : List A} {s' : Env}, simple b = true → chk t N sc b (.ar es) = true → asL (ev G b s) = .ok l s' → s' = s ∧ ∃ ys, Opds T.toTb v S H ys l ∧ ∀ Q : List V → Hp → Prop, Q ys H → wA X es v H Q
  | .nil, [], l, s', _, _, h => by
    cases h
    exact ⟨rfl, [], .nil, fun Q q => ⟨tNil, pa_nil, q⟩⟩
  | .cons a b, e :: es, l, s', hs, hc, h => by
    obtain ⟨hs1, hs2⟩ := b2 hs
    obtain ⟨hc, hc3⟩ := b2 hc
    obtain ⟨hc1, hc2⟩ := b2 hc
    have hst : starB e = false := by simpa using hc1
    have h0 : asL ((pk a b s (ev G a s)).bind fun x s => (asL (ev G b s)).bind fun l s => .ok (.l (x :: l)) s) = .ok l s' := h
    clear h
    have first := simple_p x g (a := a) (rest := b) hs1 hc2
    cases hz : pk a b s (ev G a s) with
    | ok z s1 =>
      rw [hz] at h0
      have h1 : asL ((asL (ev G b s1)).bind fun l s => R.ok (.l (z :: l)) s) = .ok l s' := h0
      clear h0
      obtain ⟨es1, y, oz, wz⟩ := first z s1 hz
      cases hl : asL (ev G b s1) with
      | ok l2 s2 =>
        rw [hl] at h1
        have hl' : asL (ev G b s) = .ok l2 s2 := by rw [← es1]; exact hl
        obtain ⟨es2, ys, os, wq⟩ := simple_l x g hs2 hc3 hl'
        cases h1
        exact ⟨es2, y :: ys, .cons oz os, fun Q q => ⟨tCons (wE X e) (wA X es), pa_cons (wE_ok e) (wA_ok es) (star_of hst), wz _ (wq _ q)⟩⟩
      | ex c fs s2 => rw [hl] at h1; cases h1
      | er => rw [hl] at h1; cases h1
    | ex c fs s1 => rw [hz] at h0; cases h0
    | er => rw [hz] at h0; cases h0
  | .nil, _ :: _, _, _, _, hc, _ => by cases hc
  | .cons _ _, [], _, _, _, hc, _ => by cases hc
  | .var _, es, _, _, _, hc, _ => by cases es <;> cases hc
  | .lit _, es, _, _, _, hc, _ => by cases es <;> cases hc
  | .glb _ _, es, _, _, _, hc, _ => by cases es <;> cases hc
theorem snd_cons {a b : Vm.E} {e : Expr} {es : List Expr} (ha : SndE T t N G a sc e) (hca : chk t N sc a (.ex e) = true) (hb : SndA T t N G b sc es) (hcb : chk t N sc b (.ar es) = true) (hst : starB e = false) : SndA T t N G (.cons a b) sc (e :: es) := by
  intro CX E k X x v s S H cell Q g q
  have q : PL T.toTb v S H cell E Q (asL ((pk a b s (ev G a s)).bind fun x s => (asL (ev G b s)).bind fun l s => .ok (.l (x :: l)) s)) := q
  rw [asL_bind] at q
  refine ⟨tCons (wE X e) (wA X es), pa_cons (wE_ok e) (wA_ok es) (star_of hst), ?_⟩
  show wE X e v H fun y H1 => wA X es v H1 fun ys H2 => Q (y :: ys) H2
  refine ha.p hca x (rest := b) g ?_
  cases hz : pk a b s (ev G a s) with
  | ok z s1 =>
    rw [hz] at q
    intro y S1 H1 cell1 g1 oz fz st1
    have q : PL T.toTb v S H cell E Q (asL ((asL (ev G b s1)).bind fun l s => .ok (.l (z :: l)) s)) := q
    rw [asL_bind] at q
    by_cases hn : ∀ p, z = .ref p → p.fs = []
    · refine hb x g1 ?_
      cases hl : asL (ev G b s1) with
      | ok l s2 =>
        rw [hl] at q
        exact fun ys S2 H2 cell2 g2 os st2 => q (y :: ys) S2 H2 cell2 g2 (.cons (oz.step st2 (.inr hn)) os) (st1.trans st2)
      | ex c fs s2 => rw [hl] at q; exact PX.step st1 q
      | er => rw [hl] at q; exact q
    · have hs : simple b = true := by
        cases z with
        | val d => exact absurd (fun p w => by cases w) hn
        | ref p =>
          rcases fz with w | w
          · exact absurd (fun p' w' => by cases w'; exact w) hn
          · exact w
      cases hl : asL (ev G b s1) with
      | ok l s2 =>
        rw [hl] at q
        obtain ⟨es2, ys, os, wq⟩ := simple_l x g1 hs hcb hl
        rw [es2] at q
        exact wq _ (q (y :: ys) S1 H1 cell1 g1 (.cons oz os) st1)
      | ex c fs s2 =>
        rw [hl] at q
        refine hb x g1 ?_
        rw [hl]
        exact PX.step st1 q
      | er => rw [hl] at q; exact False.elim q
  | ex c fs s1 => rw [hz] at q; exact q
  | er => rw [hz] at q; exact q

/-- all of them shared -/
theorem shA_ok : ∀ {l : List A} {xs : List V} {s s' : Env} {S : Hp} {cell : Nat → List Addr} {ds : List D}, Good T.toTb v s S H cell → Opds T.toTb v S H xs l → shA l s = some (ds, s') → ∃ S' cell', Good T.toTb v s' S' H cell' ∧ HdL T.toTb S' xs ds ∧ Step S H cell S' H cell'
  | [], _, s, s', S, cell, ds, g, .nil, h => by
    cases h
    exact ⟨S, cell, g, .nil, Step.refl⟩
  | .val d :: r, _, s, s', S, cell, ds, g, .cons (.val hd) os, h => by
    unfold shA at h
    cases hz : shA r s with
    | none => rw [hz] at h; cases h
    | some q =>
      rw [hz] at h
      cases h
      obtain ⟨S', cell', g', hl, st⟩ := shA_ok (ds := q.1) (s' := q.2) g os hz
      exact ⟨S', cell', g', .cons (hd.mono st.ss) hl, st⟩
  | .ref p :: r, _, s, s', S, cell, ds, g, .cons (x := y) (.ref hr dn) os, h => by
    unfold shA shareP at h
    cases hu : getP s p with
    | none => rw [hu] at h; cases h
    | some u =>
      obtain ⟨r0, w, cu, sp⟩ := g.at hu
      have e1 : y = w := by
        have e := sp.root
        rw [hr] at e
        cases e
        exact Dn.uniq dn sp.dn
      subst e1
      cases u with
      | sh d =>
        simp only [hu] at h
        have hd : Hd T.toTb S y d := by
          cases sp.ow with
          | sh hd => exact hd
        cases hz : shA r s with
        | none => rw [hz] at h; cases h
        | some q =>
          rw [hz] at h
          cases h
          obtain ⟨S', cell', g', hl, st⟩ := shA_ok (ds := q.1) (s' := q.2) g os hz
          exact ⟨S', cell', g', .cons (hd.mono st.ss) hl, st⟩
      | ol l =>
        simp only [hu] at h
        obtain ⟨S1, cell1, g1, hd, st1⟩ := sp.share g rfl
        cases hz : shA r (setP s p (.sh (frz (.ol l)))) with
        | none => rw [hz] at h; cases h
        | some q =>
          rw [hz] at h
          cases h
          obtain ⟨S', cell', g', hl, st⟩ := shA_ok (ds := q.1) (s' := q.2) g1 (opds_ex st1.ss (Ex.refl H) os) hz
          exact ⟨S', cell', g', .cons (hd.mono st.ss) hl, st1.trans st⟩
      | oo c fs =>
        simp only [hu] at h
        obtain ⟨S1, cell1, g1, hd, st1⟩ := sp.share g rfl
        cases hz : shA r (setP s p (.sh (frz (.oo c fs)))) with
        | none => rw [hz] at h; cases h
        | some q =>
          rw [hz] at h
          cases h
          obtain ⟨S', cell', g', hl, st⟩ := shA_ok (ds := q.1) (s' := q.2) g1 (opds_ex st1.ss (Ex.refl H) os) hz
          exact ⟨S', cell', g', .cons (hd.mono st.ss) hl, st1.trans st⟩
      | od l =>
        simp only [hu] at h
        obtain ⟨S1, cell1, g1, hd, st1⟩ := sp.share g rfl
        cases hz : shA r (setP s p (.sh (frz (.od l)))) with
        | none => rw [hz] at h; cases h
        | some q =>
          rw [hz] at h
          cases h
          obtain ⟨S', cell', g', hl, st⟩ := shA_ok (ds := q.1) (s' := q.2) g1 (opds_ex st1.ss (Ex.refl H) os) hz
          exact ⟨S', cell', g', .cons (hd.mono st.ss) hl, st1.trans st⟩
theorem chk_len : ∀ {a : Vm.E} {es : List Expr}, chk t N sc a (.ar es) = true → ∀ {l : List A} {s s' : Env}, asL (ev G a s) = .ok l s' → l.length = es.length
  | .nil, [], _, l, s, s', h => by cases h; rfl
  | .cons a b, e :: es, hc, l, s, s', h => by
    obtain ⟨_, hc3⟩ := b2 hc
    have h : asL ((pk a b s (ev G a s)).bind fun x s => (asL (ev G b s)).bind fun l s => .ok (.l (x :: l)) s) = .ok l s' := h
    rw [asL_bind] at h
    cases hz : pk a b s (ev G a s) with
    | ok z s1 =>
      rw [hz] at h
      have h : asL ((asL (ev G b s1)).bind fun l s => R.ok (.l (z :: l)) s) = .ok l s' := h
      rw [asL_bind] at h
      cases hl : asL (ev G b s1) with
      | ok l2 s2 =>
        rw [hl] at h
        cases h
        have := chk_len hc3 hl
        simp [this]
      | ex c fs s2 => rw [hl] at h; cases h
      | er => rw [hl] at h; cases h
    | ex c fs s1 => rw [hz] at h; cases h
    | er => rw [hz] at h; cases h
  | .nil, _ :: _, hc, _, _, _, _ => by cases hc
  | .cons _ _, [], hc, _, _, _, _ => by cases hc
  | .var _, es, hc, _, _, _, _ => by cases es <;> cases hc
  | .lit _, es, hc, _, _, _, _ => by cases es <;> cases hc
  | .glb _ _, es, hc, _, _, _, _ => by cases es <;> cases hc
  | .tup _, es, hc, _, _, _, _ => by cases es <;> cases hc
  | .lst _, es, hc, _, _, _, _ => by cases es <;> cases hc
  | .bin _ _ _, es, hc, _, _, _, _ => by cases es <;> cases hc
  | .neg _, es, hc, _, _, _, _ => by cases es <;> cases hc
  | .inv _, es, hc, _, _, _, _ => by cases es <;> cases hc
  | .cmp _ _ _, es, hc, _, _, _, _ => by cases es <;> cases hc
  | .chn _ _ _ _ _, es, hc, _, _, _, _ => by cases es <;> cases hc
  | .not _, es, hc, _, _, _, _ => by cases es <;> cases hc
  | .and _ _, es, hc, _, _, _, _ => by cases es <;> cases hc
  | .or _ _, es, hc, _, _, _, _ => by cases es <;> cases hc
  | .ite _ _ _, es, hc, _, _, _, _ => by cases es <;> cases hc
  | .idx _ _, es, hc, _, _, _, _ => by cases es <;> cases hc
  | .slc _ _ _, es, hc, _, _, _, _ => by cases es <;> cases hc
  | .attr _ _, es, hc, _, _, _, _ => by cases es <;> cases hc
  | .call _ _, es, hc, _, _, _, _ => by cases es <;> cases hc
  | .mk _ _, es, hc, _, _, _, _ => by cases es <;> cases hc
  | .meth _ _ _, es, hc, _, _, _, _ => by cases es <;> cases hc
  | .bi _ _, es, hc, _, _, _, _ => by cases es <;> cases hc
  | .isi _ _, es, hc, _, _, _, _ => by cases es <;> cases hc
  | .len _, es, hc, _, _, _, _ => by cases es <;> cases hc
  | .lrg _, es, hc, _, _, _, _ => by cases es <;> cases hc
  | .rng _, es, hc, _, _, _, _ => by cases es <;> cases hc
  | .zip _, es, hc, _, _, _, _ => by cases es <;> cases hc
  | .itr _, es, hc, _, _, _, _ => by cases es <;> cases hc
  | .pop _ _, es, hc, _, _, _, _ => by cases es <;> cases hc
  | .comp _ _ _ _ _, es, hc, _, _, _, _ => by cases es <;> cases hc
  | .pf _ _, es, hc, _, _, _, _ => by cases es <;> cases hc
  | .bm0 _ _, es, hc, _, _, _, _ => by cases es <;> cases hc
  | .bm1 _ _ _, es, hc, _, _, _, _ => by cases es <;> cases hc
  | .mk0 _, es, hc, _, _, _, _ => by cases es <;> cases hc
  | .cst _ _, es, hc, _, _, _, _ => by cases es <;> cases hc
  | .clm _ _ _, es, hc, _, _, _, _ => by cases es <;> cases hc
  | .mkv _ _ _, es, hc, _, _, _, _ => by cases es <;> cases hc
  | .cal _ _, es, hc, _, _, _, _ => by cases es <;> cases hc
theorem opds_len {T : Tb} {S : Hp} : ∀ {xs : List V} {l : List A}, Opds T v S H xs l → xs.length = l.length
  | _, _, .nil => rfl
  | _, _, .cons _ r => by simp [opds_len r]

theorem snd_tup {a : Vm.E} {es : List Expr} {kk : Nat} {pos : Pos} (ha : SndA T t N G a sc es) (hc : chk t N sc a (.ar es) = true) (hl : es.length ≤ 1000) : SndE T t N G (.tup a) sc (.Tuple es kk pos) := by
  intro CX E k X x v s S H cell Q g q
  have q : PO T.toTb v S H cell E Q (asO ((asL (ev G a s)).bind fun l s => okO (shA l s) fun q => .ok (.o (.sh (.tup q.1))) q.2)) := q
  refine ⟨tTup (wA X es), pe_tup (wA_ok es), ha x g (PL.bindO q fun l s1 hr xs S1 H1 cell1 g1 os st q1 => ?_)⟩
  obtain ⟨⟨ds, s2⟩, hz, q2⟩ := okO_ok q1
  obtain ⟨S2, cell2, g2, hd, st2⟩ := shA_ok g1 os hz
  have hlen : xs.length ≤ 1000 := by rw [opds_len os, chk_len hc hr]; exact hl
  exact ⟨Nat.le_trans hlen (by decide), fun p hp => (PO.step st2 q2).newT g2 hp hd⟩
theorem snd_lst {a : Vm.E} {es : List Expr} {pos : Pos} (ha : SndA T t N G a sc es) (hc : chk t N sc a (.ar es) = true) (hl : es.length ≤ 1000) : SndE T t N G (.lst a) sc (.List es pos) := by
  intro CX E k X x v s S H cell Q g q
  have q : PO T.toTb v S H cell E Q (asO ((asL (ev G a s)).bind fun l s => okO (shA l s) fun q => .ok (.o (.ol q.1)) q.2)) := q
  refine ⟨tLst (wA X es), pe_lst (wA_ok es), ha x g (PL.bindO q fun l s1 hr xs S1 H1 cell1 g1 os st q1 => ?_)⟩
  obtain ⟨⟨ds, s2⟩, hz, q2⟩ := okO_ok q1
  obtain ⟨S2, cell2, g2, hd, st2⟩ := shA_ok g1 os hz
  have hlen : xs.length ≤ 1000 := by rw [opds_len os, chk_len hc hr]; exact hl
  exact ⟨Nat.le_trans hlen (by decide), fun p hp => (PO.step st2 q2).newL g2 hp hd⟩
end
end Vm

namespace Vm
open PySem L2 Evl

section
variable {T : Tb} {v : St} {s : Env} {S H : Hp} {cell : Nat → List Addr} {E : WX}
theorem asO_rO (r : R O) : asO (rO r) = r := by cases r <;> rfl
theorem PB.step {S1 H1 : Hp} {C1 : Nat → List Addr} (st : Step S H cell S1 H1 C1) {Q : Bool → Hp → Prop} {r : R Bool} (h : PB T v S H cell E Q r) : PB T v S1 H1 C1 E Q r := by
  cases r with
  | ok o s => exact fun S' H' cell g r => h S' H' cell g (st.trans r)
  | ex k fs s => exact PX.step st h
  | er => exact h
theorem PB.bindB {Q Q' : Bool → Hp → Prop} {r : R Bool} {k : Bool → Env → R Bool} (h : PB T v S H cell E Q (r.bind k))
    (go : ∀ b s1, r = .ok b s1 → ∀ S1 H1 cell1, Good T v s1 S1 H1 cell1 → Step S H cell S1 H1 cell1 → PB T v S1 H1 cell1 E Q (k b s1) → Q' b H1) : PB T v S H cell E Q' r := by
  cases r with
  | ok d s => exact fun S1 H1 cell g st => go d s rfl S1 H1 cell g st (PB.step st h)
  | ex k fs s => exact h
  | er => exact h
theorem PD.bindB {Q : Bool → Hp → Prop} {Q' : VK} {r : R D} {k : D → Env → R Bool} (h : PB T v S H cell E Q (r.bind k))
    (go : ∀ d s1, r = .ok d s1 → ∀ x S1 H1 cell1, Good T v s1 S1 H1 cell1 → Hd T S1 x d → Step S H cell S1 H1 cell1 → PB T v S1 H1 cell1 E Q (k d s1) → Q' x H1) : PD T v S H cell E Q' r := by
  cases r with
  | ok d s => exact fun x S1 H1 cell g hd st => go d s rfl x S1 H1 cell g hd st (PB.step st h)
  | ex k fs s => exact h
  | er => exact h
theorem PA'.bindB {Q : Bool → Hp → Prop} {Q' : VK} {rest : Vm.E} {r : R A} {k : A → Env → R Bool} (h : PB T v S H cell E Q (r.bind k))
    (go : ∀ a s1, r = .ok a s1 → ∀ x S1 H1 cell1, Good T v s1 S1 H1 cell1 → Opd T v S1 H1 x a → firm rest a → Step S H cell S1 H1 cell1 → PB T v S1 H1 cell1 E Q (k a s1) → Q' x H1) : PA' T v S H cell E rest Q' r := by
  cases r with
  | ok d s => exact fun x S1 H1 cell g hd f st => go d s rfl x S1 H1 cell g hd f st (PB.step st h)
  | ex k fs s => exact h
  | er => exact h
/-- an instance, owned or not -/
theorem view_cls (g : Ex S H) {x : V} {o : O} {c : List Addr} {k : Nat} (h : Ow T S H x o c) (e : clsO o = some k) : ∃ a dx fv, x = .ref a ∧ H a = some (.ins (T.ca k) dx fv) ∧ T.isC k ∧ (∀ f, getO o [f] = none → fv.lookup (T.nm f) = none) := by
  cases h with
  | sh hd =>
    cases hd with
    | @ins p dx c fv fs hc hp l =>
      cases e
      refine ⟨p, dx, fv, rfl, g _ _ hp, hc, fun f hf => ?_⟩
      unfold getO at hf
      cases q : getD' f fs with
      | none => exact (HdF.get f l).2 q
      | some d =>
        rw [q] at hf
        simp only [getO] at hf
        cases hf
    | _ => cases e
  | ol _ _ _ => cases e
  | od _ _ _ => cases e
  | @oo p dx c fv fs cs hc hp hs l =>
    cases e
    refine ⟨p, dx, fv, rfl, hp, hc, fun f hf => ?_⟩
    unfold getO at hf
    cases q : getF f fs with
    | none => exact OwF.none_ f l q
    | some d =>
      rw [q] at hf
      simp only [getO] at hf
      cases hf
theorem bo_bind {α : Type} (r : R α) (f : α → Env → R Vl) : bo (r.bind f) = r.bind fun a s => bo (f a s) := by cases r <;> rfl
theorem bo_bit (k : Bool) (s : Env) : bo (bitE k s) = .ok k s := rfl
end

section
variable {X : Cx} {CX : CXT} {n : Nat} {C g : Addr} {fd : FuncData} {ps : List Str} {sp : Sp} {E : XK}
/-- an operator at the slots σ -/
def wOpS (X : Cx) (f : Value → Value → Sem Value) (σ : L2.St) : R2 := fun x y H Q => ∀ (pins : List (Addr × Obj)) (s : Shared) (v u : Value), Inv X pins σ H s → RelV x v → RelV y u → wpAny (model X.prog X.w) X.A (f v u) (EP X pins σ Q) X.xe s
theorem wOpS_of {f : Value → Value → Sem Value} {σ : L2.St} {x y : V} {H : Hp} {Q : VK} (h : wOp X f x y H Q) : wOpS X f σ x y H Q := fun pins s v u I rx ry => wOp_ok f pins s σ H x y v u Q I rx ry h
theorem pe_opS {op : Operator} {a b : Expr} {ta tb : TE} {pos : Pos} (ha : PE X a ta) (hb : PE X b tb) : PE X (.BinOp a op b pos) (fun σ H Q => ta σ H fun x H1 => tb σ H1 fun y H2 => wOpS X (binaryOp op) σ x y H2 Q) :=
  ⟨fun pins s σ H Q I h => wpAny_BinOp (binT ha hb I h fun v u s2 x y H2 I2 rx ry q => q pins s2 v u I2 rx ry)⟩
theorem run2 {σ : L2.St} (F : FnOk X.prog X.w X.K X.mg X.base CX n g fd ps sp) (hr : Room n X.A) (hb : Binds X.K fd ps []) (hx : PassesAt CX X σ E) {pins : List (Addr × Obj)} {s : Shared} {H : Hp} {x y : V} {v u : Value} {Q : VK} (I : Inv X pins σ H s) (rx : RelV x v) (ry : RelV y u)
    (q : sp [x, y] H Q E) : wpAny (model X.prog X.w) X.A (call (.ref g) [v, u]) (PySem.W.CmpBack (EP X pins σ Q)) X.xe s := by
  refine wpAny_mono (run_fnS (us := [v, u]) (vs := [x, y]) (E := fun _ => E) F hr hb hx I (.cons rx (.cons ry .nil)) q) (fun w s' z => ?_) fun _ _ x => x
  obtain ⟨z', H', I', rz, qz⟩ := z
  exact SlX.cmpback rz ⟨z', H', I', rz, qz⟩
theorem opB_ins {σ : L2.St} {op : Operator} (hc : PySem.W.selfFirst X.K C = true) (hs : PySem.W.findIn X.K (.ref C) (PySem.dunder op.info.2) = some (some (.ref g))) (hf : PySem.W.isFn X.K (.ref g) = true) (F : FnOk X.prog X.w X.K X.mg X.base CX n g fd ps sp) (hr : Room n X.A) (hb : Binds X.K fd ps []) (hx : PassesAt CX X σ E)
    {x y : V} {H : Hp} {Q : VK} (h : ∃ a dx fs b dy gs, x = .ref a ∧ y = .ref b ∧ H a = some (.ins C dx fs) ∧ H b = some (.ins C dy gs) ∧ sp [x, y] H Q E) : wOpS X (binaryOp op) σ x y H Q := by
  intro pins s v u I rx ry
  obtain ⟨a, dx, fs, b, dy, gs, rfl, rfl, ha, hb', q⟩ := h
  obtain rfl : v = Value.ref a := rx
  obtain rfl : u = Value.ref b := ry
  obtain ⟨mA, O, _⟩ := ins_get I.hok ha
  obtain ⟨od, J, _⟩ := O.look
  obtain ⟨mA', O', _⟩ := ins_get I.hok hb'
  obtain ⟨od', J', _⟩ := O'.look
  obtain ⟨m, hF⟩ := I.fr
  exact PySem.W.binop_K hF I.ok.mod.kin J J'.type hc hs hf (run2 (x := .ref a) (y := .ref b) F hr hb hx I rfl rfl q)
theorem opB_int {σ : L2.St} {op : Operator} {fo ro rc : Option Value} (hc : PySem.W.selfFirst X.K C = true) (hs : PySem.W.findIn X.K (.ref C) (PySem.dunder op.info.2) = some (some (.ref g))) (hf : PySem.W.isFn X.K (.ref g) = true) (h3 : PySem.W.findIn X.K (.ref C) (dunderR op.info.2) = some rc)
    (hp : rc = none ∨ ∃ g : Addr, rc = some (.ref g)) (h1 : PySem.W.findIn X.K (.type "int") (PySem.dunder op.info.2) = some fo) (h2 : PySem.W.findIn X.K (.type "int") (dunderR op.info.2) = some ro) (hsub : PySem.W.subIn X.K (.type "int") (.ref C) = some false)
    (F : FnOk X.prog X.w X.K X.mg X.base CX n g fd ps sp) (hr : Room n X.A) (hb : Binds X.K fd ps []) (hx : PassesAt CX X σ E)
    {x y : V} {H : Hp} {Q : VK} (h : ∃ a dx fs i, x = .ref a ∧ y = .int i ∧ H a = some (.ins C dx fs) ∧ sp [x, y] H Q E) : wOpS X (binaryOp op) σ x y H Q := by
  intro pins s v u I rx ry
  obtain ⟨a, dx, fs, i, rfl, rfl, ha, q⟩ := h
  obtain rfl : v = Value.ref a := rx
  obtain ⟨tk, rfl⟩ := ry
  obtain ⟨mA, O, _⟩ := ins_get I.hok ha
  obtain ⟨od, J, _⟩ := O.look
  obtain ⟨m, hF⟩ := I.fr
  exact PySem.W.ksp_binT hF I.ok.mod.kin J rfl hc hs hf h3 hp h1 h2 hsub (run2 (x := .ref a) (y := .int i) F hr hb hx I rfl ⟨tk, rfl⟩ q)
theorem opC_ins {op : CmpOp} {C' : Addr} (hop : ∀ a b, compareOp op a b = richCompare op a b) (hn : PySem.W.notFirst X.K C (.ref C') = true) (hs : PySem.W.findIn X.K (.ref C) (cmpInfo op).2.1 = some (some (.ref g))) (hf : PySem.W.isFn X.K (.ref g) = true) (F : FnOk X.prog X.w X.K X.mg X.base CX n g fd ps sp) (hr : Room n X.A) (hb : Binds X.K fd ps []) (hx : Passes CX X E) :
    OpR X (compareOp op) (fun x y H Q => ∃ a dx fs b dy gs, x = .ref a ∧ y = .ref b ∧ H a = some (.ins C dx fs) ∧ H b = some (.ins C' dy gs) ∧ sp [x, y] H Q E) := by
  intro pins s σ H x y v u Q I rx ry h
  obtain ⟨a, dx, fs, b, dy, gs, rfl, rfl, ha, hb', q⟩ := h
  obtain rfl : v = Value.ref a := rx
  obtain rfl : u = Value.ref b := ry
  obtain ⟨mA, O, _⟩ := ins_get I.hok ha
  obtain ⟨od, J, _⟩ := O.look
  obtain ⟨mA', O', _⟩ := ins_get I.hok hb'
  obtain ⟨od', J', _⟩ := O'.look
  obtain ⟨m, hF⟩ := I.fr
  rw [hop]
  exact PySem.W.cmp_K (op := op) (tb := .ref C') hr.units0 hF I.ok.mod.kin J J'.type hn hs hf (run2 (x := .ref a) (y := .ref b) F hr hb (fun pins H s e s' I c => hx pins σ H s e s' I c) I rfl rfl q)
theorem un_own (hs : PySem.W.findIn X.K (.ref C) "__invert__" = some (some (.ref g))) (hf : PySem.W.isFn X.K (.ref g) = true) (F : FnOk X.prog X.w X.K X.mg X.base CX n g fd ps sp) (hr : Room n X.A) (hb : Binds X.K fd ps []) (hx : Passes CX X E) :
    UnR X (unaryOp .Invert) (fun x H Q => ∃ a dx fs, x = .ref a ∧ H a = some (.ins C dx fs) ∧ sp [x] H Q E) := by
  intro pins s σ H x v Q I rx h
  obtain ⟨a, dx, fs, rfl, ha, q⟩ := h
  obtain rfl : v = Value.ref a := rx
  obtain ⟨mA, O, _⟩ := ins_get I.hok ha
  obtain ⟨od, J, _⟩ := O.look
  obtain ⟨m, hF⟩ := I.fr
  exact PySem.W.ksp_inv hF I.ok.mod.kin J hs hf (run_fn (us := [.ref a]) (vs := [.ref a]) (dvs := []) (ds := []) F hr hb .nil hx I (.cons rfl .nil) q)
end

section
variable {T : Tx} {t : Tt} {N : List Str} {G : Ct} {CX : CXT} {E : WX} {k : Nat} {sc : Scope} {X : Cx} {v : St} {s : Env} {S H : Hp} {cell : Nat → List Addr}
variable (T t N G) in
def SndB (a : Vm.E) (sc : Scope) (e : Expr) : Prop := ∀ {CX : CXT} {E : WX} {k : Nat} {X : Cx}, Xk T t N G CX E k sc X → ∀ {v : St} {s : Env} {S H : Hp} {cell : Nat → List Addr} {Q : Bool → Hp → Prop}, Good T.toTb v s S H cell → PB T.toTb v S H cell E Q (bo (ev G a s)) → wT X e v H Q
theorem Xk.r0 (x : Xk T t N G CX E k sc X) : Room k X.A := x.room.mono (by omega)
theorem Xk.r1 (x : Xk T t N G CX E k sc X) : Room (k + 1) X.A := x.room.mono (by omega)

theorem Xk.sp (x : Xk T t N G CX E k sc X) {g : Nat} {vs : List V} {Q : VK} {E : XK} {os : List O} (h : spR T.toTb vs H Q E os (G.F g os)) : spF T G.F g vs H Q E := by
  refine ⟨?_, os, h⟩
  obtain ⟨S', cl, gd, h2⟩ := h
  have e := x.ln g os (fun z => by rw [z] at h2; exact h2)
  have l := gd.ln
  simp only [List.length_map] at l
  omega

theorem snd_bin {op : Operator} {a b : Vm.E} {e e' : Expr} {pos : Pos} (ha : SndE T t N G a sc e) (hca : chk t N sc a (.ex e) = true) (hb : SndE T t N G b sc e') (hcb : chk t N sc b (.ex e') = true) : SndE T t N G (.bin op a b) sc (.BinOp e op e' pos) := by
  intro CX E k X x v s S H cell Q g q
  have q : PO T.toTb v S H cell E Q (asO ((pk a b s (ev G a s)).bind fun x s => (asD (ev G b s)).bind fun y s => binA G op x y s)) := q
  refine ⟨_, pe_opS (wE_ok e) (wE_ok e'), ?_⟩
  show wE X e v H fun y1 H1 => wE X e' v H1 fun y2 H2 => wOpS X (binaryOp op) v y1 y2 H2 Q
  refine ha.p hca x g (PA'.bindO q fun z s1 hz y1 S1 H1 cell1 g1 oz fz st1 q1 => ?_)
  refine hb.dk hcb x oz fz g1 q1 fun d s2 hd y2 S2 H2 cell2 g2 h2 oz2 st2 q2 => ?_
  obtain ⟨o, ho, q3⟩ := okO_ok q2
  obtain ⟨c0, ow⟩ := opd_ow g2 oz2 ho
  cases hc : clsO o with
  | some c =>
    simp only [hc] at q3
    obtain ⟨a', dx, fv, e1, e2, ic, _⟩ := view_cls g2.ex ow hc
    split at q3
    · rename_i ok
      obtain ⟨gg, hg, q4⟩ := okO_ok q3
      rw [asO_rO] at q4
      obtain ⟨os, sp⟩ := call_ok g2 (.cons oz2 (.cons (.val h2) .nil)) q4
      obtain ⟨f1, f2, f3, f4, fo, ro, rc, f5, f6, f7, f8, f9⟩ := x.fx.opB c op gg ic hg
      rw [← x.K] at f1 f2 f3 f4 f5 f7 f8 f9
      cases d with
      | int i =>
        cases h2
        refine opB_int f3 f1 f2 f5 f6 f7 f8 f9 (x.fn gg) x.r0 f4 (x.pass v) ⟨a', dx, fv, i, e1, rfl, e2, ?_⟩
        exact x.sp sp
      | ins c' fs =>
        have e3 : c' = c := beq_iff_eq.mp ok
        subst e3
        cases h2 with
        | @ins p dy _ fv' _ hc' hp' l' =>
          refine opB_ins f3 f1 f2 (x.fn gg) x.r0 f4 (x.pass v) ⟨a', dx, fv, p, dy, fv', e1, rfl, e2, g2.ex _ _ hp', ?_⟩
          exact x.sp sp
      | _ => cases ok
    · exact False.elim q3
  | none =>
    simp only [hc] at q3
    cases oz2 with
    | val h1 =>
      obtain ⟨o', hb', q4⟩ := okO_ok q3
      exact wOpS_of (bin_ok x.K hb' g2 h1 h2 q4)
    | @ref r p hr dn =>
      obtain ⟨⟨d1, s3⟩, hs, q4⟩ := okO_ok q3
      obtain ⟨o', hb', q5⟩ := okO_ok q4
      have os : Opds T.toTb v S2 H2 [y1] [.ref p] := .cons (.ref hr dn) .nil
      have hz : shA [.ref p] s2 = some ([d1], s3) := by
        unfold shA
        rw [hs]
        rfl
      obtain ⟨S3, cell3, g3, hl, st3⟩ := shA_ok g2 os hz
      cases hl with
      | cons h1 _ => exact wOpS_of (bin_ok x.K hb' g3 h1 (h2.mono st3.ss) (PO.step st3 q5))
end
end Vm

namespace Vm
open PySem L2 Evl
section
variable {T : Tx} {t : Tt} {N : List Str} {G : Ct} {CX : CXT} {E : WX} {k : Nat} {sc : Scope} {X : Cx} {v : St} {s : Env} {S H : Hp} {cell : Nat → List Addr}
theorem noX_ok {T : Tb} {C : Nat → List Addr} {Q : VK} {r : R O} (h : PO T v S H C E Q (noX r)) : PO T v S H C (fun _ _ _ _ => False) Q r := by
  cases r with
  | ok o s => exact h
  | ex c fs s => exact False.elim h
  | er => exact h
theorem Xk.nop (x : Xk T t N G CX E k sc X) : Passes CX X.nox (fun _ _ _ => False) := fun pins σ H s e s' I h => x.nox _ _ _ _ _ h
theorem Xk.nop0 (x : Xk T t N G CX E k sc X) : Passes CX X (fun _ _ _ => False) := fun pins σ H s e s' I h => (x.nox _ _ _ _ _ h).elim
theorem snd_neg {a : Vm.E} {e : Expr} {pos : Pos} (ha : SndE T t N G a sc e) : SndE T t N G (.neg a) sc (.UnaryOp .USub e pos) := by
  intro CX E k X x v s S H cell Q g q
  have q : PO T.toTb v S H cell E Q (asO ((asD (ev G a s)).bind fun x s => okO (intO x) fun i => .ok (.o (.sh (.int (-i)))) s)) := q
  refine ⟨_, pe_un un_neg (wE_ok e), ?_⟩
  refine ha.d x g (PD.bindO q fun d s1 hd y S1 H1 cell1 g1 hy st1 q1 => ?_)
  obtain ⟨i, hi, q2⟩ := okO_ok q1
  cases d <;> first | (cases hi; done) | skip
  cases hi
  cases hy
  exact ⟨_, rfl, q2.sh g1 (.int _)⟩
theorem snd_inv {a : Vm.E} {e : Expr} {pos : Pos} (ha : SndE T t N G a sc e) (hca : chk t N sc a (.ex e) = true) : SndE T t N G (.inv a) sc (.UnaryOp .Invert e pos) := by
  intro CX E k X x v s S H cell Q g q
  have q : PO T.toTb v S H cell E Q (asO ((pk a .nil s (ev G a s)).bind fun x s => okO (x.res s) fun o => okO (clsO o) fun c => okO (G.mth c 20) fun g => rO (noX (callF G.F g [x] s)))) := q
  refine ⟨_, pe_un (wUn_ok (unaryOp .Invert)) (wE_ok e), ?_⟩
  refine ha.p hca x g (PA'.bindO q fun z s1 hz y1 S1 H1 cell1 g1 oz fz st1 q1 => ?_)
  obtain ⟨o, ho, q2⟩ := okO_ok q1
  obtain ⟨c, hc, q3⟩ := okO_ok q2
  obtain ⟨gg, hg, q4⟩ := okO_ok q3
  rw [asO_rO] at q4
  obtain ⟨c0, ow⟩ := opd_ow g1 oz ho
  obtain ⟨a', dx, fv, e1, e2, ic, _⟩ := view_cls g1.ex ow hc
  obtain ⟨os, sp⟩ := call_ok g1 (.cons oz .nil) (noX_ok q4)
  obtain ⟨f1, f2, f3⟩ := x.fx.inv c gg ic hg
  rw [← x.K] at f1 f2 f3
  exact ⟨_, un_own f1 f2 (x.fn gg) x.r0 f3 x.nop0, a', dx, fv, e1, e2, x.sp sp⟩

theorem no_set : ∀ (b : Vm.E) (e : Expr), chk t N sc b (.ex e) = true → setB e = false := by
  intro b e h
  cases e <;> first | rfl | skip
  cases b <;> cases h
theorem behind_no {op : CmpOp} {e : Expr} (h : setB e = false) : behindInMarks op e = false := by
  cases e <;> first | rfl | cases h
theorem cmp_op (op : CmpOp) (h : op = .Eq ∨ op = .Lt ∨ op = .LtE) : ∀ a b, compareOp op a b = richCompare op a b := by
  rcases h with rfl | rfl | rfl <;> intro a b <;> rfl
theorem cmpN_op (op : CmpOp) : (op = .Eq ∨ op = .Lt ∨ op = .LtE) ∨ cmpN op = 19 := by
  cases op <;> first | exact .inl (.inl rfl) | exact .inl (.inr (.inl rfl)) | exact .inl (.inr (.inr rfl)) | exact .inr rfl
theorem onlyB_ok {T : Tb} {C : Nat → List Addr} {Q : VK} {r : R O} (h : PO T v S H C E Q (onlyB r)) : PO T v S H C E Q r := by
  unfold onlyB at h
  split at h
  · exact h
  · exact False.elim h
  · exact h
theorem cmpA_ok (x : Xk T t N G CX E k sc X) {op : CmpOp} {y1 y2 : V} {z1 z2 : A} {Q : VK} (g : Good T.toTb v s S H cell) (o1 : Opd T.toTb v S H y1 z1) (o2 : Opd T.toTb v S H y2 z2) (q : PO T.toTb v S H cell E Q (asO (cmpA G op z1 z2 s))) : wOp X (compareOp op) y1 y2 H Q := by
  obtain ⟨o, ho, q1⟩ := okO_ok q
  obtain ⟨u, hu, q2⟩ := okO_ok q1
  obtain ⟨c1, ow1⟩ := opd_ow g o1 ho
  obtain ⟨c2, ow2⟩ := opd_ow g o2 hu
  cases hc : clsO o with
  | some c =>
    simp only [hc] at q2
    obtain ⟨a', dx, fv, e1, e2, ic, _⟩ := view_cls g.ex ow1 hc
    split at q2
    · rename_i hs
      obtain ⟨c', hc'⟩ := Option.isSome_iff_exists.mp hs
      obtain ⟨b', dy, fw, e3, e4, ic', _⟩ := view_cls g.ex ow2 hc'
      obtain ⟨gg, hg, q4⟩ := okO_ok q2
      rw [asO_rO] at q4
      obtain ⟨os, sp⟩ := call_ok g (.cons o1 (.cons o2 .nil)) (noX_ok (onlyB_ok q4))
      rcases cmpN_op op with hop | hop
      · obtain ⟨f1, f2, f3⟩ := x.fx.op c op gg hg hop
        have f4 := (x.fx.kCC c c' ic ic').2
        rw [← x.K] at f1 f2 f3 f4
        exact ⟨_, opC_ins (cmp_op op hop) f4 f1 f2 (x.fn gg) x.r0 f3 x.nop0, a', dx, fv, b', dy, fw, e1, e3, e2, e4, x.sp sp⟩
      · rw [hop, x.fx.m19] at hg; cases hg
    · exact False.elim q2
  | none =>
    simp only [hc] at q2
    obtain ⟨b, hb, q3⟩ := okO_ok q2
    obtain ⟨S1, _, h2, h3⟩ := view g.ex ow1
    obtain ⟨S2, _, k2, k3⟩ := view g.ex ow2
    exact cmp_ok x.K x.hu h2 k2 h3 k3 hb (q3.sh g (.bl _))
theorem snd_cmp0 {op : CmpOp} {a b : Vm.E} {e e' : Expr} (ha : SndE T t N G a sc e) (hca : chk t N sc a (.ex e) = true) (hb : SndE T t N G b sc e') (hcb : chk t N sc b (.ex e') = true) (x : Xk T t N G CX E k sc X) {Q : VK} (g : Good T.toTb v s S H cell)
    (q : PO T.toTb v S H cell E Q (asO (ev G (.cmp op a b) s))) : tOp (wOp X (compareOp op)) (wE X e) (wE X e') v H Q := by
  have q : PO T.toTb v S H cell E Q (asO ((pk a b s (ev G a s)).bind fun x s => (pk b .nil s (ev G b s)).bind fun y s => cmpA G op x y s)) := q
  show wE X e v H fun y1 H1 => wE X e' v H1 fun y2 H2 => wOp X (compareOp op) y1 y2 H2 Q
  refine ha.p hca x g (PA'.bindO q fun z s1 hz y1 S1 H1 cell1 g1 oz fz st1 q1 => ?_)
  -- the second one
  by_cases hn : ∀ p, z = .ref p → p.fs = []
  · exact hb.p hcb x g1 (PA'.bindO q1 fun z2 s2 hz2 y2 S2 H2 cell2 g2 oz2 _ st2 q2 => cmpA_ok x g2 (oz.step st2 (.inr hn)) oz2 q2)
  · have hs : simple b = true := by
      cases z with
      | val d => exact absurd (fun p z => by cases z) hn
      | ref p =>
        rcases fz with z | z
        · exact absurd (fun p' z' => by cases z'; exact z) hn
        · exact z
    cases hp : pk b .nil s1 (ev G b s1) with
    | ok z2 s2 =>
      rw [hp] at q1
      obtain ⟨es, y2, o2, wq⟩ := simple_p x g1 hs hcb _ _ hp
      rw [es] at q1
      exact wq _ (cmpA_ok x g1 oz o2 q1)
    | ex c fs s2 =>
      rw [hp] at q1
      refine hb.p hcb x (rest := .nil) g1 ?_
      rw [hp]
      exact q1
    | er => rw [hp] at q1; exact False.elim q1
theorem snd_cmp {op : CmpOp} {a b : Vm.E} {e e' : Expr} {pos : Pos} (ha : SndE T t N G a sc e) (hca : chk t N sc a (.ex e) = true) (hb : SndE T t N G b sc e') (hcb : chk t N sc b (.ex e') = true) : SndE T t N G (.cmp op a b) sc (.Compare e [op] [e'] pos) := by
  intro CX E k X x v s S H cell Q g q
  exact ⟨_, pe_cmpR (wOp_ok (compareOp op)) (wE_ok e) (wE_ok e') (behind_no (no_set b e' hcb)), snd_cmp0 ha hca hb hcb x g q⟩
/-- a bool is wanted -/
theorem PB.toO {T : Tb} {C : Nat → List Addr} {Q : Bool → Hp → Prop} {r : R Vl} (h : PB T v S H C E Q (bo r)) : PO T v S H C E (fun x H => ∃ k, x = .bl k ∧ Q k H) (asO r) := by
  cases r with
  | ok w s =>
    cases w with
    | o o =>
      intro y S' H' cell' c' k
      obtain ⟨S2, g2, hd, st2⟩ := k.frz
      have h : PB T v S H C E Q (match frz o with
        | .bl k => .ok k s
        | _ => .er) := h
      cases e : frz o with
      | bl b =>
        rw [e] at h hd
        cases hd
        exact ⟨b, rfl, h S2 H' cell' g2 st2⟩
      | _ => rw [e] at h; exact False.elim h
    | l l => exact h
  | ex c fs s => exact h
  | er => exact h
theorem sndB_cmp {op : CmpOp} {a b : Vm.E} {e e' : Expr} {pos : Pos} (ha : SndE T t N G a sc e) (hca : chk t N sc a (.ex e) = true) (hb : SndE T t N G b sc e') (hcb : chk t N sc b (.ex e') = true) : SndB T t N G (.cmp op a b) sc (.Compare e [op] [e'] pos) := by
  intro CX E k X x v s S H cell Q g q
  exact ⟨_, pt_cmpR (wOp_ok (compareOp op)) (wE_ok e) (wE_ok e') (behind_no (no_set b e' hcb)), snd_cmp0 ha hca hb hcb x g q.toO⟩
theorem snd_chn0 {op op' : CmpOp} {a b c : Vm.E} {e e' e'' : Expr} (ha : SndE T t N G a sc e) (hb : SndE T t N G b sc e') (hc : SndE T t N G c sc e'') (x : Xk T t N G CX E k sc X) {Q : VK} (g : Good T.toTb v s S H cell)
    (q : PO T.toTb v S H cell E Q (asO (ev G (.chn op op' a b c) s))) : tChain (wOp X (compareOp op)) (wOp X (compareOp op')) (wE X e) (wE X e') (wE X e'') v H Q := by
  have q : PO T.toTb v S H cell E Q (asO ((asD (ev G a s)).bind fun x s => (asD (ev G b s)).bind fun y s => okO (cmpD op x y) fun k => if k = true then (asD (ev G c s)).bind fun z s => okO (cmpD op' y z) fun k => bitE k s else bitE false s)) := q
  refine ha.d x g (PD.bindO q fun d1 s1 _ y1 S1 H1 cell1 g1 h1 st1 q1 => ?_)
  refine hb.d x g1 (PD.bindO q1 fun d2 s2 _ y2 S2 H2 cell2 g2 h2 st2 q2 => ?_)
  obtain ⟨kk, hk, q3⟩ := okO_ok q2
  refine cmp_ok x.K x.hu g2.ex g2.ex (h1.mono st2.ss) h2 hk ⟨kk, rfl, ?_⟩
  cases kk with
  | false => exact q3.sh g2 (.bl false)
  | true =>
    have q3 : PO T.toTb v S2 H2 cell2 E Q (asO ((asD (ev G c s2)).bind fun z s => okO (cmpD op' d2 z) fun k => bitE k s)) := q3
    refine hc.d x g2 (PD.bindO q3 fun d3 s3 _ y3 S3 H3 cell3 g3 h3 st3 q4 => ?_)
    obtain ⟨k2, hk2, q5⟩ := okO_ok q4
    exact cmp_ok x.K x.hu g3.ex g3.ex (h2.mono st3.ss) h3 hk2 (q5.sh g3 (.bl k2))
theorem snd_chn {op op' : CmpOp} {a b c : Vm.E} {e e' e'' : Expr} {pos : Pos} (ha : SndE T t N G a sc e) (hb : SndE T t N G b sc e') (hc : SndE T t N G c sc e'') (hcc : chk t N sc c (.ex e'') = true) : SndE T t N G (.chn op op' a b c) sc (.Compare e [op, op'] [e', e''] pos) := by
  intro CX E k X x v s S H cell Q g q
  exact ⟨_, pe_chain (wOp_ok (compareOp op)) (wOp_ok (compareOp op')) (wE_ok e) (wE_ok e') (wE_ok e'') (show behindInMarks op' e'' = false from behind_no (no_set c e'' hcc)), snd_chn0 ha hb hc x g q⟩
theorem sndB_chn {op op' : CmpOp} {a b c : Vm.E} {e e' e'' : Expr} {pos : Pos} (ha : SndE T t N G a sc e) (hb : SndE T t N G b sc e') (hc : SndE T t N G c sc e'') (hcc : chk t N sc c (.ex e'') = true) : SndB T t N G (.chn op op' a b c) sc (.Compare e [op, op'] [e', e''] pos) := by
  intro CX E k X x v s S H cell Q g q
  exact ⟨_, pt_chain (wOp_ok (compareOp op)) (wOp_ok (compareOp op')) (wE_ok e) (wE_ok e') (wE_ok e'') (show behindInMarks op' e'' = false from behind_no (no_set c e'' hcc)), snd_chn0 ha hb hc x g q.toO⟩

theorem sndB_val {a : Vm.E} {e : Expr} (ht : testy e = false) (ha : SndE T t N G a sc e) : SndB T t N G a sc e := by
  intro CX E k X x v s S H cell Q g q
  refine ⟨_, pt_truth (wE_ok e) (isTrue_val ht), ha x g ?_⟩
  have q2 := q.toO
  cases hr : asO (ev G a s) with
  | ok o s1 =>
    rw [hr] at q2
    intro y S' H' cell' c' r
    obtain ⟨k, e1, e2⟩ := q2 y S' H' cell' c' r
    subst e1
    exact ⟨k, rfl, e2⟩
  | ex c fs s1 => rw [hr] at q2; exact q2
  | er => rw [hr] at q2; exact q2
/-- a value's truth -/
theorem tru_opd (x : Xk T t N G CX E k sc X) {y : V} {z : A} {b : Bool} {s' : Env} (g : Good T.toTb v s S H cell) (o : Opd T.toTb v S H y z) (h : truA z s = .ok b s') : s' = s ∧ TruV X.K y H b := by
  unfold truA at h
  cases hr : z.res s with
  | none => rw [hr] at h; cases h
  | some u =>
    rw [hr] at h
    obtain ⟨c, ow⟩ := opd_ow g o hr
    have h : (match truD (frz u) with
      | some b => R.ok b s
      | none => .er) = .ok b s' := h
    cases e : frz u with
    | non =>
      rw [e] at h
      cases h
      cases ow with
      | sh hd =>
        have e : _ = D.non := e
        subst e
        cases hd
        exact ⟨rfl, rfl⟩
      | ol _ _ _ => cases e
      | oo _ _ _ _ => cases e
      | od _ _ _ => cases e
    | bl k0 =>
      rw [e] at h
      cases h
      cases view_bl ow e
      exact ⟨rfl, rfl⟩
    | int i =>
      rw [e] at h
      cases h
      cases view_int ow e
      exact ⟨rfl, rfl⟩
    | lst l =>
      rw [e] at h
      cases h
      obtain ⟨p, vs, rfl, hp, hl⟩ := view_lst g.ex ow e
      refine ⟨rfl, .inl ⟨vs, sq_of hp, ?_⟩⟩
      have := hl.len
      cases vs <;> cases l <;> first | rfl | cases this
    | tup l =>
      rw [e] at h
      cases h
      obtain ⟨p, vs, rfl, hp, hl⟩ := view_tup g.ex ow e
      rw [← x.K] at hp
      refine ⟨rfl, .inr (.inl ⟨vs, ex_t g.ex hp, ?_⟩)⟩
      have := hl.len
      cases vs <;> cases l <;> first | rfl | cases this
    | _ => rw [e] at h; cases h
theorem tru_ok' {z : A} {s : Env} : (∃ b, truA z s = .ok b s) ∨ truA z s = .er := by
  unfold truA
  cases z.res s with
  | none => exact .inr rfl
  | some o =>
    show (∃ b, (match truD (frz o) with
      | some b => R.ok b s
      | none => .er) = .ok b s) ∨ (match truD (frz o) with
      | some b => R.ok b s
      | none => .er) = .er
    cases truD (frz o) with
    | none => exact .inr rfl
    | some b => exact .inl ⟨b, rfl⟩
theorem tru_val (x : Xk T t N G CX E k sc X) {a : Vm.E} {e : Expr} (ha : SndE T t N G a sc e) (hca : chk t N sc a (.ex e) = true) {Q : Bool → Hp → Prop} (g : Good T.toTb v s S H cell) (q : PB T.toTb v S H cell E Q (tru a s (ev G a s))) : wE X e v H fun y H' => ∃ k, TruV X.K y H' k ∧ Q k H' := by
  refine ha.p hca x g (PA'.bindB q fun z s1 hz y S1 H1 cell1 g1 oz fz st1 q1 => ?_)
  rcases tru_ok' (z := z) (s := s1) with ⟨b, hb⟩ | hb
  · rw [hb] at q1
    exact ⟨b, (tru_opd x g1 oz hb).2, q1 S1 H1 cell1 g1 Step.refl⟩
  · rw [hb] at q1; exact False.elim q1
theorem sndT_val {a : Vm.E} {e : Expr} (ht : testy e = false) (ha : SndE T t N G a sc e) (hca : chk t N sc a (.ex e) = true) : SndT T t N G a sc e := by
  intro CX E k X x v s S H cell Q g q
  exact ⟨_, pt_truth (wE_ok e) (isTrue_val ht), tru_val x ha hca g q⟩
/-- what gives bools only -/
def testE : Vm.E → Bool
  | .cmp _ _ _ | .chn _ _ _ _ _ | .not _ | .and _ _ | .or _ _ => true
  | _ => false
theorem bit_only (b : Bool) (s : Env) : ∀ w s', bitE b s = .ok w s' → ∃ k, w = .o (.sh (.bl k)) := fun w s' h => by cases h; exact ⟨b, rfl⟩
theorem only_bind {α : Type} {r : R α} {K : α → Env → R Vl} (h : ∀ a s w s', K a s = .ok w s' → ∃ k, w = .o (.sh (.bl k))) : ∀ w s', r.bind K = .ok w s' → ∃ k, w = .o (.sh (.bl k)) := fun w s' e => by
  cases r with
  | ok a s => exact h a s w s' e
  | ex c fs s => cases e
  | er => cases e
theorem only_okO {α : Type} {r : Option α} {K : α → R Vl} (h : ∀ a w s', K a = .ok w s' → ∃ k, w = .o (.sh (.bl k))) : ∀ w s', okO r K = .ok w s' → ∃ k, w = .o (.sh (.bl k)) := fun w s' e => by
  cases r with
  | some a => exact h a w s' e
  | none => cases e
theorem cmpA_only {op : CmpOp} {x y : A} {s : Env} : ∀ w s', cmpA G op x y s = .ok w s' → ∃ k, w = .o (.sh (.bl k)) := by
  refine only_okO fun o => only_okO fun u => ?_
  intro w s' h
  cases hc : clsO o with
  | none =>
    simp only [hc] at h
    revert h
    exact only_okO (fun b w s' h => by cases h; exact ⟨b, rfl⟩) w s'
  | some c =>
    simp only [hc] at h
    split at h
    · revert h
      refine only_okO (fun g w s' h => ?_) w s'
      cases hr : callF G.F g [x, y] s with
      | ok o s1 =>
        rw [hr] at h
        cases o with
        | sh d =>
          cases d <;> first | (cases h; done) | skip
          cases h
          exact ⟨_, rfl⟩
        | _ => cases h
      | ex c fs s1 => rw [hr] at h; cases h
      | er => rw [hr] at h; cases h
    · cases h
theorem bl_only : ∀ (a : Vm.E) (s : Env), testE a = true → ∀ w s', ev G a s = .ok w s' → ∃ k, w = .o (.sh (.bl k))
  | .cmp op a b, s, _ => only_bind fun _ _ => only_bind fun _ _ => cmpA_only
  | .chn op op' a b c, s, _ => only_bind fun _ _ => only_bind fun _ _ => only_okO fun kk w s' h => by
    split at h
    · revert h
      exact only_bind (fun _ _ => only_okO fun b => bit_only b _) w s'
    · exact bit_only _ _ w s' h
  | .not a, s, _ => only_bind fun _ _ => bit_only _ _
  | .and a b, s, _ => only_bind fun kk s1 w s' h => by
    split at h
    · revert h
      exact only_bind (fun b s => bit_only b s) w s'
    · exact bit_only _ _ w s' h
  | .or a b, s, _ => only_bind fun kk s1 w s' h => by
    split at h
    · exact bit_only _ _ w s' h
    · revert h
      exact only_bind (fun b s => bit_only b s) w s'
theorem tru_bo {a : Vm.E} (h : testE a = true) (s : Env) : tru a s (ev G a s) = bo (ev G a s) := by
  have hp : plc a = none := by cases a <;> first | rfl | cases h
  unfold tru pk
  rw [hp]
  cases hr : ev G a s with
  | ok w s1 =>
    obtain ⟨k, rfl⟩ := bl_only a s h w s1 hr
    rfl
  | ex c fs s1 => rfl
  | er => rfl
theorem testE_of {a : Vm.E} {e : Expr} (hc : chk t N sc a (.ex e) = true) (ht : testy e = true) (h2 : tstB e = true) : testE a = true := by
  cases e <;> first | (cases ht; done) | (cases h2; done) | skip
  · cases a <;> first | rfl | (cases hc; done)
  · rename_i o x pos
    cases o <;> first | (cases ht; done) | skip
    cases a <;> first | rfl | (cases hc; done)
  · cases a <;> first | rfl | (cases hc; done)
theorem sndT_of {a : Vm.E} {e : Expr} (hc : chk t N sc a (.ex e) = true) (h2 : tstB e = true) (ha : SndE T t N G a sc e) (hb : SndB T t N G a sc e) : SndT T t N G a sc e := by
  cases ht : testy e with
  | false => exact sndT_val ht ha hc
  | true =>
    intro CX E k X x v s S H cell Q g q
    rw [tru_bo (testE_of hc ht h2)] at q
    exact hb x g q
end
end Vm

namespace Vm
open PySem L2 Evl
section
open PySem.Spec PyProof.Rows
variable {X : Cx} {a : Expr} {ta : TE} {pos : Pos} {f : Str}
/-- not a, whatever a is -/
theorem pe_notV (ha : PE X a ta) : PE X (.UnaryOp .Not a pos) (fun σ H Q => ta σ H fun x H' => ∃ k, TruV X.K x H' k ∧ Q (.bl (!k)) H') := by
  refine ⟨fun pins s σ H Q I h => ?_⟩
  refine UnaryOp_ (thn (ha.run pins s σ H _ I h) fun v s1 ⟨x, H1, I1, r1, q1⟩ => ?_)
  refine not_of (thn (tru_ok pins s1 σ H1 x v (fun b H' => Q (.bl (!b)) H') I1 r1 q1) fun b s2 ⟨H2, I2, q2⟩ => ?_)
  exact ⟨.bl (!b), H2, I2, rfl, q2⟩
/-- reading an attribute, by values -/
def AtR (X : Cx) (f : Str) (r : V → Hp → VK → Prop) : Prop :=
  ∀ (pins : List (Addr × Obj)) (s : Shared) (σ : L2.St) (H : Hp) (x : V) (v : Value) (Q : VK), Inv X pins σ H s → RelV x v → r x H Q → wpAny (model X.prog X.w) X.A (getAttr v f true) (EP X pins σ Q) X.xe s
def wAt (X : Cx) (f : Str) : V → Hp → VK → Prop := fun x H Q => ∃ r, AtR X f r ∧ r x H Q
theorem wAt_ok : AtR X f (wAt X f) := fun pins s σ H x v Q I rx ⟨_, h, q⟩ => h pins s σ H x v Q I rx q
theorem pe_at {r : V → Hp → VK → Prop} (hr : AtR X f r) (he : PE X a ta) (hb : attributeBase a f X.env (eval a X.env) = eval a X.env) : PE X (.Attribute a f pos) (tUn r ta) := by
  refine ⟨fun pins s σ H Q I h => ?_⟩
  exact attr_of hb (thn (he.run pins s σ H _ I h) fun u s1 ⟨x, H1, I1, r1, q1⟩ => hr pins s1 σ H1 x u Q I1 r1 q1)
theorem at_fld : AtR X f (fun x H Q => ∃ a C dx fs v, x = .ref a ∧ H a = some (.ins C dx fs) ∧ Cls X.K C ∧ NoAttr X.K C f ∧ fs.lookup f = some v ∧ Q v H) := by
  intro pins s σ H x v Q I rx h
  obtain ⟨a, C, dx, fs, u, rfl, h1, h2, h3, h4, q⟩ := h
  obtain rfl : v = Value.ref a := rx
  exact getattr_ok I h1 h2 h3 h4 fun u' s' I' r' => ⟨u, H, I', r', q⟩
theorem at_con {C : Addr} {w : V} {u0 : Value} (c : Cls X.K C) (k : Con X.K C f w u0) : AtR X f (fun x H Q => ∃ a dx fs, x = .ref a ∧ H a = some (.ins C dx fs) ∧ fs.lookup f = none ∧ Q w H) := by
  intro pins s σ H x v Q I rx h
  obtain ⟨a, dx, fs, rfl, h1, h2, q⟩ := h
  obtain rfl : v = Value.ref a := rx
  exact getcon_ok I h1 c k h2 fun s2 I2 => ⟨w, H, I2, k.rel, q⟩
theorem at_prop {CX : CXT} {k : Nat} {C p g : Addr} {fd : FuncData} {ps : List Str} {sp : Sp} {E : XK} (c : Cls X.K C) (hp : PropOf X.K C f p g) (F : FnOk X.prog X.w X.K X.mg X.base CX k g fd ps sp) (hr : Room (k + 1) X.A) (hb : Binds X.K fd ps []) (hx : Passes CX X.nox E) :
    AtR X f (fun x H Q => ∃ a dx fs, x = .ref a ∧ H a = some (.ins C dx fs) ∧ sp [x] H Q E) := by
  intro pins s σ H x v Q I rx h
  obtain ⟨a, dx, fs, rfl, h1, q⟩ := h
  obtain rfl : v = Value.ref a := rx
  exact getprop_ok I h1 c hp F hr hb .nil hx q
end
section
variable {T : Tx} {t : Tt} {N : List Str} {G : Ct} {CX : CXT} {E : WX} {k : Nat} {sc : Scope} {X : Cx} {v : St} {s : Env} {S H : Hp} {cell : Nat → List Addr}
theorem snd_not {a : Vm.E} {e : Expr} {pos : Pos} (ha : SndE T t N G a sc e) (hca : chk t N sc a (.ex e) = true) : SndE T t N G (.not a) sc (.UnaryOp .Not e pos) := by
  intro CX E k X x v s S H cell Q g q
  have q : PO T.toTb v S H cell E Q (asO ((tru a s (ev G a s)).bind fun k s => bitE (!k) s)) := q
  refine ⟨_, pe_notV (wE_ok e), tru_val x ha hca g ?_⟩
  exact PB.bindO q fun b s1 _ S1 H1 cell1 g1 st1 q1 => q1.sh g1 (.bl (!b))
theorem sndB_not {a : Vm.E} {e : Expr} {pos : Pos} (ht : SndT T t N G a sc e) : SndB T t N G (.not a) sc (.UnaryOp .Not e pos) := by
  intro CX E k X x v s S H cell Q g q
  have q : PB T.toTb v S H cell E Q (bo ((tru a s (ev G a s)).bind fun k s => bitE (!k) s)) := q
  rw [bo_bind] at q
  refine ⟨_, pt_not (wT_ok e), ht x g ?_⟩
  exact PB.bindB q fun b s1 _ S1 H1 cell1 g1 st1 q1 => q1 S1 H1 cell1 g1 Step.refl
/-- a bool's value -/
theorem val_bo {a : Vm.E} {e : Expr} (ha : SndE T t N G a sc e) (x : Xk T t N G CX E k sc X) {Q : Bool → Hp → Prop} (g : Good T.toTb v s S H cell) (q : PB T.toTb v S H cell E Q (bo (ev G a s))) : wE X e v H fun y H' => ∃ k, y = .bl k ∧ Q k H' := ha x g q.toO
theorem PB.bit {T : Tb} {C : Nat → List Addr} {Q : VK} {r : R Bool} (h : PO T v S H C E Q (asO (r.bind bitE))) : PB T v S H C E (fun b H => Q (.bl b) H) r :=
  PB.bindO h fun b s1 _ S1 H1 cell1 g1 st1 q1 => q1.sh g1 (.bl b)
theorem PB.bitB {T : Tb} {C : Nat → List Addr} {Q : Bool → Hp → Prop} {r : R Bool} (h : PB T v S H C E Q (bo (r.bind bitE))) : PB T v S H C E Q r := by
  rw [bo_bind] at h
  exact PB.bindB h fun b s1 _ S1 H1 cell1 g1 st1 q1 => q1 S1 H1 cell1 g1 Step.refl
theorem PB.toQ {T : Tb} {C : Nat → List Addr} {Q : VK} {r : R Vl} (h : PB T v S H C E (fun b H => Q (.bl b) H) (bo r)) : PO T v S H C E Q (asO r) := by
  have q2 := h.toO
  cases hr : asO r with
  | ok o s1 =>
    rw [hr] at q2
    intro y S' H' cell' c' r
    obtain ⟨k, e1, e2⟩ := q2 y S' H' cell' c' r
    subst e1
    exact e2
  | ex c fs s1 => rw [hr] at q2; exact q2
  | er => rw [hr] at q2; exact q2
theorem snd_one {a : Vm.E} {op : BoolOp} {e : Expr} {pos : Pos} (ha : SndE T t N G a sc e) : SndE T t N G a sc (.BoolOp op [e] pos) := by
  intro CX E k X x v s S H cell Q g q
  exact ⟨_, pe_one (wE_ok e), ha x g q⟩
theorem snd_and {a b : Vm.E} {e e2 : Expr} {es : List Expr} {pos : Pos} (ha : SndE T t N G a sc e) (hb : SndE T t N G b sc (.BoolOp .And (e2 :: es) pos)) : SndE T t N G (.and a b) sc (.BoolOp .And (e :: e2 :: es) pos) := by
  intro CX E k X x v s S H cell Q g q
  have q : PO T.toTb v S H cell E Q (asO ((bo (ev G a s)).bind fun k s => if k = true then (bo (ev G b s)).bind bitE else bitE false s)) := q
  refine ⟨_, pe_and (wE_ok e) (wE_ok (.BoolOp .And (e2 :: es) pos)), val_bo ha x g ?_⟩
  refine PB.bindO q fun kk s1 _ S1 H1 cell1 g1 st1 q1 => ?_
  cases kk with
  | false => exact q1.sh g1 (.bl false)
  | true => exact hb x g1 (PB.toQ (PB.bit q1))
theorem snd_or {a b : Vm.E} {e e2 : Expr} {es : List Expr} {pos : Pos} (ha : SndE T t N G a sc e) (hb : SndE T t N G b sc (.BoolOp .Or (e2 :: es) pos)) : SndE T t N G (.or a b) sc (.BoolOp .Or (e :: e2 :: es) pos) := by
  intro CX E k X x v s S H cell Q g q
  have q : PO T.toTb v S H cell E Q (asO ((bo (ev G a s)).bind fun k s => if k = true then bitE true s else (bo (ev G b s)).bind bitE)) := q
  refine ⟨_, pe_or (wE_ok e) (wE_ok (.BoolOp .Or (e2 :: es) pos)), val_bo ha x g ?_⟩
  refine PB.bindO q fun kk s1 _ S1 H1 cell1 g1 st1 q1 => ?_
  cases kk with
  | true => exact q1.sh g1 (.bl true)
  | false => exact hb x g1 (PB.toQ (PB.bit q1))
/-- a test whatever its whole is -/
def wW (X : Cx) (e : Expr) : TT := fun σ H Q => ∃ t, PW X e t ∧ t σ H Q
theorem wW_ok (e : Expr) : PW X e (wW X e) := ⟨fun wh pins s σ H Q I ⟨_, h, q⟩ => h.run wh pins s σ H Q I q⟩
variable (T t N G) in
def SndW (a : Vm.E) (sc : Scope) (e : Expr) : Prop := ∀ {CX : CXT} {E : WX} {k : Nat} {X : Cx}, Xk T t N G CX E k sc X → ∀ {v : St} {s : Env} {S H : Hp} {cell : Nat → List Addr} {Q : Bool → Hp → Prop}, Good T.toTb v s S H cell → PB T.toTb v S H cell E Q (bo (ev G a s)) → wW X e v H Q
theorem sndW_and1 {a : Vm.E} {e : Expr} {pos : Pos} (ha : SndB T t N G a sc e) : SndW T t N G a sc (.BoolOp .And [e] pos) := by
  intro CX E k X x v s S H cell Q g q
  exact ⟨_, pw_and1 (wT_ok e), ha x g q⟩
theorem sndW_or1 {a : Vm.E} {e : Expr} {pos : Pos} (ha : SndB T t N G a sc e) : SndW T t N G a sc (.BoolOp .Or [e] pos) := by
  intro CX E k X x v s S H cell Q g q
  exact ⟨_, pw_or1 (wT_ok e), ha x g q⟩
theorem sndW_and {a b : Vm.E} {e e2 : Expr} {es : List Expr} {pos : Pos} (ha : SndB T t N G a sc e) (hb : SndW T t N G b sc (.BoolOp .And (e2 :: es) pos)) : SndW T t N G (.and a b) sc (.BoolOp .And (e :: e2 :: es) pos) := by
  intro CX E k X x v s S H cell Q g q
  have q : PB T.toTb v S H cell E Q (bo ((bo (ev G a s)).bind fun k s => if k = true then (bo (ev G b s)).bind bitE else bitE false s)) := q
  rw [bo_bind] at q
  refine ⟨_, pw_and (wT_ok e) (wW_ok (.BoolOp .And (e2 :: es) pos)), ha x g ?_⟩
  refine PB.bindB q fun kk s1 _ S1 H1 cell1 g1 st1 q1 => ?_
  cases kk with
  | false => exact q1 S1 H1 cell1 g1 Step.refl
  | true => exact hb x g1 (PB.bitB q1)
theorem sndW_or {a b : Vm.E} {e e2 : Expr} {es : List Expr} {pos : Pos} (ha : SndB T t N G a sc e) (hb : SndW T t N G b sc (.BoolOp .Or (e2 :: es) pos)) : SndW T t N G (.or a b) sc (.BoolOp .Or (e :: e2 :: es) pos) := by
  intro CX E k X x v s S H cell Q g q
  have q : PB T.toTb v S H cell E Q (bo ((bo (ev G a s)).bind fun k s => if k = true then bitE true s else (bo (ev G b s)).bind bitE)) := q
  rw [bo_bind] at q
  refine ⟨_, pw_or (wT_ok e) (wW_ok (.BoolOp .Or (e2 :: es) pos)), ha x g ?_⟩
  refine PB.bindB q fun kk s1 _ S1 H1 cell1 g1 st1 q1 => ?_
  cases kk with
  | true => exact q1 S1 H1 cell1 g1 Step.refl
  | false => exact hb x g1 (PB.bitB q1)
theorem SndW.b {a : Vm.E} {e : Expr} (h : SndW T t N G a sc e) : SndB T t N G a sc e := by
  intro CX E k X x v s S H cell Q g q
  obtain ⟨tt, p, q⟩ := h x g q
  exact ⟨tt, p.pt, q⟩
theorem snd_ite {c a b : Vm.E} {e e1 e2 : Expr} {pos : Pos} (hc : SndT T t N G c sc e) (ha : SndE T t N G a sc e1) (hb : SndE T t N G b sc e2) : SndE T t N G (.ite c a b) sc (.IfExp e e1 e2 pos) := by
  intro CX E k X x v s S H cell Q g q
  have q : PO T.toTb v S H cell E Q (asO ((tru c s (ev G c s)).bind fun k s => if k = true then ev G a s else ev G b s)) := q
  refine ⟨_, pe_ifExp (wT_ok e) (wE_ok e1) (wE_ok e2), hc x g ?_⟩
  refine PB.bindO q fun kk s1 _ S1 H1 cell1 g1 st1 q1 => ?_
  cases kk with
  | true => exact ha x g1 q1
  | false => exact hb x g1 q1

end
end Vm

namespace Vm
open PySem L2 Evl
def wO (X : Cx) (e : Option Expr) : TO := fun σ H Q => ∃ t, L2.PO X e t ∧ t σ H Q
theorem wO_ok {X : Cx} (e : Option Expr) : L2.PO X e (wO X e) := ⟨fun pins s σ H Q I ⟨_, h, q⟩ => h.run pins s σ H Q I q⟩
section
variable {T : Tx} {t : Tt} {N : List Str} {G : Ct} {CX : CXT} {E : WX} {k : Nat} {sc : Scope} {X : Cx} {v : St} {s : Env} {S H : Hp} {cell : Nat → List Addr}
theorem prt_ne {lo : Vm.E} (h : lo ≠ .nil) (s : Env) (r : R Vl) : prt lo s r = (asD r).bind fun d s => match intO d with
    | some i => .ok (some i) s
    | none => .er := by cases lo <;> first | rfl | exact absurd rfl h
theorem prt_ok {α : Type} (x : Xk T t N G CX E k sc X) {lo : Vm.E} {l : Option Expr} (hl : (lo = .nil ∧ l = none) ∨ ∃ e, l = some e ∧ SndE T t N G lo sc e ∧ chk t N sc lo (.ex e) = true ∧ lo ≠ .nil) {y : V} {z : A} (o : Opd T.toTb v S H y z) (f : firm lo z) (g : Good T.toTb v s S H cell) {Q0 : VK} {Q : Option Int → Hp → Prop} {K : Option Int → Env → R Vl}
    (q : PO T.toTb v S H cell E Q0 (asO ((prt lo s (ev G lo s)).bind K)))
    (go : ∀ i s1 S1 H1 cell1, Good T.toTb v s1 S1 H1 cell1 → Opd T.toTb v S1 H1 y z → Step S H cell S1 H1 cell1 → PO T.toTb v S1 H1 cell1 E Q0 (asO (K i s1)) → Q i H1) : wO X l v H Q := by
  rcases hl with ⟨rfl, rfl⟩ | ⟨e, rfl, hs, hc, hn⟩
  · exact ⟨_, po_none, go none s S H cell g o Step.refl q⟩
  · rw [prt_ne hn, bind_bind] at q
    refine ⟨_, po_some (wE_ok e), hs.dk hc x o f g q fun d s1 _ w S1 H1 cell1 g1 hd o1 st1 q1 => ?_⟩
    cases d with
    | int i => cases hd; exact ⟨i, rfl, go (some i) s1 S1 H1 cell1 g1 o1 st1 q1⟩
    | _ => exact False.elim q1
theorem snd_slc {a lo hi : Vm.E} {e : Expr} {l h : Option Expr} {p2 pos : Pos} (ha : SndE T t N G a sc e) (hca : chk t N sc a (.ex e) = true) (hl : (lo = .nil ∧ l = none) ∨ ∃ e, l = some e ∧ SndE T t N G lo sc e ∧ chk t N sc lo (.ex e) = true ∧ lo ≠ .nil)
    (hh : (hi = .nil ∧ h = none) ∨ ∃ e, h = some e ∧ SndE T t N G hi sc e ∧ chk t N sc hi (.ex e) = true ∧ hi ≠ .nil) : SndE T t N G (.slc a lo hi) sc (.Subscript e (.Slice l h none p2) pos) := by
  intro CX E k X x v s S H cell Q g q
  have q : PO T.toTb v S H cell E Q (asO ((pk a (.cons lo hi) s (ev G a s)).bind fun x s => (prt lo s (ev G lo s)).bind fun l s => (prt hi s (ev G hi s)).bind fun h s => okO (x.res s) fun o => okO (slcO o l h) fun o => .ok (.o o) s)) := q
  refine ⟨_, pe_slice wSl_ok (wE_ok e) (wO_ok l) (wO_ok h), ?_⟩
  show wE X e v H fun y1 H1 => wO X l v H1 fun l' H2 => wO X h v H2 fun u H3 => wSl X y1 l' u H3 Q
  refine ha.p hca x g (PA'.bindO q fun z s1 hz y1 S1 H1 cell1 g1 oz fz st1 q1 => ?_)
  have f1 : firm lo z := by
    cases z with
    | val d => trivial
    | ref p => exact fz.imp id fun w => (b2 w).1
  have f2 : firm hi z := by
    cases z with
    | val d => trivial
    | ref p => exact fz.imp id fun w => (b2 w).2
  refine prt_ok (α := Unit) x hl oz f1 g1 q1 fun i s2 S2 H2 cell2 g2 oz2 st2 q2 => ?_
  refine prt_ok (α := Unit) x hh oz2 f2 g2 q2 fun j s3 S3 H3 cell3 g3 oz3 st3 q3 => ?_
  obtain ⟨o, ho, q4⟩ := okO_ok q3
  obtain ⟨r, hr, q5⟩ := okO_ok q4
  obtain ⟨c0, ow⟩ := opd_ow g3 oz3 ho
  exact slc_ok x.K g3 ow hr q5

theorem getO_ins (c g : Nat) (fs : List (Nat × D)) (r : List Nat) : getO (.sh (.ins c fs)) (g :: r) = match getD' g fs with
    | some d => getO (.sh d) r
    | none => none := by
  simp only [getO] <;> rfl
theorem getO_oo (c g : Nat) (fs : List (Nat × O)) (r : List Nat) : getO (.oo c fs) (g :: r) = match getF g fs with
    | some o => getO o r
    | none => none := by
  simp only [getO] <;> rfl
theorem getO_snoc {f : Nat} : ∀ {fs : List Nat} {o u : O}, getO o fs = some u → getO o (fs ++ [f]) = getO u [f]
  | [], o, u, h => by
    have h : some o = some u := by simpa [getO] using h
    cases h
    rfl
  | g :: r, o, u, h => by
    cases o with
    | sh d =>
      cases d with
      | ins c fs =>
        rw [List.cons_append, getO_ins]
        rw [getO_ins] at h
        cases q : getD' g fs with
        | none => rw [q] at h; cases h
        | some d =>
          rw [q] at h
          exact getO_snoc (fs := r) h
      | _ => simp [getO] at h
    | ol l => simp [getO] at h
    | oo c fs =>
      rw [List.cons_append, getO_oo]
      rw [getO_oo] at h
      cases q : getF g fs with
      | none => rw [q] at h; cases h
      | some d =>
        rw [q] at h
        exact getO_snoc (fs := r) h
    | od l => simp [getO] at h
theorem getP_snoc {p : Pth} {f : Nat} {u : O} (h : getP s p = some u) : getP s ⟨p.i, p.fs ++ [f]⟩ = getO u [f] := by
  unfold getP at h ⊢
  cases e : s[p.i]? with
  | none => rw [e] at h; cases h
  | some q =>
    cases q with
    | none => rw [e] at h; cases h
    | some o =>
      rw [e] at h
      exact getO_snoc h
theorem snd_attr {a : Vm.E} {f : Nat} {e : Expr} {n : Str} {pos : Pos} (ha : SndE T t N G a sc e) (hca : chk t N sc a (.ex e) = true) (hn : n = t.nm f) (hs : superB e = false) : SndE T t N G (.attr a f) sc (.Attribute e n pos) := by
  intro CX E k X x v s S H cell Q g q
  have q : PO T.toTb v S H cell E Q (asO ((pk a .nil s (ev G a s)).bind fun x s => attrA G x f s)) := q
  refine ⟨_, pe_at wAt_ok (wE_ok e) (base_of hs), ?_⟩
  show wE X e v H fun y1 H1 => wAt X n y1 H1 Q
  rw [x.fx.nm] at hn
  subst hn
  refine ha.p hca x g (PA'.bindO q fun z s1 hz y1 S1 H1 cell1 g1 oz fz st1 q1 => ?_)
  obtain ⟨o, ho, q2⟩ := okO_ok q1
  obtain ⟨c0, q0⟩ := arg_of g1 oz ho
  have fld : ∀ u w, getO o [f] = some u → Dn T.toTb H1 y1 [f] w → Q w H1 → wAt X (T.nm f) y1 H1 Q := fun u w _ dn qq => by
    obtain ⟨b, C, dx, fv, u', e1, e2, e3, c1, c2, e4⟩ := dn
    have e4 : u' = w := e4
    subst e4
    exact ⟨_, at_fld, b, C, dx, fv, u', e1, e2, by rw [x.K]; exact c1, by rw [x.K]; exact c2, e3, qq⟩
  have own : ∀ u, getO o [f] = some u → u.own = true → PO T.toTb v S1 H1 cell1 E Q (asO (attrA G z f s1)) → wAt X (T.nm f) y1 H1 Q := fun u hu ow q3 => by
    cases oz with
    | @val d hd =>
      have e : attrA G (.val d) f s1 = .er := by
        unfold attrA
        rw [ho]
        show (match getO o [f] with
          | some (.sh d) => (R.ok (.o (.sh d)) s1 : R Vl)
          | some u => .er
          | none => okO (clsO o) fun c => match cst1 G c f with
            | some d => .ok (.o (.sh d)) s1
            | none => okO (G.prp c f) fun g => rO (noX (callF G.F g [.val d] s1))) = .er
        rw [hu]
        cases u with
        | sh d => cases ow
        | ol l => rfl
        | oo c fs => rfl
        | od l => rfl
      rw [e] at q3
      exact False.elim q3
    | @ref r p hr dn =>
      have e : attrA G (.ref p) f s1 = .ok (.o (.sh (frz u))) (setP s1 ⟨p.i, p.fs ++ [f]⟩ (.sh (frz u))) := by
        unfold attrA
        rw [ho]
        show (match getO o [f] with
          | some (.sh d) => (R.ok (.o (.sh d)) s1 : R Vl)
          | some u => .ok (.o (.sh (frz u))) (setP s1 ⟨p.i, p.fs ++ [f]⟩ (.sh (frz u)))
          | none => okO (clsO o) fun c => match cst1 G c f with
            | some d => .ok (.o (.sh d)) s1
            | none => okO (G.prp c f) fun g => rO (noX (callF G.F g [.ref p] s1))) = _
        rw [hu]
        cases u with
        | sh d => cases ow
        | ol l => rfl
        | oo c fs => rfl
        | od l => rfl
      rw [e] at q3
      have hg : getP s1 p = some o := ho
      have hu2 := (getP_snoc (f := f) hg).trans hu
      obtain ⟨r', w, cu, sp⟩ := g1.at hu2
      obtain ⟨S2, cell2, g2, hd, st2⟩ := sp.share g1 ow
      obtain ⟨u1, d1, d2⟩ := Dn.split sp.dn
      have er : r = r' := by
        have e := sp.root
        have e' : v[p.i]? = some (some r') := e
        rw [hr] at e'
        cases e'; rfl
      subst er
      have e2 := Dn.uniq dn d1
      subst e2
      exact fld u w hu d2 ((PO.step st2 q3).sh g2 hd)
  cases hg : getO o [f] with
  | some u =>
    simp only [attrA, hg] at q2
    cases u with
    | sh d =>
      obtain ⟨w, cu, dn, ow, _⟩ := q0.ow.at q0.nd hg g1.ex
      cases ow with
      | sh hd => exact fld _ w hg dn (q2.sh g1 hd)
    | ol l => exact own _ hg rfl q1
    | oo c fs => exact own _ hg rfl q1
    | od l => exact own _ hg rfl q1
  | none =>
    simp only [attrA, hg] at q2
    obtain ⟨c, hc, q3⟩ := okO_ok q2
    obtain ⟨a', dx, fv, e1, e2, ic, hnn⟩ := view_cls g1.ex q0.ow hc
    cases hcs : cst1 G c f with
    | some d =>
      rw [hcs] at q3
      unfold cst1 at hcs
      split at hcs
      · cases hcs
      · rename_i hf0
        obtain ⟨⟨w, u, cn, hd⟩, _⟩ := x.fx.con c f d ic hf0 hcs
        have cl := T.cls c ic
        rw [← x.K] at cl cn
        exact ⟨_, at_con cl cn, a', dx, fv, e1, e2, hnn f hg, q3.sh g1 (hd _)⟩
    | none =>
    rw [hcs] at q3
    obtain ⟨gg, hgg, q4⟩ := okO_ok q3
    rw [asO_rO] at q4
    obtain ⟨os, sp⟩ := call_ok g1 (.cons oz .nil) (noX_ok q4)
    obtain ⟨p, hp, hb⟩ := x.fx.prp c f gg ic hgg
    rw [← x.K] at hp hb
    have cl := T.cls c ic
    rw [← x.K] at cl
    exact ⟨_, at_prop cl hp (x.fn gg) x.r1 hb x.nop, a', dx, fv, e1, e2, x.sp sp⟩
end
end Vm

namespace Vm
open PySem L2 Evl
section
variable {T : Tx} {t : Tt} {N : List Str} {G : Ct} {CX : CXT} {E : WX} {k : Nat} {sc : Scope} {X : Cx} {v : St} {s : Env} {S H : Hp} {cell : Nat → List Addr}
/-- an instance is made at the slots σ: what __init__ lets out is taken there -/
theorem made_at {X : Cx} {C f : Addr} {fd : FuncData} {ps : List Str} {sp : Sp} {W : XK} {pins : List (Addr × Obj)} {σ : St} {H : Hp} {s : Shared} {Q : VK} {us : List Value} {vs : List V} (M : Mk X.K C f) (F : FnOk X.prog X.w X.K X.mg X.base CX k f fd ps sp)
    (hr : Room (k + 1) X.A) (hb : Binds X.K fd ps []) (hx : PassesAt CX X σ W) (I : Inv X pins σ H s) (r : Vals vs us)
    (h : ∀ x dx, H x = none → H dx = none → dx ≠ x → sp (.ref x :: vs) (upd (upd H dx (.own x)) x (.ins C dx [])) (fun v H2 => v = .non ∧ Q (.ref x) H2) W) : wpAny (model X.prog X.w) X.A (call (.ref C) us) (EP X pins σ Q) X.xe s := by
  have J := Inv.made (C := C) I
  generalize ea : s.heap.objs.size = d0 at J
  have hq := h (d0 + 1) d0 (I.hok.fresh (by rw [ea]; exact Nat.le_succ _)) (I.hok.fresh (by rw [ea]; exact Nat.le_refl _)) (Nat.ne_of_lt (Nat.lt_succ_self _))
  have rr : Vals (V.ref (d0 + 1) :: vs) (Value.ref (d0 + 1) :: us) := .cons rfl r
  have bnd := hb _ (Value.ref (d0 + 1) :: us) J.kIn (by rw [List.append_nil, ← rr.length]; exact F.len _ _ _ _ hq)
  rw [List.append_nil] at bnd
  refine wpAny_call (make_map (f := f) I.kIn M.makes M.init (beq_iff_eq.mp M.fn) ?_)
  rw [ea]
  refine codeAny_mono (F.run _ X.stack _ _ _ _ _ _ W (hr.make C us []) (J.env0.make C us []) bnd rr hq) fun z s' hz => ?_
  rcases z with e | (_ | _ | _ | u)
  · exact hx pins _ _ e s' J hz
  · exact False.elim hz
  · exact False.elim hz
  · exact False.elim hz
  · obtain ⟨w, H', J', rw', ew, q3⟩ := J.after hz
    subst ew
    exact ⟨rw', V.ref (d0 + 1), H', J', rfl, q3⟩
theorem pe_makeS {X : Cx} {C f : Addr} {fd : FuncData} {ps : List Str} {sp : Sp} {W : St → XK} {x : Str} {p pos : Pos} {e : Expr} {es : List Expr} {ta : TA} (M : Mk X.K C f) (F : FnOk X.prog X.w X.K X.mg X.base CX k f fd ps sp) (hr : Room (k + 1) X.A) (hg : Gl X x) (hm : X.mg x = some (.ref C)) (hb : Binds X.K fd ps [])
    (hx : ∀ σ, PassesAt CX X σ (W σ)) (ha : PA X (e :: es) ta) (hdb : (x == ("__debug__" : Str)) = false) (he : starEach (e :: es) X.env = (false, eval e X.env) :: starEach es X.env) (hpl : (backTo pos (starEach es X.env)).any (·.1) = false) :
    PE X (.Call (.Name x p) (e :: es) [] pos) (fun σ H Q => ta σ H fun vs H1 => ∀ y dx, H1 y = none → H1 dx = none → dx ≠ y → sp (.ref y :: vs) (upd (upd H1 dx (.own y)) y (.ins C dx [])) (fun v H2 => v = .non ∧ Q (.ref y) H2) (W σ)) :=
  ⟨fun pins s σ H Q I h => wpAny_Call_Name_kw (ld_glob I hg hm (PySem.W.callWith_K (h₀ := X.base) I.ok.mod.kin M.kp (thn (ha.run pos pins s σ H _ I h) fun us s1 ⟨vs, H1, I1, r, q⟩ => ⟨I1.kIn, made_at M F hr hb (hx σ) I1 r q⟩) he hpl) hdb)⟩
theorem chk_star : ∀ (es : List Expr) (b : Vm.E), chk t N sc b (.ar es) = true → anyStar es = false
  | [], _, _ => rfl
  | e :: es, b, h => by
    cases b <;> first | (cases h; done) | skip
    obtain ⟨h, h3⟩ := b2 h
    obtain ⟨h1, h2⟩ := b2 h
    have h1 : starB e = false := by simpa using h1
    have e1 : starred e = false := by cases e <;> first | rfl | cases h1
    show (starred e || anyStar es) = false
    rw [e1, chk_star es _ h3]
    rfl
theorem chk_hd {es : List Expr} {e : Expr} {b : Vm.E} (h : chk t N sc b (.ar (e :: es)) = true) (env : PySem.Env) : starEach (e :: es) env = (false, eval e env) :: starEach es env ∧ ∀ pos, (backTo pos (starEach es env)).any (·.1) = false := by
  have a := chk_star _ _ h
  have a : (starred e || anyStar es) = false := a
  rw [Bool.or_eq_false_iff] at a
  exact ⟨star_cons a.1, fun pos => star_any a.2⟩
theorem snd_call {gg : Nat} {as : Vm.E} {y : Str} {e : Expr} {es : List Expr} {p pos : Pos} (hg : t.gn gg = some y) (h1 : glB sc y = true) (h2 : (!odd y) = true) (ha : SndA T t N G as sc (e :: es)) (hc : chk t N sc as (.ar (e :: es)) = true) : SndE T t N G (.call gg as) sc (.Call (.Name y p) (e :: es) [] pos) := by
  intro CX E k X x v s S H cell Q g q
  have q : PO T.toTb v S H cell E Q (asO ((asL (ev G as s)).bind fun l s => rO (callF G.F gg l s))) := q
  obtain ⟨f1, f2, f3⟩ := x.fx.gl gg y hg
  rw [← x.K] at f2 f3
  obtain ⟨s1, s2⟩ := chk_hd hc X.env
  refine ⟨_, pe_callS (x.fn gg) x.r0 (x.gl h1) f1 f2 f3 x.pass (wA_ok (e :: es)) (odd_of h2).1 s1 (s2 pos), ?_⟩
  refine ha x g (PL.bindO q fun l s3 hl xs S1 H1 cell1 g1 os st1 q1 => ?_)
  rw [asO_rO] at q1
  obtain ⟨os, sp⟩ := call_ok g1 os q1
  exact x.sp sp
theorem snd_mk {c : Nat} {as : Vm.E} {y : Str} {e : Expr} {es : List Expr} {p pos : Pos} (hg : t.cn c = some y) (h1 : glB sc y = true) (h2 : (!odd y) = true) (ha : SndA T t N G as sc (e :: es)) (hc : chk t N sc as (.ar (e :: es)) = true) (h0 : ∃ gg, G.mth c 0 = some gg) : SndE T t N G (.mk c as) sc (.Call (.Name y p) (e :: es) [] pos) := by
  intro CX E k X x v s S H cell Q g q
  have q : PO T.toTb v S H cell E Q (asO ((asL (ev G as s)).bind fun l s => okO (G.mth c 0) fun g => rO (makeF G.F c g l s))) := q
  obtain ⟨gg, h0⟩ := h0
  obtain ⟨f1, ic⟩ := x.fx.cl c y hg
  obtain ⟨f2, f3⟩ := x.fx.mkc c gg h0
  rw [← x.K] at f2 f3
  obtain ⟨s1, s2⟩ := chk_hd hc X.env
  refine ⟨_, pe_makeS f2 (x.fn gg) x.r1 (x.gl h1) f1 f3 x.pass (wA_ok (e :: es)) (odd_of h2).1 s1 (s2 pos), ?_⟩
  refine ha x g (PL.bindO q fun l s3 hl xs S1 H1 cell1 g1 os st1 q1 => ?_)
  rw [h0] at q1
  have q1 : PO T.toTb v S1 H1 cell1 E Q (asO (rO (makeF G.F c gg l s3))) := q1
  rw [asO_rO] at q1
  intro y dx hy hdx hne
  obtain ⟨os, sp⟩ := make_ok g1 os q1 ic hy hdx hne
  exact x.sp sp
theorem pe_biV {b : Bi} {r : List V → Hp → VK → Prop} {tt : TA} {y : Str} {e : Expr} {es : List Expr} {p pos : Pos} (hy : y = biN b) (hc : CallR X (biV b) r) (hg : Gl X y) (hm : X.mg y = none) (ha : PA X (e :: es) tt) (h2 : (!odd y) = true)
    (he : starEach (e :: es) X.env = (false, eval e X.env) :: starEach es X.env) (hpl : (backTo pos (starEach es X.env)).any (·.1) = false) : PE X (.Call (.Name y p) (e :: es) [] pos) (tCB r tt) := by
  have hv := boot_bi b
  rw [← hy] at hv
  cases b <;> first
    | exact pe_callB hc hg hm hv ha (odd_of h2).2.2 (odd_of h2).1 he hpl
    | exact pe_callTy hc hg hm hv ha (odd_of h2).2.2 (odd_of h2).1 he hpl
theorem snd_bi {b : Bi} {as : Vm.E} {y : Str} {e : Expr} {es : List Expr} {p pos : Pos} (hb : bltB sc y (biN b) = true) (ha : SndA T t N G as sc (e :: es)) (hc : chk t N sc as (.ar (e :: es)) = true) : SndE T t N G (.bi b as) sc (.Call (.Name y p) (e :: es) [] pos) := by
  intro CX E k X x v s S H cell Q g q
  have q : PO T.toTb v S H cell E Q (asO ((asL (ev G as s)).bind fun l s => okO (dsA s l) fun ds => okO (biD b ds) fun o => .ok (.o o) s)) := q
  obtain ⟨hb, h2⟩ := b2 hb
  obtain ⟨hy, h1⟩ := b2 hb
  have hy : y = biN b := beq_iff_eq.mp hy
  obtain ⟨s1, s2⟩ := chk_hd hc X.env
  refine ⟨_, pe_biV hy (wC_ok (biV b)) (x.gl h1) (by rw [hy]; exact x.fx.bl b) (wA_ok (e :: es)) h2 s1 (s2 pos), ?_⟩
  refine ha x g (PL.bindO q fun l s3 hl xs S1 H1 cell1 g1 os st1 q1 => ?_)
  obtain ⟨ds, hd, q2⟩ := okO_ok q1
  obtain ⟨o, ho, q3⟩ := okO_ok q2
  exact bi_ok x.calm x.K g1 ho (vws_of g1 os hd) q3
/-- len of an own instance -/
theorem call_lenO {X : Cx} {C f : Addr} {fd : FuncData} {ps : List Str} {sp : Sp} (hs : PySem.W.findIn X.K (.ref C) "__len__" = some (some (.ref f))) (hf : PySem.W.isFn X.K (.ref f) = true) (F : FnOk X.prog X.w X.K X.mg X.base CX k f fd ps sp) (hr : Room (k + 1) X.A) (hb : Binds X.K fd ps []) (hx : Passes CX X (fun _ _ _ => False)) :
    CallR X (.builtin "len") (fun xs H Q => ∃ a dx fs, xs = [.ref a] ∧ H a = some (.ins C dx fs) ∧ sp [.ref a] H (fun y H' => ∃ n : Int, y = .int n ∧ 0 ≤ n ∧ n < 2 ^ 63 ∧ Q (.int n) H') (fun _ _ _ => False)) := by
  intro pins s σ H xs us Q I r h
  obtain ⟨a, dx, fs, rfl, ha, q⟩ := h
  obtain ⟨u, rfl⟩ : ∃ u, us = [u] := by
    cases r with
    | cons _ r => cases r; exact ⟨_, rfl⟩
  cases r with
  | cons rx r =>
  obtain rfl : u = Value.ref a := rx
  obtain ⟨mA, O, _⟩ := ins_get I.hok ha
  obtain ⟨od, J, _⟩ := O.look
  obtain ⟨m, hF⟩ := I.fr
  refine PySem.W.len_K hF I.ok.mod.kin J hs hf ?_
  have rr : Vals [V.ref a] [Value.ref a] := .cons rfl .nil
  have bnd := hb s [Value.ref a] I.kIn (by rw [List.append_nil, ← rr.length]; exact F.len _ _ _ _ q)
  rw [List.append_nil] at bnd
  refine wpAny_call (codeAny_mono (F.run _ X.stack s H _ _ _ _ _ hr.in1 I.env0.in1 bnd rr q) fun z s' hz => ?_)
  rcases z with e | (_ | _ | _ | u)
  · exact hx pins σ H s e s' I hz
  · exact False.elim hz
  · exact False.elim hz
  · exact False.elim hz
  · obtain ⟨y, H', I', ry, n, rfl, h0, h1, q2⟩ := I.after hz
    obtain ⟨tk, rfl⟩ := ry
    exact ⟨⟨h0, h1⟩, .int n, H', I'.tok _, ⟨_, rfl⟩, q2⟩
theorem lenR_ok {T : Tb} {C : Nat → List Addr} {Q : VK} {r : R O} (h : PO T v S H C E Q (lenR r)) : PO T v S H C E (fun y H' => ∃ n : Int, y = .int n ∧ 0 ≤ n ∧ n < 2 ^ 63 ∧ Q (.int n) H') r := by
  cases r with
  | ok o s1 =>
    cases o with
    | sh d =>
      cases d with
      | int n =>
        have h : PO T v S H C E Q (if 0 ≤ n ∧ n.toNat ≤ lim then .ok (.sh (.int n)) s1 else .er) := h
        split at h
        · rename_i hn
          intro x S1 H1 c1 c k
          have ow := k.o
          cases ow with
          | sh hd =>
            cases hd
            have hl : (n.toNat : Nat) ≤ 100000 := hn.2
            exact ⟨n, rfl, hn.1, by omega, h _ S1 H1 c1 [] k⟩
        · exact False.elim h
      | _ => exact False.elim h
    | _ => exact False.elim h
  | ex c fs s1 => exact h
  | er => exact h
theorem snd_len {a : Vm.E} {y : Str} {e : Expr} {p pos : Pos} (hb : bltB sc y "len" = true) (hst : starB e = false) (ha : SndE T t N G a sc e) (hca : chk t N sc a (.ex e) = true) : SndE T t N G (.len a) sc (.Call (.Name y p) [e] [] pos) := by
  intro CX E k X x v s S H cell Q g q
  have q : PO T.toTb v S H cell E Q (asO ((pk a .nil s (ev G a s)).bind fun x s => okO (x.res s) fun o => match clsO o with
    | some c => okO (G.mth c 18) fun g => rO (lenR (noX (callF G.F g [x] s)))
    | none => okO (biD .len [frz o]) fun o => .ok (.o o) s)) := q
  obtain ⟨hb, h2⟩ := b2 hb
  obtain ⟨hy, h1⟩ := b2 hb
  have hy : y = "len" := beq_iff_eq.mp hy
  subst hy
  refine ⟨_, pe_biV (b := .len) rfl (wC_ok (biV .len)) (x.gl h1) (x.fx.bl .len) (pa_cons (wE_ok e) pa_nil (star_of hst)) h2 (star_of hst) rfl, ?_⟩
  show wE X e v H fun y1 H1 => wC X (biV .len) [y1] H1 Q
  refine ha.p hca x g (PA'.bindO q fun z s1 hz y1 S1 H1 cell1 g1 oz fz st1 q1 => ?_)
  obtain ⟨o, ho, q2⟩ := okO_ok q1
  obtain ⟨c0, ow⟩ := opd_ow g1 oz ho
  cases hc : clsO o with
  | some c =>
    simp only [hc] at q2
    obtain ⟨gg, hg, q3⟩ := okO_ok q2
    rw [asO_rO] at q3
    obtain ⟨a', dx, fv, e1, e2, ic, _⟩ := view_cls g1.ex ow hc
    obtain ⟨os, sp⟩ := call_ok g1 (.cons oz .nil) (noX_ok (lenR_ok q3))
    obtain ⟨f1, f2, f3⟩ := x.fx.len c gg ic hg
    rw [← x.K] at f1 f2 f3
    subst e1
    exact ⟨_, call_lenO f1 f2 (x.fn gg) x.r1 f3 x.nop0, a', dx, fv, rfl, e2, x.sp sp⟩
  | none =>
    simp only [hc] at q2
    obtain ⟨o', hb', q3⟩ := okO_ok q2
    have hd : dsA s1 [z] = some [frz o] := by
      unfold dsA dsA
      rw [ho]
    exact bi_ok x.calm x.K g1 hb' (vws_of g1 (.cons oz .nil) hd) q3
theorem snd_lrg {a : Vm.E} {y z : Str} {e : Expr} {p p1 p2 pos : Pos} (hb : bltB sc y "list" = true) (hb2 : bltB sc z "range" = true) (hst : starB e = false) (ha : SndE T t N G a sc e) : SndE T t N G (.lrg a) sc (.Call (.Name y p) [.Call (.Name z p1) [e] [] p2] [] pos) := by
  intro CX E k X x v s S H cell Q g q
  have q : PO T.toTb v S H cell E Q (asO ((asD (ev G a s)).bind fun d s => okO (intO d) fun n => if -lim ≤ n ∧ n ≤ lim then .ok (.o (.ol (rngD 0 n.toNat))) s else .er)) := q
  obtain ⟨hb, h2⟩ := b2 hb
  obtain ⟨hy, h1⟩ := b2 hb
  obtain ⟨hb2, k2⟩ := b2 hb2
  obtain ⟨hz, k1⟩ := b2 hb2
  have hy : y = "list" := beq_iff_eq.mp hy
  have hz : z = "range" := beq_iff_eq.mp hz
  subst hy
  subst hz
  refine ⟨_, pe_listRg x.calm (x.gl h1) (x.fx.bl .list) (prg_1 (x.gl k1) (x.fx.bl .range) (wE_ok e) (star_of hst)) rfl, ?_⟩
  show wE X e v H fun y1 H1 => ∃ n, y1 = .int n ∧ (RgOk 0 n ∧ ∀ q, H1 q = none → Q (.ref q) (upd H1 q (.lst (rgV 0 n))))
  refine ha.d x g (PD.bindO q fun d s1 hd y1 S1 H1 cell1 g1 hy1 st1 q1 => ?_)
  obtain ⟨n, hn, q2⟩ := okO_ok q1
  cases d <;> first | (cases hn; done) | skip
  cases hn
  cases hy1
  split at q2
  · rename_i hl
    have hl : -100000 ≤ n ∧ n ≤ 100000 := hl
    refine ⟨n, rfl, ⟨by omega, by omega, by omega, by omega, by omega⟩, fun p hp => ?_⟩
    refine q2.newL g1 hp ?_
    unfold rgV rngD
    rw [Int.sub_zero]
    generalize List.range n.toNat = l
    induction l with
    | nil => exact .nil
    | cons a r ih => exact .cons (.int _) ih
  · exact False.elim q2

def tyD (T : Tb) : D → Value
  | .non => .type "NoneType"
  | .bl _ => .type "bool"
  | .int _ => .type "int"
  | .str _ => .type "str"
  | .tup _ => .type "tuple"
  | .lst _ => .type "list"
  | .scr _ => .type "list"
  | .dct _ => .type "dict"
  | .cls _ => .type "type"
  | .ins c _ => .ref (T.ca c)
theorem ty_hd (x : Xk T t N G CX E k sc X) {S1 : Hp} {y : V} {d : D} (e : Ex S1 H) (h : Hd T.toTb S1 y d) : isScr d = false → TyX X.K H y (tyD T.toTb d) := by
  intro hn
  cases h with
  | non => exact .base .non
  | bl b => exact .base (.bl b)
  | int i => exact .base (.int i)
  | str z => exact .base (.str z)
  | tup q _ =>
    rcases q with (q | ⟨o, q⟩) | ⟨o, its, n, hk, hc, _⟩
    · exact .base (.tup (e _ _ q))
    · exact .fTuple (e _ _ q)
    · rw [← x.K] at hk
      exact .kTuple hk hc
  | lst q _ => exact .base (.lst (e _ _ q))
  | scr q => cases hn
  | dct q _ => cases hn
  | cls q => cases hn
  | @ins p dx c fv fs hc hp l =>
    have cl := T.cls c hc
    obtain ⟨f1, f2, f3, f4⟩ := x.fx.insF c hc
    rw [← x.K] at cl f1 f2 f3 f4
    exact .base (.ins (e _ _ hp) cl f1 f2 f3 f4)
def clsN : Is → Option String
  | .int => some "int" | .bool => some "bool" | .str => some "str" | .tuple => some "tuple" | .list => some "list" | .cls _ => none
theorem kit_d (x : Xk T t N G CX E k sc X) {d : D} (hn : isScr d = false) (hi : ∀ c fs, d = .ins c fs → T.isC c) {tt : Is} {z : String} (hz : clsN tt = some z) : PySem.W.kitOne X.K (tyD T.toTb d) (.type z) = some (isD tt d) := by
  rw [x.K]
  cases d with
  | ins c fs =>
    have h := x.fx.kCB c (hi c fs rfl)
    cases tt <;> cases hz <;> exact h _ (by simp)
  | scr ns => cases hn
  | dct ns => cases hn
  | cls ns => cases hn
  | non => cases tt <;> cases hz <;> first | exact kit_ty (r := true) (by decide +kernel) | exact kit_ty (r := false) (by decide +kernel)
  | bl b => cases tt <;> cases hz <;> first | exact kit_ty (r := true) (by decide +kernel) | exact kit_ty (r := false) (by decide +kernel)
  | int b => cases tt <;> cases hz <;> first | exact kit_ty (r := true) (by decide +kernel) | exact kit_ty (r := false) (by decide +kernel)
  | str b => cases tt <;> cases hz <;> first | exact kit_ty (r := true) (by decide +kernel) | exact kit_ty (r := false) (by decide +kernel)
  | tup b => cases tt <;> cases hz <;> first | exact kit_ty (r := true) (by decide +kernel) | exact kit_ty (r := false) (by decide +kernel)
  | lst b => cases tt <;> cases hz <;> first | exact kit_ty (r := true) (by decide +kernel) | exact kit_ty (r := false) (by decide +kernel)
theorem kit_c (x : Xk T t N G CX E k sc X) {d : D} (hn : isScr d = false) (hi : ∀ c fs, d = .ins c fs → T.isC c) {c : Nat} (hc : T.isC c) : PySem.W.kitOne X.K (tyD T.toTb d) (.ref (T.ca c)) = some (isD (.cls c) d) := by
  rw [x.K]
  have h := x.fx.kBC c hc
  cases d with
  | ins c' fs => exact (x.fx.kCC c' c (hi c' fs rfl) hc).1
  | scr ns => cases hn
  | dct ns => cases hn
  | cls ns => cases hn
  | _ => exact h _ (by simp)
theorem hd_isC {S1 : Hp} {y : V} {d : D} (h : Hd T.toTb S1 y d) : ∀ c fs, d = .ins c fs → T.isC c := by
  intro c fs e
  subst e
  cases h with
  | ins hc _ _ => exact hc
theorem snd_isi {a : Vm.E} {tt : Is} {y n : Str} {e : Expr} {p p1 pos : Pos} (hb : bltB sc y "isinstance" = true) (hg : glB sc n = true) (hno : (!odd n) = true) (hst : starB e = false) (hk : (match tt with
      | .cls c => decide (t.cn c = some n)
      | k => decide (isN k = some n)) = true) (ha : SndE T t N G a sc e) (hca : chk t N sc a (.ex e) = true) : SndE T t N G (.isi a tt) sc (.Call (.Name y p) [e, .Name n p1] [] pos) := by
  intro CX E k X x v s S H cell Q g q
  have q : PO T.toTb v S H cell E Q (asO ((pk a .nil s (ev G a s)).bind fun x s => okO (x.res s) fun o => if isScr (frz o) = true then .er else bitE (isD tt (frz o)) s)) := q
  obtain ⟨hb, h2⟩ := b2 hb
  obtain ⟨hy, h1⟩ := b2 hb
  have hy : y = "isinstance" := beq_iff_eq.mp hy
  subst hy
  have key : ∃ cv u, ClsV cv u ∧ PE X (.Name n p1) (tC cv) ∧ ∀ d, isScr d = false → (∀ c fs, d = .ins c fs → T.isC c) → PySem.W.kitOne X.K (tyD T.toTb d) u = some (isD tt d) := by
    have bl : ∀ b : Bi, ∀ z : String, n = biN b → biV b = .type z → clsN tt = some z → ∃ cv u, ClsV cv u ∧ PE X (.Name n p1) (tC cv) ∧ ∀ d, isScr d = false → (∀ c fs, d = .ins c fs → T.isC c) → PySem.W.kitOne X.K (tyD T.toTb d) u = some (isD tt d) := fun b z e1 e2 e3 => by
      have hv := boot_bi b
      rw [← e1, e2] at hv
      exact ⟨.ty z, .type z, .ty z, pe_bltn (x.gl hg) (by rw [e1]; exact x.fx.bl b) hv rfl (odd_of hno).2.2 (odd_of hno).1, fun d hn hi => kit_d x hn hi e3⟩
    cases tt with
    | cls c =>
      obtain ⟨f1, f2⟩ := x.fx.cl c n (of_decide_eq_true hk)
      exact ⟨.ref (T.ca c), .ref (T.ca c), .own _, pe_glob (x.gl hg) f1 rfl (odd_of hno).1, fun d hn hi => kit_c x hn hi f2⟩
    | int =>
      have e : some ("int" : Str) = some n := of_decide_eq_true hk
      cases e
      exact bl .int "int" rfl rfl rfl
    | bool =>
      have e : some ("bool" : Str) = some n := of_decide_eq_true hk
      cases e
      exact bl .bool "bool" rfl rfl rfl
    | str =>
      have e : some ("str" : Str) = some n := of_decide_eq_true hk
      cases e
      exact bl .str "str" rfl rfl rfl
    | tuple =>
      have e : some ("tuple" : Str) = some n := of_decide_eq_true hk
      cases e
      exact bl .tuple "tuple" rfl rfl rfl
    | list =>
      have e : some ("list" : Str) = some n := of_decide_eq_true hk
      cases e
      exact bl .list "list" rfl rfl rfl
  obtain ⟨cv, u, kv, pe, kit⟩ := key
  refine ⟨_, pe_callB call_isi (x.gl h1) x.fx.isi PyProof.Rows.boot_isinstance (pa_cons (wE_ok e) (pa_cons pe pa_nil rfl) (star_of hst)) (by decide) (by decide) (star_of hst) rfl, ?_⟩
  show wE X e v H fun y1 H1 => rIsi X.K [y1, cv] H1 Q
  refine ha.p hca x g (PA'.bindO q fun z s1 hz y1 S1 H1 cell1 g1 oz fz st1 q1 => ?_)
  obtain ⟨o, ho, q2⟩ := okO_ok q1
  obtain ⟨c0, ow⟩ := opd_ow g1 oz ho
  cases hs : isScr (frz o) with
  | true => rw [hs] at q2; exact False.elim q2
  | false =>
    rw [hs] at q2
    have q2 : PO T.toTb v S1 H1 cell1 E Q (asO (bitE (isD tt (frz o)) s1)) := q2
    obtain ⟨S2, _, e2, hd⟩ := view g1.ex ow
    exact ⟨y1, cv, tyD T.toTb (frz o), u, isD tt (frz o), rfl, kv, ty_hd x e2 hd hs, kit _ hs (hd_isC hd), q2.sh g1 (.bl _)⟩
end
end Vm

namespace Vm
open PySem L2 Evl
/-- the walk gives the items of l, whatever grows beside; an item may be a new thing -/
structure Wk (T : Tb) (J : It) (S : Hp) (l : List D) : Prop where
  go : ∀ S' H' i, Ex S S' → Ex S' H' → i < l.length → J.go i H' ∧ ∀ x H'', J.yld i H' x H'' → ∃ d, l[i]? = some d ∧ ((H'' = H' ∧ Hd T S' x d) ∨ ∃ p o, H' p = none ∧ H'' = upd H' p o ∧ Hd T (upd S' p o) x d)
  stop : ∀ S' H', Ex S S' → Ex S' H' → J.stop l.length H'
theorem Wk.turn {T : Tb} {J : It} {S S' H' H'' : Hp} {l : List D} {v : St} {s : Env} {cell : Nat → List Addr} {i : Nat} {x : V} (w : Wk T J S l) (g : Good T v s S' H' cell) (e : Ex S S') (hi : i < l.length) (y : J.yld i H' x H'') :
    ∃ d S3, l[i]? = some d ∧ Good T v s S3 H'' cell ∧ Step S' H' cell S3 H'' cell ∧ Hd T S3 x d := by
  obtain ⟨d, hd, h⟩ := (w.go S' H' i e g.ex hi).2 x H'' y
  rcases h with ⟨rfl, h⟩ | ⟨p, o, hp, rfl, h⟩
  · exact ⟨d, S', hd, g, Step.refl, h⟩
  · exact ⟨d, _, hd, g.new hp, Step.new hp (g.fresh hp), h⟩
theorem wk_list {T : Tb} {K : PySem.W.Frag} {S : Hp} {p : Addr} {vs : List V} {l : List D} (h : ∀ S' H', Ex S S' → Ex S' H' → SqL K H' p vs) (k : HdL T S vs l) : Wk T (Itl K p) S l := by
  refine ⟨fun S' H' i e1 e2 hi => ?_, fun S' H' e1 e2 => ⟨vs, h S' H' e1 e2, by rw [k.len]; exact Nat.le_refl _⟩⟩
  have hp := h S' H' e1 e2
  have hd : l[i]? = some l[i] := List.getElem?_eq_getElem hi
  obtain ⟨w, h1, h2⟩ := k.get hd
  refine ⟨⟨vs, w, hp, h1⟩, fun x H'' y => ?_⟩
  obtain ⟨e, y⟩ := y
  have := y vs hp
  rw [h1] at this
  cases this
  exact ⟨_, hd, .inl ⟨e, h2.mono e1⟩⟩
theorem wk_tup {T : Tb} {K : PySem.W.Frag} {S : Hp} {p : Addr} {vs : List V} {l : List D} (h : ∀ S' H', Ex S S' → Ex S' H' → SqT K H' p vs) (k : HdL T S vs l) : Wk T (Itt K p) S l := by
  refine ⟨fun S' H' i e1 e2 hi => ?_, fun S' H' e1 e2 => ⟨vs, h S' H' e1 e2, by rw [k.len]; exact Nat.le_refl _⟩⟩
  have hp := h S' H' e1 e2
  have hd : l[i]? = some l[i] := List.getElem?_eq_getElem hi
  obtain ⟨w, h1, h2⟩ := k.get hd
  refine ⟨⟨vs, w, hp, h1⟩, fun x H'' y => ?_⟩
  obtain ⟨e, y⟩ := y
  have := y vs hp
  rw [h1] at this
  cases this
  exact ⟨_, hd, .inl ⟨e, h2.mono e1⟩⟩
theorem wk_rng {T : Tb} {S : Hp} {lo : Int} {n : Nat} : Wk T (Itr lo n) S (rngD lo n) := by
  have hl : (rngD lo n).length = n := by unfold rngD; simp
  refine ⟨fun S' H' i e1 e2 hi => ?_, fun S' H' e1 e2 => ?_⟩
  · rw [hl] at hi
    refine ⟨hi, fun x H'' y => ?_⟩
    obtain ⟨e, y⟩ := y
    subst y
    refine ⟨.int (lo + i), ?_, .inl ⟨e, .int _⟩⟩
    unfold rngD
    rw [List.getElem?_map, List.getElem?_range hi]
    rfl
  · rw [hl]; exact Nat.le_refl _
theorem wk_dn {T : Tb} {S : Hp} {lo : Int} {n : Nat} : Wk T (Itc lo (-1) n) S ((List.range n).map fun (i : Nat) => D.int (lo - (i : Int))) := by
  have hl : ((List.range n).map fun (i : Nat) => D.int (lo - (i : Int))).length = n := by simp
  refine ⟨fun S' H' i e1 e2 hi => ?_, fun S' H' e1 e2 => ?_⟩
  · rw [hl] at hi
    refine ⟨hi, fun x H'' y => ?_⟩
    obtain ⟨e, y⟩ := y
    subst y
    refine ⟨.int (lo - i), ?_, .inl ⟨e, ?_⟩⟩
    · rw [List.getElem?_map, List.getElem?_range hi]
      rfl
    · have : lo + (i : Int) * (-1) = lo - i := by omega
      rw [this]
      exact .int _
  · rw [hl]; exact Nat.le_refl _
/-- two rows walked beside each other -/
theorem zip_at {T : Tb} {S : Hp} {vs ws : List V} {l m : List D} {i : Nat} (k : HdL T S vs l) (k' : HdL T S ws m) (hi : i < ((l.zip m).map fun q => D.tup [q.1, q.2]).length) :
    ∃ a b x y, ((l.zip m).map fun q => D.tup [q.1, q.2])[i]? = some (.tup [a, b]) ∧ vs[i]? = some x ∧ ws[i]? = some y ∧ Hd T S x a ∧ Hd T S y b := by
  have h1 : i < l.length := by simp at hi; omega
  have h2 : i < m.length := by simp at hi; omega
  obtain ⟨x, e1, e2⟩ := k.get (List.getElem?_eq_getElem h1)
  obtain ⟨y, e3, e4⟩ := k'.get (List.getElem?_eq_getElem h2)
  refine ⟨l[i], m[i], x, y, ?_, e1, e3, e2, e4⟩
  rw [List.getElem?_map, (List.getElem?_zip_eq_some (z := (l[i], m[i]))).mpr ⟨List.getElem?_eq_getElem h1, List.getElem?_eq_getElem h2⟩]
  rfl
theorem zip_new {T : Tb} {S : Hp} {p : Addr} {x y : V} {a b : D} {H : Hp} (e : Ex S H) (hp : H p = none) (h1 : Hd T S x a) (h2 : Hd T S y b) : Hd T (upd S p (.tup [x, y])) (.ref p) (.tup [a, b]) := by
  have ex : Ex S (upd S p (.tup [x, y])) := Ex.new (fresh_back e hp)
  exact .tup (.inl (.inl upd_same)) (.cons (h1.mono ex) (.cons (h2.mono ex) .nil))
theorem wk_zipL {T : Tb} {K : PySem.W.Frag} {S : Hp} {p p' : Addr} {vs ws : List V} {l m : List D} (h : ∀ S' H', Ex S S' → Ex S' H' → SqL K H' p vs) (h' : ∀ S' H', Ex S S' → Ex S' H' → SqL K H' p' ws) (k : HdL T S vs l) (k' : HdL T S ws m) : Wk T (Itz K p p') S ((l.zip m).map fun q => .tup [q.1, q.2]) := by
  refine ⟨fun S' H' i e1 e2 hi => ?_, fun S' H' e1 e2 => ⟨vs, ws, h S' H' e1 e2, h' S' H' e1 e2, by rw [k.len, k'.len]; simp; omega⟩⟩
  obtain ⟨a, b, x, y, q0, q1, q2, q3, q4⟩ := zip_at k k' hi
  refine ⟨⟨vs, ws, x, y, h S' H' e1 e2, h' S' H' e1 e2, q1, q2⟩, ?_⟩
  rintro z H'' ⟨t, x', y', rfl, ht, rfl, y1, y2⟩
  have y1 := y1 vs (h S' H' e1 e2)
  have y2 := y2 ws (h' S' H' e1 e2)
  rw [q1] at y1
  rw [q2] at y2
  cases y1
  cases y2
  exact ⟨_, q0, .inr ⟨t, _, ht, rfl, zip_new e2 ht (q3.mono e1) (q4.mono e1)⟩⟩
theorem wk_zipT {T : Tb} {K : PySem.W.Frag} {S : Hp} {p p' : Addr} {vs ws : List V} {l m : List D} (h : ∀ S' H', Ex S S' → Ex S' H' → SqT K H' p vs) (h' : ∀ S' H', Ex S S' → Ex S' H' → SqT K H' p' ws) (k : HdL T S vs l) (k' : HdL T S ws m) : Wk T (RZ.ItzT K p p') S ((l.zip m).map fun q => .tup [q.1, q.2]) := by
  refine ⟨fun S' H' i e1 e2 hi => ?_, fun S' H' e1 e2 => ⟨vs, ws, h S' H' e1 e2, h' S' H' e1 e2, by rw [k.len, k'.len]; simp; omega⟩⟩
  obtain ⟨a, b, x, y, q0, q1, q2, q3, q4⟩ := zip_at k k' hi
  refine ⟨⟨vs, ws, x, y, h S' H' e1 e2, h' S' H' e1 e2, q1, q2⟩, ?_⟩
  rintro z H'' ⟨t, x', y', rfl, ht, rfl, y1, y2⟩
  have y1 := y1 vs (h S' H' e1 e2)
  have y2 := y2 ws (h' S' H' e1 e2)
  rw [q1] at y1
  rw [q2] at y2
  cases y1
  cases y2
  exact ⟨_, q0, .inr ⟨t, _, ht, rfl, zip_new e2 ht (q3.mono e1) (q4.mono e1)⟩⟩
section
variable {T : Tx} {t : Tt} {N : List Str} {G : Ct} {CX : CXT} {E : WX} {k : Nat} {sc : Scope} {X : Cx} {v : St} {s : Env} {S H : Hp} {cell : Nat → List Addr}
/-- what is wanted of what a loop walks -/
def PI' (T : Tb) (v : St) (S H : Hp) (C : Nat → List Addr) (E : WX) (W : It → Hp → Prop) : R D → Prop
  | .ok d s => ∃ l, itemsD d = some l ∧ ∀ J S' H' cell, Good T v s S' H' cell → Wk T J S' l → Step S H C S' H' cell → W J H'
  | .ex k fs s => PX T v S H C E k fs s
  | .er => False
def wI (X : Cx) (tg e : Expr) : TI := fun σ H R => ∃ wi, PI X tg e wi ∧ wi σ H R
theorem wI_ok {X : Cx} (tg e : Expr) : PI X tg e (wI X tg e) := ⟨fun pins s σ H R I ⟨_, h, q⟩ => h.run pins s σ H R I q⟩
variable (T t N G) in
def SndI (a : Vm.E) (sc : Scope) (e : Expr) : Prop := ∀ {CX : CXT} {E : WX} {k : Nat} {X : Cx}, Xk T t N G CX E k sc X → ∀ {v : St} {s : Env} {S H : Hp} {cell : Nat → List Addr} {R : It → Hp → Prop}, Good T.toTb v s S H cell → PI' T.toTb v S H cell E R (asD (ev G a s)) → ∀ tg, okT a tg = true → wI X tg e v H R
/-- a list or a tuple -/
def iSeq (K : PySem.W.Frag) (tl : TE) : TI := fun σ H R => tl σ H fun x H1 => (∃ a, x = .ref a ∧ (∃ xs, SqL K H1 a xs) ∧ R (Itl K a) H1) ∨ ∃ a, x = .ref a ∧ (∃ xs, SqT K H1 a xs) ∧ R (Itt K a) H1
theorem pi_seq {X : Cx} {tg l : Expr} {tl : TE} (hl : PE X l tl) : PI X tg l (iSeq X.K tl) := by
  refine ⟨fun pins s σ H R I h => ?_⟩
  refine thn (hl.run pins s σ H _ I h) fun v s1 ⟨x, H1, I1, r1, q1⟩ => ?_
  rcases q1 with ⟨a, e, ⟨xs, hq⟩, q⟩ | ⟨a, e, ⟨xs, hq⟩, q⟩
  · subst e
    cases r1
    obtain ⟨its, rv, p, hz⟩ := I1.list hq
    refine wpAny_pyIter_list p.isList ?_
    refine ⟨s1.heap.objs.size, [s1.heap.objs.size], _, _, H1, rfl, I1.kept (t' := s1.toks) fun b o e => Heap.get?_push_of_some _ e, turn_list a _, ⟨_, Heap.get?_push_size _ rfl, rfl, rfl⟩, fun b hb => ?_, q⟩
    have e : b = s1.heap.objs.size := by simpa using hb
    subst e
    exact I1.fpOk (Nat.le_refl _) (I1.hok.fresh (Nat.le_refl _))
  · subst e
    cases r1
    obtain ⟨its, rv, p, hz⟩ := I1.tuple hq
    refine wpAny_pyIter_tuple (show s1.heap.IsTuple a its.toArray from p) ?_
    refine ⟨s1.heap.objs.size, [s1.heap.objs.size], _, _, H1, rfl, I1.kept (t' := s1.toks) fun b o e => Heap.get?_push_of_some _ e, turn_tuple a _, ⟨_, Heap.get?_push_size _ rfl, rfl, rfl⟩, fun b hb => ?_, q⟩
    have e : b = s1.heap.objs.size := by simpa using hb
    subst e
    exact I1.fpOk (Nat.le_refl _) (I1.hok.fresh (Nat.le_refl _))
theorem PI'.toO {T : Tb} {C : Nat → List Addr} {W : It → Hp → Prop} {r : R Vl} (h : PI' T v S H C E W (asD r)) : PO T v S H C E (fun x H1 => ∃ d l S1, itemsD d = some l ∧ Ex S1 H1 ∧ Hd T S1 x d ∧ ∀ J, Wk T J S1 l → W J H1) (asO r) := by
  cases r with
  | ok w s1 =>
    cases w with
    | o o =>
      intro y S' H' cell' c' k
      obtain ⟨S2, g2, hd, st2⟩ := k.frz
      obtain ⟨l, hl, q⟩ := h
      exact ⟨frz o, l, S2, hl, g2.ex, hd, fun J w => q J S2 H' cell' g2 w st2⟩
    | l l => exact h
  | ex c fs s => exact h
  | er => exact h
theorem sndI_itr {a : Vm.E} {e : Expr} (ha : SndE T t N G a sc e) : SndI T t N G (.itr a) sc e := by
  intro CX E k X x v s S H cell R g q tg htg
  have q : PI' T.toTb v S H cell E R (asD (ev G a s)) := q
  refine ⟨_, pi_seq (wE_ok e), ha x g ?_⟩
  have q2 := q.toO
  cases hr : asO (ev G a s) with
  | ok o s1 =>
    rw [hr] at q2
    intro y S' H' cell' c' r
    obtain ⟨d, l, S1, e1, e2, hd, go⟩ := q2 y S' H' cell' c' r
    cases hd with
    | tup z k => 
      cases e1
      refine .inr ⟨_, rfl, ?_⟩
      rw [x.K]
      exact ⟨⟨_, ex_t e2 z⟩, go _ (wk_tup (fun S' H' a b => ex_t b (ex_t a z)) k)⟩
    | lst z k =>
      cases e1
      refine .inl ⟨_, rfl, ?_⟩
      rw [x.K]
      exact ⟨⟨_, sq_of (e2 _ _ z)⟩, go _ (wk_list (fun S' H' a b => sq_of (b _ _ (a _ _ z))) k)⟩
    | _ => cases e1
  | ex c fs s1 => rw [hr] at q2; exact q2
  | er => rw [hr] at q2; exact q2
/-- a range's arguments -/
theorem PL.bindI {T : Tb} {C : Nat → List Addr} {W : It → Hp → Prop} {Q' : List V → Hp → Prop} {r : R (List A)} {k : List A → Env → R Vl} (h : PI' T v S H C E W (asD (r.bind k)))
    (go : ∀ l s1, r = .ok l s1 → ∀ xs S1 H1 cell, Good T v s1 S1 H1 cell → Opds T v S1 H1 xs l → Step S H C S1 H1 cell → PI' T v S H C E W (asD (k l s1)) → Q' xs H1) : PL T v S H C E Q' r := by
  cases r with
  | ok d s => exact fun x S1 H1 cell g hd st => go d s rfl x S1 H1 cell g hd st h
  | ex k fs s => exact h
  | er => exact h
theorem rng_go {T : Tb} {C : Nat → List Addr} {W : It → Hp → Prop} {l : List A} {s1 : Env} {S1 H1 : Hp} {cell1 : Nat → List Addr} (q : PI' T v S H C E W (asD (okO (dsA s1 l) fun ds => okO (rngO ds) fun l => .ok (.o (.ol l)) s1))) (g : Good T v s1 S1 H1 cell1) (st : Step S H C S1 H1 cell1) :
    ∃ ds items, dsA s1 l = some ds ∧ rngO ds = some items ∧ ∀ J, Wk T J S1 items → W J H1 := by
  cases h1 : dsA s1 l with
  | none => rw [h1] at q; exact False.elim q
  | some ds =>
    rw [h1] at q
    cases h2 : rngO ds with
    | none =>
      have q : PI' T v S H C E W (asD (okO (rngO ds) fun l => .ok (.o (.ol l)) s1)) := q
      rw [h2] at q; exact False.elim q
    | some items =>
      have q : PI' T v S H C E W (asD (okO (rngO ds) fun l => .ok (.o (.ol l)) s1)) := q
      rw [h2] at q
      obtain ⟨l', e, q⟩ := q
      cases e
      exact ⟨ds, items, rfl, h2, fun J w => q J S1 H1 cell1 g w st⟩
theorem Vws.uncons {T : Tb} {xs : List V} {d : D} {ds : List D} (h : Vws T S H xs (d :: ds)) : ∃ x o c xs', xs = x :: xs' ∧ Ow T S H x o c ∧ frz o = d ∧ Vws T S H xs' ds := by
  generalize e : d :: ds = l at h
  cases h with
  | nil => cases e
  | cons k r =>
    injection e with e1 e2
    subst e2
    exact ⟨_, _, _, _, rfl, k, e1.symm, r⟩
theorem vws_len {T : Tb} : ∀ {xs : List V} {ds : List D}, Vws T S H xs ds → xs.length = ds.length
  | _, _, .nil => rfl
  | _, _, .cons _ r => by simp [vws_len r]
theorem sndI_rng {as : Vm.E} {y : Str} {es : List Expr} {p pos : Pos} (hb : bltB sc y "range" = true) (hl : 1 ≤ es.length ∧ es.length ≤ 3) (ha : SndA T t N G as sc es) (hc : chk t N sc as (.ar es) = true) : SndI T t N G (.rng as) sc (.Call (.Name y p) es [] pos) := by
  intro CX E k X x v s S H cell R g q tg htg
  have q : PI' T.toTb v S H cell E R (asD ((asL (ev G as s)).bind fun l s => okO (dsA s l) fun ds => okO (rngO ds) fun l => .ok (.o (.ol l)) s)) := q
  obtain ⟨hb, h2⟩ := b2 hb
  obtain ⟨hy, h1⟩ := b2 hb
  have hy : y = "range" := beq_iff_eq.mp hy
  subst hy
  have bnd : ((lim : Nat) : Int) = 100000 := rfl
  match es, hl with
  | [a], _ =>
    obtain ⟨s1, s2⟩ := chk_hd hc X.env
    refine ⟨_, pi_range1 (x.gl h1) (x.fx.bl .range) (wA_ok [a]) s1, ha x g (PL.bindI q fun l s3 hl xs S1 H1 cell1 g1 os st1 q1 => ?_)⟩
    obtain ⟨ds, items, e1, e2, go⟩ := rng_go q1 g1 st1
    have vw := vws_of g1 os e1
    have len : ds.length = 1 := by rw [← vws_len vw, opds_len os, chk_len hc hl]; rfl
    unfold rngO at e2
    split at e2
    · rename_i n
      split at e2
      · rename_i hn
        cases e2
        obtain ⟨y1, o, c, rfl, ow, e⟩ := vw.one
        cases view_int ow e
        exact ⟨n, rfl, by omega, by omega, go _ wk_rng⟩
      · cases e2
    · simp at len
    · simp at len
    · cases e2
  | [a, b], _ =>
    obtain ⟨s1, s2⟩ := chk_hd hc X.env
    have hc2 : ∃ b', chk t N sc b' (.ar [b]) = true := by
      cases as <;> first | (cases hc; done) | skip
      exact ⟨_, (b2 hc).2⟩
    obtain ⟨b', hc2⟩ := hc2
    obtain ⟨s3, s4⟩ := chk_hd hc2 X.env
    refine ⟨_, pi_range2 (x.gl h1) (x.fx.bl .range) (wA_ok [a, b]) (by rw [s1, s3]; rfl) s3, ha x g (PL.bindI q fun l s3 hl xs S1 H1 cell1 g1 os st1 q1 => ?_)⟩
    obtain ⟨ds, items, e1, e2, go⟩ := rng_go q1 g1 st1
    have vw := vws_of g1 os e1
    have len : ds.length = 2 := by rw [← vws_len vw, opds_len os, chk_len hc hl]; rfl
    unfold rngO at e2
    split at e2
    · simp at len
    · rename_i a n
      split at e2
      · rename_i hn
        cases e2
        obtain ⟨y1, o, c, y2, o2, c2, rfl, ow, e, ow2, e'⟩ := vw.two
        cases view_int ow e
        cases view_int ow2 e'
        exact ⟨a, n, rfl, ⟨by omega, by omega, by omega, by omega⟩, go _ wk_rng⟩
      · cases e2
    · simp at len
    · cases e2
  | [a, b, c], _ =>
    obtain ⟨s1, s2⟩ := chk_hd hc X.env
    refine ⟨_, pi_range3 (x.gl h1) (x.fx.bl .range) (wA_ok [a, b, c]) ?_ (s2 pos), ha x g (PL.bindI q fun l s3 hl xs S1 H1 cell1 g1 os st1 q1 => ?_)⟩
    · exact s1
    obtain ⟨ds, items, e1, e2, go⟩ := rng_go q1 g1 st1
    have vw := vws_of g1 os e1
    have len : ds.length = 3 := by rw [← vws_len vw, opds_len os, chk_len hc hl]; rfl
    unfold rngO at e2
    split at e2
    · simp at len
    · simp at len
    · rename_i a n
      split at e2
      · rename_i hn
        cases e2
        obtain ⟨y1, o1, c1, r1, er, ow, e, r⟩ := vw.uncons
        subst er
        obtain ⟨y2, o2, c2, y3, o3, c3, er, ow2, e', ow3, e3⟩ := r.two
        subst er
        cases view_int ow e
        cases view_int ow2 e'
        cases view_int ow3 e3
        exact ⟨a, n, -1, (a - n).toNat, rfl, RgC.neg (by omega) (by omega) (by omega) (by omega), go _ wk_dn⟩
      · cases e2
    · cases e2
theorem sndI_zip {as : Vm.E} {y : Str} {e1 e2 : Expr} {p pos : Pos} (hb : bltB sc y "zip" = true) (ha : SndA T t N G as sc [e1, e2]) (hc : chk t N sc as (.ar [e1, e2]) = true) : SndI T t N G (.zip as) sc (.Call (.Name y p) [e1, e2] [] pos) := by
  intro CX E k X x v s S H cell R g q tg htg
  have q : PI' T.toTb v S H cell E R (asD ((asL (ev G as s)).bind fun l s => okO (shA l s) fun q => okO (zipO q.1) fun l => .ok (.o (.ol l)) q.2)) := q
  obtain ⟨hb, h2⟩ := b2 hb
  obtain ⟨hy, h1⟩ := b2 hb
  have hy : y = "zip" := beq_iff_eq.mp hy
  subst hy
  have htg : tupB tg = true := htg
  cases tg <;> first | (cases htg; done) | skip
  rename_i elts kk tpos
  obtain ⟨s1, s2⟩ := chk_hd hc X.env
  refine ⟨_, RZ.pi_zipA (x.gl h1) (x.fx.bl .zip) (wA_ok [e1, e2]) s1 (s2 pos), ha x g (PL.bindI q fun l s3 hl xs S1 H1 cell1 g1 os st1 q1 => ?_)⟩
  cases hd : shA l s3 with
  | none => rw [hd] at q1; exact False.elim q1
  | some ds =>
    rw [hd] at q1
    obtain ⟨ds, s4⟩ := ds
    obtain ⟨S2, cell2, g2, hl2, st2⟩ := shA_ok g1 os hd
    have q1 : PI' T.toTb v S H cell E R (asD (okO (zipO ds) fun l => .ok (.o (.ol l)) s4)) := q1
    unfold zipO at q1
    split at q1
    · rename_i a b
      obtain ⟨items, e, q2⟩ := q1
      cases e
      cases hl2 with
      | cons k1 hl2 =>
        cases hl2 with
        | cons k2 hl2 =>
          cases hl2
          cases k1 with
          | @lst p1 vs _ hp hlv =>
            cases k2 with
            | @lst p2 ws _ hp2 hlw =>
              exact ⟨p1, p2, vs, ws, rfl, .inl ⟨sq_of (g2.ex _ _ hp), sq_of (g2.ex _ _ hp2), q2 _ S2 H1 cell2 g2 (wk_zipL (fun S' H' e1 e2 => sq_of (e2 _ _ (e1 _ _ hp))) (fun S' H' e1 e2 => sq_of (e2 _ _ (e1 _ _ hp2))) hlv hlw) (st1.trans st2)⟩⟩
    · rename_i a b
      obtain ⟨items, e, q2⟩ := q1
      cases e
      cases hl2 with
      | cons k1 hl2 =>
        cases hl2 with
        | cons k2 hl2 =>
          cases hl2
          cases k1 with
          | @tup p1 vs _ hp hlv =>
            cases k2 with
            | @tup p2 ws _ hp2 hlw =>
              have z1 := hp
              have z2 := hp2
              rw [← x.K] at z1 z2
              exact ⟨p1, p2, vs, ws, rfl, .inr ⟨ex_t g2.ex z1, ex_t g2.ex z2, q2 _ S2 H1 cell2 g2 (wk_zipT (fun S' H' e1 e2 => ex_t e2 (ex_t e1 z1)) (fun S' H' e1 e2 => ex_t e2 (ex_t e1 z2)) hlv hlw) (st1.trans st2)⟩⟩
    · exact False.elim q1
end
end Vm

namespace Vm
open PySem L2 Evl
section
variable {T : Tb} {v : St} {s : Env} {S S' H H' : Hp} {cell cell' : Nat → List Addr}
theorem Good.updO (g : Good T v s S H cell) {D : Addr} {o : HO} (hS : S D = none) (hc : ¬ Cl cell D) : Good T v s S (upd H D o) cell where
  ln := g.ln
  ex := Ex.mut g.ex hS
  sl := fun i u h => let ⟨x, h1, h2⟩ := g.sl i u h; ⟨x, h1, h2.mono (Ex.refl S) (fun a ha w e => by rw [upd_ne (fun z : a = D => hc ⟨i, by rw [← z]; exact ha⟩)]; exact e) fun a ha => (h2.no a ha).1⟩
  nd := g.nd
  nn := g.nn
  dj := g.dj
theorem Step.updO (st : Step S H cell S' H' cell') {D : Addr} {o : HO} (hD : H D = none) : Step S H cell S' (upd H' D o) cell' where
  ss := st.ss
  si := st.si
  hh := fun a u h n => by rw [upd_ne (ne_of_none h hD)]; exact st.hh a u h n
  th := fun a h => by
    by_cases e : a = D
    · subst e; exact hD
    · rw [upd_ne e] at h; exact st.th a h
  cc := st.cc
def clr (cell : Nat → List Addr) : List Nat → Nat → List Addr
  | [] => cell
  | i :: r => setC (clr cell r) i []
theorem clr_sub {i : Nat} {a : Addr} : ∀ {vs : List Nat}, a ∈ clr cell vs i → a ∈ cell i
  | [], h => h
  | j :: r, h => by
    by_cases e : i = j
    · subst e; unfold clr at h; rw [setC_same] at h; cases h
    · unfold clr at h; rw [setC_ne e] at h; exact clr_sub h
theorem Step.clr {vs : List Nat} : Step S H cell S H (Vm.clr cell vs) := ⟨Ex.refl S, fun _ _ _ => rfl, fun _ _ h _ => h, fun _ h => h, fun _ _ h => .inl (clr_sub h)⟩
theorem Good.wipe (g : Good T v s S H cell) : ∀ vs : List Nat, Good T (L2.wipe v vs) (Vm.wipe s vs) S H (clr cell vs)
  | [] => g
  | i :: r => by
    have g1 := (Good.wipe g r).drop i
    refine g1.slots (fun j x o h1 h2 => ?_) (by show ((L2.wipe v r).set i none).length = _; simp)
    show ((L2.wipe v r).set i none)[j]? = _
    by_cases e : i = j
    · subst e
      have hl : i < (Vm.wipe s r).length := by
        rcases Nat.lt_or_ge i (Vm.wipe s r).length with z | z
        · exact z
        · rw [List.getElem?_eq_none (by simpa using z)] at h1; cases h1
      rw [List.getElem?_set_self hl] at h1; cases h1
    · rw [List.getElem?_set_ne e]; exact h2
theorem wipe_get (k : Nat) : ∀ vs : List Nat, (Vm.wipe s vs)[k]? = if k ∈ vs then s[k]?.map (fun _ => none) else s[k]?
  | [] => by simp [Vm.wipe]
  | i :: r => by
    have ih := wipe_get k r
    unfold Vm.wipe
    by_cases e : i = k
    · subst e
      rw [if_pos (by simp)]
      by_cases hl : i < (Vm.wipe s r).length
      · rw [List.getElem?_set_self hl]
        have : (Vm.wipe s r)[i]? ≠ none := by simp [hl]
        split at ih
        · cases h : s[i]? with
          | none => rw [h] at ih; exact absurd ih this
          | some u => rfl
        · cases h : s[i]? with
          | none => rw [h] at ih; exact absurd ih this
          | some u => rfl
      · rw [List.getElem?_eq_none (by simpa using hl)]
        have h0 : (Vm.wipe s r)[i]? = none := List.getElem?_eq_none (by simpa using hl)
        rw [h0] at ih
        split at ih
        · exact ih
        · rw [← ih]; rfl
    · rw [List.getElem?_set_ne e, ih]
      have : (k ∈ i :: r) ↔ k ∈ r := by simp [Ne.symm e]
      simp only [this]
theorem back_get (s0 : Env) (k : Nat) : ∀ vs : List Nat, (back s0 s vs)[k]? = if k ∈ vs then s[k]?.map (fun _ => s0.getD k none) else s[k]?
  | [] => by simp [back]
  | i :: r => by
    have ih := back_get s0 k r
    unfold back
    by_cases e : i = k
    · subst e
      rw [if_pos (by simp)]
      by_cases hl : i < (back s0 s r).length
      · rw [List.getElem?_set_self hl]
        have : (back s0 s r)[i]? ≠ none := by simp [hl]
        split at ih
        · cases h : s[i]? with
          | none => rw [h] at ih; exact absurd ih this
          | some u => rfl
        · cases h : s[i]? with
          | none => rw [h] at ih; exact absurd ih this
          | some u => rfl
      · rw [List.getElem?_eq_none (by simpa using hl)]
        have h0 : (back s0 s r)[i]? = none := List.getElem?_eq_none (by simpa using hl)
        rw [h0] at ih
        split at ih
        · exact ih
        · rw [← ih]; rfl
    · rw [List.getElem?_set_ne e, ih]
      have : (k ∈ i :: r) ↔ k ∈ r := by simp [Ne.symm e]
      simp only [this]
theorem wipe_back (s0 : Env) (vs : List Nat) : Vm.wipe (back s0 s vs) vs = Vm.wipe s vs := by
  apply List.ext_getElem?
  intro k
  rw [wipe_get, wipe_get]
  split
  · rename_i h
    rw [back_get, if_pos h]
    cases s[k]? <;> rfl
  · rename_i h
    rw [back_get, if_neg h]
theorem lwipe_set {i : Nat} {x : Option V} : ∀ {vs : List Nat}, i ∈ vs → L2.wipe (v.set i x) vs = L2.wipe v vs
  | j :: r, h => by
    unfold L2.wipe
    by_cases e : i ∈ r
    · rw [lwipe_set e]
    · have : i = j := by simpa [e] using h
      subst this
      have com : ∀ (r : List Nat), i ∉ r → L2.wipe (v.set i x) r = (L2.wipe v r).set i x := fun r => by
        induction r with
        | nil => intro _; rfl
        | cons k r ih =>
          intro hn
          have hk : i ≠ k := fun z => hn (by simp [z])
          unfold L2.wipe
          rw [ih fun z => hn (by simp [z]), List.set_comm _ _ hk]
      rw [com r e, List.set_set]
theorem lwipe_wipe : ∀ {us vs : List Nat}, (∀ i ∈ us, i ∈ vs) → L2.wipe (L2.wipe v us) vs = L2.wipe v vs
  | [], vs, _ => rfl
  | i :: r, vs, h => by
    show L2.wipe ((L2.wipe v r).set i none) vs = _
    rw [lwipe_set (h i (by simp)), lwipe_wipe fun j hj => h j (by simp [hj])]
/-- the slots as they were -/
theorem Good.unwipe {vs : List Nat} (g : Good T (L2.wipe v vs) (Vm.wipe s vs) S H cell) (h : ∀ k ∈ vs, ∀ o, s[k]? = some (some o) → ∃ x d, v[k]? = some (some x) ∧ o = .sh d ∧ Hd T S x d) : Good T v s S H cell where
  ln := by
    have e := g.ln
    rw [wipe_length] at e
    have e2 : ∀ vs : List Nat, (Vm.wipe s vs).length = s.length := fun vs => by
      induction vs with
      | nil => rfl
      | cons i r ih => show ((Vm.wipe s r).set i none).length = _; simp [ih]
    rw [e2] at e
    exact e
  ex := g.ex
  sl := fun i o hi => by
    by_cases hk : i ∈ vs
    · obtain ⟨x, d, h1, rfl, h2⟩ := h i hk o hi
      have hn := g.nn i fun o z => by
        rw [wipe_get, if_pos hk, hi] at z
        cases z
      exact ⟨x, h1, by rw [hn]; exact .sh h2⟩
    · obtain ⟨x, h1, h2⟩ := g.sl i o (by rw [wipe_get, if_neg hk]; exact hi)
      exact ⟨x, (wipe_some h1).1, h2⟩
  nd := g.nd
  nn := fun i hi => g.nn i fun o z => by
    rw [wipe_get] at z
    split at z
    · cases e : s[i]? with
      | none => rw [e] at z; cases z
      | some u => rw [e] at z; cases z
    · exact hi o z
  dj := g.dj
/-- a slot gets shared data -/
theorem Good.putD (g : Good T v s S H cell) {i : Nat} {x : V} {d : D} (hd : Hd T S x d) : ∃ cell', Good T (v.set i (some x)) (s.set i (some (.sh d))) S H cell' ∧ Step S H cell S H cell' := by
  by_cases hi : i < v.length
  · refine ⟨setC cell i [], g.put (.sh hd) .nil (fun a ha => by cases ha) hi, ⟨Ex.refl S, fun _ _ _ => rfl, fun _ _ h _ => h, fun _ h => h, fun j a h => .inl ?_⟩⟩
    by_cases e : j = i
    · subst e; rw [setC_same] at h; cases h
    · rw [setC_ne e] at h; exact h
  · have e1 : v.set i (some x) = v := List.set_eq_of_length_le (by omega)
    have e2 : s.set i (some (.sh d)) = s := List.set_eq_of_length_le (by rw [g.ln]; omega)
    rw [e1, e2]
    exact ⟨cell, g, Step.refl⟩
end

def gTgs : List Nat → TGs
  | [] => gNil
  | i :: r => gCons (gName i) (gTgs r)
def gTg (K : PySem.W.Frag) : Tg → TG
  | .nm i => gName i
  | .two i j => gTup K 2 (gCons (gName i) (gCons (gName j) gNil))
  | .many l => gTup K l.length (gTgs l)
def tgV : Tg → List Nat
  | .nm i => [i]
  | .two i j => [i, j]
  | .many l => l
theorem nms_pgs {X : Cx} {N : List Str} {f : Str → Bool} (one : ∀ (i : Nat) (y : Str) (p : Pos), (N[i]? == some y) = true → f y = true → PG X (.Name y p) (gName i)) : ∀ {l : List Nat} {es : List Expr}, nmsB N f l es = true →
    PGs X es (gTgs l) ∧ (assignEach es X.env).length = l.length ∧ (assignEach es X.env).findIdx? (·.1) = none
  | [], es, h => by
    cases es with
    | nil => exact ⟨pgs_nil, rfl, rfl⟩
    | cons a b => cases h
  | i :: r, es, h => by
    rcases es with _ | ⟨e, es⟩
    · cases h
    · cases e <;> first | (cases h; done) | skip
      rename_i x p
      obtain ⟨h, h4⟩ := b2 h
      obtain ⟨h, h3⟩ := b2 h
      obtain ⟨h1, h2⟩ := b2 h
      obtain ⟨k1, k2, k3⟩ := nms_pgs one h4
      refine ⟨pgs_cons (one i x p h1 h2) k1, ?_, ?_⟩
      · show (assignEach es X.env).length + 1 = r.length + 1
        rw [k2]
      · show List.findIdx? (·.1) ((false, _) :: assignEach es X.env) = none
        rw [List.findIdx?_cons]
        simp only [Bool.false_eq_true, if_false, k3]
        rfl
theorem gTgs_ok {T : Tb} : ∀ (l : List Nat) (vs : List V) (ds : List D) {v : St} {s : Env} {S H : Hp} {cell : Nat → List Addr} {Q : St → Hp → Prop} (L : List Nat), Good T v s S H cell → HdL T S vs ds → l.length = ds.length → (∀ i ∈ l, i ∈ L) →
    (∀ v1 cell1, Good T v1 (sets l ds s) S H cell1 → Step S H cell S H cell1 → L2.wipe v1 L = L2.wipe v L → Q v1 H) → gTgs l vs v H Q
  | [], vs, ds, v, s, S, H, cell, Q, L, g, k, e, hL, go => by
    cases k with
    | nil => exact ⟨rfl, go v cell g Step.refl rfl⟩
    | cons _ _ => simp at e
  | i :: r, vs, ds, v, s, S, H, cell, Q, L, g, k, e, hL, go => by
    cases k with
    | nil => simp at e
    | cons h1 k =>
      obtain ⟨c1, g1, st1⟩ := g.putD (i := i) h1
      refine ⟨_, _, rfl, gTgs_ok r _ _ L g1 k (by simpa using e) (fun j hj => hL j (List.mem_cons_of_mem _ hj)) fun v1 cell1 g2 st2 hw => go v1 cell1 g2 (st1.trans st2) ?_⟩
      rw [hw]
      exact lwipe_set (hL i (by simp))
theorem gTg_ok {T : Tb} {K : PySem.W.Frag} {tg : Tg} {v : St} {s s1 : Env} {S H : Hp} {cell : Nat → List Addr} {x : V} {d : D} {Q : St → Hp → Prop} (hK : K = T.K) (g : Good T v s S H cell) (hd : Hd T S x d) (h : tgt tg d s = some s1)
    (go : ∀ v1 cell1, Good T v1 s1 S H cell1 → Step S H cell S H cell1 → L2.wipe v1 (tgV tg) = L2.wipe v (tgV tg) → Q v1 H) : gTg K tg x v H Q := by
  cases tg with
  | nm i =>
    have h : some (s.set i (some (.sh d))) = some s1 := by cases d <;> exact h
    cases h
    obtain ⟨c1, g1, st1⟩ := g.putD (i := i) hd
    exact go _ c1 g1 st1 (lwipe_set (by simp [tgV]))
  | two i j =>
    unfold tgt at h
    split at h
    · rename_i heq; cases heq
    · rename_i heq
      cases heq
      cases h
      cases hd with
      | tup q k =>
        cases k with
        | cons h1 k =>
          cases k with
          | cons h2 k =>
            cases k
            subst hK
            obtain ⟨c1, g1, st1⟩ := g.putD (i := i) h1
            obtain ⟨c2, g2, st2⟩ := g1.putD (i := j) h2
            exact ⟨_, _, rfl, ex_t g.ex q, rfl, _, _, rfl, _, _, rfl, rfl, go _ c2 g2 (st1.trans st2) (by rw [lwipe_set (by simp [tgV]), lwipe_set (by simp [tgV])])⟩
    · rename_i heq; cases heq
    · cases h
  | many l =>
    unfold tgt at h
    split at h
    · rename_i heq; cases heq
    · rename_i heq; cases heq
    · rename_i heq
      cases heq
      split at h
      · rename_i hl
        cases h
        cases hd with
        | tup q k =>
          subst hK
          exact ⟨_, _, rfl, ex_t g.ex q, by rw [k.len, hl], gTgs_ok l _ _ l g k hl (fun _ h => h) go⟩
      · cases h
    · cases h

section
variable {T : Tx} {t : Tt} {N : List Str} {G : Ct} {CX : CXT} {E : WX} {k : Nat} {sc : Scope} {X : Cx} {v : St} {s : Env} {S H : Hp} {cell : Nat → List Addr}
theorem Xk.blk (x : Xk T t N G CX E k sc X) (s0 : Shared) (H0 : Hp) (scope : Scope) (C : Addr) (cl : List (Str × Addr)) (fp : List Addr) :
    Xk T t N G CX (fun _ _ _ _ => False) k (relS scope sc) (X.blk s0 H0 scope (compEnvC scope cl C X.env) fp) where
  K := x.K
  fx := x.fx
  N := x.N
  nd := x.nd
  calm := x.calm
  sc := by rw [← x.sc]; rfl
  room := x.room
  pass := fun σ pins H s e s' I h => x.nox _ _ _ _ _ h
  nox := x.nox
  ln := x.ln
  fn := x.fn
def bT (X : Cx) (scope : Scope) (c : Expr) : TT := fun σ H Q => ∀ (s : Shared) (H0 : Hp) (C : Addr) (cl : List (Str × Addr)) (fp : List Addr), wT (X.blk s H0 scope (compEnvC scope cl C X.env) fp) c σ H Q
def bE (X : Cx) (scope : Scope) (c : Expr) : TE := fun σ H Q => ∀ (s : Shared) (H0 : Hp) (C : Addr) (cl : List (Str × Addr)) (fp : List Addr), wE (X.blk s H0 scope (compEnvC scope cl C X.env) fp) c σ H Q
def bTs (X : Cx) (scope : Scope) : List Expr → TT
  | [c] => bT X scope c
  | _ => tYes
theorem tgC_pg (x : Xk T t N G CX E k sc X) {scope : Scope} {tg : Tg} {e : Expr} (h : tgC N (relS scope sc) tg e = true) (s0 : Shared) (H0 : Hp) (C : Addr) (cl : List (Str × Addr)) (fp : List Addr) : PG (X.blk s0 H0 scope (compEnvC scope cl C X.env) fp) e (gTg X.K tg) := by
  have xb := x.blk s0 H0 scope C cl fp
  have one : ∀ (i : Nat) (y : Str) (p : Pos), (N[i]? == some y) = true → lclB (relS scope sc) y = true → PG (X.blk s0 H0 scope (compEnvC scope cl C X.env) fp) (.Name y p) (gName i) := fun i y p h1 h2 => by
    have hl : (relS scope sc).names.lookup y = some .local := by
      unfold lclB at h2
      split at h2
      · assumption
      · cases h2
    rw [← xb.sc] at hl
    exact pg_name xb.nd (by rw [xb.N]; exact beq_iff_eq.mp h1) (.inl hl) (.inr hl)
  unfold tgC at h
  split at h
  · obtain ⟨h1, h2⟩ := b2 h
    exact one _ _ _ h1 h2
  · obtain ⟨h, h5⟩ := b2 h
    obtain ⟨h, h4⟩ := b2 h
    obtain ⟨h, h3⟩ := b2 h
    obtain ⟨h1, h2⟩ := b2 h
    exact pg_tup xb.calm (pgs_cons (one _ _ _ h1 h2) (pgs_cons (one _ _ _ h3 h4) pgs_nil))
  · obtain ⟨k1, k2, k3⟩ := nms_pgs one h
    exact pg_tup xb.calm k1 k2 k3
  · cases h
/-- what is wanted of the block's loop -/
def QL (T : Tb) (v : St) (S H : Hp) (C : Nat → List Addr) (E : WX) (Q : VK) (r : R (List D)) : Prop := PO T v S H C E Q (asO ((noX r).bind fun l s => .ok (.o (.ol l)) s))
theorem QL.bind {α : Type} {T : Tb} {C : Nat → List Addr} {Q : VK} {r : R α} {K : α → Env → R (List D)} (h : QL T v S H C E Q (r.bind K)) : ∃ a s1, r = .ok a s1 ∧ QL T v S H C E Q (K a s1) := by
  cases r with
  | ok a s1 => exact ⟨a, s1, rfl, h⟩
  | ex c fs s => exact False.elim h
  | er => exact False.elim h
def tsF (G : Ct) (ts : Vm.E) (s : Env) : R Bool := match ts with
  | .nil => .ok true s
  | _ => tru ts s (ev G ts s)
theorem tsF_ne {ts : Vm.E} (h : ts ≠ .nil) (s : Env) : tsF G ts s = tru ts s (ev G ts s) := by cases ts <;> first | rfl | exact absurd rfl h
/-- the tests -/
theorem bTs_ok (x : Xk T t N G CX E k sc X) {scope : Scope} {ts : Vm.E} {ifs : List Expr} (hts : (ts = .nil ∧ ifs = []) ∨ ∃ c, ifs = [c] ∧ SndT T t N G ts (relS scope sc) c ∧ ts ≠ .nil) {b : Bool} {s1 : Env} {Q : Bool → Hp → Prop} (g : Good T.toTb v s S H cell) (h : tsF G ts s = .ok b s1)
    (go : ∀ S1 H1 cell1, Good T.toTb v s1 S1 H1 cell1 → Step S H cell S1 H1 cell1 → Q b H1) : bTs X scope ifs v H Q := by
  rcases hts with ⟨rfl, rfl⟩ | ⟨c, rfl, hc, hn⟩
  · cases h
    exact go S H cell g Step.refl
  · intro s0 H0 C cl fp
    rw [tsF_ne hn] at h
    refine hc (x.blk s0 H0 scope C cl fp) g ?_
    rw [h]
    exact go
theorem bE_ok (x : Xk T t N G CX E k sc X) {scope : Scope} {el : Vm.E} {c : Expr} (hc : SndE T t N G el (relS scope sc) c) {d : D} {s1 : Env} {Q : VK} (g : Good T.toTb v s S H cell) (h : asD (ev G el s) = .ok d s1)
    (go : ∀ y S1 H1 cell1, Good T.toTb v s1 S1 H1 cell1 → Hd T.toTb S1 y d → Step S H cell S1 H1 cell1 → Q y H1) : bE X scope c v H Q := by
  intro s0 H0 C cl fp
  refine hc.d (x.blk s0 H0 scope C cl fp) g ?_
  rw [h]
  exact go
theorem pts_b {scope : Scope} {ifs : List Expr} (hl : ifs = [] ∨ ∃ c, ifs = [c]) (s0 : Shared) (H0 : Hp) (C : Addr) (cl : List (Str × Addr)) (fp : List Addr) : PTs (X.blk s0 H0 scope (compEnvC scope cl C X.env) fp) ifs (bTs X scope ifs) := by
  rcases hl with rfl | ⟨c, rfl⟩
  · exact pts_nil
  · exact pts_one ⟨fun pins s σ H Q I h => (wT_ok c).run pins s σ H Q I (h s0 H0 C cl fp)⟩
theorem pe_b {scope : Scope} {c : Expr} (s0 : Shared) (H0 : Hp) (C : Addr) (cl : List (Str × Addr)) (fp : List Addr) : PE (X.blk s0 H0 scope (compEnvC scope cl C X.env) fp) c (bE X scope c) :=
  ⟨fun pins s σ H Q I h => (wE_ok c).run pins s σ H Q I (h s0 H0 C cl fp)⟩
theorem Step.out {S S' H H' : Hp} {cell cell' : Nat → List Addr} (st : Step S H cell S' H' cell') {D : Addr} {o : HO} (h : H D = some o) (hn : ¬ Cl cell D) : H' D = some o ∧ S' D = S D ∧ ¬ Cl cell' D :=
  ⟨st.hh D o h hn, st.si D (by rw [h]; simp) hn, fun z => (st.cl z).elim hn fun z => by rw [h] at z; cases z⟩
theorem comp_core (x : Xk T t N G CX E k sc X) {vs : List Nat} {tg : Tg} {it ts el : Vm.E} {elt tgt iter : Expr} {ifs : List Expr} {scope : Scope} (hi : SndI T t N G it sc iter) (htv : vs = tgV tg)
    (hts : (ts = .nil ∧ ifs = []) ∨ ∃ c, ifs = [c] ∧ SndT T t N G ts (relS scope sc) c ∧ ts ≠ .nil) (hel : SndE T t N G el (relS scope sc) elt) (hok : okT it tgt = true) {Q : VK} (g : Good T.toTb v s S H cell) (q : PO T.toTb v S H cell E Q (asO (ev G (.comp vs tg it ts el) s))) :
    tLc (wI X tgt iter) (gTg X.K tg) (bTs X scope ifs) (bE X scope elt) vs v H Q := by
  have q : PO T.toTb v S H cell E Q (asO ((asD (ev G it s)).bind fun d s => okO (itemsD d) fun l => if freeV s vs = true ∧ l.length ≤ lim then
      (noX (compL s vs tg (tsF G ts) (fun s => asD (ev G el s)) l [] s)).bind fun l s => .ok (.o (.ol l)) s else .er)) := q
  refine hi x g ?_ tgt hok
  cases hr : asD (ev G it s) with
  | ex c fs s1 => rw [hr] at q; exact q
  | er => rw [hr] at q; exact q
  | ok d s1 =>
    rw [hr] at q
    obtain ⟨l, hl, q1⟩ := okO_ok q
    refine ⟨l, hl, fun J S1 H1 cell1 g1 wk st1 D hD => ?_⟩
    split at q1
    · rename_i hc
      obtain ⟨hfree, hlen⟩ := hc
      have q2 : QL T.toTb v S H cell E Q (compL s1 vs tg (tsF G ts) (fun s => asD (ev G el s)) l [] s1) := q1
      have hSD := g1.fresh hD
      have nD := g1.notC hD
      -- what the slots held
      have held : ∀ kk ∈ vs, ∀ o, s1[kk]? = some (some o) → ∃ x d, v[kk]? = some (some x) ∧ o = .sh d ∧ Hd T.toTb S1 x d := fun kk hk o ho => by
        have hf := (List.all_eq_true.mp hfree) kk hk
        rw [ho] at hf
        obtain ⟨y, h1, h2⟩ := g1.sl kk o ho
        have ho : o.own = false := by simpa using hf
        obtain ⟨d, rfl⟩ := own_sh ho
        generalize cell1 kk = c0 at h2
        cases h2 with
        | sh hd => exact ⟨y, d, h1, rfl, hd⟩
      refine ⟨fun i m Hx => m = l.length - i ∧ i ≤ l.length ∧ ∃ si S' cell' da av, Good T.toTb (L2.wipe v vs) (Vm.wipe si vs) S' Hx cell' ∧ Step S1 H1 cell1 S' Hx cell' ∧ (∀ kk ∈ vs, ∀ o, si[kk]? = some (some o) → s1[kk]? = some (some o)) ∧ Hx D = some (.lst av) ∧ S' D = none ∧ ¬ Cl cell' D ∧
        HdL T.toTb S' av da ∧ da.length ≤ i ∧ QL T.toTb v S H cell E Q (compL s1 vs tg (tsF G ts) (fun s => asD (ev G el s)) (l.drop i) da si), ⟨l.length, by simp, Nat.zero_le _, s1, S1, clr cell1 vs, [], [], ?_⟩, ?_⟩
      · have gw := g1.wipe vs
        refine ⟨gw.grow (Ex.new hD), (Step.clr (vs := vs)).trans (Step.grow (Ex.new hD)), fun _ _ _ h => h, upd_same, hSD, fun z => nD (by obtain ⟨j, hj⟩ := z; exact ⟨j, clr_sub hj⟩), .nil, Nat.le_refl _, q2⟩
      · rintro i m H2 ⟨rfl, hile, si, S2, cell2, da, av, g2, st2, hsl, hDl, hS2, nC2, hda, hdl, ql⟩
        by_cases hlt : i < l.length
        · obtain ⟨jgo, jy⟩ := wk.go S2 H2 i st2.ss g2.ex hlt
          refine .inr ⟨jgo, fun Hx => i + 1 ≤ l.length ∧ ∃ si S' cell' da av, Good T.toTb (L2.wipe v vs) (Vm.wipe si vs) S' Hx cell' ∧ Step S1 H1 cell1 S' Hx cell' ∧ (∀ kk ∈ vs, ∀ o, si[kk]? = some (some o) → s1[kk]? = some (some o)) ∧ Hx D = some (.lst av) ∧ S' D = none ∧ ¬ Cl cell' D ∧
            HdL T.toTb S' av da ∧ da.length ≤ i + 1 ∧ QL T.toTb v S H cell E Q (compL s1 vs tg (tsF G ts) (fun s => asD (ev G el s)) (l.drop (i + 1)) da si), fun H' nx => ⟨l.length - (i + 1), by omega, rfl, nx.1, nx.2⟩, fun y H3 hy => ?_⟩
          obtain ⟨d1, S3, hd1, g3, st3, hdy⟩ := wk.turn g2 st2.ss hlt hy
          obtain ⟨z1, z2, z3⟩ := st3.out hDl nC2
          have st2 := st2.trans st3
          have hS2 : S3 D = none := by rw [z2]; exact hS2
          have hda := HdL.mono st3.ss hda
          have edrop : l.drop i = d1 :: l.drop (i + 1) := by
            rw [List.drop_eq_getElem_cons hlt]
            rw [List.getElem?_eq_getElem hlt] at hd1
            cases hd1; rfl
          rw [edrop] at ql
          unfold compL at ql
          cases htg : Vm.tgt tg d1 (Vm.wipe si vs) with
          | none => rw [htg] at ql; exact False.elim ql
          | some sa =>
            rw [htg] at ql
            obtain ⟨b, s4, hb, ql⟩ := QL.bind ql
            refine gTg_ok x.K g3 hdy htg fun va cella ga sta hwa => ?_
            rw [← htv, lwipe_wipe (fun _ h => h)] at hwa
            refine ⟨hwa, bTs_ok x hts ga hb fun S4 H4 cell4 g4 st4 => ?_⟩
            obtain ⟨a1, a2, a3⟩ := sta.out z1 z3
            obtain ⟨b1, b2', b3⟩ := st4.out z1 a3
            -- the end of a turn: the own names forgotten
            have fin : ∀ {s5 : Env} {S5 H5 : Hp} {cell5 : Nat → List Addr}, Good T.toTb va s5 S5 H5 cell5 → Good T.toTb (L2.wipe v vs) (Vm.wipe (back s1 s5 vs) vs) S5 H5 (clr cell5 vs) := fun {s5 S5 H5 cell5} g5 => by
              have gw := g5.wipe vs
              rw [hwa] at gw
              rw [wipe_back]
              exact gw
            have slk : ∀ {s5 : Env}, ∀ kk ∈ vs, ∀ o, (back s1 s5 vs)[kk]? = some (some o) → s1[kk]? = some (some o) := fun {s5} kk hk o ho => by
              rw [back_get, if_pos hk] at ho
              cases h : s5[kk]? with
              | none => rw [h] at ho; cases ho
              | some u =>
                rw [h] at ho
                have ho : some (s1.getD kk none) = some (some o) := ho
                have ho := Option.some.inj ho
                rw [List.getD_eq_getElem?_getD] at ho
                cases h2 : s1[kk]? with
                | none => rw [h2] at ho; cases ho
                | some w => rw [h2] at ho; exact congrArg some ho
            have ncl : ∀ {c : Nat → List Addr}, ¬ Cl c D → ¬ Cl (clr c vs) D := fun {c} h z => h (by obtain ⟨j, hj⟩ := z; exact ⟨j, clr_sub hj⟩)
            cases b with
            | false =>
              rw [if_neg Bool.false_ne_true]
              have ql : QL T.toTb v S H cell E Q (compL s1 vs tg (tsF G ts) (fun s => asD (ev G el s)) (l.drop (i + 1)) da (back s1 s4 vs)) := ql
              exact ⟨hlt, back s1 s4 vs, S4, clr cell4 vs, da, av, fin g4, ((st2.trans sta).trans st4).trans Step.clr, slk, b1, by rw [b2', a2]; exact hS2, ncl b3, HdL.mono (sta.trans st4).ss hda, Nat.le_succ_of_le hdl, ql⟩
            | true =>
              rw [if_pos rfl]
              rw [if_pos rfl] at ql
              obtain ⟨d5, s5, hd5, ql⟩ := QL.bind ql
              refine bE_ok x hel g4 hd5 fun y5 S5 H5 cell5 g5 hy5 st5 => ?_
              obtain ⟨c1, c2, c3⟩ := st5.out b1 b3
              have hS5 : S5 D = none := by rw [c2, b2', a2]; exact hS2
              have hz : av.length < sizeLine := by
                rw [hda.len]
                exact lim_lt (Nat.lt_of_le_of_lt hdl (Nat.lt_of_lt_of_le hlt hlen))
              refine ⟨av, c1, hz, hlt, back s1 s5 vs, S5, clr cell5 vs, da ++ [d5], av ++ [y5], (fin g5).updO hS5 (ncl c3), ((((st2.trans sta).trans st4).trans st5).trans Step.clr).updO hD, slk, upd_same, hS5, ncl c3, ?_, ?_, ql⟩
              · exact (HdL.mono ((sta.trans st4).trans st5).ss hda).app (.cons hy5 .nil)
              · simp; omega
        · have e : i = l.length := by omega
          subst e
          refine .inl ⟨wk.stop S2 H2 st2.ss g2.ex, ?_⟩
          rw [List.drop_length] at ql
          have ql : PO T.toTb v S H cell E Q (.ok (.ol da) si) := ql
          have gu : Good T.toTb v si S2 H2 cell2 := g2.unwipe fun kk hk o ho => by
            obtain ⟨y, d, h1, h2, h3⟩ := held kk hk o (hsl kk hk o ho)
            exact ⟨y, d, h1, h2, h3.mono st2.ss⟩
          have one : ∀ a ∈ [D], a = D := fun a ha => by simpa using ha
          refine ql (.ref D) S2 H2 cell2 [D] ⟨gu, .ol hDl hS2 hda, by simp, fun a ha z => ?_, fun a ha => ?_, st1.trans st2⟩
          · rw [one a ha] at z
            exact nC2 z
          · rw [one a ha]
            exact st1.th _ hD
    · exact False.elim q1
theorem vs_own (vs : List Nat) : (vs.map fun v => (N.getD v "", v)).map (·.2) = vs := by
  induction vs with
  | nil => rfl
  | cons a r ih => exact congrArg (a :: ·) ih
theorem snd_comp {vs : List Nat} {tg : Tg} {it ts el : Vm.E} {elt tgt iter : Expr} {ifs : List Expr} {scope : Scope} {pos : Pos} (hi : SndI T t N G it sc iter) (hb : blkC N sc scope (vs.map fun v => (N.getD v "", v)) = true) (htg : tgC N (relS scope sc) tg tgt = true) (htv : vs = tgV tg) (hset : setB iter = false) (hok : okT it tgt = true)
    (hts : (ts = .nil ∧ ifs = []) ∨ ∃ c, ifs = [c] ∧ SndT T t N G ts (relS scope sc) c ∧ ts ≠ .nil) (hel : SndE T t N G el (relS scope sc) elt) : SndE T t N G (.comp vs tg it ts el) sc (.ListComp elt [⟨tgt, iter, ifs, 0⟩] scope pos) := by
  intro CX E k X x v s S H cell Q g q
  have hb2 := hb
  rw [← x.N, ← x.sc] at hb2
  have hl : ifs = [] ∨ ∃ c, ifs = [c] := by
    rcases hts with ⟨_, h⟩ | ⟨c, h, _⟩
    · exact .inl h
    · exact .inr ⟨c, h⟩
  refine ⟨_, pe_lc x.calm x.nd (wI_ok tgt iter) (blkOk_by hb2) (fun s0 H0 C cl fp => tgC_pg x htg s0 H0 C cl fp) (fun s0 H0 C cl fp => pts_b hl s0 H0 C cl fp) (fun s0 H0 C cl fp => pe_b s0 H0 C cl fp) (folded_not ?_), ?_⟩
  · cases iter <;> first | rfl | cases hset
  · rw [vs_own]
    exact comp_core x hi htv hts hel hok g q
/-- name = [..] on one line -/
theorem snd_setLc {vs : List Nat} {tg : Tg} {it ts el : Vm.E} {elt tgt iter : Expr} {ifs : List Expr} {scope : Scope} {pos spos py : Pos} {i : Nat} {y : Str} (hi : SndI T t N G it sc iter) (hb : blkC N sc scope (vs.map fun v => (N.getD v "", v)) = true) (htg : tgC N (relS scope sc) tg tgt = true) (htv : vs = tgV tg) (hset : setB iter = false) (hok : okT it tgt = true)
    (hts : (ts = .nil ∧ ifs = []) ∨ ∃ c, ifs = [c] ∧ SndT T t N G ts (relS scope sc) c ∧ ts ≠ .nil) (hel : SndE T t N G el (relS scope sc) elt) (x : Xk T t N G CX E k sc X) (hk : X.env.scope.kind = .function) (hy : N[i]? = some y) (hyl : sc.names.lookup y = some .local) (hln : (py.line == pos.line) = true)
    (ha : (scope.names.any fun (n, k) => n == y && (k == .local || k == .cell)) = false) {D : Ends} (g : Good T.toTb v s S H cell) (q : PO T.toTb v S H cell E (fun x H1 => D.nx (v.set i (some x)) H1) (asO (ev G (.comp vs tg it ts el) s))) : wS X (.Assign [.Name y py] (.ListComp elt [⟨tgt, iter, ifs, 0⟩] scope pos) spos) D v H := by
  have hb2 := hb
  rw [← x.N, ← x.sc] at hb2
  have hl : ifs = [] ∨ ∃ c, ifs = [c] := by
    rcases hts with ⟨_, h⟩ | ⟨c, h, _⟩
    · exact .inl h
    · exact .inr ⟨c, h⟩
  have hyl2 : X.env.scope.names.lookup y = some .local := by rw [x.sc]; exact hyl
  refine ⟨_, ps_setLc x.calm x.nd (by rw [x.N]; exact hy) hyl2 (sw_true hk hyl2 hln ha) (wI_ok tgt iter) (blkOk_by hb2) (fun s0 H0 C cl fp => tgC_pg x htg s0 H0 C cl fp) (fun s0 H0 C cl fp => pts_b hl s0 H0 C cl fp) (fun s0 H0 C cl fp => pe_b s0 H0 C cl fp) (folded_not ?_), ?_⟩
  · cases iter <;> first | rfl | cases hset
  · rw [vs_own]
    exact comp_core x hi htv hts hel hok g q
end
end Vm

namespace Vm
open PySem L2 Evl
section
variable {X : Cx} {o : Expr} {es : List Expr} {ta : TE} {tt : TA} {m : Str} {apos pos : Pos} {CX : CXT} {k : Nat} {E : St → XK}
/-- o.m(..), the class as it turns out -/
def tMethW (X : Cx) (CX : CXT) (k : Nat) (E : St → XK) (m : Str) (ta : TE) (tt : TA) : TE := fun σ H Q => ta σ H fun x H1 => ∃ a C dx fs g fd ps sp, x = .ref a ∧ H1 a = some (.ins C dx fs) ∧ fs.lookup m = none ∧ Cls X.K C ∧ Meth X.K C m g ∧ FnOk X.prog X.w X.K X.mg X.base CX k g fd ps sp ∧ Binds X.K fd ps [] ∧
  tt σ H1 fun vs H2 => sp (x :: vs) H2 Q (E σ)
theorem meth_eq {env : PySem.Env} (hb : attributeBase o m env (eval o env) = eval o env) (hst : anyStar es = false) (hl : es.length < 20) (hline : (apos.endLine == pos.line) = true) : eval (.Call (.Attribute o m apos) es [] pos) env = (do
      let ov ← eval o env
      standAt apos.atName
      let (f, first) ← holding [ov] (getMethod ov m (plainOf o env))
      callWith pos f first (backTo pos (starEach es env)) (backToKw pos (keywordEach [] env))) := by
  have hf : methodCallForm (es.length + 0) (backTo pos (starEach es env)) (backToKw pos (keywordEach [] env)) = true := by
    unfold methodCallForm
    have h1 : (backTo pos (starEach es env)).all (fun x => !x.1) = true := by
      have := star_any (env := env) (pos := pos) hst
      rw [List.all_eq_not_any_not]
      simpa using this
    rw [h1]
    show (true && true && decide (es.length + 0 + 0 < 30)) = true
    rw [Bool.and_true, Bool.true_and]
    exact decide_eq_true (by omega)
  rw [arm_eval_Call, hb]
  have e : (fun ov => (do
      standAt apos.atName
      methodCall o m apos pos env ov (es.length + ([] : List Keyword).length) (backTo pos (starEach es env)) (backToKw pos (keywordEach [] env)) : Sem Value)) = fun ov => (do
      standAt apos.atName
      let (f, first) ← holding [ov] (getMethod ov m (plainOf o env))
      callWith pos f first (backTo pos (starEach es env)) (backToKw pos (keywordEach [] env)) : Sem Value) := by
    funext ov
    show (do
      standAt apos.atName
      methodCall o m apos pos env ov (es.length + 0) (backTo pos (starEach es env)) (backToKw pos (keywordEach [] env)) : Sem Value) = _
    rw [mcall_line hf hline]
  exact congrArg (eval o env >>= ·) e
theorem pe_methW (he : PE X o ta) (hr : Room k X.A) (hx : ∀ σ, PassesAt CX X σ (E σ)) (ha : PA X es tt) (hb : attributeBase o m X.env (eval o X.env) = eval o X.env) (hst : anyStar es = false) (hl : es.length < 20) (hline : (apos.endLine == pos.line) = true) (h0 : es = [] → tt = tNil) :
    PE X (.Call (.Attribute o m apos) es [] pos) (tMethW X CX k E m ta tt) := by
  refine ⟨fun pins s σ H Q I h => ?_⟩
  refine PySem.W.methodCall_KW (pl := plainOf o X.env) (thn (he.run pins s σ H _ I h) fun u s1 ⟨x, H1, I1, rx, a, C, dx, fs, g, fd, ps, sp, ex, ea, l, c, hm, F, hbd, q⟩ => ?_) (meth_eq hb hst hl hline)
  subst ex
  obtain rfl : u = Value.ref a := rx
  refine getmeth_ok I1 ea c hm l ?_
  cases es with
  | nil =>
    rw [h0 rfl] at q
    have q : sp [.ref a] H1 Q (E σ) := q
    exact PySem.W.callWith_K0 (first := [.ref a]) I1.kIn hm.kp (run_fnS (us := [.ref a]) (vs := [.ref a]) F hr hbd (hx σ) I1 (.cons rfl .nil) q)
  | cons e es =>
    have hs2 : (starred e || anyStar es) = false := hst
    rw [Bool.or_eq_false_iff] at hs2
    refine PySem.W.callWith_K (first := [.ref a]) (h₀ := X.base) I.ok.mod.kin hm.kp (thn (ha.run pos pins s1 σ H1 _ I1 q) fun us s2 ⟨vs, H2, I2, r, q2⟩ => ⟨I2.kIn, ?_⟩) (star_cons hs2.1) (star_any hs2.2)
    exact run_fnS (us := .ref a :: us) (vs := .ref a :: vs) F hr hbd (hx σ) I2 (.cons rfl r) q2
end
section
variable {T : Tx} {t : Tt} {N : List Str} {G : Ct} {CX : CXT} {E : WX} {k : Nat} {sc : Scope} {X : Cx} {v : St} {s : Env} {S H : Hp} {cell : Nat → List Addr}
/-- arguments, the first operand kept -/
theorem SndA.kp {b : Vm.E} {es : List Expr} (h : SndA T t N G b sc es) (hc : chk t N sc b (.ar es) = true) (x : Xk T t N G CX E k sc X) {y : V} {a : A} (o : Opd T.toTb v S H y a) (f : firm b a) {Q : List V → Hp → Prop} {K : List A → Env → R Vl} {Q0 : VK}
    (g : Good T.toTb v s S H cell) (q : PO T.toTb v S H cell E Q0 (asO ((asL (ev G b s)).bind K)))
    (go : ∀ l s1, asL (ev G b s) = .ok l s1 → ∀ zs S1 H1 cell1, Good T.toTb v s1 S1 H1 cell1 → Opds T.toTb v S1 H1 zs l → Opd T.toTb v S1 H1 y a → Step S H cell S1 H1 cell1 → PO T.toTb v S1 H1 cell1 E Q0 (asO (K l s1)) → Q zs H1) : wA X es v H Q := by
  by_cases hn : ∀ p, a = .ref p → p.fs = []
  · exact h x g (PL.bindO q fun l s1 hr zs S1 H1 cell1 g1 hd st q1 => go l s1 hr zs S1 H1 cell1 g1 hd (o.step st (.inr hn)) st q1)
  · have hs : simple b = true := by
      cases a with
      | val d => exact absurd (fun p z => by cases z) hn
      | ref p =>
        rcases f with z | z
        · exact absurd (fun p' z' => by cases z'; exact z) hn
        · exact z
    cases hr : asL (ev G b s) with
    | ok l s1 =>
      rw [hr] at q
      obtain ⟨es1, zs, os, wq⟩ := simple_l x g hs hc hr
      rw [es1] at q
      exact wq Q (go l s1 hr zs S H cell (by rw [es1]; exact g) os o Step.refl (by rw [es1]; exact q))
    | ex c fs s1 =>
      rw [hr] at q
      refine h x g ?_
      rw [hr]
      exact q
    | er => rw [hr] at q; exact False.elim q
theorem snd_meth {a as : Vm.E} {m : Nat} {e : Expr} {es : List Expr} {n : Str} {apos pos : Pos} (hn : n = t.nm m) (hl : es.length < 20) (hln : lineB apos pos = true) (hs : superB e = false) (ha : SndE T t N G a sc e) (hca : chk t N sc a (.ex e) = true) (hb : SndA T t N G as sc es) (hc : chk t N sc as (.ar es) = true) : SndE T t N G (.meth a m as) sc (.Call (.Attribute e n apos) es [] pos) := by
  intro CX E k X x v s S H cell Q g q
  have q : PO T.toTb v S H cell E Q (asO ((pk a as s (ev G a s)).bind fun x s => okO ((x.res s).bind fun o => if (getO o [m]).isNone then clsO o else none) fun c => okO (G.mth c m) fun g => (asL (ev G as s)).bind fun l s => rO (callF G.F g (x :: l) s))) := q
  rw [x.fx.nm] at hn
  subst hn
  have key : ∀ tt : TA, (∀ {y1 : V} {z : A} {s1 : Env} {S1 H1 : Hp} {cell1 : Nat → List Addr} {gg : Nat}, Good T.toTb v s1 S1 H1 cell1 → Opd T.toTb v S1 H1 y1 z → firm as z → PO T.toTb v S1 H1 cell1 E Q (asO ((asL (ev G as s1)).bind fun l s => rO (callF G.F gg (z :: l) s))) → tt v H1 fun vs H2 => spF T G.F gg (y1 :: vs) H2 Q (WE E v)) →
      wE X e v H fun y1 H1 => ∃ a C dx fs g fd ps sp, y1 = .ref a ∧ H1 a = some (.ins C dx fs) ∧ fs.lookup (T.nm m) = none ∧ Cls X.K C ∧ Meth X.K C (T.nm m) g ∧ FnOk X.prog X.w X.K X.mg X.base CX k g fd ps sp ∧ Binds X.K fd ps [] ∧ tt v H1 fun vs H2 => sp (y1 :: vs) H2 Q (WE E v) := by
    intro tt htt
    refine ha.p hca x g (PA'.bindO q fun z s1 hz y1 S1 H1 cell1 g1 oz fz st1 q1 => ?_)
    obtain ⟨c, hcc, q2⟩ := okO_ok q1
    obtain ⟨gg, hg, q3⟩ := okO_ok q2
    cases ho : z.res s1 with
    | none => rw [ho] at hcc; cases hcc
    | some o =>
      rw [ho] at hcc
      have hcc : (if (getO o [m]).isNone then clsO o else none) = some c := hcc
      split at hcc
      · rename_i hno
        obtain ⟨c0, ow⟩ := opd_ow g1 oz ho
        obtain ⟨a', dx, fv, e1, e2, ic, hnn⟩ := view_cls g1.ex ow hcc
        have cl := T.cls c ic
        rw [← x.K] at cl
        obtain ⟨f1, f2⟩ := x.fx.mt c m gg ic hg
        rw [← x.K] at f1 f2
        exact ⟨a', T.ca c, dx, fv, T.fa gg, T.fd gg, T.ps gg, spF T G.F gg, e1, e2, hnn m (Option.isNone_iff_eq_none.mp hno), cl, f1, x.fn gg, f2, htt g1 oz fz q3⟩
      · cases hcc
  have hst := chk_star _ _ hc
  cases es with
  | nil =>
    cases as <;> first | (cases hc; done) | skip
    refine ⟨_, pe_methW (wE_ok e) x.r0 x.pass pa_nil (base_of hs) hst hl hln (fun _ => rfl), key tNil fun {y1 z s1 S1 H1 cell1 gg} g1 oz fz q1 => ?_⟩
    have q1 : PO T.toTb v S1 H1 cell1 E Q (asO (rO (callF G.F gg [z] s1))) := q1
    rw [asO_rO] at q1
    obtain ⟨os', sp⟩ := call_ok g1 (.cons oz .nil) q1
    exact x.sp sp
  | cons e1 es =>
    refine ⟨_, pe_methW (wE_ok e) x.r0 x.pass (wA_ok (e1 :: es)) (base_of hs) hst hl hln (fun z => by cases z), key (wA X (e1 :: es)) fun {y1 z s1 S1 H1 cell1 gg} g1 oz fz q1 => ?_⟩
    refine hb.kp hc x oz fz g1 q1 fun l s2 hr zs S2 H2 cell2 g2 os oz2 st2 q3 => ?_
    rw [asO_rO] at q3
    obtain ⟨os', sp⟩ := call_ok g2 (.cons oz2 os) q3
    exact x.sp sp
/-- l.pop(i) -/
theorem snd_pop {a i : Vm.E} {e e' : Expr} {n : Str} {apos pos : Pos} (hn : n = "pop") (hln : lineB apos pos = true) (hs : superB e = false) (hst : starB e' = false) (ha : SndE T t N G a sc e) (hca : chk t N sc a (.ex e) = true) (hb : SndE T t N G i sc e') (hcb : chk t N sc i (.ex e') = true) : SndE T t N G (.pop a i) sc (.Call (.Attribute e n apos) [e'] [] pos) := by
  intro CX E k X x v s S H cell Q g q
  subst hn
  have q : PO T.toTb v S H cell E Q (asO ((pk a i s (ev G a s)).bind fun x s => okO (isL (x.res s)) fun _ => (asD (ev G i s)).bind fun y s => match x with
    | .ref p => okO (getP s p) fun o => okO (popO o y) fun q => .ok (.o (.sh q.1)) (setP s p q.2)
    | .val _ => .er)) := q
  have hs1 := star_of (env := X.env) (es := []) hst
  have hfew : ((backTo pos (starEach [e'] X.env)).all (fun x => !x.1) && (backToKw pos (keywordEach [] X.env)).all (fun x => x.1.isSome)
      && decide ([e'].length + ([] : List Keyword).length + (if ([] : List Keyword).isEmpty then 0 else 1) < 30)) = true := by
    rw [hs1]; rfl
  refine ⟨_, pe_bm F.plainAttrs_list F.slot_list_pop rfl mt_popAt (wE_ok e) (pa_cons (wE_ok e') pa_nil hs1) (base_of hs) hfew hln hs1 rfl, ?_⟩
  show wE X e v H fun y1 H1 => tyV X.K "list" y1 H1 ∧ wE X e' v H1 fun y2 H2 => rPopAt y1 [y2] H2 Q
  refine ha.p hca x g (PA'.bindO q fun z s1 hz y1 S1 H1 cell1 g1 oz fz st1 q1 => ?_)
  obtain ⟨_, hl, q2⟩ := okO_ok q1
  refine ⟨?_, ?_⟩
  · cases ho : z.res s1 with
    | none => rw [ho] at hl; cases hl
    | some o =>
      rw [ho] at hl
      obtain ⟨c0, ow⟩ := opd_ow g1 oz ho
      cases o with
      | ol l =>
        cases ow with
        | ol h1 _ _ => exact .inl ⟨rfl, _, sq_of h1⟩
      | _ => cases hl
  · refine hb.dk hcb x oz fz g1 q2 fun d s2 hd y2 S2 H2 cell2 g2 h2 oz2 st2 q3 => ?_
    cases oz2 with
    | val _ => exact False.elim q3
    | @ref r p hr dn =>
      obtain ⟨o, ho, q4⟩ := okO_ok q3
      obtain ⟨⟨d3, o3⟩, hp, q5⟩ := okO_ok q4
      obtain ⟨r', w, cu, sp⟩ := g2.at ho
      have er : r = r' := by
        have e' := sp.root
        rw [hr] at e'
        cases e'; rfl
      subst er
      have e2 := Dn.uniq dn sp.dn
      subst e2
      unfold popO at hp
      split at hp
      · rename_i l kk
        split at hp
        · rename_i hk
          cases hx : l[kk.toNat]? with
          | none => rw [hx] at hp; cases hp
          | some d4 =>
            rw [hx] at hp
            cases hp
            cases h2
            have ow := sp.ow
            generalize hcu : cu = cu' at ow
            cases ow with
            | @ol a vs _ h1 h3 h4 =>
              subst hcu
              obtain ⟨cell3, g3, st3⟩ := sp.change g2 (h4.erase kk.toNat)
              obtain ⟨w, hw1, hw2⟩ := h4.get hx
              have hlt : kk.toNat < vs.length := (List.getElem?_eq_some_iff.mp hw1).1
              refine ⟨a, vs, kk, kk.toNat, w, rfl, rfl, h1, by omega, by omega, seqIndex_of hk.1 (by omega), hw1, ?_⟩
              exact (PO.step st3 q5).sh g3 hw2
        · cases hp
      · cases hp
end
end Vm

namespace Vm
open PySem L2 Evl
section
open PySem.Spec PyProof.Rows
variable {X : Cx} {C g : Addr} {pins : List (Addr × Obj)} {σ : L2.St} {H : Hp} {s : Shared} {Q : VK}
theorem made0_at (M : Mk0 X.K C) (I : Inv X pins σ H s) (h : ∀ x dx, H x = none → H dx = none → dx ≠ x → Q (.ref x) (upd (upd H dx (.own x)) x (.ins C dx []))) : wpAny (model X.prog X.w) X.A (call (.ref C) []) (EP X pins σ Q) X.xe s := by
  have J := Inv.made (C := C) I
  have hq := h (s.heap.objs.size + 1) s.heap.objs.size (I.hok.fresh (Nat.le_succ _)) (I.hok.fresh (Nat.le_refl _)) (Nat.ne_of_lt (Nat.lt_succ_self _))
  obtain ⟨mA, O, _⟩ := ins_get J.hok upd_same
  obtain ⟨od, J2, _⟩ := O.look
  refine wpAny_call (make_map0 I.kIn M.makes M.init (fun self => PySem.W.Looks.of_pure (PySem.W.oi_bind _)) ?_)
  have t2 : PySem.W.Looks (model X.prog X.w) _ (isInstance (.ref (s.heap.objs.size + 1)) (.type "object")) true := J2.type.andThen (PySem.W.looks_mroIn (M := model X.prog X.w) J.kIn M.top)
  refine codeAny_call_builtin PySem.W.oi_plain PySem.W.entry_oi (PySem.W.check_slot PySem.W.oi_kind PySem.W.oi_split t2 (NwA.oi_args_any _ [] []) ?_)
  rw [PySem.W.oi_run]
  exact wpAny_pure ⟨rfl, .ref (s.heap.objs.size + 1), _, J, rfl, hq⟩
theorem pe_mk0 {x : Str} {p pos : Pos} (M : Mk0 X.K C) (hg : Gl X x) (hm : X.mg x = some (.ref C)) (hdb : (x == ("__debug__" : Str)) = false) :
    PE X (.Call (.Name x p) [] [] pos) (fun σ H Q => ∀ y dx, H y = none → H dx = none → dx ≠ y → Q (.ref y) (upd (upd H dx (.own y)) y (.ins C dx []))) :=
  ⟨fun pins s σ H Q I h => wpAny_Call_Name_kw (ld_glob I hg hm (PySem.W.callWith_K0 I.kIn M.kp (made0_at M I h)) hdb)⟩
/-- an item at the slots σ -/
def wIxS (X : Cx) (a b : Expr) (σ : L2.St) : R2 := fun x y H Q => ∀ (pins : List (Addr × Obj)) (s : Shared) (v u : Value), Inv X pins σ H s → RelV x v → RelV y u → wpAny (model X.prog X.w) X.A (subscriptTail a b v u) (EP X pins σ Q) X.xe s
theorem pe_ixS {a b : Expr} {ta tb : TE} {pos : Pos} (ha : PE X a ta) (hb : PE X b tb) : PE X (.Subscript a b pos) (fun σ H Q => ta σ H fun x H1 => tb σ H1 fun y H2 => wIxS X a b σ x y H2 Q) :=
  ⟨fun pins s σ H Q I h => Subscript_ (binT ha hb I h fun v u s2 x y H2 I2 rx ry q => q pins s2 v u I2 rx ry)⟩
theorem wIxS_of {a b : Expr} (hs : PlainIx b) {x y : V} (h : wIx X x y H Q) : wIxS X a b σ x y H Q := fun pins s v u I rx ry => wIx_ok a b pins s σ H x y v u Q I rx ry h (hs _ _)
theorem wIxS_own {CX : CXT} {k : Nat} {fd : FuncData} {ps : List Str} {sp : Sp} {E : XK} {a b : Expr} (hs : PySem.W.findIn X.K (.ref C) "__getitem__" = some (some (.ref g))) (hf : PySem.W.isFn X.K (.ref g) = true) (hfn : PySem.W.fnIn X.K g = true) (F : FnOk X.prog X.w X.K X.mg X.base CX k g fd ps sp) (hr : Room (k + 1) X.A)
    (hb : Binds X.K fd ps []) (hx : PassesAt CX X σ E) (hsl : ∀ o i, subscripted b true o i = runValue (.builtin "lifetime.subscript" ⟨[o, i], []⟩)) {x y : V} (h : ∃ p dx fs, x = .ref p ∧ H p = some (.ins C dx fs) ∧ sp [x, y] H Q E) : wIxS X a b σ x y H Q := by
  intro pins s v u I rx ry
  obtain ⟨p, dx, fs, rfl, hp, q⟩ := h
  obtain rfl : v = Value.ref p := rx
  obtain ⟨mA, O, _⟩ := ins_get I.hok hp
  obtain ⟨od, J, _⟩ := O.look
  obtain ⟨m, hF⟩ := I.fr
  refine PySem.W.sub_K hF I.ok.mod.kin J hs hfn hf ?_ (hsl _ _)
  have rr : Vals [V.ref p, y] [Value.ref p, u] := .cons rfl (.cons ry .nil)
  have bnd := hb s [Value.ref p, u] I.kIn (by rw [List.append_nil, ← rr.length]; exact F.len _ _ _ _ q)
  rw [List.append_nil] at bnd
  refine wpAny_call (codeAny_mono (F.run _ X.stack s H _ _ _ _ _ hr.in1 I.env0.in1 bnd rr q) fun z s' hz => ?_)
  rcases z with e | (_ | _ | _ | w)
  · exact hx pins H s e s' I hz
  · exact False.elim hz
  · exact False.elim hz
  · exact False.elim hz
  · exact I.after hz
def wSetS (X : Cx) (σ : L2.St) : V → V → V → Hp → (Hp → Prop) → Prop := fun o i v H Q => ∀ (pins : List (Addr × Obj)) (s : Shared) (ov iv u : Value), Inv X pins σ H s → RelV o ov → RelV i iv → RelV v u → wpAny (model X.prog X.w) X.A (setItem ov iv u) (fun _ s' => ∃ H', Inv X pins σ H' s' ∧ Q H') X.xe s
theorem ps_subS {o i value : Expr} {td ty tv : TE} {pos pos' : Pos} (ho : PE X o td) (hi : PE X i ty) (hv : PE X value tv) (hs : swapsWith value (some (.Subscript o i pos')) pos.line X.env = pure false) :
    PS X (.Assign [.Subscript o i pos'] value pos) (fun D σ H => tv σ H fun v H1 => td σ H1 fun x H2 => ty σ H2 fun y H3 => wSetS X σ x y v H3 fun H4 => D.nx σ H4) := by
  refine ⟨fun pins s σ H D I h => ?_⟩
  refine wpAny_Assign_Subscript (thn (hv.run pins s σ H _ I h) fun r s1 ⟨v, H1, I1, rv, q1⟩ => thn (ho.run pins s1 σ H1 _ I1 q1) fun u s2 ⟨x, H2, I2, rx, q2⟩ => thn (hi.run pins s2 σ H2 _ I2 q2) fun iv s3 ⟨y, H3, I3, ry, q3⟩ => ?_) hs
  exact thn (q3 pins s3 u iv r I3 rx ry rv) fun _ s4 ⟨H4, I4, q4⟩ => ⟨σ, H4, I4, q4⟩
theorem wSetS_of {t : TSet} (ht : PSet X t) {o i v : V} {Q : Hp → Prop} (h : t o i v H Q) : wSetS X σ o i v H Q := fun pins s ov iv u I ro ri rv => ht pins s σ H o i v ov iv u Q I ro ri rv h
theorem setItem_K {M : Model} {A : Around} {E : Value → Shared → Prop} {K : PySem.W.Frag} {x L f : Addr} {h₀ : Heap} {m : Str → Option Value} {ox : Obj} {od : Option Obj} {i v : Value} {Q : Unit → Shared → Prop} (F : Fr h₀ L s.heap m) (X₀ : K.In h₀) (I : PySem.W.InstAt s.heap x ox C od) (hq : PySem.W.noSeq K C = true) (hs : PySem.W.findIn K (.ref C) "__setitem__" = some (some (.ref f))) (hf : PySem.W.isFn K (.ref f) = true)
    (h : wpAny M A (call (.ref f) [.ref x, i, v]) (fun _ s' => Q () s') E s) : wpAny M A (setItem (.ref x) i v) Q E s := by
  have X := X₀.keeps F.keep
  unfold setItem sequenceKey
  refine wpAny_holding (wpAny_bind (wpAny_bind (I.type.here ?_)))
  refine wpAny_bind ((PySem.W.anyM_none X hq).here ?_)
  rw [if_pos (show (!false) = true from rfl)]
  exact wpAny_pure (wpAny_bind (PySem.W.special_fn X I hs (beq_iff_eq.mp hf) (wpAny_mono h (fun _ _ z => wpAny_pure z) fun _ _ z => z)))
theorem wSetS_own {CX : CXT} {k : Nat} {fd : FuncData} {ps : List Str} {sp : Sp} {E : XK} (hs : PySem.W.findIn X.K (.ref C) "__setitem__" = some (some (.ref g))) (hf : PySem.W.isFn X.K (.ref g) = true) (hq : PySem.W.noSeq X.K C = true) (F : FnOk X.prog X.w X.K X.mg X.base CX k g fd ps sp) (hr : Room k X.A)
    (hb : Binds X.K fd ps []) (hx : PassesAt CX X σ E) {x y z : V} {Q : Hp → Prop} (h : ∃ p dx fs, x = .ref p ∧ H p = some (.ins C dx fs) ∧ sp [x, y, z] H (fun _ H' => Q H') E) : wSetS X σ x y z H Q := by
  intro pins s v u w I rx ry rz
  obtain ⟨p, dx, fs, rfl, hp, q⟩ := h
  obtain rfl : v = Value.ref p := rx
  obtain ⟨mA, O, _⟩ := ins_get I.hok hp
  obtain ⟨od, J, _⟩ := O.look
  obtain ⟨m, hF⟩ := I.fr
  refine setItem_K hF I.ok.mod.kin J hq hs hf ?_
  exact wpAny_mono (run_fnS (us := [.ref p, u, w]) (vs := [.ref p, y, z]) (E := fun _ => E) F hr hb hx I (.cons rfl (.cons ry (.cons rz .nil))) q) (fun _ s' ⟨_, H', I', _, q'⟩ => ⟨H', I', q'⟩) fun _ _ z => z
end
section
variable {T : Tx} {t : Tt} {N : List Str} {G : Ct} {CX : CXT} {E : WX} {k : Nat} {sc : Scope} {X : Cx} {v : St} {s : Env} {S H : Hp} {cell : Nat → List Addr}
theorem slB_plain {b : Expr} (hs : sliceB b = false) : PlainIx b := by
  intro o i
  cases b <;> first | rfl | (cases hs; done)
theorem slB_own {b : Expr} (hs : sliceB b = false) : ∀ o i, subscripted b true o i = runValue (.builtin "lifetime.subscript" ⟨[o, i], []⟩) := by
  intro o i
  cases b <;> first | (with_unfolding_all rfl) | (cases hs; done)
theorem clsO_ow {T : Tb} {x : V} {o : O} {c : List Addr} (h : Ow T S H x o c) {l : List (Int × D)} (e : dctO o = some l) : frz o = .dct l := by
  unfold dctO at e
  split at e <;> cases e <;> rfl
/-- an operand's kind when it is looked at, and the rest -/
theorem snd_idx {a b : Vm.E} {e e' : Expr} {pos : Pos} (ha : SndE T t N G a sc e) (hca : chk t N sc a (.ex e) = true) (hb : SndE T t N G b sc e') (hcb : chk t N sc b (.ex e') = true) (hs : sliceB e' = false) : SndE T t N G (.idx a b) sc (.Subscript e e' pos) := by
  intro CX E k X x v s S H cell Q g q
  have q : PO T.toTb v S H cell E Q (asO ((pk a b s (ev G a s)).bind fun x s => (asD (ev G b s)).bind fun y s => okO (x.res s) fun o => match clsO o with
    | some c => okO (G.mth c 14) fun g => rO (callF G.F g [x, .val y] s)
    | none => okO (idxD o y) fun d => .ok (.o (.sh d)) s)) := q
  by_cases hd : ∃ z s1 d s2 o l, pk a b s (ev G a s) = .ok z s1 ∧ asD (ev G b s1) = .ok d s2 ∧ z.res s2 = some o ∧ dctO o = some l
  · obtain ⟨z0, s10, d0, s20, o0, l0, e1, e2, e3, e4⟩ := hd
    refine ⟨_, pe_dget (Nat.lt_of_le_of_lt (by omega) x.hu) (wE_ok e) (wE_ok e') (slB_plain hs), ?_⟩
    show wE X e v H fun y1 H1 => wE X e' v H1 fun y2 H2 => ∃ a v, y1 = .ref a ∧ DGet H2 a y2 (some v) ∧ Q v H2
    refine ha.p hca x g (PA'.bindO q fun z s1 hz y1 S1 H1 cell1 g1 oz fz st1 q1 => ?_)
    refine hb.dk hcb x oz fz g1 q1 fun d s2 hd y2 S2 H2 cell2 g2 h2 oz2 st2 q2 => ?_
    rw [e1] at hz
    cases hz
    rw [e2] at hd
    cases hd
    rw [e3] at q2
    obtain ⟨c0, ow⟩ := opd_ow g2 oz2 e3
    have hcl : clsO o0 = none := by
      unfold dctO at e4
      split at e4 <;> cases e4 <;> rfl
    have q2 : PO T.toTb v S2 H2 cell2 E Q (asO (match clsO o0 with
      | some c => okO (G.mth c 14) fun g => rO (callF G.F g [z0, .val d0] s20)
      | none => okO (idxD o0 d0) fun d => .ok (.o (.sh d)) s20)) := q2
    rw [hcl] at q2
    obtain ⟨r, hr, q4⟩ := okO_ok q2
    unfold idxD at hr
    rw [e4] at hr
    obtain ⟨kk, rfl⟩ : ∃ kk, d0 = .int kk := by
      cases d0 <;> first | exact ⟨_, rfl⟩ | cases hr
    have hr : getK kk l0 = some r := hr
    obtain ⟨p, vs, rfl, hp, hk⟩ := view_dct g2.ex ow (clsO_ow ow e4)
    obtain ⟨w, hw, hdw⟩ := (hk.get kk).1 r hr
    cases h2
    have dg := DGet.k (H := H2) (a := p) (kvs := vs) (k := .inl kk) hp
    rw [hw] at dg
    exact ⟨p, w, rfl, dg, q4.sh g2 hdw⟩
  · refine ⟨_, pe_ixS (wE_ok e) (wE_ok e'), ?_⟩
    show wE X e v H fun y1 H1 => wE X e' v H1 fun y2 H2 => wIxS X e e' v y1 y2 H2 Q
    refine ha.p hca x g (PA'.bindO q fun z s1 hz y1 S1 H1 cell1 g1 oz fz st1 q1 => ?_)
    refine hb.dk hcb x oz fz g1 q1 fun d s2 hdd y2 S2 H2 cell2 g2 h2 oz2 st2 q2 => ?_
    obtain ⟨o, ho, q3⟩ := okO_ok q2
    obtain ⟨c0, ow⟩ := opd_ow g2 oz2 ho
    cases hcl : clsO o with
    | none =>
      rw [hcl] at q3
      obtain ⟨r, hr, q4⟩ := okO_ok q3
      unfold idxD at hr
      cases hdo : dctO o with
      | some l => exact absurd ⟨z, s1, d, s2, o, l, hz, hdd, ho, hdo⟩ hd
      | none =>
        rw [hdo] at hr
        exact wIxS_of (slB_plain hs) (idx_ok x.K g2 ow h2 hr q4)
    | some c =>
      rw [hcl] at q3
      obtain ⟨gg, hg, q4⟩ := okO_ok q3
      rw [asO_rO] at q4
      obtain ⟨a', dx, fv, e1, e2, ic, _⟩ := view_cls g2.ex ow hcl
      obtain ⟨os, sp⟩ := call_ok g2 (.cons oz2 (.cons (.val h2) .nil)) q4
      obtain ⟨f1, f2, f3, f4⟩ := x.fx.getm c gg ic hg
      rw [← x.K] at f1 f2 f3 f4
      exact wIxS_own f1 f2 f3 (x.fn gg) x.r1 f4 (x.pass v) (slB_own hs) ⟨a', dx, fv, e1, e2, x.sp sp⟩
end
end Vm

namespace Vm
open PySem L2 Evl
section
variable {T : Tx} {t : Tt} {N : List Str} {G : Ct} {CX : CXT} {E : WX} {k : Nat} {sc : Scope} {X : Cx} {v : St} {s : Env} {S H : Hp} {cell : Nat → List Addr}
theorem HdL.reverse {T : Tb} {S : Hp} : ∀ {vs : List V} {l : List D}, HdL T S vs l → HdL T S vs.reverse l.reverse
  | _, _, .nil => .nil
  | _, _, .cons h k => by
    rw [List.reverse_cons, List.reverse_cons]
    exact (HdL.reverse k).app (.cons h .nil)
theorem snd_pf {f : Pf} {a : Vm.E} {e e' : Expr} (hf : pfX e = some (f, e')) (ha : SndE T t N G a sc e') (hca : chk t N sc a (.ex e') = true) : SndE T t N G (.pf f a) sc e := by
  intro CX E k X x v s S H cell Q g q
  have q : PO T.toTb v S H cell E Q (asO ((pk a .nil s (ev G a s)).bind fun x s => okO (x.res s) fun o => okO (pfO f (frz o)) fun o => .ok (.o o) s)) := q
  unfold pfX at hf
  split at hf
  · cases hf
    refine ⟨_, pe_revL (wE_ok e'), ?_⟩
    show wE X e' v H fun y1 H1 => ∃ a xs, y1 = .ref a ∧ SqL X.K H1 a xs ∧ ∀ p, H1 p = none → Q (.ref p) (upd H1 p (.lst xs.reverse))
    refine ha.p hca x g (PA'.bindO q fun z s1 hz y1 S1 H1 cell1 g1 oz fz st1 q1 => ?_)
    obtain ⟨o, ho, q2⟩ := okO_ok q1
    obtain ⟨o', ho', q3⟩ := okO_ok q2
    obtain ⟨c0, ow⟩ := opd_ow g1 oz ho
    unfold pfO at ho'
    split at ho'
    · rename_i l hfz
      cases ho'
      obtain ⟨p, vs, rfl, hp, hl⟩ := view_lst g1.ex ow hfz
      exact ⟨p, vs, rfl, sq_of hp, fun p' hp' => q3.newL g1 hp' hl.reverse⟩
    · cases ho'
  · cases hf

theorem opd_lst (g : Good T.toTb v s S H cell) {y : V} {p : Pth} (o : Opd T.toTb v S H y (.ref p)) {l : List D} (h : getP s p = some (.ol l)) :
    ∃ a vs, y = .ref a ∧ H a = some (.lst vs) ∧ HdL T.toTb S vs l ∧ ∀ (l' : List D) (vs' : List V), HdL T.toTb S vs' l' → ∃ C', Good T.toTb v (setP s p (.ol l')) S (upd H a (.lst vs')) C' ∧ Step S H cell S (upd H a (.lst vs')) C' := by
  cases o with
  | @ref r _ hr dn =>
    obtain ⟨r', w, cu, sp⟩ := g.at h
    have er : r = r' := by
      have e' := sp.root
      rw [hr] at e'
      cases e'; rfl
    subst er
    have e2 := Dn.uniq dn sp.dn
    subst e2
    have ow := sp.ow
    generalize hcu : cu = cu' at ow
    cases ow with
    | @ol a vs _ h1 h3 h4 =>
      subst hcu
      exact ⟨a, vs, rfl, h1, h4, fun l' vs' k => sp.change g k⟩

theorem idxI_ok {k : Int} : ∀ {ns : List Int} {j : Nat}, idxI k ns = some j → ns[j]? = some k ∧ ∀ m < j, ns[m]? ≠ some k
  | [], _, h => by cases h
  | x :: r, j, h => by
    unfold idxI at h
    split at h
    · rename_i e
      cases h
      exact ⟨by simp [e], fun m hm => absurd hm (Nat.not_lt_zero m)⟩
    · rename_i e
      cases q : idxI k r with
      | none => rw [q] at h; cases h
      | some i =>
        rw [q] at h
        cases h
        obtain ⟨h1, h2⟩ := idxI_ok q
        refine ⟨by simpa using h1, fun m hm => ?_⟩
        cases m with
        | zero => simp [e]
        | succ m =>
          have hm : m + 1 < i + 1 := hm
          simpa using h2 m (by omega)
theorem intsOf_map : ∀ {l : List D} {ns : List Int}, intsOf l = some ns → l = ns.map .int
  | [], ns, h => by cases h; rfl
  | d :: r, ns, h => by
    unfold intsOf at h
    cases d <;> first | (cases h; done) | skip
    cases q : intsOf r with
    | none => simp [q] at h
    | some ms =>
      simp [q] at h
      subst h
      rw [intsOf_map q]
      rfl
theorem HdL.ints' {T : Tb} {S : Hp} : ∀ ns : List Int, HdL T S (ns.map V.int) (ns.map D.int)
  | [] => .nil
  | _ :: r => .cons (.int _) (HdL.ints' r)
theorem bmT_lst {T : Tb} {x : V} {o : O} {c : List Addr} {K : PySem.W.Frag} (e : Ex S H) (ow : Ow T S H x o c) (h : ∃ l, frz o = .lst l) : tyV K "list" x H := by
  obtain ⟨l, h⟩ := h
  obtain ⟨p, vs, rfl, hp, _⟩ := view_lst e ow h
  exact .inl ⟨rfl, _, sq_of hp⟩
theorem bmK_ok {m : Bm} {o : O} {u : Unit} (h : bmK m (some o) = some u) : bmT m o = true := by
  unfold bmK at h
  split at h
  · rename_i o' e
    cases e
    split at h
    · assumption
    · cases h
  · cases h
theorem bmT_o {m : Bm} {o : O} (h : bmT m o = true) : (m ≠ .get → ∃ l, frz o = .lst l) ∧ (m = .get → ∃ l, frz o = .dct l) := by
  cases m with
  | extend => cases o <;> first | exact ⟨fun _ => ⟨_, rfl⟩, fun z => by cases z⟩ | cases h
  | remove => cases o <;> first | exact ⟨fun _ => ⟨_, rfl⟩, fun z => by cases z⟩ | cases h
  | popl => cases o <;> first | exact ⟨fun _ => ⟨_, rfl⟩, fun z => by cases z⟩ | cases h
  | index =>
    unfold bmT at h
    cases q : frz o <;> simp [q] at h
    exact ⟨fun _ => ⟨_, rfl⟩, fun z => by cases z⟩
  | get =>
    unfold bmT at h
    cases q : frz o <;> simp [q] at h
    exact ⟨fun z => absurd rfl z, fun _ => ⟨_, rfl⟩⟩
theorem bm_extend {o : O} {d : D} {qq : O × Option O} (h : bmO .extend o (some d) = some qq) : ∃ l a, o = .ol l ∧ d = .lst a ∧ l.length + a.length ≤ lim ∧ qq = (.sh .non, some (.ol (l ++ a))) := by
  cases o <;> cases d <;> simp [bmO] at h
  exact ⟨_, _, rfl, rfl, h.1, h.2.symm⟩
theorem few_one {e : Expr} {env : PySem.Env} {pos : Pos} (h : starB e = false) : ((backTo pos (starEach [e] env)).all (fun x => !x.1) && (backToKw pos (keywordEach [] env)).all (fun x => x.1.isSome)
      && decide (([e] : List Expr).length + ([] : List Keyword).length + (if ([] : List Keyword).isEmpty then 0 else 1) < 30)) = true := by
  rw [star_of h]; rfl
/-- a mutating method of a list -/
theorem bm_mut {z : A} {o o' r : O} {y : V} {Q : VK} (g : Good T.toTb v s S H cell) (oz : Opd T.toTb v S H y z) (ho : z.res s = some o) {l l' : List D} (eo : o = .ol l) (eo' : o' = .ol l') (q : PO T.toTb v S H cell E Q (asO (bmR (r, some o') z s))) :
    ∃ a vs, y = .ref a ∧ H a = some (.lst vs) ∧ HdL T.toTb S vs l ∧ ∀ vs', HdL T.toTb S vs' l' → ∀ d w, r = .sh d → Hd T.toTb S w d → Q w (upd H a (.lst vs')) := by
  subst eo eo'
  cases oz with
  | val _ => exact False.elim q
  | @ref _ p hr dn =>
    obtain ⟨a, vs, e1, h1, hl, ch⟩ := opd_lst g (.ref hr dn) ho
    refine ⟨a, vs, e1, h1, hl, fun vs' k d w er hw => ?_⟩
    subst er
    obtain ⟨C4, g4, st4⟩ := ch l' vs' k
    exact (PO.step st4 q).sh g4 hw
theorem snd_bm1 {a b : Vm.E} {m : Bm} {e e' : Expr} {n : Str} {apos pos : Pos} (hm : m ≠ .popl) (hn : n = bmN m) (hln : lineB apos pos = true) (hs : superB e = false) (hst : starB e' = false) (ha : SndE T t N G a sc e) (hca : chk t N sc a (.ex e) = true) (hb : SndE T t N G b sc e') (hcb : chk t N sc b (.ex e') = true) : SndE T t N G (.bm1 a m b) sc (.Call (.Attribute e n apos) [e'] [] pos) := by
  intro CX E k X x v s S H cell Q g q
  subst hn
  have q : PO T.toTb v S H cell E Q (asO ((pk a b s (ev G a s)).bind fun x s => okO (bmK m (x.res s)) fun _ => (asD (ev G b s)).bind fun d s => okO (x.res s) fun o => okO (bmO m o (some d)) fun q => bmR q x s)) := q
  have hs1 := star_of (env := X.env) (es := []) hst
  have pa : PA X [e'] (tCons (wE X e') tNil) := pa_cons (wE_ok e') pa_nil hs1
  have core : ∀ (P0 : V → Hp → Prop) (P1 : V → V → Hp → Prop), (∀ {y1 : V} {o : O} {c : List Addr} {S1 H1 : Hp}, Ex S1 H1 → Ow T.toTb S1 H1 y1 o c → bmT m o = true → P0 y1 H1) →
      (∀ {y1 y2 : V} {z : A} {o : O} {d : D} {qq : O × Option O} {s2 : Env} {S2 H2 : Hp} {cell2 : Nat → List Addr}, Good T.toTb v s2 S2 H2 cell2 → Opd T.toTb v S2 H2 y1 z → z.res s2 = some o → Hd T.toTb S2 y2 d → bmO m o (some d) = some qq → PO T.toTb v S2 H2 cell2 E Q (asO (bmR qq z s2)) → P1 y1 y2 H2) →
      wE X e v H fun y1 H1 => P0 y1 H1 ∧ wE X e' v H1 fun y2 H2 => P1 y1 y2 H2 := by
    intro P0 P1 h0 h1
    refine ha.p hca x g (PA'.bindO q fun z s1 hz y1 S1 H1 cell1 g1 oz fz st1 q1 => ?_)
    obtain ⟨u, hk, q2⟩ := okO_ok q1
    refine ⟨?_, hb.dk hcb x oz fz g1 q2 fun d s2 hd y2 S2 H2 cell2 g2 h2 oz2 st2 q3 => ?_⟩
    · cases ho : z.res s1 with
      | none => rw [ho] at hk; cases hk
      | some o =>
        rw [ho] at hk
        obtain ⟨c0, ow⟩ := opd_ow g1 oz ho
        exact h0 g1.ex ow (bmK_ok hk)
    · obtain ⟨o, ho, q4⟩ := okO_ok q3
      obtain ⟨qq, hq, q5⟩ := okO_ok q4
      exact h1 g2 oz2 ho h2 hq q5
  cases m with
  | popl => exact absurd rfl hm
  | extend =>
    refine ⟨_, pe_bm F.plainAttrs_list F.slot_list_extend rfl mt_extend (wE_ok e) pa (base_of hs) (few_one hst) hln hs1 rfl, ?_⟩
    show wE X e v H fun y1 H1 => tyV X.K "list" y1 H1 ∧ wE X e' v H1 fun y2 H2 => rExtend y1 [y2] H2 Q
    refine core _ _ (fun e ow h => bmT_lst e ow ((bmT_o h).1 (by decide))) fun {y1 y2 z o d qq s2 S2 H2 cell2} g2 oz ho hd hq q5 => ?_
    obtain ⟨l, a', rfl, rfl, hlen, rfl⟩ := bm_extend hq
    obtain ⟨p, vs, e1, h1, hl, go⟩ := bm_mut g2 oz ho rfl rfl q5
    subst e1
    cases hd with
    | @lst p2 zs _ hz hlz =>
      have hz2 := g2.ex _ _ hz
      refine ⟨p, p2, vs, zs, rfl, rfl, h1, hz2, ?_, go _ (hl.app hlz) .non _ rfl .non⟩
      rw [hl.len, hlz.len]
      exact Nat.le_trans hlen (by decide)
  | remove =>
    refine ⟨_, pe_bm F.plainAttrs_list F.slot_list_remove rfl mt_remove (wE_ok e) pa (base_of hs) (few_one hst) hln hs1 rfl, ?_⟩
    show wE X e v H fun y1 H1 => tyV X.K "list" y1 H1 ∧ wE X e' v H1 fun y2 H2 => rRemI y1 [y2] H2 Q
    refine core _ _ (fun e ow h => bmT_lst e ow ((bmT_o h).1 (by decide))) fun {y1 y2 z o d qq s2 S2 H2 cell2} g2 oz ho hd hq q5 => ?_
    unfold bmO at hq
    dsimp only at hq
    split at hq
    · rename_i l kk e1
      cases e1
      cases hns : intsOf l with
      | none => rw [hns] at hq; cases hq
      | some ns =>
        rw [hns] at hq
        have hq : (idxI kk ns).map (fun j => ((O.sh .non : O), some (O.ol ((ns.eraseIdx j).map .int)))) = some qq := hq
        cases hj : idxI kk ns with
        | none => rw [hj] at hq; cases hq
        | some j =>
          rw [hj] at hq
          cases hq
          obtain ⟨p, vs, e1, h1, hl, go⟩ := bm_mut g2 oz ho rfl rfl q5
          subst e1
          obtain ⟨rfl, _⟩ := hl.ofInts hns
          obtain ⟨i1, i2⟩ := idxI_ok hj
          cases hd
          exact ⟨p, ns, kk, j, rfl, rfl, h1, i1, i2, go _ (HdL.ints' _) .non _ rfl .non⟩
    · cases hq
  | index =>
    refine ⟨_, pe_bm F.plainAttrs_list F.slot_list_index rfl mt_index (wE_ok e) pa (base_of hs) (few_one hst) hln hs1 rfl, ?_⟩
    show wE X e v H fun y1 H1 => tyV X.K "list" y1 H1 ∧ wE X e' v H1 fun y2 H2 => rIndex X.K y1 [y2] H2 Q
    refine core _ _ (fun e ow h => bmT_lst e ow ((bmT_o h).1 (by decide))) fun {y1 y2 z o d qq s2 S2 H2 cell2} g2 oz ho hd hq q5 => ?_
    unfold bmO at hq
    dsimp only at hq
    split at hq
    · rename_i l kk hfz e1
      cases e1
      cases hns : intsOf l with
      | none => rw [hns] at hq; cases hq
      | some ns =>
        rw [hns] at hq
        have hq : (idxI kk ns).map (fun (j : Nat) => ((O.sh (.int j) : O), (none : Option O))) = some qq := hq
        cases hj : idxI kk ns with
        | none => rw [hj] at hq; cases hq
        | some j =>
          rw [hj] at hq
          cases hq
          obtain ⟨c0, ow⟩ := opd_ow g2 oz ho
          obtain ⟨p, vs, rfl, hp, hl⟩ := view_lst g2.ex ow hfz
          obtain ⟨rfl, _⟩ := hl.ofInts hns
          obtain ⟨i1, i2⟩ := idxI_ok hj
          cases hd
          refine ⟨p, ns.map V.int, .int kk, j, .int kk, rfl, rfl, sq_of hp, rfl, ?_, ?_, ?_, fun m z' hm hz => ?_, q5.sh g2 (.int _)⟩
          · simp [List.all_map]; intro _ _; rfl
          · rw [List.getElem?_map, i1]; rfl
          · simp [eqV]
          · rw [List.getElem?_map] at hz
            cases hw : ns[m]? with
            | none => rw [hw] at hz; cases hz
            | some w =>
              rw [hw] at hz
              cases hz
              have : w ≠ kk := fun z => i2 m hm (by rw [hw, z])
              simp [eqV, this]
    · cases hq
  | get =>
    refine ⟨_, pe_dget1 (Nat.lt_of_le_of_lt (by omega) x.hu) (wE_ok e) (wE_ok e') ⟨base_of hs, few_one hst, hln, by rw [hs1]; rfl⟩, ?_⟩
    show wE X e v H fun y1 H1 => ∃ a, y1 = .ref a ∧ IsD H1 a ∧ wE X e' v H1 fun y2 H2 => ∃ o, DGet H2 a y2 o ∧ Q (o.getD .non) H2
    have key := core (fun y1 H1 => ∃ a, y1 = .ref a ∧ IsD H1 a) (fun y1 y2 H2 => ∀ a, y1 = .ref a → ∃ o, DGet H2 a y2 o ∧ Q (o.getD .non) H2) (fun e ow h => by
        obtain ⟨l, hl⟩ := (bmT_o h).2 rfl
        obtain ⟨p, vs, rfl, hp, _⟩ := view_dct e ow hl
        exact ⟨p, rfl, .inl ⟨vs, .inl hp⟩⟩) fun {y1 y2 z o d qq s2 S2 H2 cell2} g2 oz ho hd hq q5 => by
      intro a ea
      unfold bmO at hq
      dsimp only at hq
      split at hq
      · rename_i l kk hfz e1
        cases e1
        cases hq
        obtain ⟨c0, ow⟩ := opd_ow g2 oz ho
        obtain ⟨p, vs, e1, hp, hk⟩ := view_dct g2.ex ow hfz
        rw [e1] at ea
        cases ea
        cases hd
        refine ⟨_, DGet.k (k := .inl kk) hp, ?_⟩
        cases hg : getK kk l with
        | none =>
          rw [hg] at q5
          rw [(hk.get kk).2 hg]
          exact q5.sh g2 .non
        | some d =>
          rw [hg] at q5
          obtain ⟨w, hw, hdw⟩ := (hk.get kk).1 d hg
          rw [hw]
          exact q5.sh g2 hdw
      · cases hq
    have eq : (fun (y1 : V) (H1 : Hp) => (∃ a, y1 = V.ref a ∧ IsD H1 a) ∧ wE X e' v H1 fun y2 H2 => ∀ a, y1 = V.ref a → ∃ o, DGet H2 a y2 o ∧ Q (o.getD .non) H2) =
        fun y1 H1 => ∃ a, y1 = V.ref a ∧ IsD H1 a ∧ wE X e' v H1 fun y2 H2 => ∃ o, DGet H2 a y2 o ∧ Q (o.getD .non) H2 := by
      have e2 : ∀ a : Addr, (fun (y2 : V) (H2 : Hp) => ∀ a', V.ref a = V.ref a' → ∃ o, DGet H2 a' y2 o ∧ Q (o.getD .non) H2) = fun y2 H2 => ∃ o, DGet H2 a y2 o ∧ Q (o.getD .non) H2 := fun a => by
        funext y2 H2
        exact propext ⟨fun h => h a rfl, fun h a' e => by cases e; exact h⟩
      funext y1 H1
      refine propext ⟨?_, ?_⟩
      · rintro ⟨⟨a, rfl, hd⟩, w⟩
        rw [e2 a] at w
        exact ⟨a, rfl, hd, w⟩
      · rintro ⟨a, rfl, hd, w⟩
        refine ⟨⟨a, rfl, hd⟩, ?_⟩
        rw [e2 a]
        exact w
    rw [← eq]
    exact key
theorem snd_bm0 {a : Vm.E} {m : Bm} {e : Expr} {n : Str} {apos pos : Pos} (hm : m = .popl) (hn : n = bmN m) (hln : lineB apos pos = true) (hs : superB e = false) (ha : SndE T t N G a sc e) (hca : chk t N sc a (.ex e) = true) : SndE T t N G (.bm0 a m) sc (.Call (.Attribute e n apos) [] [] pos) := by
  intro CX E k X x v s S H cell Q g q
  subst hm hn
  have q : PO T.toTb v S H cell E Q (asO ((pk a .nil s (ev G a s)).bind fun x s => okO (bmK .popl (x.res s)) fun _ => okO (x.res s) fun o => okO (bmO .popl o none) fun q => bmR q x s)) := q
  refine ⟨_, pe_bm0 F.plainAttrs_list F.slot_list_pop rfl mt_pop (wE_ok e) (base_of hs) hln, ?_⟩
  show wE X e v H fun y1 H1 => tyV X.K "list" y1 H1 ∧ rPop y1 [] H1 Q
  refine ha.p hca x g (PA'.bindO q fun z s1 hz y1 S1 H1 cell1 g1 oz fz st1 q1 => ?_)
  obtain ⟨u, hk, q2⟩ := okO_ok q1
  obtain ⟨o, ho, q4⟩ := okO_ok q2
  obtain ⟨qq, hq, q5⟩ := okO_ok q4
  rw [ho] at hk
  obtain ⟨c0, ow⟩ := opd_ow g1 oz ho
  refine ⟨bmT_lst g1.ex ow ((bmT_o (bmK_ok hk)).1 (by decide)), ?_⟩
  unfold bmO at hq
  dsimp only at hq
  split at hq
  · rename_i l e1
    cases hl : l.getLast? with
    | none => rw [hl] at hq; cases hq
    | some d =>
      rw [hl] at hq
      cases hq
      obtain ⟨p, vs, e1, h1, hll, go⟩ := bm_mut g1 oz ho rfl rfl q5
      subst e1
      have hd : l[l.length - 1]? = some d := by rw [← List.getLast?_eq_getElem?]; exact hl
      obtain ⟨w, hw, hdw⟩ := hll.get hd
      refine ⟨p, vs, w, rfl, rfl, h1, by rw [hll.len]; exact hw, go _ ?_ _ w rfl hdw⟩
      rw [List.dropLast_eq_take, List.dropLast_eq_take, hll.len]
      exact hll.take _
  · cases hq
/-- a class without __init__ -/
theorem snd_mk0 {c : Nat} {y : Str} {p pos : Pos} (hg : t.cn c = some y) (h1 : glB sc y = true) (h2 : (!odd y) = true) : SndE T t N G (.mk0 c) sc (.Call (.Name y p) [] [] pos) := by
  intro CX E k X x v s S H cell Q g q
  have q : PO T.toTb v S H cell E Q (asO (if (G.cst c 0).isSome = true then (R.ok (.o (.oo c [])) s : R Vl) else .er)) := q
  split at q
  · rename_i hc
    obtain ⟨f1, ic⟩ := x.fx.cl c y hg
    have M := x.fx.mk0 c ic hc
    rw [← x.K] at M
    refine ⟨_, pe_mk0 M (x.gl h1) f1 (odd_of h2).1, fun y dx hy hdx hne => ?_⟩
    have e1 : Ex H (upd H dx (.own y)) := Ex.new hdx
    have hy2 : upd H dx (.own y) y = none := by rw [upd_ne (Ne.symm hne)]; exact hy
    have e2 : Ex H (upd (upd H dx (.own y)) y (.ins (T.ca c) dx [])) := e1.trans (Ex.new hy2)
    have hS : S y = none := g.fresh hy
    have gg := g.grow e2
    have one : ∀ a ∈ [y], a = y := fun a ha => by simpa using ha
    refine q (.ref y) S _ cell [y] ⟨gg, .oo ic upd_same hS .nil, by simp, fun a ha z => ?_, fun a ha => ?_, Step.grow e2⟩
    · rw [one a ha] at z
      exact g.notC hy z
    · rw [one a ha]
      exact hy
  · exact False.elim q
/-- C.f -/
theorem snd_cst {c f : Nat} {y n : Str} {p pos : Pos} (hg : t.cn c = some y) (h1 : glB sc y = true) (h2 : (!odd y) = true) (hn : n = t.nm f) : SndE T t N G (.cst c f) sc (.Attribute (.Name y p) n pos) := by
  intro CX E k X x v s S H cell Q g q
  have q : PO T.toTb v S H cell E Q (asO (okO (cst1 G c f) fun d => .ok (.o (.sh d)) s)) := q
  obtain ⟨d, hd, q1⟩ := okO_ok q
  unfold cst1 at hd
  split at hd
  · cases hd
  · rename_i hf0
    obtain ⟨f1, ic⟩ := x.fx.cl c y hg
    obtain ⟨_, mc, w, u, r, cv, hw⟩ := x.fx.con c f d ic hf0 hd
    rw [← x.K] at r cv
    rw [x.fx.nm] at hn
    subst hn
    exact ⟨_, ClX.pe_cval (pe_glob (v := .ref (T.ca c)) (x.gl h1) f1 rfl (odd_of h2).1), _, mc, w, u, rfl, r, cv, q1.sh g (hw _)⟩
end
end Vm

namespace Vm
open PySem L2 Evl
section
open PySem.Spec PyProof.Rows
variable {X : Cx} {CX : CXT} {k : Nat} {C g : Addr} {fd : FuncData} {ps : List Str} {sp : Sp} {E : XK} {pins : List (Addr × Obj)} {σ : L2.St} {H : Hp} {s : Shared} {Q : VK} {x m : Str} {p pos apos : Pos} {e o : Expr} {es : List Expr} {t : TA} {us : List Value} {vs : List V} {i : Nat} {mc : Value}
/-- a def's call as code, within a call of something else -/
theorem code_fn {R : Result → Shared → Prop} (F : FnOk X.prog X.w X.K X.mg X.base CX k g fd ps sp) (hr : Room k X.A) (hb : Binds X.K fd ps []) (I : Inv X pins σ H s) (r : Vals vs us) (q : sp vs H Q E)
    (hx : ∀ e s', CX X.stack H s E e s' → R (.error e) s') (hret : ∀ u s', EP X pins σ Q u s' → R (.ok (.ret u)) s') : codeAny (model X.prog X.w) X.A (.call (.ref g) ⟨us, []⟩) R s := by
  have bnd := hb s us I.kIn (by rw [List.append_nil, ← r.length]; exact F.len _ _ _ _ q)
  rw [List.append_nil] at bnd
  refine codeAny_mono (F.run _ X.stack s H _ _ _ _ _ hr I.env0 bnd r q) fun z s' hz => ?_
  rcases z with e | (_ | _ | _ | w)
  · exact hx e s' hz
  · exact False.elim hz
  · exact False.elim hz
  · exact False.elim hz
  · exact hret w s' (I.after hz)
theorem pe_calS {W : L2.St → XK} (hN : X.N[i]? = some x) (hv : Vis X.env.scope x) (hd : (x == ("__debug__" : Str)) = false) (hcd : (x == ("__classdict__" : Str)) = false) (hr : Room k X.A) (hx : ∀ σ, PassesAt CX X σ (W σ)) (ha : PA X (e :: es) t)
    (he : starEach (e :: es) X.env = (false, eval e X.env) :: starEach es X.env) (hpl : (backTo pos (starEach es X.env)).any (·.1) = false) :
    PE X (.Call (.Name x p) (e :: es) [] pos) (fun σ H Q => ∃ a, σ[i]? = some (some (.ref a)) ∧ t σ H fun vs H2 => ∃ C dx fs g fd ps sp, H2 a = some (.ins C dx fs) ∧ StX.CallO X.K C g ∧ FnOk X.prog X.w X.K X.mg X.base CX k g fd ps sp ∧ Binds X.K fd ps [] ∧ sp (.ref a :: vs) H2 Q (W σ)) := by
  refine ⟨fun pins s σ H Q I h => ?_⟩
  obtain ⟨a, hs, h⟩ := h
  refine wpAny_Call_Name_kw (thn ((pe_var (pos := p) (i := i) hN hv hd hcd).run pins s σ H (fun v H1 => v = .ref a ∧ H1 = H) I ⟨.ref a, hs, rfl, rfl⟩) fun u s1 ⟨v, H1, I1, r1, ev, eH⟩ => ?_)
  subst ev
  rw [eH] at I1
  cases r1
  refine StX.callO_with (thn (ha.run pos pins s1 σ H _ I1 h) fun us s2 ⟨vs, H2, I2, r, C, dx, fs, g, fd, ps, sp, hi, c, F, hb, q⟩ => ?_) he hpl
  obtain ⟨ox, od, J, hd⟩ := StX.insC_at I2 (.inr ⟨dx, fs, hi⟩)
  exact ⟨⟨C, ox, od, J, hd⟩, wpAny_call (PySem.W.kco_code I2.kIn J hd c.at_ c.fn c.fi (code_fn (us := .ref a :: us) (vs := .ref a :: vs) F hr hb I2 (.cons rfl r) q (fun e s' z => hx σ pins H2 s2 e s' I2 z) fun u s' z => z))⟩
theorem pe_mkvS {W : L2.St → XK} (hN : X.N[i]? = some x) (hv : Vis X.env.scope x) (hd : (x == ("__debug__" : Str)) = false) (hcd : (x == ("__classdict__" : Str)) = false) (M : Mk X.K C g) (F : FnOk X.prog X.w X.K X.mg X.base CX k g fd ps sp) (hr : Room (k + 1) X.A) (hb : Binds X.K fd ps []) (hx : ∀ σ, PassesAt CX X σ (W σ)) (ha : PA X (e :: es) t)
    (he : starEach (e :: es) X.env = (false, eval e X.env) :: starEach es X.env) (hpl : (backTo pos (starEach es X.env)).any (·.1) = false) :
    PE X (.Call (.Name x p) (e :: es) [] pos) (fun σ H Q => σ[i]? = some (some (.ref C)) ∧ t σ H fun vs H1 => ∀ y dx, H1 y = none → H1 dx = none → dx ≠ y → sp (.ref y :: vs) (upd (upd H1 dx (.own y)) y (.ins C dx [])) (fun v H2 => v = .non ∧ Q (.ref y) H2) (W σ)) := by
  refine ⟨fun pins s σ H Q I h => ?_⟩
  obtain ⟨hs, h⟩ := h
  refine wpAny_Call_Name_kw (thn ((pe_var (pos := p) (i := i) hN hv hd hcd).run pins s σ H (fun v H1 => v = .ref C ∧ H1 = H) I ⟨.ref C, hs, rfl, rfl⟩) fun u s1 ⟨v, H1, I1, r1, ev, eH⟩ => ?_)
  subst ev
  rw [eH] at I1
  cases r1
  exact PySem.W.callWith_K (h₀ := X.base) I.ok.mod.kin M.kp (thn (ha.run pos pins s1 σ H _ I1 h) fun us s2 ⟨vs, H2, I2, r, q⟩ => ⟨I2.kIn, made_at M F hr hb (hx σ) I2 r q⟩) he hpl
theorem getmethsm_ok {pl : Sem Bool} {A : Around} {E : Value → Shared → Prop} {q : Addr} {Q : Value × List Value → Shared → Prop} (I : Inv X pins σ H s) (r : ClX.CRead X.K C mc) (c : SMet X.K C mc m q g)
    (h : ∀ s', Inv X pins σ H s' → Q (.ref g, []) s') : wpAny (model X.prog X.w) A (getMethod (.ref C) m pl) Q E s := by
  obtain ⟨rest, hp⟩ := c.rc
  refine PySem.W.method_cls I.kIn r.ga (PySem.W.cls_bind I.kIn r.rd c.at_ (wpAny_call (PySem.W.sm_get (s := { s with toks := s.toks + 1 }) I.kIn hp (PySem.W.handed_on rfl ?_))))
  exact h _ (I.tok _)
/-- C.m(..), C by its name -/
theorem pe_clmS {W : L2.St → XK} {kk : Bool} {q : Addr} (hg : Gl X x) (hm : X.mg x = some (.ref C)) (hdb : (x == ("__debug__" : Str)) = false) (r : ClX.CRead X.K C mc) (c1 : kk = true → ClX.CMet X.K C mc m q g) (c2 : kk = false → SMet X.K C mc m q g) (F : FnOk X.prog X.w X.K X.mg X.base CX k g fd ps sp) (hr : Room k X.A) (hb : Binds X.K fd ps []) (hx : ∀ σ, PassesAt CX X σ (W σ))
    (ha : PA X es t) (hst : anyStar es = false) (hl : es.length < 20) (hline : (apos.endLine == pos.line) = true) (h0 : es = [] → t = tNil) :
    PE X (.Call (.Attribute (.Name x p) m apos) es [] pos) (fun σ H Q => t σ H fun vs H1 => sp (if kk = true then .ref C :: vs else vs) H1 Q (W σ)) := by
  refine ⟨fun pins s σ H Q I h => ?_⟩
  refine PySem.W.methodCall_KW (pl := plainOf (.Name x p) X.env) ?_ (meth_eq rfl hst hl hline)
  refine ld_glob I hg hm ?_ hdb
  cases kk with
  | true =>
    have h : t σ H fun vs H1 => sp (.ref C :: vs) H1 Q (W σ) := h
    refine ClX.getmethcm_ok I r (c1 rfl) fun s2 I2 => ?_
    have run : ∀ {s3 : Shared} {H2 : Hp} {us : List Value} {vs : List V}, Inv X ((s.heap.objs.size, PySem.W.methodObj (.ref g) (.ref C)) :: pins) σ H2 s3 → Vals vs us → sp (.ref C :: vs) H2 Q (W σ) → wpAny (model X.prog X.w) X.A (call (.ref s.heap.objs.size) us) (EP X pins σ Q) X.xe s3 := fun {s3 H2 us vs} I3 rv q2 =>
      wpAny_call (PySem.W.method_call (ClX.pin_at I3) (code_fn (us := .ref C :: us) (vs := .ref C :: vs) F hr hb I3 (.cons rfl rv) q2 (fun e s' z => hx σ _ H2 s3 e s' I3 z) fun u s' z => ClX.unpinE z))
    cases es with
    | nil =>
      rw [h0 rfl] at h
      have h : sp [.ref C] H Q (W σ) := h
      exact PySem.W.callWith_M0 ⟨ClX.pin_at I2, I2.kIn⟩ (c1 rfl).fi (run I2 .nil h)
    | cons e es =>
      have hs2 : (starred e || anyStar es) = false := hst
      rw [Bool.or_eq_false_iff] at hs2
      refine ClX.callwith_cm I2 (ClX.base_none I (Nat.le_refl _)) (c1 rfl).fi (thn (ha.run pos _ s2 σ H _ I2 h) fun us s3 ⟨vs, H2, I3, rv, q2⟩ => ⟨⟨ClX.pin_at I3, I3.kIn⟩, run I3 rv q2⟩) (star_cons hs2.1) (star_any hs2.2)
  | false =>
    have h : t σ H fun vs H1 => sp vs H1 Q (W σ) := h
    refine getmethsm_ok I r (c2 rfl) fun s2 I2 => ?_
    cases es with
    | nil =>
      rw [h0 rfl] at h
      have h : sp [] H Q (W σ) := h
      exact PySem.W.callWith_K0 (first := []) I2.kIn (c2 rfl).kp (run_fnS (us := []) (vs := []) (E := fun _ => W σ) F hr hb (hx σ) I2 .nil h)
    | cons e es =>
      have hs2 : (starred e || anyStar es) = false := hst
      rw [Bool.or_eq_false_iff] at hs2
      exact PySem.W.callWith_K (first := []) (h₀ := X.base) I.ok.mod.kin (c2 rfl).kp (thn (ha.run pos pins s2 σ H _ I2 h) fun us s3 ⟨vs, H2, I3, rv, q2⟩ => ⟨I3.kIn, run_fnS (us := us) (vs := vs) (E := fun _ => W σ) F hr hb (hx σ) I3 rv q2⟩) (star_cons hs2.1) (star_any hs2.2)
end
section
variable {T : Tx} {t : Tt} {N : List Str} {G : Ct} {CX : CXT} {E : WX} {k : Nat} {sc : Scope} {X : Cx} {v : St} {s : Env} {S H : Hp} {cell : Nat → List Addr}
theorem slot_of {i : Nat} {y : Str} (x : Xk T t N G CX E k sc X) (h : slotB N sc i y = true) : X.N[i]? = some y ∧ Vis X.env.scope y ∧ (y == ("__debug__" : Str)) = false ∧ (y == ("__classdict__" : Str)) = false := by
  unfold slotB at h
  obtain ⟨h, h3⟩ := b2 h
  obtain ⟨h1, h2⟩ := b2 h
  obtain ⟨o1, o2, _⟩ := odd_of h3
  exact ⟨by rw [x.N]; exact beq_iff_eq.mp h1, by rw [x.sc]; exact vis_of h2, o1, o2⟩
theorem snd_cal {i : Nat} {as : Vm.E} {y : Str} {e : Expr} {es : List Expr} {p pos : Pos} (hy : slotB N sc i y = true) (ha : SndA T t N G as sc (e :: es)) (hc : chk t N sc as (.ar (e :: es)) = true) : SndE T t N G (.cal i as) sc (.Call (.Name y p) (e :: es) [] pos) := by
  intro CX E k X x v s S H cell Q g q
  have q : PO T.toTb v S H cell E Q (asO (okO ((getP s ⟨i, []⟩).bind clsO) fun _ => (asL (ev G as s)).bind fun l s => okO (getP s ⟨i, []⟩) fun o => okO (clsO o) fun c => okO (G.mth c 17) fun g => rO (callF G.F g (hold i o :: l) s))) := q
  obtain ⟨c0, hc0, q1⟩ := okO_ok q
  obtain ⟨s1, s2⟩ := chk_hd hc X.env
  obtain ⟨n1, n2, n3, n4⟩ := slot_of x hy
  refine ⟨_, pe_calS (CX := CX) (k := k) (W := WE E) n1 n2 n3 n4 x.r0 x.pass (wA_ok (e :: es)) s1 (s2 pos), ?_⟩
  obtain ⟨o0, ho0, hc1⟩ : ∃ o, getP s ⟨i, []⟩ = some o ∧ clsO o = some c0 := by
    cases ho : getP s ⟨i, []⟩ with
    | none => rw [ho] at hc0; cases hc0
    | some o => rw [ho] at hc0; exact ⟨o, rfl, hc0⟩
  obtain ⟨r, w, cu, sp0⟩ := g.at ho0
  have ew : r = w := sp0.dn
  subst ew
  obtain ⟨a, dx, fv, ea, _⟩ := view_cls g.ex sp0.ow hc1
  subst ea
  refine ⟨a, sp0.root, ?_⟩
  refine ha x g (PL.bindO q1 fun l s3 hl xs S1 H1 cell1 g1 os st1 q2 => ?_)
  obtain ⟨o, ho, q3⟩ := okO_ok q2
  obtain ⟨c, hc2, q4⟩ := okO_ok q3
  obtain ⟨gg, hg, q5⟩ := okO_ok q4
  rw [asO_rO] at q5
  obtain ⟨r2, w2, cu2, sp2⟩ := g1.at ho
  have ew : r2 = w2 := sp2.dn
  subst ew
  have er : r2 = .ref a := by
    have e1 := sp2.root
    have e2 := sp0.root
    have e1 : v[i]? = some (some r2) := e1
    have e2 : v[i]? = some (some (.ref a)) := e2
    rw [e2] at e1
    cases e1; rfl
  subst er
  obtain ⟨a', dx', fv', ea', ha', ic, _⟩ := view_cls g1.ex sp2.ow hc2
  cases ea'
  have opd : Opd T.toTb v S1 H1 (.ref a) (hold i o) := by
    cases o with
    | sh d =>
      cases sp2.ow with
      | sh hd => exact .val hd
    | ol l => exact .ref sp2.root rfl
    | oo c f => exact .ref sp2.root rfl
    | od l => exact .ref sp2.root rfl
  obtain ⟨os', sp⟩ := call_ok g1 (.cons opd os) q5
  obtain ⟨f1, f2⟩ := x.fx.calm c gg ic hg
  rw [← x.K] at f1 f2
  exact ⟨T.ca c, dx', fv', T.fa gg, T.fd gg, T.ps gg, spF T G.F gg, ha', f1, x.fn gg, f2, x.sp sp⟩
theorem snd_mkv {i c : Nat} {as : Vm.E} {y : Str} {e : Expr} {es : List Expr} {p pos : Pos} (hy : slotB N sc i y = true) (hcn : (G.mth c 0).isSome = true) (ha : SndA T t N G as sc (e :: es)) (hc : chk t N sc as (.ar (e :: es)) = true) : SndE T t N G (.mkv i c as) sc (.Call (.Name y p) (e :: es) [] pos) := by
  intro CX E k X x v s S H cell Q g q
  have q : PO T.toTb v S H cell E Q (asO (okO (isCls (getP s ⟨i, []⟩)) fun c' => if c' = c then (asL (ev G as s)).bind fun l s => okO (G.mth c 0) fun g => rO (makeF G.F c g l s) else .er)) := q
  obtain ⟨c', hc', q1⟩ := okO_ok q
  split at q1
  · rename_i e1
    subst e1
    obtain ⟨s1, s2⟩ := chk_hd hc X.env
    obtain ⟨n1, n2, n3, n4⟩ := slot_of x hy
    have hs : v[i]? = some (some (.ref (T.ca c'))) ∧ T.isC c' := by
      unfold isCls at hc'
      split at hc'
      · rename_i c2 hg
        cases hc'
        obtain ⟨r, w, cu, sp0⟩ := g.at hg
        have ew : r = w := sp0.dn
        subst ew
        have ow := sp0.ow
        have root := sp0.root
        cases ow with
        | sh hd =>
          cases hd with
          | cls ic => exact ⟨root, ic⟩
      · cases hc'
    obtain ⟨hs, ic⟩ := hs
    cases hgg : G.mth c' 0 with
    | some gg =>
      obtain ⟨f2, f3⟩ := x.fx.mkc c' gg hgg
      rw [← x.K] at f2 f3
      refine ⟨_, pe_mkvS n1 n2 n3 n4 f2 (x.fn gg) x.r1 f3 x.pass (wA_ok (e :: es)) s1 (s2 pos), hs, ?_⟩
      refine ha x g (PL.bindO q1 fun l s3 hl xs S1 H1 cell1 g1 os st1 q2 => ?_)
      rw [hgg] at q2
      have q2 : PO T.toTb v S1 H1 cell1 E Q (asO (rO (makeF G.F c' gg l s3))) := q2
      rw [asO_rO] at q2
      intro y dx hy hdx hne
      obtain ⟨os, sp⟩ := make_ok g1 os q2 ic hy hdx hne
      exact x.sp sp
    | none => rw [hgg] at hcn; cases hcn
  · exact False.elim q1
theorem snd_clm {c m : Nat} {as : Vm.E} {y n : Str} {es : List Expr} {p apos pos : Pos} (hg : t.cn c = some y) (h1 : glB sc y = true) (h2 : (!odd y) = true) (hn : n = t.nm m) (hln : lineB apos pos = true) (hl : es.length < 20) (hsm : (G.smt c m).isSome = true) (ha : SndA T t N G as sc es) (hc : chk t N sc as (.ar es) = true) : SndE T t N G (.clm c m as) sc (.Call (.Attribute (.Name y p) n apos) es [] pos) := by
  intro CX E k X x v s S H cell Q g q
  have q : PO T.toTb v S H cell E Q (asO ((asL (ev G as s)).bind fun l s => okO (G.smt c m) fun q => rO (callF G.F q.1 (if q.2 = true then .val (.cls c) :: l else l) s))) := q
  rw [x.fx.nm] at hn
  subst hn
  obtain ⟨f1, ic⟩ := x.fx.cl c y hg
  cases hs : G.smt c m with
  | none => rw [hs] at hsm; cases hsm
  | some gk =>
    obtain ⟨gg, kk⟩ := gk
    obtain ⟨f2, mc, p0, r, c1, c2⟩ := x.fx.smt c m gg kk ic hs
    rw [← x.K] at f2 r c1 c2
    have go : ∀ {l : List A} {s3 : Env} {xs : List V} {S1 H1 : Hp} {cell1 : Nat → List Addr}, Good T.toTb v s3 S1 H1 cell1 → Opds T.toTb v S1 H1 xs l → PO T.toTb v S1 H1 cell1 E Q (asO (okO (G.smt c m) fun q => rO (callF G.F q.1 (if q.2 = true then .val (.cls c) :: l else l) s3))) → spF T G.F gg (if kk = true then .ref (T.ca c) :: xs else xs) H1 Q (WE E v) := fun {l s3 xs S1 H1 cell1} g1 os q2 => by
      rw [hs] at q2
      have q2 : PO T.toTb v S1 H1 cell1 E Q (asO (rO (callF G.F gg (if kk = true then .val (.cls c) :: l else l) s3))) := q2
      rw [asO_rO] at q2
      cases kk with
      | true =>
        obtain ⟨os', sp⟩ := call_ok g1 (.cons (.val (.cls ic)) os) q2
        exact x.sp sp
      | false =>
        obtain ⟨os', sp⟩ := call_ok g1 os q2
        exact x.sp sp
    have hst := chk_star _ _ hc
    cases es with
    | nil =>
      cases as <;> first | (cases hc; done) | skip
      refine ⟨_, pe_clmS (W := WE E) (x.gl h1) f1 (odd_of h2).1 r c1 c2 (x.fn gg) x.r0 f2 x.pass pa_nil hst hl hln (fun _ => rfl), ?_⟩
      exact go g .nil q
    | cons e1 es =>
      refine ⟨_, pe_clmS (W := WE E) (x.gl h1) f1 (odd_of h2).1 r c1 c2 (x.fn gg) x.r0 f2 x.pass (wA_ok (e1 :: es)) hst hl hln (fun z => by cases z), ?_⟩
      exact ha x g (PL.bindO q fun l s3 hl xs S1 H1 cell1 g1 os st1 q2 => go g1 os q2)
end
end Vm

namespace Vm
open PySem L2 Evl
section
variable {T : Tx} {t : Tt} {N : List Str} {G : Ct} {CX : CXT} {E : WX} {k : Nat} {sc : Scope} {X : Cx} {v : St} {s : Env} {S H : Hp} {cell : Nat → List Addr}
theorem snd_simple {b : Vm.E} {e : Expr} (hs : simple b = true) (hc : chk t N sc b (.ex e) = true) : SndE T t N G b sc e := by
  intro CX E k X x v s S H cell Q g q
  have go : ∀ d s', ev G b s = .ok (.o (.sh d)) s' → wE X e v H Q := fun d s' h => by
    obtain ⟨y, S', cell', g', hd, st, wq⟩ := simple_e (G := G) x hs hc g (d := d) (s' := s') (by rw [h]; rfl)
    rw [h] at q
    exact wq Q ((PO.step st q).sh g' hd)
  cases b <;> first | (cases hs; done) | (cases e <;> cases hc; done) | skip
  · rename_i i
    cases h : shareP s ⟨i, []⟩ with
    | none =>
      exfalso
      unfold ev at q
      rw [h] at q
      exact q
    | some p =>
      refine go p.1 p.2 ?_
      unfold ev
      rw [h]
      rfl
  · exact go _ s (by unfold ev; rfl)
  · exact go _ s (by unfold ev; rfl)
def isBO : Expr → Bool
  | .BoolOp _ _ _ => true
  | _ => false
variable (T t N G) in
def Snd (a : Vm.E) (sc : Scope) : Pc → Prop
  | .ex e => SndE T t N G a sc e ∧ (tstB e = true → SndB T t N G a sc e) ∧ (isBO e = true → SndW T t N G a sc e)
  | .ar es => SndA T t N G a sc es
  | .it e => SndI T t N G a sc e
theorem Snd.val {a : Vm.E} {e : Expr} (ha : SndE T t N G a sc e) (ht : testy e = false) : Snd T t N G a sc (.ex e) := by
  refine ⟨ha, fun _ => sndB_val ht ha, fun h => ?_⟩
  cases e <;> first | (cases h; done) | cases ht
theorem Snd.tt {a : Vm.E} {e : Expr} (h : Snd T t N G a sc (.ex e)) (hc : chk t N sc a (.ex e) = true) (ht : tstB e = true) : SndT T t N G a sc e := sndT_of hc ht h.1 (h.2.1 ht)
theorem n1 {b : Bool} (h : (!b) = true) : b = false := by simpa using h
theorem nil_ex {e : Expr} : chk t N sc .nil (.ex e) = false := by cases e <;> rfl
/-- a slice's part -/
theorem part_of {lo : Vm.E} {l : Option Expr} (ih : ∀ e, chk t N sc lo (.ex e) = true → Snd T t N G lo sc (.ex e)) (h : partB (isNil lo) (fun e => chk t N sc lo (.ex e)) l = true) : (lo = .nil ∧ l = none) ∨ ∃ e, l = some e ∧ SndE T t N G lo sc e ∧ chk t N sc lo (.ex e) = true ∧ lo ≠ .nil := by
  cases l with
  | none => cases lo <;> first | exact .inl ⟨rfl, rfl⟩ | cases h
  | some e =>
    have h : chk t N sc lo (.ex e) = true := h
    refine .inr ⟨e, rfl, (ih e h).1, h, fun z => ?_⟩
    subst z
    rw [nil_ex] at h
    cases h
/-- what the check of a comprehension says -/
structure CompC (t : Tt) (N : List Str) (sc : Scope) (vs : List Nat) (tg : Tg) (it ts el : Vm.E) (elt tgt iter : Expr) (ifs : List Expr) (scope : Scope) : Prop where
  blk : blkC N sc scope (vs.map fun v => (N.getD v "", v)) = true
  tgc : tgC N (relS scope sc) tg tgt = true
  tv : vs = tgV tg
  set : setB iter = false
  okt : okT it tgt = true
  it : chk t N sc it (.it iter) = true
  tsc : (ts = .nil ∧ ifs = []) ∨ ∃ c, ifs = [c] ∧ tstB c = true ∧ chk t N (relS scope sc) ts (.ex c) = true ∧ ts ≠ .nil
  el : chk t N (relS scope sc) el (.ex elt) = true
theorem compC {vs : List Nat} {tg : Tg} {it ts el : Vm.E} {e : Expr} (h : chk t N sc (.comp vs tg it ts el) (.ex e) = true) : ∃ elt tgt iter ifs scope pos, e = .ListComp elt [⟨tgt, iter, ifs, 0⟩] scope pos ∧ CompC t N sc vs tg it ts el elt tgt iter ifs scope := by
  cases e <;> first | (cases h; done) | skip
  rename_i elt gs scope p
  rcases gs with _ | ⟨⟨tgt, iter, ifs, ((_ | a) | a)⟩, _ | ⟨g2, gs⟩⟩ <;> first | (cases h; done) | skip
  obtain ⟨h, h8⟩ := b2 h
  obtain ⟨h, h7⟩ := b2 h
  obtain ⟨h, h6⟩ := b2 h
  obtain ⟨h, h9⟩ := b2 h
  obtain ⟨h, h5⟩ := b2 h
  obtain ⟨h, h4⟩ := b2 h
  obtain ⟨h, h3⟩ := b2 h
  obtain ⟨h1, h2⟩ := b2 h
  refine ⟨elt, tgt, iter, ifs, scope, p, rfl, h1, h3, ?_, n1 h5, h9, h6, ?_, h8⟩
  · cases tg <;> exact of_decide_eq_true h4
  · rcases ifs with _ | ⟨c, _ | ⟨c2, ifs⟩⟩
    · cases ts <;> first | exact .inl ⟨rfl, rfl⟩ | cases h7
    · have h7 : (tstB c && chk t N (relS scope sc) ts (.ex c)) = true := h7
      obtain ⟨k1, k2⟩ := b2 h7
      refine .inr ⟨c, rfl, k1, k2, fun z => ?_⟩
      subst z
      rw [nil_ex] at k2
      cases k2
    · cases h7
theorem compE {vs : List Nat} {tg : Tg} {it ts el : Vm.E} {e : Expr} (hM : Hm t G.toCs) (h : chk t N sc (.comp vs tg it ts el) (.ex e) = true) (ihi : ∀ e sc, chk t N sc it (.it e) = true → SndI T t N G it sc e) (iht : ∀ e sc, chk t N sc ts (.ex e) = true → Snd T t N G ts sc (.ex e)) (ihe : ∀ e sc, chk t N sc el (.ex e) = true → Snd T t N G el sc (.ex e)) : SndE T t N G (.comp vs tg it ts el) sc e := by
  obtain ⟨elt, tgt, iter, ifs, scope, pos, rfl, c⟩ := compC h
  refine snd_comp (ihi _ _ c.it) c.blk c.tgc c.tv c.set c.okt ?_ (ihe _ _ c.el).1
  rcases c.tsc with h | ⟨c1, h1, h2, h3, h4⟩
  · exact .inl h
  · exact .inr ⟨c1, h1, (iht _ _ h3).tt h3 h2, h4⟩
theorem snd_all (hM : Hm t G.toCs) : ∀ (a : Vm.E) (pc : Pc) (sc : Scope), chk t N sc a pc = true → Snd T t N G a sc pc := by
  intro a
  induction a with
  | var i =>
    intro pc sc h
    cases pc with
    | ex e => exact Snd.val (snd_simple rfl h) (by cases e <;> first | rfl | cases h)
    | ar es => cases es <;> cases h
    | it e => cases e <;> cases h
  | lit d =>
    intro pc sc h
    cases pc with
    | ex e => exact Snd.val (snd_simple rfl h) (by cases e <;> first | rfl | cases h)
    | ar es => cases es <;> cases h
    | it e => cases e <;> cases h
  | glb y d =>
    intro pc sc h
    cases pc with
    | ex e => exact Snd.val (snd_simple rfl h) (by cases e <;> first | rfl | cases h)
    | ar es => cases es <;> cases h
    | it e => cases e <;> cases h
  | nil =>
    intro pc sc h
    cases pc with
    | ex e => rw [nil_ex] at h; cases h
    | ar es => cases es <;> first | exact snd_nil | cases h
    | it e => cases e <;> cases h
  | cons a b iha ihb =>
    intro pc sc h
    cases pc with
    | ex e => cases e <;> cases h
    | ar es =>
      cases es with
      | nil => cases h
      | cons e es =>
        obtain ⟨h, h3⟩ := b2 h
        obtain ⟨h1, h2⟩ := b2 h
        exact snd_cons (iha _ _ h2).1 h2 (ihb _ _ h3) h3 (n1 h1)
    | it e => cases e <;> cases h
  | tup a iha =>
    intro pc sc h
    cases pc with
    | ex e =>
      cases e <;> first | (cases h; done) | skip
      obtain ⟨h1, h2⟩ := b2 h
      exact Snd.val (snd_tup (iha _ _ h2) h2 (of_decide_eq_true h1)) rfl
    | ar es => cases es <;> cases h
    | it e => cases e <;> cases h
  | lst a iha =>
    intro pc sc h
    cases pc with
    | ex e =>
      cases e <;> first | (cases h; done) | skip
      obtain ⟨h1, h2⟩ := b2 h
      exact Snd.val (snd_lst (iha _ _ h2) h2 (of_decide_eq_true h1)) rfl
    | ar es => cases es <;> cases h
    | it e => cases e <;> cases h
  | bin op a b iha ihb =>
    intro pc sc h
    cases pc with
    | ex e =>
      cases e <;> first | (cases h; done) | skip
      obtain ⟨h, h3⟩ := b2 h
      obtain ⟨h1, h2⟩ := b2 h
      cases of_decide_eq_true h1
      exact Snd.val (snd_bin (iha _ _ h2).1 h2 (ihb _ _ h3).1 h3) rfl
    | ar es => cases es <;> cases h
    | it e => cases e <;> cases h
  | neg a iha =>
    intro pc sc h
    cases pc with
    | ex e =>
      cases e <;> first | (cases h; done) | skip
      rename_i o x p
      cases o <;> first | (cases h; done) | skip
      exact Snd.val (snd_neg (iha _ _ h).1) rfl
    | ar es => cases es <;> cases h
    | it e => cases e <;> cases h
  | inv a iha =>
    intro pc sc h
    cases pc with
    | ex e =>
      cases e <;> first | (cases h; done) | skip
      rename_i o x p
      cases o <;> first | (cases h; done) | skip
      exact Snd.val (snd_inv (iha _ _ h).1 h) rfl
    | ar es => cases es <;> cases h
    | it e => cases e <;> cases h
  | cmp op a b iha ihb =>
    intro pc sc h
    cases pc with
    | ex e =>
      cases e <;> first | (cases h; done) | skip
      rename_i x os ys p
      rcases os with _ | ⟨o, _ | ⟨o', os⟩⟩ <;> rcases ys with _ | ⟨y, _ | ⟨y', ys⟩⟩ <;> first | (cases h; done) | skip
      obtain ⟨h, h3⟩ := b2 h
      obtain ⟨h, h2⟩ := b2 h
      obtain ⟨h, h1⟩ := b2 h
      cases of_decide_eq_true h
      exact ⟨snd_cmp (iha _ _ h2).1 h2 (ihb _ _ h3).1 h3, fun _ => sndB_cmp (iha _ _ h2).1 h2 (ihb _ _ h3).1 h3, fun z => by cases z⟩
    | ar es => cases es <;> cases h
    | it e => cases e <;> cases h
  | chn op op' a b c iha ihb ihc =>
    intro pc sc h
    cases pc with
    | ex e =>
      cases e <;> first | (cases h; done) | skip
      rename_i x os ys p
      rcases os with _ | ⟨o, _ | ⟨o', _ | ⟨o'', os⟩⟩⟩ <;> rcases ys with _ | ⟨y, _ | ⟨y', _ | ⟨y'', ys⟩⟩⟩ <;> first | (cases h; done) | skip
      obtain ⟨h, h5⟩ := b2 h
      obtain ⟨h, h4⟩ := b2 h
      obtain ⟨h, h3⟩ := b2 h
      obtain ⟨h1, h2⟩ := b2 h
      cases of_decide_eq_true h1
      cases of_decide_eq_true h2
      exact ⟨snd_chn (iha _ _ h3).1 (ihb _ _ h4).1 (ihc _ _ h5).1 h5, fun _ => sndB_chn (iha _ _ h3).1 (ihb _ _ h4).1 (ihc _ _ h5).1 h5, fun z => by cases z⟩
    | ar es => cases es <;> cases h
    | it e => cases e <;> cases h
  | not a iha =>
    intro pc sc h
    cases pc with
    | ex e =>
      cases e <;> first | (cases h; done) | skip
      rename_i o x p
      cases o <;> first | (cases h; done) | skip
      obtain ⟨h1, h2⟩ := b2 h
      exact ⟨snd_not (iha _ _ h2).1 h2, fun _ => sndB_not ((iha _ _ h2).tt h2 h1), fun z => by cases z⟩
    | ar es => cases es <;> cases h
    | it e => cases e <;> cases h
  | and a b iha ihb =>
    intro pc sc h
    cases pc with
    | ex e =>
      cases e <;> first | (cases h; done) | skip
      rename_i o es p
      cases o <;> first | (cases h; done) | skip
      rcases es with _ | ⟨x, _ | ⟨y, _ | ⟨z, r⟩⟩⟩ <;> first | (cases h; done) | skip
      · obtain ⟨h, h4⟩ := b2 h
        obtain ⟨h, h3⟩ := b2 h
        obtain ⟨h1, h2⟩ := b2 h
        have w : SndW T t N G (.and a b) sc (.BoolOp .And [x, y] p) := sndW_and (pos := p) ((iha _ _ h3).2.1 h1) (sndW_and1 (pos := p) ((ihb _ _ h4).2.1 h2))
        exact ⟨snd_and (iha _ _ h3).1 (snd_one (ihb _ _ h4).1), fun _ => w.b, fun _ => w⟩
      · obtain ⟨h, h4⟩ := b2 h
        obtain ⟨h, h3⟩ := b2 h
        obtain ⟨h1, h2⟩ := b2 h
        have w : SndW T t N G (.and a b) sc (.BoolOp .And (x :: y :: z :: r) p) := sndW_and (pos := p) ((iha _ _ h2).2.1 h1) ((ihb _ _ h3).2.2 rfl)
        exact ⟨snd_and (iha _ _ h2).1 (ihb _ _ h3).1, fun _ => w.b, fun _ => w⟩
    | ar es => cases es <;> cases h
    | it e => cases e <;> cases h
  | or a b iha ihb =>
    intro pc sc h
    cases pc with
    | ex e =>
      cases e <;> first | (cases h; done) | skip
      rename_i o es p
      cases o <;> first | (cases h; done) | skip
      rcases es with _ | ⟨x, _ | ⟨y, _ | ⟨z, r⟩⟩⟩ <;> first | (cases h; done) | skip
      · obtain ⟨h, h4⟩ := b2 h
        obtain ⟨h, h3⟩ := b2 h
        obtain ⟨h1, h2⟩ := b2 h
        have w : SndW T t N G (.or a b) sc (.BoolOp .Or [x, y] p) := sndW_or (pos := p) ((iha _ _ h3).2.1 h1) (sndW_or1 (pos := p) ((ihb _ _ h4).2.1 h2))
        exact ⟨snd_or (iha _ _ h3).1 (snd_one (ihb _ _ h4).1), fun _ => w.b, fun _ => w⟩
      · obtain ⟨h, h4⟩ := b2 h
        obtain ⟨h, h3⟩ := b2 h
        obtain ⟨h1, h2⟩ := b2 h
        have w : SndW T t N G (.or a b) sc (.BoolOp .Or (x :: y :: z :: r) p) := sndW_or (pos := p) ((iha _ _ h2).2.1 h1) ((ihb _ _ h3).2.2 rfl)
        exact ⟨snd_or (iha _ _ h2).1 (ihb _ _ h3).1, fun _ => w.b, fun _ => w⟩
    | ar es => cases es <;> cases h
    | it e => cases e <;> cases h
  | ite c a b ihc iha ihb =>
    intro pc sc h
    cases pc with
    | ex e =>
      cases e <;> first | (cases h; done) | skip
      obtain ⟨h, h4⟩ := b2 h
      obtain ⟨h, h3⟩ := b2 h
      obtain ⟨h1, h2⟩ := b2 h
      exact ⟨snd_ite ((ihc _ _ h2).tt h2 h1) (iha _ _ h3).1 (ihb _ _ h4).1, (fun z => by cases z), (fun z => by cases z)⟩
    | ar es => cases es <;> cases h
    | it e => cases e <;> cases h
  | idx a b iha ihb =>
    intro pc sc h
    cases pc with
    | ex e =>
      cases e <;> first | (cases h; done) | skip
      rename_i x y p
      have h' : (!sliceB y && chk t N sc a (.ex x) && chk t N sc b (.ex y)) = true := by
        cases y <;> exact h
      obtain ⟨h', h3⟩ := b2 h'
      obtain ⟨h1, h2⟩ := b2 h'
      exact Snd.val (snd_idx (iha _ _ h2).1 h2 (ihb _ _ h3).1 h3 (n1 h1)) rfl
    | ar es => cases es <;> cases h
    | it e => cases e <;> cases h
  | slc a lo hi iha ihl ihh =>
    intro pc sc h
    cases pc with
    | ex e =>
      cases e <;> first | (cases h; done) | skip
      rename_i x y p
      cases y <;> first | (cases h; done) | skip
      rename_i l hh st p2
      cases st <;> first | (cases h; done) | skip
      obtain ⟨h, h3⟩ := b2 h
      obtain ⟨h1, h2⟩ := b2 h
      exact Snd.val (snd_slc (iha _ _ h1).1 h1 (part_of (fun e h => ihl _ _ h) h2) (part_of (fun e h => ihh _ _ h) h3)) rfl
    | ar es => cases es <;> cases h
    | it e => cases e <;> cases h
  | attr a f iha =>
    intro pc sc h
    cases pc with
    | ex e =>
      cases e <;> first | (cases h; done) | skip
      obtain ⟨h, h3⟩ := b2 h
      obtain ⟨h1, h2⟩ := b2 h
      exact Snd.val (snd_attr (iha _ _ h3).1 h3 (of_decide_eq_true h1) (n1 h2)) rfl
    | ar es => cases es <;> cases h
    | it e => cases e <;> cases h
  | call g as iha =>
    intro pc sc h
    cases pc with
    | ex e =>
      cases e <;> first | (cases h; done) | skip
      rename_i fn es ks p
      cases fn <;> first | (cases h; done) | skip
      rename_i x p1
      rcases es with _ | ⟨e, es⟩ <;> first | (cases h; done) | skip
      cases ks <;> first | (cases h; done) | skip
      obtain ⟨h, h4⟩ := b2 h
      obtain ⟨h, h3⟩ := b2 h
      obtain ⟨h1, h2⟩ := b2 h
      exact Snd.val (snd_call (of_decide_eq_true h1) h2 h3 (iha _ _ h4) h4) rfl
    | ar es => cases es <;> cases h
    | it e => cases e <;> cases h
  | mk c as iha =>
    intro pc sc h
    cases pc with
    | ex e =>
      cases e <;> first | (cases h; done) | skip
      rename_i fn es ks p
      cases fn <;> first | (cases h; done) | skip
      rename_i x p1
      rcases es with _ | ⟨e, es⟩ <;> first | (cases h; done) | skip
      cases ks <;> first | (cases h; done) | skip
      obtain ⟨h, h4⟩ := b2 h
      obtain ⟨h, h5⟩ := b2 h
      obtain ⟨h, h3⟩ := b2 h
      obtain ⟨h1, h2⟩ := b2 h
      have e1 : t.cn c = some x := of_decide_eq_true h1
      exact Snd.val (snd_mk e1 h2 h3 (iha _ _ h4) h4 (Option.isSome_iff_exists.mp (hM.mi c h5))) rfl
    | ar es => cases es <;> cases h
    | it e => cases e <;> cases h
  | meth a m as iha ihb =>
    intro pc sc h
    cases pc with
    | ex e =>
      cases e <;> first | (cases h; done) | skip
      rename_i fn es ks p
      cases fn <;> first | (cases h; done) | skip
      rename_i x n p1
      cases ks <;> first | (cases h; done) | skip
      obtain ⟨h, h6⟩ := b2 h
      obtain ⟨h, h5⟩ := b2 h
      obtain ⟨h, h4⟩ := b2 h
      obtain ⟨h, h3⟩ := b2 h
      obtain ⟨h1, h2⟩ := b2 h
      exact Snd.val (snd_meth (of_decide_eq_true h1) (of_decide_eq_true h2) h3 (n1 h4) (iha _ _ h5).1 h5 (ihb _ _ h6) h6) rfl
    | ar es => cases es <;> cases h
    | it e => cases e <;> cases h
  | bi b as iha =>
    intro pc sc h
    cases pc with
    | ex e =>
      cases e <;> first | (cases h; done) | skip
      rename_i fn es ks p
      cases fn <;> first | (cases h; done) | skip
      rename_i x p1
      rcases es with _ | ⟨e, es⟩ <;> first | (cases h; done) | skip
      cases ks <;> first | (cases h; done) | skip
      obtain ⟨h1, h2⟩ := b2 h
      exact Snd.val (snd_bi h1 (iha _ _ h2) h2) rfl
    | ar es => cases es <;> cases h
    | it e => cases e <;> cases h
  | len a iha =>
    intro pc sc h
    cases pc with
    | ex e =>
      cases e <;> first | (cases h; done) | skip
      rename_i fn es ks p
      cases fn <;> first | (cases h; done) | skip
      rcases es with _ | ⟨x, _ | ⟨y, es⟩⟩ <;> first | (cases h; done) | skip
      cases ks <;> first | (cases h; done) | skip
      obtain ⟨h, h3⟩ := b2 h
      obtain ⟨h1, h2⟩ := b2 h
      exact Snd.val (snd_len h1 (n1 h2) (iha _ _ h3).1 h3) rfl
    | ar es => cases es <;> cases h
    | it e => cases e <;> cases h
  | lrg a iha =>
    intro pc sc h
    cases pc with
    | ex e =>
      cases e <;> first | (cases h; done) | skip
      rename_i fn es ks p
      cases fn <;> first | (cases h; done) | skip
      rename_i x p1
      rcases es with _ | ⟨e, _ | ⟨e2, es⟩⟩ <;> first | (cases h; done) | (simp [chk] at h; done) | skip
      cases e <;> first | (cases h; done) | skip
      rename_i fn2 es2 ks2 p2
      cases fn2 <;> first | (cases h; done) | skip
      rename_i y p3
      rcases es2 with _ | ⟨e, _ | ⟨e2, es2⟩⟩ <;> first | (cases h; done) | skip
      cases ks2 <;> first | (cases h; done) | skip
      cases ks <;> first | (cases h; done) | skip
      obtain ⟨h, h4⟩ := b2 h
      obtain ⟨h, h3⟩ := b2 h
      obtain ⟨h1, h2⟩ := b2 h
      exact Snd.val (snd_lrg h1 h2 (n1 h3) (iha _ _ h4).1) rfl
    | ar es => cases es <;> cases h
    | it e => cases e <;> cases h
  | isi a k iha =>
    intro pc sc h
    cases pc with
    | ex e =>
      cases e <;> first | (cases h; done) | skip
      rename_i fn es ks p
      cases fn <;> first | (cases h; done) | skip
      rename_i x p1
      rcases es with _ | ⟨e, _ | ⟨e2, _ | ⟨e3, es⟩⟩⟩ <;> first | (cases h; done) | (cases e2 <;> cases h; done) | skip
      cases e2 <;> first | (cases h; done) | skip
      cases ks <;> first | (cases h; done) | skip
      obtain ⟨h, h6⟩ := b2 h
      obtain ⟨h, h5⟩ := b2 h
      obtain ⟨h, h4⟩ := b2 h
      obtain ⟨h, h3⟩ := b2 h
      obtain ⟨h1, h2⟩ := b2 h
      exact Snd.val (snd_isi h1 h2 h3 (n1 h4) h5 (iha _ _ h6).1 h6) rfl
    | ar es => cases es <;> cases h
    | it e => cases e <;> cases h
  | rng as iha =>
    intro pc sc h
    cases pc with
    | ex e => cases e <;> cases h
    | ar es => cases es <;> cases h
    | it e =>
      cases e <;> first | (cases h; done) | skip
      rename_i fn es ks p
      cases fn <;> first | (cases h; done) | skip
      rename_i x p1
      cases ks <;> first | (cases h; done) | skip
      obtain ⟨h, h3⟩ := b2 h
      obtain ⟨h1, h2⟩ := b2 h
      exact sndI_rng h1 (of_decide_eq_true h2) (iha _ _ h3) h3
  | zip as iha =>
    intro pc sc h
    cases pc with
    | ex e => cases e <;> cases h
    | ar es => cases es <;> cases h
    | it e =>
      cases e <;> first | (cases h; done) | skip
      rename_i fn es ks p
      cases fn <;> first | (cases h; done) | skip
      rcases es with _ | ⟨e, _ | ⟨e2, _ | ⟨e3, es⟩⟩⟩ <;> first | (cases h; done) | skip
      cases ks <;> first | (cases h; done) | skip
      obtain ⟨h, h4⟩ := b2 h
      obtain ⟨h, h3⟩ := b2 h
      obtain ⟨h1, h2⟩ := b2 h
      exact sndI_zip h1 (iha _ _ h4) h4
  | itr a iha =>
    intro pc sc h
    cases pc with
    | ex e => cases e <;> cases h
    | ar es => cases es <;> cases h
    | it e =>
      obtain ⟨h1, h2⟩ := b2 h
      exact sndI_itr (iha _ _ h2).1
  | pop a i iha ihi =>
    intro pc sc h
    cases pc with
    | ex e =>
      cases e <;> first | (cases h; done) | skip
      rename_i fn es ks p
      cases fn <;> first | (cases h; done) | skip
      rename_i x n p1
      rcases es with _ | ⟨e, _ | ⟨e2, es⟩⟩ <;> first | (cases h; done) | skip
      cases ks <;> first | (cases h; done) | skip
      obtain ⟨h, h6⟩ := b2 h
      obtain ⟨h, h5⟩ := b2 h
      obtain ⟨h, h4⟩ := b2 h
      obtain ⟨h, h3⟩ := b2 h
      obtain ⟨h1, h2⟩ := b2 h
      exact Snd.val (snd_pop (beq_iff_eq.mp h1) h2 (n1 h3) (n1 h4) (iha _ _ h5).1 h5 (ihi _ _ h6).1 h6) rfl
    | ar es => cases es <;> cases h
    | it e => cases e <;> cases h
  | comp vs tg it ts el ihi iht ihe =>
    intro pc sc h
    cases pc with
    | ex e =>
      cases e <;> first | (cases h; done) | skip
      rename_i elt gs scope p
      exact Snd.val (compE hM h (fun e sc h => ihi _ sc h) (fun e sc h => iht _ sc h) (fun e sc h => ihe _ sc h)) rfl
    | ar es => cases es <;> cases h
    | it e => cases e <;> cases h
  | pf f a iha =>
    intro pc sc h
    cases pc with
    | ex e =>
      have h : (match pfX e with
        | some q => decide (q.1 = f) && chk t N sc a (.ex q.2)
        | none => false) = true := by cases e <;> exact h
      cases hp : pfX e with
      | none => rw [hp] at h; cases h
      | some q =>
        rw [hp] at h
        obtain ⟨f', e'⟩ := q
        obtain ⟨h1, h2⟩ := b2 h
        have h1 : f' = f := of_decide_eq_true h1
        subst h1
        refine Snd.val (snd_pf hp (iha _ _ h2).1 h2) ?_
        cases e <;> first | rfl | cases hp
    | ar es => cases es <;> cases h
    | it e => cases e <;> cases h
  | bm0 a m iha =>
    intro pc sc h
    cases pc with
    | ex e =>
      cases e <;> first | (cases h; done) | skip
      rename_i fn es ks p
      cases fn <;> first | (cases h; done) | skip
      cases es <;> first | (cases h; done) | skip
      cases ks <;> first | (cases h; done) | skip
      obtain ⟨h, h5⟩ := b2 h
      obtain ⟨h, h4⟩ := b2 h
      obtain ⟨h, h3⟩ := b2 h
      obtain ⟨h1, h2⟩ := b2 h
      exact Snd.val (snd_bm0 (of_decide_eq_true h1) (beq_iff_eq.mp h2) h3 (n1 h4) (iha _ _ h5).1 h5) rfl
    | ar es => cases es <;> cases h
    | it e => cases e <;> cases h
  | bm1 a m b iha ihb =>
    intro pc sc h
    cases pc with
    | ex e =>
      cases e <;> first | (cases h; done) | skip
      rename_i fn es ks p
      cases fn <;> first | (cases h; done) | skip
      rcases es with _ | ⟨e, _ | ⟨e2, es⟩⟩ <;> first | (cases h; done) | skip
      cases ks <;> first | (cases h; done) | skip
      obtain ⟨h, h7⟩ := b2 h
      obtain ⟨h, h6⟩ := b2 h
      obtain ⟨h, h5⟩ := b2 h
      obtain ⟨h, h4⟩ := b2 h
      obtain ⟨h, h3⟩ := b2 h
      obtain ⟨h1, h2⟩ := b2 h
      exact Snd.val (snd_bm1 (of_decide_eq_true h1) (beq_iff_eq.mp h2) h3 (n1 h4) (n1 h5) (iha _ _ h6).1 h6 (ihb _ _ h7).1 h7) rfl
    | ar es => cases es <;> cases h
    | it e => cases e <;> cases h
  | mk0 c =>
    intro pc sc h
    cases pc with
    | ex e =>
      cases e <;> first | (cases h; done) | skip
      rename_i fn es ks p
      cases fn <;> first | (cases h; done) | skip
      cases es <;> first | (cases h; done) | skip
      cases ks <;> first | (cases h; done) | skip
      obtain ⟨h, h3⟩ := b2 h
      obtain ⟨h1, h2⟩ := b2 h
      exact Snd.val (snd_mk0 (of_decide_eq_true h1) h2 h3) rfl
    | ar es => cases es <;> cases h
    | it e => cases e <;> cases h
  | cst c f =>
    intro pc sc h
    cases pc with
    | ex e =>
      cases e <;> first | (cases h; done) | skip
      rename_i o n p
      cases o <;> first | (cases h; done) | skip
      obtain ⟨h, h4⟩ := b2 h
      obtain ⟨h, h3⟩ := b2 h
      obtain ⟨h1, h2⟩ := b2 h
      exact Snd.val (snd_cst (of_decide_eq_true h1) h2 h3 (of_decide_eq_true h4)) rfl
    | ar es => cases es <;> cases h
    | it e => cases e <;> cases h
  | clm c m as iha =>
    intro pc sc h
    cases pc with
    | ex e =>
      cases e <;> first | (cases h; done) | skip
      rename_i fn es ks p
      cases fn <;> first | (cases h; done) | skip
      rename_i o n p1
      cases o <;> first | (cases h; done) | skip
      cases ks <;> first | (cases h; done) | skip
      obtain ⟨h, h8⟩ := b2 h
      obtain ⟨h, h7⟩ := b2 h
      obtain ⟨h, h6⟩ := b2 h
      obtain ⟨h, h5⟩ := b2 h
      obtain ⟨h, h4⟩ := b2 h
      obtain ⟨h, h3⟩ := b2 h
      obtain ⟨h1, h2⟩ := b2 h
      exact Snd.val (snd_clm (of_decide_eq_true h1) h2 h3 (of_decide_eq_true h4) h5 (of_decide_eq_true h6) (hM.sm _ _ h7) (iha _ _ h8) h8) rfl
    | ar es => cases es <;> cases h
    | it e => cases e <;> cases h
  | mkv i c as iha =>
    intro pc sc h
    cases pc with
    | ex e =>
      cases e <;> first | (cases h; done) | skip
      rename_i fn es ks p
      cases fn <;> first | (cases h; done) | skip
      rcases es with _ | ⟨e, es⟩ <;> first | (cases h; done) | skip
      cases ks <;> first | (cases h; done) | skip
      obtain ⟨h, h3⟩ := b2 h
      obtain ⟨h1, h2⟩ := b2 h
      exact Snd.val (snd_mkv h1 (hM.mi _ h2) (iha _ _ h3) h3) rfl
    | ar es => cases es <;> cases h
    | it e => cases e <;> cases h
  | cal i as iha =>
    intro pc sc h
    cases pc with
    | ex e =>
      cases e <;> first | (cases h; done) | skip
      rename_i fn es ks p
      cases fn <;> first | (cases h; done) | skip
      rcases es with _ | ⟨e, es⟩ <;> first | (cases h; done) | skip
      cases ks <;> first | (cases h; done) | skip
      obtain ⟨h1, h2⟩ := b2 h
      exact Snd.val (snd_cal h1 (iha _ _ h2) h2) rfl
    | ar es => cases es <;> cases h
    | it e => cases e <;> cases h
end
end Vm

namespace VmX
open PySem PySem.W PySem.Calls PyProof.Rows PySem.HandSPX
section
variable {prog : Program} {w : World} {A : Around} {K : Frag} {hp : Heap} {g : Array GenState} {d : Drawn} {t : Nat} {os : OsState} {E : Value → Shared → Prop}
/-- what the written part says of the class C and its __init__ at fI -/
structure SupC (K : Frag) (prog : Program) (C fI : Addr) (name qual : Str) (params : Arguments) (body : List Stmt) (scope : Scope) : Prop where
  cls : ∃ nm q N bs bm sn sub ab col dd k0 k1 k2 k3 k5, K.lookup C = some (excClassObj nm q C N bs bm true sn sub ab col dd k0 k1 k2 k3 k5 "ValueError.__new__") ∧ refsVE bm = true
  sa : findIn K (.ref C) "__setattr__" = some (some (.builtin "object.__setattr__"))
  exC : subIn K (.ref C) (.type "BaseException") = some true
  veC : subIn K (.ref C) (.type "ValueError") = some true
  tyC : typeIn K (.ref C) = some (.type "type")
  kC : keepIn K (.ref C) = true
  slf : mroIn K C (.ref C) = some true
  ini : findIn K (.ref C) "__init__" = some (some (.ref fI))
  tyI : typeIn K (.ref fI) = some (.type "function")
  sup : ks_superIn K C C "__init__" = some (some (.builtin "ValueError.__init__"))
  st : nsIn K cStatics "thirdparty.any" = some none
  ns : nsIn K mainGlobals "super" = some none
  top : (prog.main.scope.names.lookup ("super" : Str)).isSome = false
  fn : ∃ dV kV doc pm an cda ct cc oc od osl ccl cdd vs ccs file tf cl cld csl, K.lookup fI = some ⟨oc, od, .func (ksFn name qual params body scope dV kV doc pm an (.ref cda) ct cc), osl⟩ ∧ codeIn K (.ref cda) qual = true ∧
    K.lookup cda = some ⟨ccl, cdd, .fields vs, ccs⟩ ∧ vs[2]? = some (.str file tf) ∧ ((prog.main.file : Str) == file) = true ∧ K.lookup cc = some ⟨cl, cld, .cell (some (.ref C)), csl⟩ ∧
    ∀ (us : List Value), us.length = (params.posonlyargs ++ params.args).length → ∀ s, BindsTo s (ksFn name qual params body scope dV kV doc pm an (.ref cda) ct cc) ⟨us, []⟩ (((params.posonlyargs ++ params.args).map (·.arg)).zip us)
  scK : scope.kind = .function
  scC : scope.isCoroutine = false
  scG : scope.isGenerator = false
  sc1 : scope.names.lookup ("super" : Str) = some .globalImplicit
  sc2 : scope.names.lookup ("__class__" : Str) = some .free
  sc3 : ∀ x ∈ scope.names, x.2 ≠ .cell
  sc4 : ∀ x ∈ (params.posonlyargs ++ params.args).map (·.arg), scope.names.lookup x = some .local
/-- where the __init__ runs -/
abbrev envI (qual : Str) (scope : Scope) (L fI : Addr) (cda cc : Addr) : PySem.Env := ksEnv qual scope L fI (.ref cda) cc
theorem meth_eqS {o : Expr} {m : Str} {apos pos : Pos} {es : List Expr} {env : PySem.Env} (hst : Vm.anyStar es = false) (hl : es.length < 20) (hline : (apos.endLine == pos.line) = true) : eval (.Call (.Attribute o m apos) es [] pos) env = (do
      let ov ← attributeBase o m env (eval o env)
      standAt apos.atName
      let (f, first) ← holding [ov] (getMethod ov m (L2.plainOf o env))
      callWith pos f first (backTo pos (starEach es env)) []) := by
  have hf : methodCallForm (es.length + 0) (backTo pos (starEach es env)) (backToKw pos (keywordEach [] env)) = true := by
    unfold methodCallForm
    have h1 : (backTo pos (starEach es env)).all (fun x => !x.1) = true := by
      have := Vm.star_any (env := env) (pos := pos) hst
      rw [List.all_eq_not_any_not]
      simpa using this
    rw [h1]
    show (true && true && decide (es.length + 0 + 0 < 30)) = true
    rw [Bool.and_true, Bool.true_and]
    exact decide_eq_true (by omega)
  rw [arm_eval_Call]
  have e : (fun ov => (do
      standAt apos.atName
      methodCall o m apos pos env ov (es.length + ([] : List Keyword).length) (backTo pos (starEach es env)) (backToKw pos (keywordEach [] env)) : Sem Value)) = fun ov => (do
      standAt apos.atName
      let (f, first) ← holding [ov] (getMethod ov m (L2.plainOf o env))
      callWith pos f first (backTo pos (starEach es env)) (backToKw pos (keywordEach [] env)) : Sem Value) := by
    funext ov
    show (do
      standAt apos.atName
      methodCall o m apos pos env ov (es.length + 0) (backTo pos (starEach es env)) (backToKw pos (keywordEach [] env)) : Sem Value) = _
    rw [L2.mcall_line hf hline]
  exact congrArg (attributeBase o m env (eval o env) >>= ·) e
/-- super().__init__(text) -/
theorem first_ok {C fI e t0 L : Addr} {name qual : Str} {params : Arguments} {body bodyX : List Stmt} {scope : Scope} {m : Str → Option Value} {mg mb : Str → Option Value} {x : Str} {j : Nat} {p0 p1 p2 p3 p4 p5 : Pos} {ar : Arg} {cda cc : Addr} {Q : Flow → Shared → Prop}
    {dV kV doc pm ct oc ccl cl : Value} {an od cdd cld : Option Addr} {osl ccs csl : Array (Option Value)} {vs : Array Value} {file : Str} {tf : Tok}
    (T : SupC K prog C fI name qual params body scope) (X : K.In hp) (NS : hp.Ns mainGlobals mg) (NB : hp.Ns builtinsNs mb) (hmb : ∀ y : Str, y ≠ "__name__" → mb y = bootBuiltins y)
    (lf : K.lookup fI = some ⟨oc, od, .func (ksFn name qual params body scope dV kV doc pm an (.ref cda) ct cc), osl⟩) (lcd : K.lookup cda = some ⟨ccl, cdd, .fields vs, ccs⟩) (hvs : vs[2]? = some (.str file tf)) (hfile : ((prog.main.file : Str) == file) = true) (lcc : K.lookup cc = some ⟨cl, cld, .cell (some (.ref C)), csl⟩)
    (hp1 : (params.posonlyargs ++ params.args).head? = some ar) (hL : hp.Ns L m) (hv : m ar.arg = some (.ref e)) (he : hp.get? e = some (excO C t0)) (hLe : L ≠ e) (hline : (p2.endLine == p4.line) = true)
    (hq : ∀ h' t', h'.Ns L m → (∀ b o, b ≠ e → hp.get? b = some o → h'.get? b = some o) → h'.get? e = some (excO C t') → ∀ tk, Q .next ⟨h', g, d, tk, os⟩) :
    _root_.PySem.wpAt (model prog w) A (.func bodyX (envI qual scope L fI cda cc)) (exec (.Expr (.Call (.Attribute (.Call (.Name "super" p0) [] [] p1) "__init__" p2) [.Constant (.str x) j p3] [] p4) p5) (envI qual scope L fI cda cc)) Q E ⟨hp, g, d, t, os⟩ := by
  obtain ⟨nm, q, N, bs, bm, sn, sub, ab, col, dd, k0, k1, k2, k3, k5, hC, hbm⟩ := T.cls
  have hcl : clsIn K C = some { name := nm, bases := bs, mro := .ref C :: bm, ns := N, qualname := q, hasDict := true, slotNames := sn, subclasses := sub, abstract := ab, collection := col, hasDel := false } := by unfold clsIn; rw [hC] <;> rfl
  refine ks_wpAt_Expr_any ?_ (by simp [interactive, T.scK])
  refine ks_wpAt_MethodCall (pl := L2.plainOf (.Call (.Name "super" p0) [] [] p1) (envI qual scope L fI cda cc)) ?_ (meth_eqS (by rfl) (by simp) hline)
  refine ks_wpAt_super_base (env := envI qual scope L fI cda cc) T.sc1 T.sc2 rfl rfl (X _ _ lf) rfl hp1 rfl (X _ _ lcd) rfl hvs hfile T.top ?_
  refine ks_loadName_global T.scK T.sc1 (loadGlobal_builtin (env := envI qual scope L fI cda cc) NS (mg_none_of X NS T.ns) NB ((hmb _ (by decide +kernel)).trans (by rfl)) ⟨rfl, ?_⟩)
  refine wpAny_loadName_free T.scK T.sc2 rfl ⟨_, X _ _ lcc, rfl⟩ ?_
  have hka : scope.names.lookup ar.arg = some .local := T.sc4 _ (by
    cases hl : (params.posonlyargs ++ params.args) with
    | nil => rw [hl] at hp1; cases hp1
    | cons a r =>
      rw [hl] at hp1
      cases hp1
      simp)
  refine wpAny_loadName_local T.scK hka hL hv ?_
  have hCobj := X _ _ hC
  refine ks_wpAny_isType_cls hCobj rfl ⟨rfl, ?_⟩
  refine ks_wpAny_call_super hCobj rfl he rfl (fun c z => by cases z) (looks_mroIn X T.slf) (fun h1 so1 kp1 => ?_)
  have X1 : K.In h1 := X.keeps kp1
  have he1 := kp1 _ _ he
  have I1 : InstAt h1 e (excO C t0) C none := ⟨he1, rfl, rfl, trivial⟩
  have hI : Looks (model prog w) h1 (isInstance (.ref e) (.type "ValueError")) true := I1.type.andThen (looks_subIn X1 T.veC)
  have hm : alongIn K "__init__" (((Value.ref C :: bm).dropWhile (· != .ref C)).drop 1) = some (some (.builtin "ValueError.__init__")) := by
    have z := T.sup
    unfold ks_superIn at z
    rw [hcl] at z
    exact z
  refine kxs_getMethod kxs_ValueError so1 (looks_opaque X1 T.st) (l₀ := .ref C :: bm) (fun A Q E s k q => wpAny_bind ((looks_clsIn X1 hcl) A _ E s k (wpAny_pure q))) rfl X1 hm hI (ks_ne X1 I1 hcl) (by decide) ?_
  -- the method-wrapper, called
  have kp2 : ∀ b o, h1.get? b = some o → (h1.push (kxs_mw "ValueError.__init__" e)).get? b = some o := fun b o z => Heap.get?_push_of_some _ z
  have mw2 : (h1.push (kxs_mw "ValueError.__init__" e)).get? h1.objs.size = some (kxs_mw "ValueError.__init__" e) := Heap.get?_push_at rfl rfl
  have he2 := kp2 _ _ he1
  have hC2 := kp2 _ _ (kp1 _ _ hCobj)
  refine kxs_callWith (i := "ValueError.__init__") (x := e) (by rfl) ?_
  refine evalArgs_plain ?_
  refine Calls.spliced_cons ?_
  show wpAny _ _ (eval (.Constant (.str x) j p3) (envI qual scope L fI cda cc)) _ _ _
  refine Calls.Constant_str ?_
  show wpAny _ _ (spliced []) _ _ _
  refine Calls.spliced_nil ⟨mw2, ?_⟩
  show wpAny _ A (call (.ref h1.objs.size) [.str x _]) _ _ _
  refine wpAny_call (codeAny_of_tree ?_)
  show wpAny _ A.in1 (callAny (.ref h1.objs.size) ⟨[.str x _], []⟩) _ _ _
  simp only [callAny]
  refine wpAny_bind (wpAny_load mw2 ?_)
  simp only [kxs_mw, show (Value.type "method-wrapper" == Value.type "method" || Value.type "method-wrapper" == Value.type "builtin_function_or_method" || Value.type "method-wrapper" == Value.type "method-wrapper") = true by decide, if_true]
  refine KFB.if_so (by decide) ?_
  refine wpAny_bind (check_bound_init F.excBase_ValueError.toExcCallFacts hC2 he2 rfl ?_)
  refine wpAny_bind (wpAny_pure (wpAny_pure ?_))
  refine ⟨plainId_quiet F.excBase_ValueError.init.plain _, codeAny_builtin F.excBase_ValueError.initEntry ?_⟩
  refine exc_init_tree (cls := .ref C) (t0 := t0) (dv := none) (c2 := .none) (c3 := .none) (b4 := .bool false) he2 (by size_fits) (fun h3 kp3 he3 _ => ?_)
  have kp : ∀ b o, b ≠ e → hp.get? b = some o → h3.get? b = some o := fun b o hb z => kp3 b o hb (kp2 _ _ (kp1 _ _ z))
  have hL3 : h3.Ns L m := by
    obtain ⟨o, es, ep, z, r⟩ := hL
    exact ⟨o, es, ep, kp _ _ hLe z, r⟩
  exact hq h3 _ hL3 kp he3 _
/-- the first self.f = p -/
theorem asg_new {C e t1 : Addr} {env : PySem.Env} {m : Str → Option Value} {sf f p : Str} {u : Value} {p1 p2 p3 p4 : Pos} {Q : Flow → Shared → Prop}
    (hC : ∃ nm q N bs bm sn sub ab col dd k0 k1 k2 k3 k5, K.lookup C = some (excClassObj nm q C N bs bm true sn sub ab col dd k0 k1 k2 k3 k5 "ValueError.__new__") ∧ refsVE bm = true) (sa : findIn K (.ref C) "__setattr__" = some (some (.builtin "object.__setattr__"))) (hno : findIn K (.ref C) f = some none)
    (X : K.In hp) (hk : env.scope.kind = .function) (hL : hp.Ns env.locals m) (l1 : env.kindOf sf = some .local) (l2 : env.kindOf p = some .local) (d1 : (sf == ("__debug__" : Str)) = false) (d2 : (p == ("__debug__" : Str)) = false) (v1 : m sf = some (.ref e)) (v2 : m p = some u) (he : hp.get? e = some (excO C t1))
    (hq : ∀ h' dx tk, (∀ b o, b ≠ e → hp.get? b = some o → h'.get? b = some o) → hp.get? dx = none → dx ≠ e → h'.get? e = some ({ cls := .ref C, dict := some dx, data := .fields #[.ref t1, .none, .none, .none, .bool false, .none] } : Obj) → h'.Ns1 dx (fun y => if y = f then some u else none) → Q .next ⟨h', g, d, tk, os⟩) :
    wpAny (model prog w) A (exec (.Assign [.Attribute (.Name sf p1) f p2] (.Name p p3) p4) env) Q E ⟨hp, g, d, t, os⟩ := by
  obtain ⟨nm, q, N, bs, bm, sn, sub, ab, col, dd, k0, k1, k2, k3, k5, hC, hbm⟩ := hC
  have hcl : clsIn K C = some { name := nm, bases := bs, mro := .ref C :: bm, ns := N, qualname := q, hasDict := true, slotNames := sn, subclasses := sub, abstract := ab, collection := col, hasDel := false } := by unfold clsIn; rw [hC] <;> rfl
  refine plainObj_wpAny_Assign_Attribute (wpAny_Name (wpAny_loadName_local hk l2 hL v2 (wpAny_Name (wpAny_loadName_local hk l1 hL v1 ?_) d1)) d2)
  refine set_plain (s := ⟨hp, g, d, t, os⟩) X (ox := excO C t1) (od := none) ⟨he, rfl, rfl, trivial⟩ sa ?_
  refine exc_osa X he hcl (show refsVE (.ref C :: bm) = true from hbm) rfl hno (fun h' tk' dx k dn dne hx hn => ?_)
  refine hq h' dx tk' k ?_ dne hx hn
  cases z : hp.get? dx with
  | none => rfl
  | some o => exact absurd (Heap.lt_size z) (Nat.not_lt_of_le dn)
/-- a further one -/
theorem asg_old {C e dx t1 : Addr} {env : PySem.Env} {m m0 : Str → Option Value} {nl : List Str} {sf f p : Str} {u : Value} {p1 p2 p3 p4 : Pos} {Q : Flow → Shared → Prop}
    (hC : ∃ nm q N bs bm sn sub ab col dd k0 k1 k2 k3 k5, K.lookup C = some (excClassObj nm q C N bs bm true sn sub ab col dd k0 k1 k2 k3 k5 "ValueError.__new__") ∧ refsVE bm = true) (sa : findIn K (.ref C) "__setattr__" = some (some (.builtin "object.__setattr__"))) (hno : findIn K (.ref C) f = some none)
    (X : K.In hp) (hk : env.scope.kind = .function) (hL : hp.Ns env.locals m) (l1 : env.kindOf sf = some .local) (l2 : env.kindOf p = some .local) (d1 : (sf == ("__debug__" : Str)) = false) (d2 : (p == ("__debug__" : Str)) = false) (v1 : m sf = some (.ref e)) (v2 : m p = some u)
    (he : hp.get? e = some ({ cls := .ref C, dict := some dx, data := .fields #[.ref t1, .none, .none, .none, .bool false, .none] } : Obj)) (hns : hp.Ns1 dx m0) (hw : Within m0 nl) (hz : nl.length ≤ 1000)
    (hq : ∀ h' tk, (∀ b o, b ≠ dx → hp.get? b = some o → h'.get? b = some o) → h'.Ns1 dx (fun y => if y = f then some u else m0 y) → Q .next ⟨h', g, d, tk, os⟩) :
    wpAny (model prog w) A (exec (.Assign [.Attribute (.Name sf p1) f p2] (.Name p p3) p4) env) Q E ⟨hp, g, d, t, os⟩ := by
  obtain ⟨nm, q, N, bs, bm, sn, sub, ab, col, dd, k0, k1, k2, k3, k5, hC, hbm⟩ := hC
  have hcl : clsIn K C = some { name := nm, bases := bs, mro := .ref C :: bm, ns := N, qualname := q, hasDict := true, slotNames := sn, subclasses := sub, abstract := ab, collection := col, hasDel := false } := by unfold clsIn; rw [hC] <;> rfl
  obtain ⟨oD, esD, epD, hoD, hdD, _⟩ := hns.count hw
  refine plainObj_wpAny_Assign_Attribute (wpAny_Name (wpAny_loadName_local hk l2 hL v2 (wpAny_Name (wpAny_loadName_local hk l1 hL v1 ?_) d1)) d2)
  refine set_plain (s := ⟨hp, g, d, t, os⟩) X (od := some oD) ⟨he, rfl, rfl, hoD⟩ sa ?_
  exact OEX.osa_old X he hns hw hz hcl (show refsVE (.ref C :: bm) = true from hbm) rfl hno (fun h' tk' k hn => hq h' tk' k hn)
end
end VmX

namespace VmX
open PySem PySem.W PySem.Calls PyProof.Rows PySem.HandSPX
section
variable {prog : Program} {w : World} {A : Around} {K : Frag} {hp : Heap} {g : Array GenState} {d : Drawn} {t : Nat} {os : OsState} {R : Result → Shared → Prop}
/-- self, p.. and super().__init__(text); self.f = p .. -/
inductive SupB : Arguments → List Stmt → List Str → Prop
  | one {params : Arguments} {sf f p x : Str} {j : Nat} {p0 p1 p2 p3 p4 p5 q1 q2 q3 q4 : Pos} : (params.posonlyargs ++ params.args).map (·.arg) = [sf, p] → sf ≠ p → (p2.endLine == p4.line) = true → (sf == ("__debug__" : Str)) = false → (p == ("__debug__" : Str)) = false →
      SupB params [.Expr (.Call (.Attribute (.Call (.Name "super" p0) [] [] p1) "__init__" p2) [.Constant (.str x) j p3] [] p4) p5, .Assign [.Attribute (.Name sf q1) f q2] (.Name p q3) q4] [f]
  | two {params : Arguments} {sf f f' p p' x : Str} {j : Nat} {p0 p1 p2 p3 p4 p5 q1 q2 q3 q4 r1 r2 r3 r4 : Pos} : (params.posonlyargs ++ params.args).map (·.arg) = [sf, p, p'] → sf ≠ p → sf ≠ p' → p ≠ p' → f ≠ f' → (p2.endLine == p4.line) = true → (sf == ("__debug__" : Str)) = false → (p == ("__debug__" : Str)) = false → (p' == ("__debug__" : Str)) = false →
      SupB params [.Expr (.Call (.Attribute (.Call (.Name "super" p0) [] [] p1) "__init__" p2) [.Constant (.str x) j p3] [] p4) p5, .Assign [.Attribute (.Name sf q1) f q2] (.Name p q3) q4, .Assign [.Attribute (.Name sf r1) f' r2] (.Name p' r3) r4] [f, f']
/-- the namespace of the fields -/
def nsF : List Str → List Value → Str → Option Value
  | f :: fs, u :: us, y => if y = f then some u else nsF fs us y
  | _, _, _ => none
theorem ns_keep {h h' : Heap} {L e : Addr} {m : Str → Option Value} (hL : h.Ns L m) (hne : L ≠ e) (k : ∀ b o, b ≠ e → h.get? b = some o → h'.get? b = some o) : h'.Ns L m := by
  obtain ⟨o, es, ep, z, r⟩ := hL
  exact ⟨o, es, ep, k _ _ hne z, r⟩
theorem init_ok {C fI e t0 : Addr} {name qual : Str} {params : Arguments} {body : List Stmt} {scope : Scope} {mg mb : Str → Option Value} {fs : List Str} {us : List Value}
    (T : SupC K prog C fI name qual params body scope) (B : SupB params body fs) (hno : ∀ f ∈ fs, findIn K (.ref C) f = some none) (X : K.In hp) (NS : hp.Ns mainGlobals mg) (NB : hp.Ns builtinsNs mb) (hmb : ∀ y : Str, y ≠ "__name__" → mb y = bootBuiltins y) (NL : hp.NoLimit) (hroom : A.depth < recursionLimit)
    (hu : us.length = fs.length) (he : hp.get? e = some (excO C t0)) (hKe : K.lookup e = none)
    (hq : ∀ h' dx t1 tk, (∀ b o, b ≠ e → hp.get? b = some o → h'.get? b = some o) → hp.get? dx = none → dx ≠ e → h'.get? e = some ({ cls := .ref C, dict := some dx, data := .fields #[.ref t1, .none, .none, .none, .bool false, .none] } : Obj) →
      (∃ m0, h'.Ns1 dx m0 ∧ ∀ y, m0 y = nsF fs us y) → R (.ok (.ret .none)) ⟨h', g, d, tk, os⟩) :
    codeAny (model prog w) A (.call (.ref fI) ⟨.ref e :: us, []⟩) R ⟨hp, g, d, t, os⟩ := by
  obtain ⟨dV, kV, doc, pm, an, cda, ct, cc, oc, od, osl, ccl, cdd, vs, ccs, file, tf, cl, cld, csl, lf, hcd, lcd, hvs, hfile, lcc, hbind⟩ := T.fn
  have keepK : ∀ {h' : Heap}, (∀ b o, b ≠ e → hp.get? b = some o → h'.get? b = some o) → K.In h' := fun k a o z => k a o (fun q => by rw [q, hKe] at z; cases z) (X a o z)
  have lt : e < hp.objs.size := Heap.lt_size he
  cases B with
  | @one sf f p x j p0 p1 p2 p3 p4 p5 q1 q2 q3 q4 hpar nsp hline d1 d2 =>
    obtain ⟨u, rfl⟩ : ∃ u, us = [u] := by
      cases us with
      | nil => cases hu
      | cons u r =>
        cases r with
        | nil => exact ⟨u, rfl⟩
        | cons _ _ => cases hu
    have hb := hbind [.ref e, u] (by have z := congrArg List.length hpar; rw [List.length_map] at z; exact z.symm)
    rw [hpar] at hb
    have ls := T.sc4 sf (by rw [hpar]; simp)
    have lp := T.sc4 p (by rw [hpar]; simp)
    refine ks_codeAny_call_defAt (fd := ksFn name qual params _ scope dV kV doc pm an (.ref cda) ct cc) (binds := [(sf, .ref e), (p, u)]) hroom (X _ _ lf) rfl NL (codeRec_of X hcd) rfl (hb _) T.sc3 ?_ ?_ T.scC T.scG T.scK
    · intro y hy
      simp only [List.mem_cons, List.not_mem_nil, or_false] at hy
      rcases hy with rfl | rfl
      · exact ls
      · exact lp
    intro h0 hns0 k0
    have X0 : K.In h0 := X.keeps k0
    have hL0 : hp.objs.size ≠ e := Nat.ne_of_gt lt
    have v1 : ([(sf, Value.ref e), (p, u)] : List (Str × Value)).reverse.lookup sf = some (.ref e) := by
      have : (sf == p) = false := by simpa using nsp
      simp [List.lookup, this]
    have v2 : ([(sf, Value.ref e), (p, u)] : List (Str × Value)).reverse.lookup p = some u := by simp [List.lookup]
    obtain ⟨ar, har, hara⟩ : ∃ ar, (params.posonlyargs ++ params.args).head? = some ar ∧ ar.arg = sf := by
      cases z : (params.posonlyargs ++ params.args) with
      | nil => rw [z] at hpar; cases hpar
      | cons a r => rw [z] at hpar; injection hpar with h1 h2; exact ⟨a, rfl, h1⟩
    refine ks_wpAt_execs_cons (first_ok T X0 (NS.keeps k0) (NB.keeps k0) hmb lf lcd hvs hfile lcc har hns0 (by rw [hara]; exact v1) (k0 _ _ he) hL0 hline (fun h1 t1 hns1 k1 he1 tk => ?_))
    have kk1 : ∀ b o, b ≠ e → hp.get? b = some o → h1.get? b = some o := fun b o hb z => k1 b o hb (k0 _ _ z)
    refine wpAt_of_wpAny (wpAny_execs_cons (asg_new T.cls T.sa (hno f (by simp)) (keepK kk1) T.scK hns1 ls lp d1 d2 v1 v2 he1 (fun h2 dx tk2 k2 fr ne he2 hn2 => ?_)))
    refine wpAny_execs_nil ?_
    have kk2 : ∀ b o, b ≠ e → hp.get? b = some o → h2.get? b = some o := fun b o hb z => k2 b o hb (kk1 b o hb z)
    refine hq h2 dx t1 tk2 kk2 ?_ ne he2 ⟨_, hn2, fun y => by simp [nsF]⟩
    cases z : hp.get? dx with
    | none => rfl
    | some o => rw [kk1 dx o ne z] at fr; cases fr
  | @two sf f f' p p' x j p0 p1 p2 p3 p4 p5 q1 q2 q3 q4 r1 r2 r3 r4 hpar n1 n2 n3 nf hline d1 d2 d3 =>
    obtain ⟨u, u', rfl⟩ : ∃ u u', us = [u, u'] := by
      match us, hu with
      | [u, u'], _ => exact ⟨u, u', rfl⟩
    have hb := hbind [.ref e, u, u'] (by have z := congrArg List.length hpar; rw [List.length_map] at z; exact z.symm)
    rw [hpar] at hb
    have ls := T.sc4 sf (by rw [hpar]; simp)
    have lp := T.sc4 p (by rw [hpar]; simp)
    have lp' := T.sc4 p' (by rw [hpar]; simp)
    refine ks_codeAny_call_defAt (fd := ksFn name qual params _ scope dV kV doc pm an (.ref cda) ct cc) (binds := [(sf, .ref e), (p, u), (p', u')]) hroom (X _ _ lf) rfl NL (codeRec_of X hcd) rfl (hb _) T.sc3 ?_ ?_ T.scC T.scG T.scK
    · intro y hy
      simp only [List.mem_cons, List.not_mem_nil, or_false] at hy
      rcases hy with rfl | rfl | rfl
      · exact ls
      · exact lp
      · exact lp'
    intro h0 hns0 k0
    have X0 : K.In h0 := X.keeps k0
    have hL0 : hp.objs.size ≠ e := Nat.ne_of_gt lt
    have b1 : (sf == p) = false := by simpa using n1
    have b2 : (sf == p') = false := by simpa using n2
    have b3 : (p == p') = false := by simpa using n3
    have v1 : ([(sf, Value.ref e), (p, u), (p', u')] : List (Str × Value)).reverse.lookup sf = some (.ref e) := by simp [List.lookup, b1, b2]
    have v2 : ([(sf, Value.ref e), (p, u), (p', u')] : List (Str × Value)).reverse.lookup p = some u := by simp [List.lookup, b3]
    have v3 : ([(sf, Value.ref e), (p, u), (p', u')] : List (Str × Value)).reverse.lookup p' = some u' := by simp [List.lookup]
    obtain ⟨ar, har, hara⟩ : ∃ ar, (params.posonlyargs ++ params.args).head? = some ar ∧ ar.arg = sf := by
      cases z : (params.posonlyargs ++ params.args) with
      | nil => rw [z] at hpar; cases hpar
      | cons a r => rw [z] at hpar; injection hpar with h1 h2; exact ⟨a, rfl, h1⟩
    refine ks_wpAt_execs_cons (first_ok T X0 (NS.keeps k0) (NB.keeps k0) hmb lf lcd hvs hfile lcc har hns0 (by rw [hara]; exact v1) (k0 _ _ he) hL0 hline (fun h1 t1 hns1 k1 he1 tk => ?_))
    have kk1 : ∀ b o, b ≠ e → hp.get? b = some o → h1.get? b = some o := fun b o hb z => k1 b o hb (k0 _ _ z)
    refine wpAt_of_wpAny (wpAny_execs_cons (asg_new T.cls T.sa (hno f (by simp)) (keepK kk1) T.scK hns1 ls lp d1 d2 v1 v2 he1 (fun h2 dx tk2 k2 fr ne he2 hn2 => ?_)))
    have kk2 : ∀ b o, b ≠ e → hp.get? b = some o → h2.get? b = some o := fun b o hb z => k2 b o hb (kk1 b o hb z)
    have hns2 := ns_keep hns1 hL0 k2
    have Ldx : hp.objs.size ≠ dx := fun z => by
      obtain ⟨o, es, ep, y, r⟩ := hns1
      have y : h1.get? hp.objs.size = some o := y
      rw [z, fr] at y
      cases y
    have frp : hp.get? dx = none := by
      cases z : hp.get? dx with
      | none => rfl
      | some o => rw [kk1 dx o ne z] at fr; cases fr
    have fin : ∀ h3 tk3, (∀ b o, b ≠ dx → h2.get? b = some o → h3.get? b = some o) → h3.Ns1 dx (fun y => if y = f' then some u' else if y = f then some u else none) → R (.ok (.ret .none)) ⟨h3, g, d, tk3, os⟩ := fun h3 tk3 k3 hn3 => by
      refine hq h3 dx t1 tk3 (fun b o hb z => k3 b o (fun q => by rw [q, frp] at z; cases z) (kk2 b o hb z)) frp ne (k3 _ _ (Ne.symm ne) he2) ⟨_, hn3, fun y => ?_⟩
      show (if y = f' then some u' else if y = f then some u else none) = if y = f then some u else if y = f' then some u' else none
      by_cases y1 : y = f
      · subst y1
        simp [nf]
      · simp [y1]
    refine wpAny_execs_cons (asg_old (nl := [f]) T.cls T.sa (hno f' (by simp)) (keepK kk2) T.scK hns2 ls lp' d1 d3 v1 v3 he2 hn2 (fun y hy => ?_) (by simp) (fun h3 tk3 k3 hn3 => ?_))
    · by_cases y1 : y = f
      · subst y1; simp
      · simp [y1] at hy
    · exact wpAny_execs_nil (fin h3 tk3 k3 hn3)
end
end VmX

namespace VmX
open PySem PySem.Spec PyProof.Rows L2
/-- C(e, ..): the class, its fields -/
def tMkS (C : Addr) (fs : List Str) (ta : TA) : L2.St → Hp → XK → Prop := fun σ H Q => ta σ H fun vs H1 => vs.length = fs.length ∧ ∀ d, H1 d = none → Q (.ref C) (some d) (upd H1 d (.xd (fs.zip vs)))
theorem relO_ns : ∀ {fs : List Str} {vs : List V} {us : List Value}, Vals vs us → vs.length = fs.length → ∀ y, RelO ((fs.zip vs).lookup y) (nsF fs us y)
  | [], _, _, .nil, _, y => by simp [nsF, RelO]
  | [], _, _, .cons _ _, h, y => by cases h
  | f :: fs, _, _, .nil, h, y => by cases h
  | f :: fs, v :: vs, u :: us, .cons r rr, h, y => by
    have ih := relO_ns (fs := fs) rr (by simpa using h) y
    show RelO (((f, v) :: fs.zip vs).lookup y) (if y = f then some u else nsF fs us y)
    rw [lookup_put]
    by_cases e : y = f
    · rw [if_pos e, if_pos e]; exact r
    · rw [if_neg e, if_neg e]; exact ih
theorem pmk_sup {X : Cx} {x : Str} {e : Expr} {es : List Expr} {ta : TA} {p pos : Pos} {C fI : Addr} {name qual : Str} {params : Arguments} {body : List Stmt} {scope : Scope} {fs : List Str}
    (T : SupC X.K X.prog C fI name qual params body scope) (B : SupB params body fs) (hno : ∀ f ∈ fs, PySem.W.findIn X.K (.ref C) f = some none) (hr : Room 1 X.A) (hg : Gl X x) (hm : X.mg x = some (.ref C)) (ha : PA X (e :: es) ta)
    (hdb : (x == ("__debug__" : Str)) = false := by decide) (he : starEach (e :: es) X.env = (false, eval e X.env) :: starEach es X.env := by rfl) (hpl : (backTo pos (starEach es X.env)).any (·.1) = false := by rfl) :
    PMk X (.Call (.Name x p) (e :: es) [] pos) (tMkS C fs ta) := by
  intro pins s σ H Q I h
  obtain ⟨nm, q, N, bs, bm, sn, sub, ab, col, dd, k0, k1, k2, k3, k5, hC, hbm⟩ := T.cls
  refine wpAny_Call_Name_kw (ld_glob I hg hm ?_ hdb)
  refine PySem.W.callWith_K (h₀ := X.base) I.ok.mod.kin T.kC (thn (ha.run pos pins s σ H _ I h) fun us s1 ⟨vs, H1, I1, r1, hz, q1⟩ => ⟨I1.kIn, ?_⟩) he hpl
  show wpAny _ _ (call (.ref C) us) _ _ _
  obtain ⟨hp, g, dr, tk, os⟩ := s1
  have kk : ∀ b o, hp.get? b = some o → ((hp.push (PySem.W.kdv_tup us)).push (PySem.HandSPX.excO C hp.objs.size)).get? b = some o := fun b o e => Heap.get?_push_of_some _ (Heap.get?_push_of_some _ e)
  have hget : ((hp.push (PySem.W.kdv_tup us)).push (PySem.HandSPX.excO C hp.objs.size)).get? (hp.objs.size + 1) = some (PySem.HandSPX.excO C hp.objs.size) := by heap_get
  have hnone : hp.get? (hp.objs.size + 1) = none := by
    cases z : hp.get? (hp.objs.size + 1) with
    | none => rfl
    | some o => exact absurd (Nat.lt_of_succ_lt (Heap.lt_size z)) (Nat.lt_irrefl _)
  have X1 : X.K.In hp := I1.kIn
  have hlen : us.length = fs.length := by rw [← Paired.length r1]; exact hz
  have hus : us.length ≤ sizeLine := by
    rw [hlen, sizeLine_eq]
    cases B <;> simp
  have hKe : X.K.lookup (hp.objs.size + 1) = none := by
    cases z : X.K.lookup (hp.objs.size + 1) with
    | none => rfl
    | some o => rw [X1 _ _ z] at hnone; cases hnone
  obtain ⟨mb, hb1, hb2⟩ := I1.mod.blt
  refine wpAny_call (PySem.HandSPX.call_own F.excBase_ValueError (fun Y => PySem.HandSPX.refsVE_contains Y bm hbm) (X1 _ _ hC) (PySem.W.looks_findIn X1 T.ini) (fun self => PySem.W.bind_fn X1 self T.tyI) hus ?_)
  refine init_ok (mb := mb) T B hno (X1.keeps kk) ((I1.mod.glob.keeps I1.bk).keeps kk) ((hb1.keeps I1.bk).keeps kk) hb2 (I1.nolimit.keeps kk) ?_ hlen hget hKe (fun h2 dx t1 tk2 k2 fr ne he2 hn2 => ?_)
  · have z := (hr.make C us []).depth
    exact z
  refine ⟨rfl, ?_⟩
  have kp : ∀ b o, hp.get? b = some o → h2.get? b = some o := fun b o z => k2 b o (fun e => by rw [e, hnone] at z; cases z) (kk _ _ z)
  have frp : hp.get? dx = none := by
    cases z : hp.get? dx with
    | none => rfl
    | some o => rw [kk _ _ z] at fr; cases fr
  have hd1 : H1 dx = none := L2.HOk.gone I1.hok frp
  have he1 : H1 (hp.objs.size + 1) = none := L2.HOk.gone I1.hok hnone
  obtain ⟨G, g1, g2⟩ := restrict h2 fun b => decide (b ≠ hp.objs.size + 1)
  have gk : ∀ b, b ≠ hp.objs.size + 1 → G.get? b = h2.get? b := fun b hb => g1 b (decide_eq_true hb)
  have ge : G.get? (hp.objs.size + 1) = none := g2 _ (by simp)
  have kG : ∀ b o, hp.get? b = some o → G.get? b = some o := fun b o z => by
    rw [gk b (fun e => by rw [e, hnone] at z; cases z)]
    exact kp b o z
  obtain ⟨m0, hm0, hme⟩ := hn2
  have hG : G.Ns1 dx m0 := hm0.at fun o z => (gk dx ne).trans z
  have J := I1.laidN (t' := tk2) (a := dx) (o := .xd (fs.zip vs)) kG frp hd1 ⟨m0, hG, fun y => by rw [hme]; exact relO_ns r1 hz y⟩
  exact ⟨hp.objs.size + 1, _, _, _, _, .ref C, some dx, rfl, J, fun b o z => by
      by_cases hb : b = hp.objs.size + 1
      · rw [hb, ge] at z; cases z
      · rw [← gk b hb]; exact z, ge, he2, ⟨rfl, rfl⟩, rfl, rfl, by rw [upd_ne (Ne.symm ne)]; exact he1, rfl, I1.bare, raises_own T.exC T.tyC, q1 dx hd1⟩
end VmX

namespace VmX
open PySem PySem.Spec PyProof.Rows L2
/-- one clause: its class, its name's slot, what its suite wishes -/
structure Cw where
  c : Value
  n : Option Nat
  ts : Addr → Value → Option Addr → TS
/-- the ends of a suite whose name is slot i -/
def endN (D : Ends) (i : Nat) : Ends := { nx := fun σ H => D.nx (σ.set i none) H, bk := fun σ H => D.bk (σ.set i none) H, ct := fun σ H => D.ct (σ.set i none) H, rt := D.rt }
def suiteW (q : Cw) (D : Ends) (a : Addr) (cls : Value) (d : Option Addr) (σ : L2.St) (H : Hp) : Prop := match q.n with
  | none => q.ts a cls d D σ H
  | some i => q.ts a cls d (endN D i) (σ.set i (some (.ref a))) H
def wL (K : PySem.W.Frag) (Wout : WX) (D : Ends) : List Cw → WX
  | [] => Wout
  | q :: r => fun cls d σ H => ∃ b, PySem.W.exmOne K cls q.c = some b ∧ (b = true → ∀ a, H a = none → suiteW q D a cls d σ H) ∧ (b = false → wL K Wout D r cls d σ H)
/-- the name of a clause and its slot -/
def NmOk (X : Cx) : Option Str → Option Nat → Prop
  | none, none => True
  | some y, some i => X.N[i]? = some y ∧ X.env.kindOf y = some .local
  | _, _ => False
inductive HdsL (X : Cx) : List ExceptHandler → List Cw → Prop
  | nil : HdsL X [] []
  | cons {x : Str} {on : Option Str} {q : Cw} {b₀ : Stmt} {suite : List Stmt} {np p : Pos} {hds : List ExceptHandler} {l : List Cw} : Names X x q.c → NmOk X on q.n →
      (∀ (a : Addr) (oe : Obj) (cls : Value) (d : Option Addr) (pn : List (Addr × Obj)), Zc cls d oe → (∃ vs, oe.data = .fields vs) → PSs (X.suite a ((a, oe) :: pn)) (b₀ :: suite) (q.ts a cls d)) →
      HdsL X hds l → HdsL X (.ExceptHandler (some (.Name x np)) on (b₀ :: suite) p :: hds) (q :: l)
section
variable {X : Cx} {pins : List (Addr × Obj)} {D : Ends} {f : Flow} {s : Shared}
theorem sp_try {xe : Value → Shared → Prop} (ok : X.Ok) (h : SP (X.tr (X.pn ++ pins) xe) [] D f s) : SP X pins D f s := by
  cases f
  case ret u => exact let ⟨v, σ, H, J, r, z⟩ := h; ⟨v, σ, H, J.ofTry ok, r, z⟩
  all_goals exact let ⟨σ, H, J, z⟩ := h; ⟨σ, H, J.ofTry ok, z⟩
theorem sp_suite {a : Addr} {q : Addr × Obj} (ok : X.Ok) (h : SP (X.suite a (q :: (X.pn ++ pins))) [] D f s) : SP X pins D f s := by
  cases f
  case ret u => exact let ⟨v, σ, H, J, r, z⟩ := h; ⟨v, σ, H, J.unsuite ok, r, z⟩
  all_goals exact let ⟨σ, H, J, z⟩ := h; ⟨σ, H, J.unsuite ok, z⟩
/-- behind a suite with a name: the name goes -/
theorem sp_named {a : Addr} {q : Addr × Obj} {i : Nat} {n : Str} {p : Pos} (ok : X.Ok) (hN : X.N.Nodup) (hi : X.N[i]? = some n) (hl : X.env.kindOf n = some .local) (h : SP (X.suite a (q :: (X.pn ++ pins))) [] (endN D i) f s) :
    wpAny (model X.prog X.w) X.A (do bindName X.env n .none; unbindBehindTheSuite X.env n p) (fun _ s' => SP X pins D f s') X.xe s := by
  cases f
  case ret u =>
    obtain ⟨v, σ, H, J, r, z⟩ := h
    exact gone_ok (J.unsuite ok) hN hi hl fun s' J' => ⟨v, _, H, J', r, z⟩
  all_goals
    obtain ⟨σ, H, J, z⟩ := h
    exact gone_ok (J.unsuite ok) hN hi hl fun s' J' => ⟨_, H, J', z⟩
/-- an exception caught on the ground: where it stands, what is known -/
structure Down (X : Cx) (pins : List (Addr × Obj)) (a : Addr) (B : Heap) (sI : Shared) (σ : L2.St) (H : Hp) (cls : Value) (d : Option Addr) (s : Shared) : Prop where
  fl : HandSPX.FlyingZ B (X.env :: X.outer) a (Zc cls d) s.heap
  I : Inv X pins σ H sI
  nb : ∀ b o, sI.heap.get? b = some o → b ∉ frs X.stack → B.get? b = some o
  up : sI.heap.UpToSlots s.heap
  os : s.os = sI.os
  ag : AllBare s.gens
  na : H a = none
variable {a : Addr} {B : Heap} {sI : Shared} {σ : L2.St} {H : Hp} {cls : Value} {d : Option Addr}
theorem Down.inv (x : Down X pins a B sI σ H cls d s) : Inv X pins σ H s := x.I.landed x.nb x.fl.1 x.up x.os x.ag
theorem Down.at_ (x : Down X pins a B sI σ H cls d s) (hs : X.stack = X.env :: X.outer) (hf : X.env.frame = some X.env.locals) : ∃ oe vs, s.heap.get? a = some oe ∧ Zc cls d oe ∧ oe.data = .fields vs ∧ a ≠ X.env.locals ∧ a ∉ X.fs := by
  obtain ⟨oe, vs, he, hz, hd⟩ := x.fl.there
  have no : ∀ e ∈ X.env :: X.outer, e.frame ≠ some a := fun e hm q => by
    obtain ⟨_, o, ho, nf⟩ := x.fl.2.2.1.mem (List.mem_filterMap.mpr ⟨e, hm, q⟩)
    have : o = oe := Option.some.inj (ho.symm.trans he)
    exact nf _ (this ▸ hd)
  refine ⟨oe, vs, he, hz, hd, fun z => no X.env (by simp) (by rw [hf, z]), fun z => ?_⟩
  obtain ⟨e, hm, q⟩ := List.mem_filterMap.mp z
  exact no e (by simp [hm]) q
theorem Down.suite (x : Down X pins a B sI σ H cls d s) (hs : X.stack = X.env :: X.outer) (hf : X.env.frame = some X.env.locals) : ∃ oe vs, Zc cls d oe ∧ oe.data = .fields vs ∧ s.heap.get? a = some oe ∧ Inv (X.suite a ((a, oe) :: (X.pn ++ pins))) [] σ H s := by
  obtain ⟨oe, vs, he, hz, hd, n1, n2⟩ := x.at_ hs hf
  exact ⟨oe, vs, hz, hd, he, x.inv.suite he hd x.na n1 n2⟩
/-- its flight is set to none once more -/
theorem Down.again (x : Down X pins a B sI σ H cls d s) {M : Model} {A : Around} {E : Value → Shared → Prop} {Q : Unit → Shared → Prop} (h : ∀ s', Down X pins a B sI σ H cls d s' → Q () s') : wpAny M A (setFlight (.ref a) none) Q E s :=
  HandSPX.lands_againZ x.fl fun h' fl up => h _ ⟨fl, x.I, x.nb, x.up.trans up, x.os, x.ag, x.na⟩
/-- the clauses, one after the other -/
theorem Down.clauses (hs : X.stack = X.env :: X.outer) (hf : X.env.frame = some X.env.locals) (hN : X.N.Nodup) {Wout : WX} (tk : Takes X Wout) (x : Down X pins a B sI σ H cls d s) :
    ∀ {hds : List ExceptHandler} {l : List Cw}, HdsL X hds l → wL X.K Wout D l cls d σ H → wpAny (model X.prog X.w) X.A (handleBy (.ref a) X.env hds) (SP X pins D) X.xe s := by
  intro hds l hl
  induction hl with
  | nil =>
    intro w
    refine wpAny_handleBy_nil ?_
    obtain ⟨oe, vs, T, oT, ts, he, hz, hd, h1, _⟩ := x.fl.2.2.2
    have away : wpAny (model X.prog X.w) X.A (setFlight (.ref a) X.env.frame) (fun _ s' => wpAny (model X.prog X.w) X.A (throw (.ref a) : Sem Flow) (SP X pins D) X.xe s') X.xe s := by
      rw [hf]
      exact HandSPX.setFlight_upZ x.fl fun h' hh up => wpAny_throw (tk _ _ ⟨a, B, sI, pins, σ, H, cls, d, rfl, x.I, x.nb, x.up.trans up, .inr (.inr (hs ▸ hh)), x.na, x.os, x.ag, w⟩)
    have hne : ¬ ((Value.ref T == Value.none) = true) := by simp
    unfold PySem.passOn
    refine wpAny_bind (wpAny_field he hd h1 ?_)
    rw [if_neg hne]
    first
      | exact wpAny_bind away
      | exact wpAny_bind (wpAny_pure (wpAny_bind away))
  | @cons y on q b₀ suite np p hds l hc hn hsu _ ih =>
    rintro ⟨b, hb, yes, no⟩
    obtain ⟨oe, vs, hz, hd, he, J⟩ := x.suite hs hf
    refine wpAny_handleBy_cons (codeAny_handlers_test ?_) (fun z => by cases z)
    have ty : PySem.W.Looks (model X.prog X.w) s.heap (typeOf (.ref a)) cls := fun _ _ _ _ k z => wpAny_typeOf_ref (k _ _ he) (by rw [hz.1]; exact z)
    have read : ∀ {Q E : Value → Shared → Prop}, Q q.c s → wpAny (model X.prog X.w) (X.A.mark (some (.ref a))) (eval (.Name y np) X.env) Q E s := fun {Q E} z => by
      obtain ⟨g1, g2, g3⟩ := hc
      rcases g3 with g3 | ⟨g3, g4, g5⟩
      · exact ld_glob (X := X.suite a ((a, oe) :: (X.pn ++ pins))) J g1 g3 z g2
      · exact ld_blt (X := X.suite a ((a, oe) :: (X.pn ++ pins))) J g1 g3 g4 z g5 g2
    refine read ((PySem.W.exm_one (M := model X.prog X.w) x.inv.kIn ty hb).here ?_)
    cases b with
    | false => exact ih (no rfl)
    | true =>
      have w := yes rfl a x.na
      obtain ⟨qc, qn, qt⟩ := q
      cases qn with
      | none =>
        cases on with
        | some _ => exact False.elim hn
        | none =>
          refine codeAny_handlers_suite (x.again fun s' x' => ?_)
          obtain ⟨oe', vs', hz', hd', _, J'⟩ := x'.suite hs hf
          exact wpAny_mono ((hsu a oe' cls d _ hz' ⟨vs', hd'⟩).run [] s' _ _ D J' w) (fun f s2 z => sp_suite x'.inv.ok z) fun _ _ z => False.elim z
      | some i =>
        cases on with
        | none => exact False.elim hn
        | some n =>
          obtain ⟨hi, hl⟩ := hn
          refine codeAny_handlers_suite_as (x.again fun s' x' => ?_)
          obtain ⟨oe', vs', hz', hd', _, J'⟩ := x'.suite hs hf
          refine store_ok (X := X.suite a ((a, oe') :: (X.pn ++ pins))) (v := .ref a) J' hN hi (.inl hl) rfl (fun s2 J2 => ?_) (.inr hl)
          exact wpAny_mono ((hsu a oe' cls d _ hz' ⟨vs', hd'⟩).run [] s2 _ _ _ J2 w) (fun f s3 z => sp_named x'.inv.ok hN hi hl z) fun _ _ z => False.elim z
end
section
variable {X : Cx} {body : List Stmt} {h₀ : ExceptHandler} {hds : List ExceptHandler} {l : List Cw} {pos : Pos} {tb : WX → TS} {Wout : WX}
theorem ps_tryL (hs : X.stack = X.env :: X.outer) (hf : X.env.frame = some X.env.locals) (hN : X.N.Nodup) (tk : Takes X Wout)
    (hb : ∀ (W : WX) (pn : List (Addr × Obj)) (xe : Value → Shared → Prop), Takes (X.tr pn xe) W → PassesOwn (model X.prog X.w) X.A X.env xe → PSs (X.tr pn xe) body (tb W)) (hh : HdsL X (h₀ :: hds) l) :
    PS X (.Try body (h₀ :: hds) [] [] pos) (fun D σ H => tb (wL X.K Wout D l) D σ H) := by
  constructor
  intro pins s σ H D I h
  have fr : X.A.frames = some (X.env :: X.outer) := hs ▸ I.ok.frames
  apply wpAny_Try_except
  refine wpAny_mono ((hb (wL X.K Wout D l) (X.pn ++ pins) (fun e s1 => wpAny (model X.prog X.w) X.A (noteFrame e X.env) (fun _ s2 => wpAny (model X.prog X.w) X.A (setFlight e none) (fun _ s3 => wpAny (model X.prog X.w) X.A (handleBy e X.env (h₀ :: hds)) (SP X pins D) X.xe s3) X.xe s2) X.xe s1) ?_ PassesOwn.looking).run [] s σ H D (I.toTry _) h) (fun f s1 z => ?_) fun _ _ z => z
  · rintro u s' ⟨a, B, sI, pins', σ', H', cls, d, rfl, J, nb, up, sky, na, os, ag, w⟩
    have J0 : Inv X pins σ' H' sI := J.ofTry I.ok
    refine Sky.land Zc.steady fr hf (hs ▸ sky) fun h3 fl up3 => ?_
    exact Down.clauses (s := { s' with heap := h3 }) hs hf hN tk ⟨fl, J0, nb, up.trans up3, os, ag, na⟩ hh w
  · have z := sp_try I.ok z
    cases f
    case next => exact wpAny_execs_nil z
    all_goals exact z
end
/-- isinstance(e, c) in a suite, e with fields or without -/
theorem call_isX {X : Cx} {a D : Addr} {oe : Obj} {d : Option Addr} {pn : List (Addr × Obj)} (C : ExcC X.K D) (hz : Zc (.ref D) d oe) (hf : ∃ vs, oe.data = .fields vs) : CallR (X.suite a ((a, oe) :: pn)) (.builtin "isinstance")
    (fun xs H Q => ∃ (c : V) (cv : Value) (b : Bool), xs = [.ref a, c] ∧ (∀ u, RelV c u → u = cv) ∧ PySem.W.kitOne X.K (.ref D) cv = some b ∧ (∀ dd, d = some dd → ∃ fs, H dd = some (.xd fs)) ∧ Q (.bl b) H) := by
  intro pins s σ H xs us Q I r h
  obtain ⟨c, cv, b, rfl, hcv, e, hd, q⟩ := h
  obtain ⟨u, u2, rfl⟩ : ∃ u u2, us = [u, u2] := by
    cases r with
    | cons _ r => cases r with
      | cons _ r => cases r; exact ⟨_, _, rfl⟩
  cases r with
  | cons rx r =>
  cases r with
  | cons rt r =>
  obtain rfl : u = Value.ref a := rx
  obtain rfl := hcv _ rt
  obtain ⟨hget, _⟩ := I.pin (a, oe) (by simp)
  obtain ⟨vs, hv⟩ := hf
  have J : ∃ od, PySem.W.InstAt s.heap a oe D od := by
    cases d with
    | none => exact ⟨none, hget, hz.1, by unfold PySem.W.notCls; rw [hv], by rw [hz.2]; trivial⟩
    | some dd =>
      obtain ⟨fs, hx⟩ := hd dd rfl
      obtain ⟨mA, hns, _⟩ := I.hok dd _ hx
      obtain ⟨od, ho, _⟩ := lookIn_ns hns
      exact ⟨some od, hget, hz.1, by unfold PySem.W.notCls; rw [hv], by rw [hz.2]; exact ho⟩
  obtain ⟨od, J⟩ := J
  have hcl : (PySem.W.clsIn X.K D).isSome = true := by
    obtain ⟨cd, hc, _⟩ := PySem.W.any_some C.hd
    rw [hc] <;> rfl
  exact PySem.W.kia_one (PySem.W.kitx_exc (gt := none) hcl C.hg C.hk C.hs C.ha C.hn C.ht C.hm) I.kIn J e (fun z => nomatch z) fun tk => ⟨.bl b, H, I.kept (t' := tk) fun _ _ z => z, rfl, q⟩
end VmX

namespace Vm
open PySem L2 Evl
/-- from the entry to now -/
structure At (T : Tb) (pin : List Nat) (v : St) (S H : Hp) (C : Nat → List Addr) (v' : St) (s' : Env) (S' H' : Hp) (C' : Nat → List Addr) : Prop where
  g : Good T v' s' S' H' C'
  st : Step S H C S' H' C'
  pn : ∀ i ∈ pin, v'[i]? = v[i]?
def PSt (T : Tb) (pin : List Nat) (v : St) (S H : Hp) (C : Nat → List Addr) (E : WX) (D : Ends) : SR → Prop
  | .nx s => ∀ v' S' H' C', At T pin v S H C v' s S' H' C' → D.nx v' H'
  | .bk s => ∀ v' S' H' C', At T pin v S H C v' s S' H' C' → D.bk v' H'
  | .ct s => ∀ v' S' H' C', At T pin v S H C v' s S' H' C' → D.ct v' H'
  | .rt o s => ∀ v' S' H' C' x c, At T pin v S H C v' s S' H' C' → Ow T S' H' x o c → c.Nodup → (∀ a ∈ c, ¬ Cl C' a) → (∀ a ∈ c, H a = none ∨ ∃ i, i ∉ pin ∧ a ∈ C i) → D.rt x H'
  | .ex k fs s => ∀ v' S' H' C' d, At T pin v S H C v' s S' H' C' → XF T S' H' d fs → E (.ref (T.ca k)) d v' H'
  | .er => False
section
variable {T : Tb} {pin : List Nat} {v : St} {s : Env} {S H : Hp} {C : Nat → List Addr} {E : WX} {D : Ends}
theorem At.refl (g : Good T v s S H C) : At T pin v S H C v s S H C := ⟨g, Step.refl, fun _ _ => rfl⟩
theorem At.trans {v1 v2 : St} {s1 s2 : Env} {S1 H1 S2 H2 : Hp} {C1 C2 : Nat → List Addr} (a : At T pin v S H C v1 s1 S1 H1 C1) (b : At T pin v1 S1 H1 C1 v2 s2 S2 H2 C2) : At T pin v S H C v2 s2 S2 H2 C2 :=
  ⟨b.g, a.st.trans b.st, fun i hi => (b.pn i hi).trans (a.pn i hi)⟩
theorem PSt.step {v1 : St} {s1 : Env} {S1 H1 : Hp} {C1 : Nat → List Addr} (a : At T pin v S H C v1 s1 S1 H1 C1) {r : SR} (h : PSt T pin v S H C E D r) : PSt T pin v1 S1 H1 C1 E D r := by
  cases r with
  | nx s => exact fun v' S' H' C' b => h v' S' H' C' (a.trans b)
  | bk s => exact fun v' S' H' C' b => h v' S' H' C' (a.trans b)
  | ct s => exact fun v' S' H' C' b => h v' S' H' C' (a.trans b)
  | rt o s =>
    refine fun v' S' H' C' x c b ow nd dj fr => h v' S' H' C' x c (a.trans b) ow nd dj fun q hq => ?_
    rcases fr q hq with z | ⟨i, hi, z⟩
    · exact .inl (a.st.th q z)
    · rcases a.st.cc i q z with z | z
      · exact .inr ⟨i, hi, z⟩
      · exact .inl z
  | ex k fs s => exact fun v' S' H' C' d b => h v' S' H' C' d (a.trans b)
  | er => exact h
theorem At.of (g : Good T v s S H C) {s1 : Env} {S1 H1 : Hp} {C1 : Nat → List Addr} (g1 : Good T v s1 S1 H1 C1) (st : Step S H C S1 H1 C1) : At T pin v S H C v s1 S1 H1 C1 := ⟨g1, st, fun _ _ => rfl⟩
theorem PSt.x {k : Nat} {fs : List (Nat × Vm.D)} (h : PSt T pin v S H C E D (.ex k fs s)) : PX T v S H C E k fs s := fun S' H' cell d x => h v S' H' cell d ⟨x.g, x.st, fun _ _ => rfl⟩ x.x
theorem PSt.ofO {r : R O} {K : O → Env → SR} {Q : VK} (h : PSt T pin v S H C E D (r.st K))
    (go : ∀ o s1, r = .ok o s1 → ∀ x S1 H1 C1 c, Res T v s1 S H C S1 H1 C1 x o c → PSt T pin v S1 H1 C1 E D (K o s1) → PSt T pin v S H C E D (K o s1) → Q x H1) : PO T v S H C E Q r := by
  cases r with
  | ok o s1 => exact fun x S1 H1 C1 c r => go o s1 rfl x S1 H1 C1 c r (PSt.step ⟨r.g, r.st, fun _ _ => rfl⟩ h) h
  | ex k fs s1 => exact PSt.x h
  | er => exact h
theorem PSt.ofD {r : R Vm.D} {K : Vm.D → Env → SR} {Q : VK} (h : PSt T pin v S H C E D (r.st K))
    (go : ∀ d s1, r = .ok d s1 → ∀ x S1 H1 C1, Good T v s1 S1 H1 C1 → Hd T S1 x d → Step S H C S1 H1 C1 → PSt T pin v S1 H1 C1 E D (K d s1) → Q x H1) : PD T v S H C E Q r := by
  cases r with
  | ok o s1 => exact fun x S1 H1 C1 g hd st => go o s1 rfl x S1 H1 C1 g hd st (PSt.step ⟨g, st, fun _ _ => rfl⟩ h)
  | ex k fs s1 => exact PSt.x h
  | er => exact h
theorem PSt.ofB {r : R Bool} {K : Bool → Env → SR} {Q : Bool → Hp → Prop} (h : PSt T pin v S H C E D (r.st K))
    (go : ∀ d s1, r = .ok d s1 → ∀ S1 H1 C1, Good T v s1 S1 H1 C1 → Step S H C S1 H1 C1 → PSt T pin v S1 H1 C1 E D (K d s1) → Q d H1) : PB T v S H C E Q r := by
  cases r with
  | ok o s1 => exact fun S1 H1 C1 g st => go o s1 rfl S1 H1 C1 g st (PSt.step ⟨g, st, fun _ _ => rfl⟩ h)
  | ex k fs s1 => exact PSt.x h
  | er => exact h
theorem PSt.ofA {r : R A} {rest : Vm.E} {K : A → Env → SR} {Q : VK} (h : PSt T pin v S H C E D (r.st K))
    (go : ∀ d s1, r = .ok d s1 → ∀ x S1 H1 C1, Good T v s1 S1 H1 C1 → Opd T v S1 H1 x d → firm rest d → Step S H C S1 H1 C1 → PSt T pin v S1 H1 C1 E D (K d s1) → Q x H1) : PA' T v S H C E rest Q r := by
  cases r with
  | ok o s1 => exact fun x S1 H1 C1 g hd f st => go o s1 rfl x S1 H1 C1 g hd f st (PSt.step ⟨g, st, fun _ _ => rfl⟩ h)
  | ex k fs s1 => exact PSt.x h
  | er => exact h
theorem okS_ok {α : Type} {o : Option α} {K : α → SR} (h : PSt T pin v S H C E D (okS o K)) : ∃ a, o = some a ∧ PSt T pin v S H C E D (K a) := by
  cases o with
  | none => exact False.elim h
  | some a => exact ⟨a, rfl, h⟩
/-- a heap changed within what is owned -/
theorem Step.put {S1 H1 H2 : Hp} {C1 C2 : Nat → List Addr} (st : Step S H C S1 H1 C1) (h1 : ∀ a u, H1 a = some u → ¬ Cl C1 a → H2 a = some u) (h2 : ∀ a, H2 a = none → H1 a = none) (h3 : ∀ i a, a ∈ C2 i → a ∈ C1 i ∨ H a = none) : Step S H C S1 H2 C2 where
  ss := st.ss
  si := st.si
  hh := fun a u h n => h1 a u (st.hh a u h n) fun z => (st.cl z).elim n fun z => by rw [h] at z; cases z
  th := fun a h => st.th a (h2 a h)
  cc := fun i a h => (h3 i a h).elim (st.cc i a) .inr
/-- name = value -/
theorem asg_at {S1 H1 : Hp} {C1 : Nat → List Addr} {i : Nat} {x : V} {o : O} {c : List Addr} {s1 : Env} (r : Res T v s1 S H C S1 H1 C1 x o c) (hi : i ∉ pin) : ∃ C2, At T pin v S H C (v.set i (some x)) (s1.set i (some o)) S1 H1 C2 := by
  have pn : ∀ j ∈ pin, (v.set i (some x))[j]? = v[j]? := fun j hj => List.getElem?_set_ne (fun z => hi (by rw [z]; exact hj))
  by_cases hl : i < v.length
  · refine ⟨setC C1 i c, r.g.put r.o r.nd (fun a ha j _ z => r.dj a ha ⟨j, z⟩) hl, r.st.put (fun _ _ h _ => h) (fun _ h => h) (fun j a ha => ?_), pn⟩
    by_cases e : j = i
    · subst e; rw [setC_same] at ha; exact .inr (r.fr a ha)
    · rw [setC_ne e] at ha; exact .inl ha
  · have e1 : v.set i (some x) = v := List.set_eq_of_length_le (by omega)
    have e2 : s1.set i (some o) = s1 := List.set_eq_of_length_le (by rw [r.g.ln]; omega)
    rw [e1, e2]
    exact ⟨C1, r.g, r.st, fun _ _ => rfl⟩
/-- o.f = value among the fields -/
theorem OwF.put {f : Nat} {y : V} {o : O} {cy : List Addr} : ∀ {q : Nat} {fv : List (Str × V)} {fs : List (Nat × O)} {cs : List Addr}, OwF T S H q fv fs cs → NoAttr T.K (T.ca q) (T.nm f) → Ow T S H y o cy → cs.Nodup → cy.Nodup → (∀ a ∈ cy, a ∉ cs) →
    ∃ cs', OwF T S H q (putF (T.nm f) y fv) (setF f o fs) cs' ∧ cs'.Nodup ∧ ∀ a ∈ cs', a ∈ cs ∨ a ∈ cy
  | _, _, _, _, .nil, hn, ow, _, nd, _ => ⟨cy ++ [], .cons hn ow .nil, by simpa using nd, fun a ha => .inr (by simpa using ha)⟩
  | _, _, _, _, .cons (f := g) (v := w) (o := u) (vs := vs) (os := os) (c1 := c1) (c2 := c2) n h l, hn, ow, nc, nd, dj => by
    obtain ⟨n1, n2, n3⟩ := List.nodup_append.mp nc
    unfold putF setF
    by_cases e : g = f
    · subst e
      rw [if_pos rfl, if_pos rfl]
      refine ⟨cy ++ c2, .cons n ow l, List.nodup_append.mpr ⟨nd, n2, fun a ha b hb z => dj a ha (by rw [z]; exact List.mem_append_right _ hb)⟩, fun a ha => ?_⟩
      rcases List.mem_append.mp ha with z | z
      · exact .inr z
      · exact .inl (List.mem_append_right _ z)
    · rw [if_neg (fun z => e (T.inj _ _ z)), if_neg e]
      obtain ⟨cs', k1, k2, k3⟩ := OwF.put l hn ow n2 nd fun a ha z => dj a ha (List.mem_append_right _ z)
      refine ⟨c1 ++ cs', .cons n h k1, List.nodup_append.mpr ⟨n1, k2, fun a ha b hb z => ?_⟩, fun a ha => ?_⟩
      · subst z
        rcases k3 a hb with z | z
        · exact n3 a ha a z rfl
        · exact dj a z (List.mem_append_left _ ha)
      · rcases List.mem_append.mp ha with z | z
        · exact .inl (List.mem_append_left _ z)
        · exact (k3 a z).imp (List.mem_append_right _) id
theorem fld_at {G : Ct} {S1 H1 : Hp} {C1 : Nat → List Addr} {i f : Nat} {y : V} {o u u' : O} {c : List Addr} {s1 : Env} (r : Res T v s1 S H C S1 H1 C1 y o c) (hu : s1[i]? = some (some u)) (hf : fldO G.toCs u f o = some u') (na : ∀ k, T.isC k → G.fld k f = true → NoAttr T.K (T.ca k) (T.nm f)) :
    ∃ a k dx fv C2, v[i]? = some (some (.ref a)) ∧ H1 a = some (.ins (T.ca k) dx fv) ∧ T.isC k ∧ NoAttr T.K (T.ca k) (T.nm f) ∧ fv.length < 1000 ∧ At T pin v S H C v (s1.set i (some u')) S1 (upd H1 a (.ins (T.ca k) dx (putF (T.nm f) y fv))) C2 := by
  unfold fldO at hf
  split at hf
  · rename_i k fs
    split at hf
    · rename_i hc
      cases hf
      obtain ⟨x, hx, ow⟩ := r.g.sl i _ hu
      generalize hci : C1 i = ci at ow
      cases ow with
      | @oo p dx _ fv _ cs ic hp hs l =>
        have hn := na k ic hc.2
        have hnd := r.g.nd i
        rw [hci] at hnd
        obtain ⟨np, ncs⟩ := List.nodup_cons.mp hnd
        have pC : Cl C1 p := ⟨i, by rw [hci]; simp⟩
        have djc : ∀ a ∈ c, a ∉ cs := fun a ha z => r.dj a ha ⟨i, by rw [hci]; exact List.mem_cons_of_mem _ z⟩
        obtain ⟨cs', k1, k2, k3⟩ := OwF.put l hn r.o ncs r.nd djc
        have np' : p ∉ cs' := fun z => (k3 p z).elim np fun z => r.dj p z pC
        have hl : fv.length < 1000 := by rw [l.len]; omega
        -- the slot apart, the heap changed, the slot again
        have g1 := r.g.drop i
        have nC : ¬ Cl (setC C1 i []) p := fun ⟨j, hj⟩ => by
          by_cases e : j = i
          · subst e; rw [setC_same] at hj; cases hj
          · rw [setC_ne e] at hj
            exact e (r.g.dj j i p hj (by rw [hci]; simp))
        have g2 := g1.updO (D := p) (o := .ins (T.ca k) dx (putF (T.nm f) y fv)) hs nC
        have hS' : ∀ a ∈ cs', S1 a = none := fun a ha => (k1.no a ha).1
        have ow2 : Ow T S1 (upd H1 p (.ins (T.ca k) dx (putF (T.nm f) y fv))) (.ref p) (.oo k (setF f o fs)) (p :: cs') :=
          .oo ic upd_same hs (k1.mono (Ex.refl S1) (fun a ha w hw => by rw [upd_ne (fun z : a = p => np' (by rw [← z]; exact ha))]; exact hw) hS')
        have hi : i < v.length := (List.getElem?_eq_some_iff.mp hx).1
        have g3 := g2.put (i := i) ow2 (List.nodup_cons.mpr ⟨np', k2⟩) (fun a ha j hj z => by
          rw [setC_ne hj] at z
          rcases List.mem_cons.mp ha with e | ha
          · rw [e] at z
            exact hj (r.g.dj j i p z (by rw [hci]; simp))
          · rcases k3 a ha with e | e
            · exact hj (r.g.dj j i a z (by rw [hci]; exact List.mem_cons_of_mem _ e))
            · exact r.dj a e ⟨j, z⟩) hi
        have ev : v.set i (some (.ref p)) = v := by
          apply List.ext_getElem?
          intro j
          by_cases hj : j = i
          · subst hj; rw [List.getElem?_set_self hi, hx]
          · rw [List.getElem?_set_ne (Ne.symm hj)]
        rw [ev, List.set_set] at g3
        refine ⟨p, k, dx, fv, _, hx, hp, ic, hn, hl, g3, r.st.put (fun a w hw nc => ?_) (fun a ha => ?_) (fun j a ha => ?_), fun _ _ => rfl⟩
        · rw [upd_ne (fun z : a = p => nc (by rw [z]; exact pC))]; exact hw
        · by_cases e : a = p
          · subst e; rw [upd_same] at ha; cases ha
          · rw [upd_ne e] at ha; exact ha
        · by_cases e : j = i
          · subst e
            rw [setC_same] at ha
            rcases List.mem_cons.mp ha with e | ha
            · rw [e]; exact .inl (by rw [hci]; simp)
            · rcases k3 a ha with e | e
              · exact .inl (by rw [hci]; exact List.mem_cons_of_mem _ e)
              · exact .inr (r.fr a e)
          · rw [setC_ne e, setC_ne e] at ha
            exact .inl ha
    · cases hf
  · cases hf
end
end Vm

namespace Vm
open PySem L2 Evl VmX
/-- what the top has left of the exceptions' classes -/
structure Xf (T : Tx) (t : Tt) (G : Ct) (mg : Str → Option Value) (P : Program) : Prop where
  nm : ∀ c x, t.xn c = some x → mg x = some (.ref (T.ca c))
  isV : mg "ValueError" = none
  pl : ∀ c, G.xf c = some [] → PySem.W.excIn T.K (T.ca c) He.veBase "ValueError.__new__" = true ∧ PySem.W.keepIn T.K (.ref (T.ca c)) = true ∧ PySem.W.subIn T.K (.ref (T.ca c)) (.type "BaseException") = some true ∧ PySem.W.typeIn T.K (.ref (T.ca c)) = some (.type "type")
  su : ∀ c f r, G.xf c = some (f :: r) → ∃ fI name qual params body scope, SupC T.K P (T.ca c) fI name qual params body scope ∧ SupB params body ((f :: r).map T.nm)
  no : ∀ c fl f, G.xf c = some fl → f ∈ fl → PySem.W.findIn T.K (.ref (T.ca c)) (T.nm f) = some none
  kc : ∀ c c' x, (G.xf c).isSome = true → t.xn c' = some x → PySem.W.kitOne T.K (.ref (T.ca c)) (.ref (T.ca c')) = some (G.sub c c') ∧ PySem.W.exmOne T.K (.ref (T.ca c)) (.ref (T.ca c')) = some (G.sub c c')
  kv : ∀ c, (G.xf c).isSome = true → PySem.W.kitOne T.K (.ref (T.ca c)) (.type "ValueError") = some true
  xc : ∀ c, (G.xf c).isSome = true → ExcC T.K (T.ca c) ∧ XfC T.K (T.ca c)
end Vm

namespace Vm
open PySem L2 Evl
inductive Sp' where
  | one (st : Stmt) | many (sts : List Stmt)
def lcB : Expr → Bool
  | .ListComp _ _ _ _ => true
  | _ => false
/-- a list comprehension that a name's store takes over -/
def swB (sc : Scope) (y : Str) (py : Pos) : Expr → Bool
  | .ListComp _ _ scope pos => lclB sc y && (py.line == pos.line) && !(scope.names.any fun (n, k) => n == y && (k == .local || k == .cell))
  | _ => false
def augB : Operator → Bool
  | .Add | .Sub => true
  | _ => false
def cellB (sc : Scope) (y : Str) : Bool := match sc.names.lookup y with
  | some .cell => true
  | _ => false
section
variable (t : Tt) (N : List Str)
/-- the suite of an except clause -/
def hchkS (sc : Scope) (n : Option (Nat × Str)) : HS → Sp' → Bool
  | .nvr, _ => true
  | .nop, .many [] => true
  | .seq a b, .many (st :: r) => hchkS sc n a (.one st) && hchkS sc n b (.many r)
  | .ife c a b, .one (.If x as bs _) => tstB x && hchk t N sc n c (.ex x) && hchkS sc n a (.many as) && hchkS sc n b (.many bs)
  | .ret e, .one (.Return (some x) _) => hchk t N sc n e (.ex x)
  | _, _ => false
def nmPr : Option Nat → Option Str → Option (Nat × Str)
  | some i, some y => some (i, y)
  | _, _ => none
def nmHB (sc : Scope) : Option Nat → Option Str → Bool
  | none, none => true
  | some i, some y => N[i]? == some y && lclB sc y
  | _, _ => false
def hcB (sc : Scope) : List Hc → List ExceptHandler → Bool
  | [], [] => true
  | h :: r, .ExceptHandler (some (.Name x _)) on (b₀ :: suite) _ :: hds => decide (t.xn h.c = some x) && glB sc x && !odd x && nmHB N sc h.n on && hchkS t N sc (nmPr h.n on) h.h (.many (b₀ :: suite)) && hcB sc r hds
  | _, _ => false
def chkS (sc : Scope) : S → Sp' → Bool
  | .nvr, _ => true
  | .nop, .many [] => true
  | .pas, .one (.Pass _) => true
  | .seq a b, .many (st :: r) => chkS sc a (.one st) && chkS sc b (.many r)
  | .expr e, .one (.Expr x _) => !isComp x && chk t N sc e (.ex x)
  | .asg i e, .one (.Assign [.Name y py] x _) => N[i]? == some y && locB sc y && (!isComp x || swB sc y py x || (lcB x && cellB sc y)) && chk t N sc e (.ex x)
  | .sub a i e, .one (.Assign [.Subscript o ix _] x _) => !isComp x && !sliceB ix && chk t N sc a (.ex o) && chk t N sc i (.ex ix) && chk t N sc e (.ex x)
  | .fld (.var i) f e, .one (.Assign [.Attribute o n _] x _) => decide (n = t.nm f) && !isComp x && chk t N sc (.var i) (.ex o) && chk t N sc e (.ex x)
  | .aug i op e, .one (.AugAssign (.Name y _) o x _) => N[i]? == some y && locB sc y && (decide (o = op) && augB o) && chk t N sc e (.ex x)
  | .app a e, .one (.Expr (.Call (.Attribute o n apos) [x] [] pos) _) => n == ("append" : Str) && lineB apos pos && !superB o && !starB x && chk t N sc a (.ex o) && chk t N sc e (.ex x)
  | .inl a i e, .one (.Expr (.Call (.Attribute o n apos) [x, y] [] pos) _) => n == ("insert" : Str) && lineB apos pos && !superB o && !starB x && !starB y && chk t N sc a (.ex o) && chk t N sc i (.ex x) && chk t N sc e (.ex y)
  | .ife c a b, .one (.If x as bs _) => tstB x && chk t N sc c (.ex x) && chkS sc a (.many as) && chkS sc b (.many bs)
  | .augs a i op e, .one (.AugAssign (.Subscript o ix _) op' x _) => decide (op' = op) && augB op' && !sliceB ix && chk t N sc a (.ex o) && chk t N sc i (.ex ix) && chk t N sc e (.ex x)
  | .augf (.var i) f op e, .one (.AugAssign (.Attribute o n _) op' x _) => decide (op' = op) && augB op' && decide (n = t.nm f) && chk t N sc (.var i) (.ex o) && chk t N sc e (.ex x)
  | .unpm l e, .one (.Assign [.Tuple es _ _] x _) => nmsB N (locB sc) l es && !isComp x && !dispB x && chk t N sc e (.ex x)
  | .del a i, .one (.Delete [.Subscript o ix _] _) => !sliceB ix && chk t N sc a (.ex o) && chk t N sc i (.ex ix)
  | .for_ tg it b, .one (.For y x body [] _) => tgB N sc tg y && !setB x && okT it y && chk t N sc it (.it x) && chkS sc b (.many body)
  | .whl c b, .one (.While x body [] _) => tstB x && chk t N sc c (.ex x) && chkS sc b (.many body)
  | .ret e, .one (.Return (some x) _) => chk t N sc e (.ex x)
  | .retn, .one (.Return none _) => true
  | .rse c as, .one (.Raise (some (.Call (.Name x _) (e :: es) [] _)) none _) => decide (t.xn c = some x) && glB sc x && !odd x && chk t N sc as (.ar (e :: es))
  | .rsp c, .one (.Raise (some (.Call (.Name x _) [.Constant (.str _) _ _] [] _)) none _) => decide (t.xn c = some x) && glB sc x && !odd x
  | .try_ b cs, .one (.Try body (h :: hds) [] [] _) => chkS sc b (.many body) && hcB t N sc cs (h :: hds)
  | .brk, .one (.Break _) => true
  | .cnt, .one (.Continue _) => true
  | _, _ => false
end
section
variable {T : Tx} {t : Tt} {N : List Str} {G : Ct} {CX : CXT} {E : WX} {k : Nat} {sc : Scope} {X : Cx} {pin : List Nat} {v : St} {s : Env} {S H : Hp} {C : Nat → List Addr} {D : Ends}
/-- where a def's body stands -/
structure Xs (T : Tx) (t : Tt) (N : List Str) (G : Ct) (CX : CXT) (E : WX) (k : Nat) (sc : Scope) (X : Cx) : Prop extends Xk T t N G CX E k sc X where
  own : PassesOwn (model X.prog X.w) X.A X.env X.xe
  kind : X.env.scope.kind = .function
  fnT : ∀ y, X.fn y = true
  tk : Takes X E
  stk : X.stack = X.env :: X.outer
  frm : X.env.frame = some X.env.locals
  cx : CX = L2.CX X.prog X.w
  xf : Xf T t G X.mg X.prog
variable (T t N G) in
def SndS (b : Vm.S) (sc : Scope) : Sp' → Prop
  | .one st => ∀ {CX : CXT} {E : WX} {k : Nat} {X : Cx}, Xs T t N G CX E k sc X → ∀ {pin : List Nat} {v : St} {s : Env} {S H : Hp} {C : Nat → List Addr} {D : Ends}, Good T.toTb v s S H C → PSt T.toTb pin v S H C E D (evS G pin b s) → wS X st D v H
  | .many sts => ∀ {CX : CXT} {E : WX} {k : Nat} {X : Cx}, Xs T t N G CX E k sc X → ∀ {pin : List Nat} {v : St} {s : Env} {S H : Hp} {C : Nat → List Addr} {D : Ends}, Good T.toTb v s S H C → PSt T.toTb pin v S H C E D (evS G pin b s) → wSs X sts D v H
theorem st_seq {a b : Vm.S} {st : Stmt} {r : List Stmt} (ha : SndS T t N G a sc (.one st)) (hb : SndS T t N G b sc (.many r)) : SndS T t N G (.seq a b) sc (.many (st :: r)) := by
  intro CX E k X x pin v s S H C D g q
  have q : PSt T.toTb pin v S H C E D ((evS G pin a s).seq fun s => evS G pin b s) := q
  refine ⟨_, pss_cons (wS_ok st) (wSs_ok r), ?_⟩
  show wS X st { D with nx := wSs X r D } v H
  refine ha x (pin := pin) g ?_
  cases hr : evS G pin a s with
  | nx s1 => rw [hr] at q; exact fun v' S' H' C' a => hb x a.g (PSt.step a q)
  | rt o s1 => rw [hr] at q; exact q
  | bk s1 => rw [hr] at q; exact q
  | ct s1 => rw [hr] at q; exact q
  | ex c fs s1 => rw [hr] at q; exact q
  | er => rw [hr] at q; exact False.elim q
theorem st_nop : SndS T t N G .nop sc (.many []) := by
  intro CX E k X x pin v s S H C D g q
  exact ⟨_, pss_nil, q v S H C (At.refl g)⟩
theorem st_pas {p : Pos} : SndS T t N G .pas sc (.one (.Pass p)) := by
  intro CX E k X x pin v s S H C D g q
  exact ⟨_, ps_pass, q v S H C (At.refl g)⟩
theorem st_brk {p : Pos} : SndS T t N G .brk sc (.one (.Break p)) := by
  intro CX E k X x pin v s S H C D g q
  exact ⟨_, ps_break, q v S H C (At.refl g)⟩
theorem st_cnt {p : Pos} : SndS T t N G .cnt sc (.one (.Continue p)) := by
  intro CX E k X x pin v s S H C D g q
  exact ⟨_, ps_continue, q v S H C (At.refl g)⟩
theorem st_retn {p : Pos} : SndS T t N G .retn sc (.one (.Return none p)) := by
  intro CX E k X x pin v s S H C D g q
  exact ⟨_, ps_retN, q v S H C .non [] (At.refl g) (.sh .non) .nil (fun a ha => by cases ha) fun a ha => by cases ha⟩
theorem st_nvr {p : Sp'} : SndS T t N G .nvr sc p := by
  cases p with
  | one st => intro CX E k X x pin v s S H C D g q; exact False.elim q
  | many st => intro CX E k X x pin v s S H C D g q; exact False.elim q
theorem st_expr {e : Vm.E} {x : Expr} {p : Pos} (he : SndE T t N G e sc x) (hn : isComp x = false) : SndS T t N G (.expr e) sc (.one (.Expr x p)) := by
  intro CX E k X xx pin v s S H C D g q
  have q : PSt T.toTb pin v S H C E D ((asO (ev G e s)).st fun _ s => .nx s) := q
  refine ⟨_, ps_expr (wE_ok x) (swaps_not hn), ?_⟩
  show wE X x v H fun _ H1 => D.nx v H1
  exact he xx.toXk g (PSt.ofO q fun o s1 _ y S1 H1 C1 c r q1 _ => q1 v S1 H1 C1 (At.refl r.g))
theorem st_ife {c : Vm.E} {a b : Vm.S} {x : Expr} {as bs : List Stmt} {p : Pos} (hc : SndT T t N G c sc x) (ha : SndS T t N G a sc (.many as)) (hb : SndS T t N G b sc (.many bs)) : SndS T t N G (.ife c a b) sc (.one (.If x as bs p)) := by
  intro CX E k X xx pin v s S H C D g q
  have q : PSt T.toTb pin v S H C E D ((tru c s (ev G c s)).st fun k s => if k = true then evS G pin a s else evS G pin b s) := q
  refine ⟨_, ps_if (wT_ok x) (wSs_ok as) (wSs_ok bs), ?_⟩
  refine hc xx.toXk g (PSt.ofB q fun d s1 _ S1 H1 C1 g1 st q1 => ?_)
  cases d with
  | true => exact ha xx g1 q1
  | false => exact hb xx g1 q1
theorem st_asg {i : Nat} {e : Vm.E} {y : Str} {x : Expr} {py p : Pos} (hi : N[i]? = some y) (hy : locB sc y = true) (he : SndE T t N G e sc x) (hsw : ∀ {CX : CXT} {E : WX} {k : Nat} {X : Cx}, Xs T t N G CX E k sc X → swapsWith x (some (.Name y py)) p.line X.env = pure false) : SndS T t N G (.asg i e) sc (.one (.Assign [.Name y py] x p)) := by
  intro CX E k X xx pin v s S H C D g q
  have q : PSt T.toTb pin v S H C E D ((asO (ev G e s)).st fun o s => put pin i o s) := q
  refine ⟨_, ps_set xx.nd (by rw [xx.N]; exact hi) (by rw [xx.sc]; exact loc_of hy) (wE_ok x) (hsw xx) (.inl (xx.fnT y)), ?_⟩
  refine he xx.toXk g (PSt.ofO q fun o s1 _ y1 S1 H1 C1 c r _ q1 => ?_)
  unfold put at q1
  split at q1
  · exact False.elim q1
  · rename_i hn
    obtain ⟨C2, a⟩ := asg_at (pin := pin) r hn
    exact q1 _ _ _ _ a
theorem st_setLc {i : Nat} {vs : List Nat} {tg : Tg} {it ts el : Vm.E} {y : Str} {elt tgt iter : Expr} {ifs : List Expr} {scope : Scope} {py pos p : Pos} (hi : N[i]? = some y) (hc : CompC t N sc vs tg it ts el elt tgt iter ifs scope) (hit : SndI T t N G it sc iter) (hts : (ts = .nil ∧ ifs = []) ∨ ∃ c, ifs = [c] ∧ SndT T t N G ts (relS scope sc) c ∧ ts ≠ .nil) (hel : SndE T t N G el (relS scope sc) elt)
    (hl : lclB sc y = true) (hln : (py.line == pos.line) = true) (ha : (scope.names.any fun (n, k) => n == y && (k == .local || k == .cell)) = false) : SndS T t N G (.asg i (.comp vs tg it ts el)) sc (.one (.Assign [.Name y py] (.ListComp elt [⟨tgt, iter, ifs, 0⟩] scope pos) p)) := by
  intro CX E k X xx pin v s S H C D g q
  have q : PSt T.toTb pin v S H C E D ((asO (ev G (.comp vs tg it ts el) s)).st fun o s => put pin i o s) := q
  have hyl : sc.names.lookup y = some .local := by
    unfold lclB at hl
    split at hl
    · assumption
    · cases hl
  refine snd_setLc hit hc.blk hc.tgc hc.tv hc.set hc.okt hts hel xx.toXk xx.kind hi hyl hln ha g (PSt.ofO q fun o s1 _ y1 S1 H1 C1 c r _ q1 => ?_)
  unfold put at q1
  split at q1
  · exact False.elim q1
  · rename_i hn
    obtain ⟨C2, a⟩ := asg_at (pin := pin) r hn
    exact q1 _ _ _ _ a
theorem st_fld {i f : Nat} {e : Vm.E} {o x : Expr} {n : Str} {p2 p : Pos} (hn : n = t.nm f) (hc : isComp x = false) (ho : chk t N sc (.var i) (.ex o) = true) (he : SndE T t N G e sc x) : SndS T t N G (.fld (.var i) f e) sc (.one (.Assign [.Attribute o n p2] x p)) := by
  intro CX E k X xx pin v s S H C D g q
  have q : PSt T.toTb pin v S H C E D ((asO (ev G e s)).st fun v s => okS (getP s ⟨i, []⟩) fun o => okS (fldO G.toCs o f v) fun o => .nx (setP s ⟨i, []⟩ o)) := q
  rw [xx.fx.nm] at hn
  subst hn
  refine ⟨_, ps_fld (wE_ok o) (wE_ok x) (swaps_not hc), ?_⟩
  refine he xx.toXk g (PSt.ofO q fun u s1 _ y1 S1 H1 C1 c r _ q1 => ?_)
  obtain ⟨u0, hu, q2⟩ := okS_ok q1
  obtain ⟨u1, hf, q3⟩ := okS_ok q2
  have hs : s1[i]? = some (some u0) := by
    unfold getP at hu
    split at hu
    · rename_i o0 heq
      have hu : some o0 = some u0 := by simpa [getO] using hu
      rw [← hu]; exact heq
    · cases hu
  obtain ⟨a, kk, dx, fv, C2, h1, h2, h3, h4, h5, at2⟩ := fld_at (pin := pin) r hs hf fun kk ic h => xx.fx.na kk f ic h
  cases o <;> first | (cases ho; done) | skip
  refine wE_var xx.toXk ho h1 ⟨a, T.ca kk, dx, fv, rfl, h2, ?_, ?_, h5, ?_⟩
  · rw [xx.K]; exact T.cls kk h3
  · rw [xx.K]; exact h4
  · have es : setP s1 ⟨i, []⟩ u1 = s1.set i (some u1) := by
      unfold setP
      rw [hs]
      have : setO u0 [] u1 = u1 := by cases u0 <;> rfl
      show s1.set i (some (setO u0 [] u1)) = _
      rw [this]
    rw [es] at q3
    exact q3 v _ _ C2 at2
theorem st_aug {i : Nat} {op : Operator} {e : Vm.E} {y : Str} {x : Expr} {p2 p : Pos} (hi : N[i]? = some y) (hy : locB sc y = true) (he : SndE T t N G e sc x) (hop : op = .Add ∨ op = .Sub) : SndS T t N G (.aug i op e) sc (.one (.AugAssign (.Name y p2) op x p)) := by
  intro CX E k X xx pin v s S H C D g q
  have q : PSt T.toTb pin v S H C E D (match s[i]? with
    | some (some (.sh x)) => (asD (ev G e s)).st fun y s => okS (augD op x y) fun d => put pin i (.sh d) s
    | _ => .er) := q
  split at q
  · rename_i d0 hs
    obtain ⟨y0, h1, h2⟩ := g.sl i _ hs
    generalize C i = ci at h2
    cases h2 with
    | sh hd =>
      have go : ∀ {ti : TIp} {f : Int → Int → Int}, ti = ipI f → PIp X op ti → (∀ d d1 d2, augD op d d1 = some d2 → ∃ i j, d = .int i ∧ d1 = .int j ∧ d2 = .int (f i j)) → wS X (.AugAssign (.Name y p2) op x p) D v H := fun {ti f} eti hp hf => by
        refine ⟨_, ps_aug xx.nd (by rw [xx.N]; exact hi) (by rw [xx.sc]; exact loc_of hy) (wE_ok x) hp (.inl (xx.fnT y)), y0, h1, ?_⟩
        refine he.d xx.toXk g (PSt.ofD q fun d1 s1 _ y1 S1 H1 C1 g1 hd1 st1 q1 => ?_)
        obtain ⟨d2, h3, q2⟩ := okS_ok q1
        obtain ⟨a, b, e1, e2, e3⟩ := hf _ _ _ h3
        subst e1 e2 e3
        cases hd
        cases hd1
        rw [eti]
        refine ⟨a, b, rfl, rfl, ?_⟩
        unfold put at q2
        split at q2
        · exact False.elim q2
        · rename_i hn
          obtain ⟨C2, at2⟩ := asg_at (pin := pin) (i := i) (Res.sh g1 (.int (f a b)) Step.refl) hn
          exact q2 _ _ _ _ at2
      rcases hop with rfl | rfl
      · refine go rfl ip_add fun d d1 d2 h => ?_
        cases d <;> cases d1 <;> first | (cases h; done) | (cases h; exact ⟨_, _, rfl, rfl, rfl⟩)
      · refine go rfl ip_sub fun d d1 d2 h => ?_
        cases d <;> cases d1 <;> first | (cases h; done) | (cases h; exact ⟨_, _, rfl, rfl, rfl⟩)
  · exact False.elim q
end
end Vm

namespace Vm
open PySem L2 Evl
section
variable {T : Tx} {t : Tt} {N : List Str} {G : Ct} {CX : CXT} {E : WX} {k : Nat} {sc : Scope} {X : Cx} {pin : List Nat} {v : St} {s : Env} {S H : Hp} {C : Nat → List Addr} {D : Ends}
/-- the second expression, the first operand kept, in a statement -/
theorem SndE.dkS {b : Vm.E} {e : Expr} (h : SndE T t N G b sc e) (hc : chk t N sc b (.ex e) = true) (x : Xk T t N G CX E k sc X) {y : V} {a : A} (o : Opd T.toTb v S H y a) (f : firm b a) {Q : VK} {K : Vm.D → Env → SR}
    (g : Good T.toTb v s S H C) (q : PSt T.toTb pin v S H C E D ((asD (ev G b s)).st K))
    (go : ∀ d s1, asD (ev G b s) = .ok d s1 → ∀ z S1 H1 C1, Good T.toTb v s1 S1 H1 C1 → Hd T.toTb S1 z d → Opd T.toTb v S1 H1 y a → Step S H C S1 H1 C1 → PSt T.toTb pin v S1 H1 C1 E D (K d s1) → Q z H1) : wE X e v H Q := by
  by_cases hn : ∀ p, a = .ref p → p.fs = []
  · exact h.d x g (PSt.ofD q fun d s1 hr z S1 H1 C1 g1 hd st q1 => go d s1 hr z S1 H1 C1 g1 hd (o.step st (.inr hn)) st q1)
  · have hs : simple b = true := by
      cases a with
      | val d => exact absurd (fun p z => by cases z) hn
      | ref p =>
        rcases f with z | z
        · exact absurd (fun p' z' => by cases z'; exact z) hn
        · exact z
    cases hr : asD (ev G b s) with
    | ok d s1 =>
      rw [hr] at q
      obtain ⟨z, S1, C1, g1, hd, st, wq⟩ := simple_e x hs hc g hr
      exact wq Q (go d s1 hr z S1 H C1 g1 hd (o.step st (.inl rfl)) st (PSt.step ⟨g1, st, fun _ _ => rfl⟩ q))
    | ex c fs s1 =>
      rw [hr] at q
      refine h.d x g ?_
      rw [hr]
      exact PSt.x q
    | er => rw [hr] at q; exact False.elim q
/-- an owned list at an operand's place -/
theorem HdK.any {T : Tb} {S : Hp} (kk : Int) : ∀ {vs : List (Key × V)} {l : List (Int × Vm.D)}, HdK T S vs l → (vs.any fun kv => decide (kv.1 = Sum.inl kk)) = l.any fun q => decide (q.1 = kk)
  | _, _, .nil => rfl
  | _, _, .cons (k := j) h k => by
    rw [List.any_cons, List.any_cons, HdK.any kk k]
    congr 1
    by_cases e : j = kk
    · simp [e]
    · have : ¬ (Sum.inl j : Key) = Sum.inl kk := fun z => e (by injection z)
      simp [e]
theorem HdK.rep {T : Tb} {S : Hp} {w : V} {d : Vm.D} (kk : Int) (hd : Hd T S w d) : ∀ {vs : List (Key × V)} {l : List (Int × Vm.D)}, HdK T S vs l → HdK T S (vs.map fun kv => if kv.1 = Sum.inl kk then (kv.1, w) else kv) (l.map fun q => if q.1 = kk then (q.1, d) else q)
  | _, _, .nil => .nil
  | _, _, .cons (k := j) h k => by
    rw [List.map_cons, List.map_cons]
    by_cases e : j = kk
    · have : (Sum.inl j : Key) = Sum.inl kk := by rw [e]
      rw [if_pos this, if_pos e]
      exact .cons hd (HdK.rep kk hd k)
    · have : ¬ (Sum.inl j : Key) = Sum.inl kk := fun z => e (by injection z)
      rw [if_neg this, if_neg e]
      exact .cons h (HdK.rep kk hd k)
theorem HdK.app {T : Tb} {S : Hp} : ∀ {vs ws : List (Key × V)} {l m : List (Int × Vm.D)}, HdK T S vs l → HdK T S ws m → HdK T S (vs ++ ws) (l ++ m)
  | _, _, _, _, .nil, h => h
  | _, _, _, _, .cons h k, h2 => .cons h (HdK.app k h2)
theorem HdK.set {T : Tb} {S : Hp} {w : V} {d : Vm.D} (kk : Int) (hd : Hd T S w d) {vs : List (Key × V)} {l : List (Int × Vm.D)} (k : HdK T S vs l) : HdK T S (putK vs (.inl kk) w) (setK kk d l) := by
  unfold putK setK
  rw [k.any kk]
  split
  · exact k.rep kk hd
  · exact k.app (.cons hd .nil)
/-- an owned dict changes -/
theorem opd_dct (g : Good T.toTb v s S H C) {y : V} {p : Pth} (o : Opd T.toTb v S H y (.ref p)) {l : List (Int × Vm.D)} (h : getP s p = some (.od l)) :
    ∃ a vs, y = .ref a ∧ H a = some (.dK vs) ∧ HdK T.toTb S vs l ∧ ∀ (l' : List (Int × Vm.D)) (vs' : List (Key × V)), HdK T.toTb S vs' l' → ∃ C', Good T.toTb v (setP s p (.od l')) S (upd H a (.dK vs')) C' ∧ Step S H C S (upd H a (.dK vs')) C' := by
  cases o with
  | @ref r _ hr dn =>
    obtain ⟨r', w, cu, sp⟩ := g.at h
    have er : r = r' := by
      have e' := sp.root
      rw [hr] at e'
      cases e'; rfl
    subst er
    have e2 := Dn.uniq dn sp.dn
    subst e2
    have ow := sp.ow
    generalize hcu : cu = cu' at ow
    cases ow with
    | @od a vs _ h1 h3 h4 =>
      subst hcu
      refine ⟨a, vs, rfl, h1, h4, fun l' vs' k => ?_⟩
      have hca : Cl C a := ⟨_, sp.sub a (by simp)⟩
      obtain ⟨cell', g', hc⟩ := sp.go S (upd H a (.dK vs')) (.od l') [a] (.inl rfl) (.od upd_same h3 k) (by simp) (Ex.refl S) (Ex.mut g.ex h3)
        (fun b hb hn => ⟨fun o ho => by rw [upd_ne (by simpa using hn)]; exact ho, (g.noC hb).1⟩) (fun b hb _ => hb)
      refine ⟨cell', g', ⟨Ex.refl S, fun _ _ _ => rfl, fun b o ho hn => ?_, fun b hb => ?_, fun j b hb => .inl ((hc j b hb).elim (fun z => z.1) fun z => ?_)⟩⟩
      · have hne : b ≠ a := fun z => by subst z; exact hn hca
        rw [upd_ne hne]
        exact ho
      · by_cases e : b = a
        · subst e; rw [upd_same] at hb; cases hb
        · rw [upd_ne e] at hb; exact hb
      · obtain ⟨z1, z2⟩ := z
        subst z1
        have : b = a := by simpa using z2
        subst this
        exact sp.sub b (by simp)
theorem st_sub {a i e : Vm.E} {o ix x : Expr} {p2 p : Pos} (hc : isComp x = false) (hs : sliceB ix = false) (ha : SndE T t N G a sc o) (hca : chk t N sc a (.ex o) = true) (hi : SndE T t N G i sc ix) (hci : chk t N sc i (.ex ix) = true) (he : SndE T t N G e sc x) : SndS T t N G (.sub a i e) sc (.one (.Assign [.Subscript o ix p2] x p)) := by
  intro CX E k X xx pin v s S H C D g q
  have q : PSt T.toTb pin v S H C E D ((asD (ev G e s)).st fun d s => (pk a i s (ev G a s)).st fun x s => (asD (ev G i s)).st fun k s => match x with
    | .ref p => okS (getP s p) fun o => (match clsO o with
      | some c => okS (G.mth c 15) fun g => (callF G.F g [.ref p, .val k, .val d] s).st fun _ s => .nx s
      | none => okS (subO o k d) fun o => .nx (setP s p o))
    | .val _ => .er) := q
  have hsw : swapsWith x (some (.Subscript o ix p2)) p.line X.env = pure false := swaps_not hc
  refine ⟨_, ps_subS (wE_ok o) (wE_ok ix) (wE_ok x) hsw, ?_⟩
  show wE X x v H fun y H1 => wE X o v H1 fun o1 H2 => wE X ix v H2 fun i1 H3 => wSetS X v o1 i1 y H3 fun H4 => D.nx v H4
  refine he.d xx.toXk g (PSt.ofD q fun d s1 _ y1 S1 H1 C1 g1 hd st1 q1 => ?_)
  refine ha.p hca xx.toXk g1 (PSt.ofA q1 fun z s2 _ y2 S2 H2 C2 g2 oz fz st2 q2 => ?_)
  refine hi.dkS hci xx.toXk oz fz g2 q2 fun kd s3 hr3 y3 S3 H3 C3 g3 hk oz3 st3 q3 => ?_
  cases z with
  | val _ => exact False.elim q3
  | ref p =>
    obtain ⟨o3, ho, q4⟩ := okS_ok q3
    have hd3 := hd.mono (st2.trans st3).ss
    cases hcl : clsO o3 with
    | some c =>
      rw [hcl] at q4
      obtain ⟨gg, hg, q5⟩ := okS_ok q4
      obtain ⟨c0, ow⟩ := opd_ow g3 oz3 ho
      obtain ⟨a', dx, fv, e1, e2, ic, _⟩ := view_cls g3.ex ow hcl
      obtain ⟨f1, f2, f3, f4⟩ := xx.fx.setm c gg ic hg
      rw [← xx.K] at f1 f2 f3 f4
      have q6 : PO T.toTb v S3 H3 C3 E (fun _ H' => D.nx v H') (callF G.F gg [.ref p, .val kd, .val d] s3) := PSt.ofO q5 fun o s4 _ w S4 H4 C4 c4 r q7 _ => q7 v S4 H4 C4 (At.refl r.g)
      obtain ⟨os, sp⟩ := call_ok g3 (.cons oz3 (.cons (.val hk) (.cons (.val hd3) .nil))) q6
      exact wSetS_own f1 f2 f3 (xx.fn gg) xx.r0 f4 (xx.pass v) ⟨a', dx, fv, e1, e2, xx.sp sp⟩
    | none =>
      rw [hcl] at q4
      obtain ⟨o4, hsu, q5⟩ := okS_ok q4
      unfold subO at hsu
      split at hsu
      · rename_i l kk
        cases hj : L2.ixN l.length kk with
        | none => rw [hj] at hsu; cases hsu
        | some j =>
          rw [hj] at hsu
          cases hsu
          obtain ⟨a, vs, e1, h1, hl, ch⟩ := opd_lst g3 oz3 ho
          cases hk
          obtain ⟨C4, g4, st4⟩ := ch (l.set j d) (vs.set j y1) (hl.set j hd3)
          exact wSetS_of set_list ⟨a, vs, kk, j, e1, rfl, h1, by rw [hl.len]; exact hj, q5 v _ _ C4 ⟨g4, st4, fun _ _ => rfl⟩⟩
      · rename_i l kk
        split at hsu
        · rename_i hlen
          cases hsu
          obtain ⟨a, vs, e1, h1, hl, ch⟩ := opd_dct g3 oz3 ho
          cases hk
          obtain ⟨C4, g4, st4⟩ := ch (setK kk d l) (putK vs (.inl kk) y1) (HdK.set kk hd3 hl)
          refine wSetS_of (set_dict (Nat.lt_of_le_of_lt (by omega) xx.hu)) ⟨a, _, e1, DPut.k (k := .inl kk) h1 ?_, q5 v _ _ C4 ⟨g4, st4, fun _ _ => rfl⟩⟩
          rw [hl.len]
          exact lim_lt hlen
        · cases hsu
      · cases hsu
theorem get_list : PGet X (rIxL X.K) := by
  intro pins s σ H o i ov iv Q I ro ri h
  obtain ⟨p, xs, k, z, rfl, rfl, hq, he, q⟩ := h
  cases ro
  obtain ⟨t, rfl⟩ := ri
  obtain ⟨its, r, pl, hz⟩ := I.list hq
  obtain ⟨j, h1, h2, h3, h4, h5⟩ := atI_get he
  obtain ⟨w, ew, rw'⟩ := r.get h2
  have hl := r.length
  have hn := line63
  have fin : EP X pins σ Q w s := ⟨z, H, I, rw', q⟩
  by_cases h0 : 0 ≤ k
  · have hj : k.toNat = j := by
      rw [seqIndex_of h0 h5] at h1
      exact Option.some.inj h1
    exact wpAny_getItem_list pl.isList h0 (by omega) (by rw [hj]; simpa using ew) fin
  · have hj : (k + (its.toArray.size : Int)).toNat = j := by
      rw [seqIndex_neg (by omega) h4] at h1
      rw [List.size_toArray, ← hl]
      exact Option.some.inj h1
    exact wpAny_getItem_list_neg pl.isList (by omega) (by rw [List.size_toArray, ← hl]; omega) (by omega) (by rw [hj]; simpa using ew) fin
theorem augD_add {d d1 d2 : Vm.D} (h : augD .Add d d1 = some d2) : ∃ i j, d = .int i ∧ d1 = .int j ∧ d2 = .int (i + j) := by
  cases d <;> cases d1 <;> first | (cases h; done) | skip
  cases h
  exact ⟨_, _, rfl, rfl, rfl⟩
theorem augD_sub {d d1 d2 : Vm.D} (h : augD .Sub d d1 = some d2) : ∃ i j, d = .int i ∧ d1 = .int j ∧ d2 = .int (i - j) := by
  cases d <;> cases d1 <;> first | (cases h; done) | skip
  cases h
  exact ⟨_, _, rfl, rfl, rfl⟩
/-- x[i] op= e of a list -/
theorem st_augs {a i e : Vm.E} {op : Operator} {o ix x : Expr} {p2 p : Pos} (hop : op = .Add ∨ op = .Sub) (hs : sliceB ix = false) (ha : SndE T t N G a sc o) (hca : chk t N sc a (.ex o) = true) (hi : SndE T t N G i sc ix) (hci : chk t N sc i (.ex ix) = true) (he : SndE T t N G e sc x) (hce : chk t N sc e (.ex x) = true) : SndS T t N G (.augs a i op e) sc (.one (.AugAssign (.Subscript o ix p2) op x p)) := by
  intro CX E k X xx pin v s S H C D g q
  have q : PSt T.toTb pin v S H C E D ((pk a (.cons i e) s (ev G a s)).st fun x s => (asD (ev G i s)).st fun k s => okS (x.res s) fun o => okS (olO o) fun o => okS (idxO o k) fun d => (asD (ev G e s)).st fun y s => okS (augD op d y) fun z => match x with
    | .ref p => okS (getP s p) fun o => okS (olO o) fun o => okS (subO o k z) fun o => .nx (setP s p o)
    | .val _ => .er) := q
  have hst : ∀ ov iv new, augStore ix ov iv new = (do holding [new, ov, iv] (setItem ov iv new); release [new, ov, iv] []; pure .next) := by
    intro ov iv new
    cases ix <;> first | rfl | cases hs
  have go : ∀ {f : Int → Int → Int}, PIp X op (ipI f) → (∀ d d1 d2, augD op d d1 = some d2 → ∃ i j, d = .int i ∧ d1 = .int j ∧ d2 = .int (f i j)) → wS X (.AugAssign (.Subscript o ix p2) op x p) D v H := fun {f} hp hf => by
    refine ⟨_, ps_augS (wE_ok o) (wE_ok ix) get_list (wE_ok x) hp set_list hst, ?_⟩
    show wE X o v H fun o1 H1 => wE X ix v H1 fun i1 H2 => rIxL X.K o1 i1 H2 fun x1 H3 => wE X x v H3 fun y1 H4 => ipI f x1 y1 H4 fun z1 H5 => rSetL o1 i1 z1 H5 fun H6 => D.nx v H6
    refine ha.p hca xx.toXk g (PSt.ofA q fun z s2 _ y2 S2 H2 C2 g2 oz fz st2 q2 => ?_)
    have f1 : firm i z := by
      cases z with
      | val d => trivial
      | ref p => exact fz.imp id fun w => (b2 w).1
    have f2 : firm e z := by
      cases z with
      | val d => trivial
      | ref p => exact fz.imp id fun w => (b2 w).2
    refine hi.dkS hci xx.toXk oz f1 g2 q2 fun kd s3 hr3 y3 S3 H3 C3 g3 hk oz3 st3 q3 => ?_
    obtain ⟨o3, ho, q4⟩ := okS_ok q3
    obtain ⟨o4, ho4, q5⟩ := okS_ok q4
    obtain ⟨d, hd, q6⟩ := okS_ok q5
    cases o3 <;> first | (cases ho4; done) | skip
    cases ho4
    rename_i l
    obtain ⟨c0, ow⟩ := opd_ow g3 oz3 ho
    obtain ⟨a3, vs, e3, h3, hl⟩ := view_lst g3.ex ow rfl
    unfold idxO at hd
    cases kd <;> first | (cases hd; done) | skip
    rename_i kk
    have hd : atD l kk = some d := hd
    obtain ⟨w, hw, hdw⟩ := at_ok hl hd
    cases hk
    refine ⟨a3, vs, kk, w, e3, rfl, sq_of h3, hw, ?_⟩
    refine he.dkS hce xx.toXk oz3 f2 g3 q6 fun d1 s4 hr4 y4 S4 H4 C4 g4 hd4 oz4 st4 q7 => ?_
    obtain ⟨d2, hd2, q8⟩ := okS_ok q7
    obtain ⟨i0, j0, rfl, rfl, rfl⟩ := hf _ _ _ hd2
    cases hdw
    cases hd4
    refine ⟨i0, j0, rfl, rfl, ?_⟩
    cases z with
    | val _ => exact False.elim q8
    | ref pp =>
      obtain ⟨o5, ho5, q9⟩ := okS_ok q8
      obtain ⟨o6, ho6, q10⟩ := okS_ok q9
      obtain ⟨o7, hsu, q11⟩ := okS_ok q10
      cases o5 <;> first | (cases ho6; done) | skip
      cases ho6
      rename_i l5
      have hsu : ((L2.ixN l5.length kk).map fun j => O.ol (l5.set j (.int (f i0 j0)))) = some o7 := hsu
      cases hj : L2.ixN l5.length kk with
      | none => rw [hj] at hsu; cases hsu
      | some j =>
        rw [hj] at hsu
        cases hsu
        obtain ⟨a5, vs5, e5, h5, hl5, ch⟩ := opd_lst g4 oz4 ho5
        obtain ⟨C6, g6, st6⟩ := ch (l5.set j (.int (f i0 j0))) (vs5.set j (.int (f i0 j0))) (hl5.set j (.int _))
        exact ⟨a5, vs5, kk, j, e5, rfl, h5, by rw [hl5.len]; exact hj, q11 v _ _ C6 ⟨g6, st6, fun _ _ => rfl⟩⟩
  rcases hop with rfl | rfl
  · exact go ip_add fun d d1 d2 h => augD_add h
  · exact go ip_sub fun d d1 d2 h => augD_sub h
/-- x.f op= e, x a name -/
theorem st_augf {i f : Nat} {e : Vm.E} {op : Operator} {o x : Expr} {n : Str} {p2 p : Pos} (hop : op = .Add ∨ op = .Sub) (hn : n = t.nm f) (hca : chk t N sc (.var i) (.ex o) = true) (he : SndE T t N G e sc x) : SndS T t N G (.augf (.var i) f op e) sc (.one (.AugAssign (.Attribute o n p2) op x p)) := by
  intro CX E k X xx pin v s S H C D g q
  have q : PSt T.toTb pin v S H C E D (okS ((getP s ⟨i, []⟩).bind clsO) fun c => okS (getP s ⟨i, [f]⟩) fun o => okS (shO o) fun x => (asD (ev G e s)).st fun y s => okS (augD op x y) fun d => okS (getP s ⟨i, []⟩) fun o => if clsO o = some c then okS (fldO G.toCs o f (.sh d)) fun o => .nx (setP s ⟨i, []⟩ o) else .er) := q
  rw [xx.fx.nm] at hn
  subst hn
  have go : ∀ {g0 : Int → Int → Int} {rd : V → V → Hp → VK → Prop}, (∀ i j H (Q : VK), Q (.int (g0 i j)) H → rd (.int i) (.int j) H Q) → InOp X op rd → (∀ d d1 d2, augD op d d1 = some d2 → ∃ i j, d = .int i ∧ d1 = .int j ∧ d2 = .int (g0 i j)) → wS X (.AugAssign (.Attribute o (T.nm f) p2) op x p) D v H := fun {g0 rd} hrd hop hf => by
    refine ⟨_, ps_fldaug (wE_ok o) (wE_ok x) hop, ?_⟩
    obtain ⟨cc, hcc, q⟩ := okS_ok q
    obtain ⟨o1, ho1, q1⟩ := okS_ok q
    obtain ⟨d1, hd1, q2⟩ := okS_ok q1
    cases o1 <;> first | (cases hd1; done) | skip
    cases hd1
    rename_i d1
    obtain ⟨r, w, cu, sp⟩ := g.at ho1
    obtain ⟨a, K0, dx, fv, u0, rfl, ha, hl, cl, na, e4⟩ := sp.dn
    have e4 : u0 = w := e4
    subst e4
    have hdw : Hd T.toTb S u0 d1 := by
      cases sp.ow with
      | sh h => exact h
    refine wE_plc xx.toXk (.var i) o ⟨i, []⟩ hca rfl sp.root rfl ?_
    refine ⟨a, K0, dx, fv, u0, rfl, ha, by rw [xx.K]; exact cl, by rw [xx.K]; exact na, hl, ?_⟩
    refine he.d xx.toXk g (PSt.ofD q2 fun d2 s2 _ y2 S2 H2 C2 g2 hd2 st2 q3 => ?_)
    obtain ⟨d3, hd3, q4⟩ := okS_ok q3
    obtain ⟨o5, ho5, q5⟩ := okS_ok q4
    split at q5
    rotate_left
    · exact False.elim q5
    rename_i hcl5
    obtain ⟨o6, ho6, q6⟩ := okS_ok q5
    obtain ⟨i0, j0, rfl, rfl, rfl⟩ := hf _ _ _ hd3
    cases hdw
    cases hd2
    refine hrd _ _ _ _ ?_
    have hs5 : s2[i]? = some (some o5) := by
      unfold getP at ho5
      cases e : s2[i]? with
      | none => rw [e] at ho5; cases ho5
      | some q => 
        cases q with
        | none => rw [e] at ho5; cases ho5
        | some o => rw [e] at ho5; simp [getO] at ho5; rw [ho5]
    have rr : Res T.toTb v s2 S2 H2 C2 S2 H2 C2 (.int (g0 i0 j0)) (.sh (.int (g0 i0 j0))) [] := ⟨g2, .sh (.int _), .nil, fun a h => (by cases h), fun a h => (by cases h), Step.refl⟩
    obtain ⟨a', k', dx', fv', C3, e1, e2, ic, hna, hlen, at3⟩ := fld_at (pin := pin) (G := G) rr hs5 ho6 (fun k h1 h2 => xx.fx.na k f h1 h2)
    have ea : a' = a := by
      have e0 := sp.root
      have e0 : v[i]? = some (some (.ref a)) := e0
      rw [e0] at e1
      cases e1; rfl
    subst ea
    have same : T.ca k' = K0 := by
      have h1 : T.ca cc = K0 := by
        cases hu : getP s ⟨i, []⟩ with
        | none => rw [hu] at hcc; cases hcc
        | some u =>
          rw [hu] at hcc
          obtain ⟨r7, w7, cu7, sp7⟩ := g.at hu
          have e7 : r7 = w7 := sp7.dn
          subst e7
          obtain ⟨a7, dx7, fv7, e8, e9, _⟩ := view_cls g.ex sp7.ow hcc
          have r0 : v[i]? = some (some r7) := sp7.root
          have r1 : v[i]? = some (some (.ref a')) := sp.root
          rw [r1] at r0
          cases r0
          cases e8
          rw [ha] at e9
          cases e9
          rfl
      have h2 : T.ca k' = T.ca cc := by
        obtain ⟨x8, hx8, ow8⟩ := g2.sl i o5 hs5
        obtain ⟨a8, dx8, fv8, e8, e9, _⟩ := view_cls g2.ex ow8 hcl5
        rw [e1] at hx8
        cases hx8
        cases e8
        rw [e2] at e9
        injection e9 with e9
        injection e9
      rw [h2, h1]
    subst same
    refine ⟨dx', fv', e2, hlen, ?_⟩
    have es : setP s2 ⟨i, []⟩ o6 = s2.set i (some o6) := by
      unfold setP
      rw [hs5]
      cases o5 <;> rfl
    rw [es] at q6
    exact q6 _ _ _ _ at3
  rcases hop with rfl | rfl
  · exact go (g0 := fun i j => i + j) (fun i j H Q h => ⟨i, j, rfl, rfl, h⟩) in_add fun d d1 d2 h => augD_add h
  · exact go (g0 := fun i j => i - j) (fun i j H Q h => ⟨i, j, rfl, rfl, h⟩) in_sub fun d d1 d2 h => augD_sub h
/-- del x[i] of a list -/
theorem st_del {a i : Vm.E} {o ix : Expr} {p2 p : Pos} (hs : sliceB ix = false) (ha : SndE T t N G a sc o) (hca : chk t N sc a (.ex o) = true) (hi : SndE T t N G i sc ix) (hci : chk t N sc i (.ex ix) = true) : SndS T t N G (.del a i) sc (.one (.Delete [.Subscript o ix p2] p)) := by
  intro CX E k X xx pin v s S H C D g q
  have q : PSt T.toTb pin v S H C E D ((pk a i s (ev G a s)).st fun x s => okS (isL (x.res s)) fun _ => (asD (ev G i s)).st fun k s => match x with
    | .ref p => okS (getP s p) fun o => okS (delO o k) fun o => .nx (setP s p o)
    | .val _ => .er) := q
  refine ⟨_, ps_delL (wE_ok o) (wE_ok ix), ?_⟩
  refine ha.p hca xx.toXk g (PSt.ofA q fun z s2 _ y2 S2 H2 C2 g2 oz fz st2 q2 => ?_)
  obtain ⟨_, _, q2⟩ := okS_ok q2
  refine hi.dkS hci xx.toXk oz fz g2 q2 fun kd s3 hr3 y3 S3 H3 C3 g3 hk oz3 st3 q3 => ?_
  cases z with
  | val _ => exact False.elim q3
  | ref pp =>
    obtain ⟨o5, ho5, q4⟩ := okS_ok q3
    obtain ⟨o6, hd, q5⟩ := okS_ok q4
    unfold delO at hd
    split at hd
    · rename_i l kk
      split at hd
      · rename_i hb
        cases hj : L2.ixN l.length kk with
        | none => rw [hj] at hd; cases hd
        | some j =>
          rw [hj] at hd
          cases hd
          obtain ⟨a5, vs5, e5, h5, hl5, ch⟩ := opd_lst g3 oz3 ho5
          obtain ⟨C6, g6, st6⟩ := ch (l.eraseIdx j) (vs5.eraseIdx j) (hl5.erase j)
          cases hk
          obtain ⟨z1, z2, z3, z4⟩ := ixN_seq hj
          exact ⟨a5, vs5, kk, j, e5, rfl, h5, by omega, by omega, by rw [hl5.len]; exact z1, q5 v _ _ C6 ⟨g6, st6, fun _ _ => rfl⟩⟩
      · cases hd
    · cases hd
theorem few1 {e : Expr} {env : PySem.Env} {pos : Pos} (h : starB e = false) : ((backTo pos (starEach [e] env)).all (fun x => !x.1) && (backToKw pos (keywordEach [] env)).all (fun x => x.1.isSome)
      && decide ([e].length + ([] : List Keyword).length + (if ([] : List Keyword).isEmpty then 0 else 1) < 30)) = true := by
  rw [star_of h]; rfl
theorem few2 {e e' : Expr} {env : PySem.Env} {pos : Pos} (h : starB e = false) (h' : starB e' = false) : ((backTo pos (starEach [e, e'] env)).all (fun x => !x.1) && (backToKw pos (keywordEach [] env)).all (fun x => x.1.isSome)
      && decide ([e, e'].length + ([] : List Keyword).length + (if ([] : List Keyword).isEmpty then 0 else 1) < 30)) = true := by
  rw [star_of h, star_of h']; rfl
theorem isL_ok (g : Good T.toTb v s S H C) {y : V} {z : A} (K : PySem.W.Frag) (o : Opd T.toTb v S H y z) (h : isL (z.res s) = some ()) : tyV K "list" y H := by
  cases ho : z.res s with
  | none => rw [ho] at h; cases h
  | some u =>
    rw [ho] at h
    obtain ⟨c0, ow⟩ := opd_ow g o ho
    cases u with
    | ol l =>
      cases ow with
      | ol h1 _ _ => exact .inl ⟨rfl, _, sq_of h1⟩
    | _ => cases h
theorem st_app {a e : Vm.E} {o x : Expr} {n : Str} {apos pos p : Pos} (hn : n = "append") (hln : lineB apos pos = true) (hs : superB o = false) (hst : starB x = false) (ha : SndE T t N G a sc o) (hca : chk t N sc a (.ex o) = true) (he : SndE T t N G e sc x) (hce : chk t N sc e (.ex x) = true) : SndS T t N G (.app a e) sc (.one (.Expr (.Call (.Attribute o n apos) [x] [] pos) p)) := by
  intro CX E k X xx pin v s S H C D g q
  subst hn
  have q : PSt T.toTb pin v S H C E D ((pk a e s (ev G a s)).st fun x s => okS (isL (x.res s)) fun _ => (asD (ev G e s)).st fun d s => match x with
    | .ref p => okS (getP s p) fun o => okS (appO o d) fun o => .nx (setP s p o)
    | .val _ => .er) := q
  refine ⟨_, ps_expr (pe_bm F.plainAttrs_list F.slot_list_append rfl mt_append (wE_ok o) (pa_cons (wE_ok x) pa_nil (star_of hst)) (base_of hs) (few1 hst) hln (star_of hst) rfl), ?_⟩
  show wE X o v H fun y1 H1 => tyV X.K "list" y1 H1 ∧ wE X x v H1 fun y2 H2 => rAppend y1 [y2] H2 fun _ H3 => D.nx v H3
  refine ha.p hca xx.toXk g (PSt.ofA q fun z s1 _ y1 S1 H1 C1 g1 oz fz st1 q1 => ?_)
  obtain ⟨_, hl, q2⟩ := okS_ok q1
  refine ⟨isL_ok g1 X.K oz hl, he.dkS hce xx.toXk oz fz g1 q2 fun d s2 _ y2 S2 H2 C2 g2 hd oz2 st2 q3 => ?_⟩
  cases z with
  | val _ => exact False.elim q3
  | ref p =>
    obtain ⟨o3, ho, q4⟩ := okS_ok q3
    obtain ⟨o4, hap, q5⟩ := okS_ok q4
    unfold appO at hap
    split at hap
    · rename_i l
      split at hap
      · rename_i hlt
        cases hap
        obtain ⟨a, vs, e1, h1, hl, ch⟩ := opd_lst g2 oz2 ho
        obtain ⟨C4, g4, st4⟩ := ch (l ++ [d]) (vs ++ [y2]) (hl.app (.cons hd .nil))
        exact ⟨a, vs, y2, e1, rfl, h1, lim_lt (by rw [hl.len]; exact hlt), q5 v _ _ C4 ⟨g4, st4, fun _ _ => rfl⟩⟩
      · cases hap
    · cases hap
theorem st_inl {a i e : Vm.E} {o x y : Expr} {n : Str} {apos pos p : Pos} (hn : n = "insert") (hln : lineB apos pos = true) (hs : superB o = false) (hst : starB x = false) (hst2 : starB y = false) (ha : SndE T t N G a sc o) (hca : chk t N sc a (.ex o) = true) (hi : SndE T t N G i sc x) (hci : chk t N sc i (.ex x) = true) (he : SndE T t N G e sc y) (hce : chk t N sc e (.ex y) = true) : SndS T t N G (.inl a i e) sc (.one (.Expr (.Call (.Attribute o n apos) [x, y] [] pos) p)) := by
  intro CX E k X xx pin v s S H C D g q
  subst hn
  have q : PSt T.toTb pin v S H C E D ((pk a (.cons i e) s (ev G a s)).st fun x s => okS (isL (x.res s)) fun _ => (asD (ev G i s)).st fun k s => (asD (ev G e s)).st fun d s => match x with
    | .ref p => okS (getP s p) fun o => okS (inlO o k d) fun o => .nx (setP s p o)
    | .val _ => .er) := q
  refine ⟨_, ps_expr (pe_bm F.plainAttrs_list F.slot_list_insert rfl mt_insert (wE_ok o) (pa_cons (wE_ok x) (pa_cons (wE_ok y) pa_nil (star_of hst2)) (star_of hst)) (base_of hs) (few2 hst hst2) hln (star_of hst) (by rw [star_of hst2]; rfl)), ?_⟩
  refine ha.p hca xx.toXk g (PSt.ofA q fun z s1 _ y1 S1 H1 C1 g1 oz fz st1 q1 => ?_)
  obtain ⟨_, hl, q2⟩ := okS_ok q1
  have f1 : firm i z := by
    cases z with
    | val d => trivial
    | ref p => exact fz.imp id fun w => (b2 w).1
  have f2 : firm e z := by
    cases z with
    | val d => trivial
    | ref p => exact fz.imp id fun w => (b2 w).2
  refine ⟨isL_ok g1 X.K oz hl, hi.dkS hci xx.toXk oz f1 g1 q2 fun kd s2 hr2 y2 S2 H2 C2 g2 hk oz2 st2 q3 => ?_⟩
  refine he.dkS hce xx.toXk oz2 f2 g2 q3 fun d s3 _ y3 S3 H3 C3 g3 hd oz3 st3 q4 => ?_
  cases z with
  | val _ => exact False.elim q4
  | ref p =>
    obtain ⟨o3, ho, q5⟩ := okS_ok q4
    obtain ⟨o4, hap, q6⟩ := okS_ok q5
    unfold inlO at hap
    split at hap
    · rename_i l kk
      split at hap
      · rename_i hlt
        cases hap
        cases hk
        obtain ⟨a, vs, e1, h1, hl, ch⟩ := opd_lst g3 oz3 ho
        obtain ⟨C4, g4, st4⟩ := ch (insL kk.toNat d l) (vs.take kk.toNat ++ [y3] ++ vs.drop kk.toNat) (by
          unfold insL
          rw [List.append_assoc]
          exact (hl.take _).app (.cons hd (hl.drop _)))
        have hlim : (lim : Int) = 100000 := rfl
        have h5 : (l.length : Int) < 100000 := by have := hlt.1; unfold lim at this; omega
        exact ⟨a, vs, kk, y3, e1, rfl, h1, lim_lt (by rw [hl.len]; exact hlt.1), hlt.2.1, by have := hlt.2.2; omega, q6 v _ _ C4 ⟨g4, st4, fun _ _ => rfl⟩⟩
      · cases hap
    · cases hap
theorem st_ret {e : Vm.E} {x : Expr} {p : Pos} (hc : chk t N sc e (.ex x) = true) (he : SndE T t N G e sc x) : SndS T t N G (.ret e) sc (.one (.Return (some x) p)) := by
  intro CX E k X xx pin v s S H C D g q
  refine ⟨_, ps_ret (wE_ok x), ?_⟩
  show wE X x v H D.rt
  have plain : PSt T.toTb pin v S H C E D ((asO (ev G e s)).st fun o s => .rt o s) → wE X x v H D.rt := fun q =>
    he xx.toXk g (PSt.ofO q fun o s1 _ y S1 H1 C1 c r _ q1 => q1 v S1 H1 C1 y c ⟨r.g, r.st, fun _ _ => rfl⟩ r.o r.nd r.dj fun a ha => .inl (r.fr a ha))
  cases e with
  | var i =>
    have q : PSt T.toTb pin v S H C E D (match s[i]? with
      | some (some o) => if i ∈ pin then (ev G (.var i) s).st fun v s => (match v with
          | .o o => .rt o s
          | .l _ => .er) else .rt o (s.set i none)
      | _ => .er) := q
    split at q
    · rename_i o hs
      split at q
      · refine plain ?_
        cases hr : ev G (.var i) s with
        | ok w s1 =>
          rw [hr] at q
          cases w with
          | o o => exact q
          | l l => exact q
        | ex c fs s1 => rw [hr] at q; exact q
        | er => rw [hr] at q; exact q
      · rename_i hn
        obtain ⟨y, h1, h2⟩ := g.sl i o hs
        cases x <;> first | (cases hc; done) | skip
        refine wE_var xx.toXk hc h1 ?_
        refine q v S H (setC C i []) y (C i) ⟨g.drop i, ?_, fun _ _ => rfl⟩ h2 (g.nd i) (fun a ha ⟨j, hj⟩ => ?_) fun a ha => .inr ⟨i, hn, ha⟩
        · refine ⟨Ex.refl S, fun _ _ _ => rfl, fun _ _ h _ => h, fun _ h => h, fun j a h => .inl ?_⟩
          by_cases e : j = i
          · subst e; rw [setC_same] at h; cases h
          · rw [setC_ne e] at h; exact h
        · by_cases e : j = i
          · subst e; rw [setC_same] at hj; cases hj
          · rw [setC_ne e] at hj
            exact e (g.dj j i a hj ha)
    · exact False.elim q
  | _ => exact plain q
end
end Vm

namespace Vm
open PySem L2 Evl VmX
theorem XF.mono {T : Tb} {S H S1 H1 : Hp} {d : Option Addr} {fs : List (Nat × Vm.D)} (e1 : Ex S S1) (e2 : Ex H H1) (x : XF T S H d fs) : XF T S1 H1 d fs := by
  cases x with
  | none => exact .none
  | some h p => exact .some (e2 _ _ h) (Paired.mapP p fun a b z => ⟨z.1, z.2.mono e1⟩)
theorem xf_get {T : Tb} {S : Hp} {f : Nat} {d : Vm.D} : ∀ {fv : List (Str × V)} {fs : List (Nat × Vm.D)}, Paired (fun (p : Str × V) (q : Nat × Vm.D) => p.1 = T.nm q.1 ∧ Hd T S p.2 q.2) fv fs → getD' f fs = some d → ∃ v, fv.lookup (T.nm f) = some v ∧ Hd T S v d
  | _, _, .nil, h => by cases h
  | (a, v) :: fv, (g, e) :: fs, .cons ⟨n, hd⟩ r, h => by
    have n : a = T.nm g := n
    subst n
    unfold getD' at h
    by_cases q : g = f
    · subst q
      rw [if_pos rfl] at h
      cases h
      exact ⟨v, by simp [List.lookup], hd⟩
    · rw [if_neg q] at h
      obtain ⟨w, h1, h2⟩ := xf_get r h
      have ne : (T.nm f == T.nm g) = false := beq_eq_false_iff_ne.mpr fun z => q (T.inj _ _ z.symm)
      exact ⟨w, by simp [List.lookup, ne, h1], h2⟩
theorem mem_getD {f : Nat} {d : Vm.D} : ∀ {fs : List (Nat × Vm.D)}, getD' f fs = some d → f ∈ fs.map (·.1)
  | [], h => by cases h
  | (g, e) :: r, h => by
    unfold getD' at h
    split at h
    · rename_i q; simp [q]
    · simp [mem_getD h]
section
/-- where a suite stands -/
structure Yk (T : Tx) (t : Tt) (N : List Str) (G : Ct) (sc : Scope) (X : Cx) (a : Addr) (oe : Obj) (c : Nat) (fs : List (Nat × Vm.D)) (d : Option Addr) : Prop where
  K : X.K = T.K
  fx : Fx T t G X.mg
  xf : Xf T t G X.mg X.prog
  N : X.N = N
  sc : X.env.scope = sc
  hz : Zc (.ref (T.ca c)) d oe
  hf : ∃ vs, oe.data = .fields vs
  hc : G.xf c = some (fs.map (·.1))
/-- the state of a suite -/
structure Hst (T : Tx) (N : List Str) (n : Option (Nat × Str)) (a : Addr) (d : Option Addr) (fs : List (Nat × Vm.D)) (v : St) (s : Env) (σ : St) (S H : Hp) (C : Nat → List Addr) : Prop where
  g : Good T.toTb v s S H C
  sg : ∀ i x, neB n i = true → v[i]? = some (some x) → σ[i]? = some (some x)
  se : ∀ j y, n = some (j, y) → σ[j]? = some (some (.ref a))
  x : XF T.toTb S H d fs
variable {T : Tx} {t : Tt} {N : List Str} {G : Ct} {sc : Scope} {X : Cx} {a : Addr} {oe : Obj} {pn : List (Addr × Obj)} {c : Nat} {fs : List (Nat × Vm.D)} {d : Option Addr} {n : Option (Nat × Str)} {v σ : St} {s : Env} {C : Nat → List Addr}
/-- the state goes on: only new things -/
structure Hgo (T : Tx) (N : List Str) (n : Option (Nat × Str)) (a : Addr) (d : Option Addr) (fs : List (Nat × Vm.D)) (v : St) (s : Env) (σ : St) (C : Nat → List Addr) (S H S1 H1 : Hp) : Prop where
  h : Hst T N n a d fs v s σ S1 H1 C
  e1 : Ex S S1
  e2 : Ex H H1
  st : Step S H C S1 H1 C
theorem Hgo.refl {S H : Hp} (h : Hst T N n a d fs v s σ S H C) : Hgo T N n a d fs v s σ C S H S H := ⟨h, Ex.refl S, Ex.refl H, Step.refl⟩
theorem Hgo.trans {S H S1 H1 S2 H2 : Hp} (x : Hgo T N n a d fs v s σ C S H S1 H1) (y : Hgo T N n a d fs v s σ C S1 H1 S2 H2) : Hgo T N n a d fs v s σ C S H S2 H2 := ⟨y.h, x.e1.trans y.e1, x.e2.trans y.e2, x.st.trans y.st⟩
theorem Hst.new {S H : Hp} (h : Hst T N n a d fs v s σ S H C) {p : Addr} {o : HO} (hp : H p = none) : Hgo T N n a d fs v s σ C S H (upd S p o) (upd H p o) := by
  have hS := h.g.fresh hp
  exact ⟨⟨h.g.new hp, h.sg, h.se, h.x.mono (Ex.new hS) (Ex.new hp)⟩, Ex.new hS, Ex.new hp, Step.new hp hS⟩
variable (T t N G sc X a oe pn c fs d n) in
def HvE (b : HE) (e : Expr) : Prop := ∀ {v σ : St} {s : Env} {C : Nat → List Addr} {S H : Hp}, Hst T N n a d fs v s σ S H C → ∀ {d' : Vm.D} {Q : VK}, hev G s c fs b = some d' → (∀ y S1 H1, Hgo T N n a d fs v s σ C S H S1 H1 → Hd T.toTb S1 y d' → Q y H1) → wE (X.suite a ((a, oe) :: pn)) e σ H Q
variable (T t N G sc X a oe pn c fs d n) in
def HvT (b : HE) (e : Expr) : Prop := ∀ {v σ : St} {s : Env} {C : Nat → List Addr} {S H : Hp}, Hst T N n a d fs v s σ S H C → ∀ {k : Bool} {Q : Bool → Hp → Prop}, hev G s c fs b = some (.bl k) → (∀ S1 H1, Hgo T N n a d fs v s σ C S H S1 H1 → Q k H1) → wT (X.suite a ((a, oe) :: pn)) e σ H Q
variable (T t N G sc X a oe pn c fs d n) in
def HvA (b : HE) (es : List Expr) : Prop := ∀ {v σ : St} {s : Env} {C : Nat → List Addr} {S H : Hp}, Hst T N n a d fs v s σ S H C → ∀ {l : List Vm.D} {Q : List V → Hp → Prop}, hev G s c fs b = some (.tup l) → (∀ ys S1 H1, Hgo T N n a d fs v s σ C S H S1 H1 → HdL T.toTb S1 ys l → Q ys H1) → wA (X.suite a ((a, oe) :: pn)) es σ H Q
theorem HvE.tt {b : HE} {e : Expr} (h : HvE T N G X a oe pn c fs d n b e) (ht : testy e = false) : HvT T N G X a oe pn c fs d n b e := by
  intro v σ s C S H hs k Q he go
  refine ⟨_, pt_val (wE_ok e) (isTrue_val ht), h hs he fun y S1 H1 g hd => ?_⟩
  cases hd
  exact ⟨k, rfl, go S1 H1 g⟩
/-- the clause's name is read -/
theorem h_nm (Y : Yk T t N G sc X a oe c fs d) {S H : Hp} (h : Hst T N n a d fs v s σ S H C) {x : Str} {p : Pos} (hx : nmB N sc n x = true) : ∃ te, PE (X.suite a ((a, oe) :: pn)) (.Name x p) te ∧ ∀ {Q : VK}, Q (.ref a) H → te σ H Q := by
  unfold nmB at hx
  split at hx
  · rename_i j y
    obtain ⟨h1, h2⟩ := b2 hx
    cases beq_iff_eq.mp h1
    unfold slotB at h2
    obtain ⟨h2, h3⟩ := b2 h2
    obtain ⟨h4, h5⟩ := b2 h2
    obtain ⟨o1, o2, _⟩ := odd_of h3
    exact ⟨tVar j, pe_var (by show X.N[j]? = _; rw [Y.N]; exact beq_iff_eq.mp h4) (by show Vis X.env.scope _; rw [Y.sc]; exact vis_of h5) o1 o2, fun q => ⟨_, h.se j x rfl, q⟩⟩
  · cases hx
theorem h_gl (Y : Yk T t N G sc X a oe c fs d) {y : Str} (h : glB sc y = true) : Gl (X.suite a ((a, oe) :: pn)) y := by
  show X.env.scope.names.lookup y = _
  rw [Y.sc]
  unfold glB at h
  split at h
  · assumption
  · cases h
/-- isinstance(e, k) -/
theorem h_isi (Y : Yk T t N G sc X a oe c fs d) {S H : Hp} (h : Hst T N n a d fs v s σ S H C) {x y k : Str} {p p1 p2 pos : Pos} {cv : V} {u : Value} {b : Bool} (hb : bltB sc y "isinstance" = true) (hx : nmB N sc n x = true) (pe : PE (X.suite a ((a, oe) :: pn)) (.Name k p2) (tC cv)) (hu : ∀ w, RelV cv w → w = u)
    (kk : PySem.W.kitOne T.K (.ref (T.ca c)) u = some b) {Q : VK} (q : Q (.bl b) H) : wE (X.suite a ((a, oe) :: pn)) (.Call (.Name y p) [.Name x p1, .Name k p2] [] pos) σ H Q := by
  obtain ⟨hb, h2⟩ := b2 hb
  obtain ⟨hy, h1⟩ := b2 hb
  have hy : y = "isinstance" := beq_iff_eq.mp hy
  subst hy
  obtain ⟨te, pt, go⟩ := h_nm (pn := pn) (p := p1) Y h hx
  have xc := (Y.xf.xc c (by rw [Y.hc]; rfl)).1
  rw [← Y.K] at xc kk
  refine ⟨_, pe_callB (call_isX xc Y.hz Y.hf) (h_gl Y h1) Y.fx.isi PyProof.Rows.boot_isinstance (pa_cons pt (pa_cons pe pa_nil rfl) rfl) (by decide) (by decide) rfl rfl, ?_⟩
  refine go (Q := fun y1 H1 => tCons (tC cv) tNil σ H1 fun ys H2 => _) ?_
  exact ⟨cv, u, b, rfl, hu, kk, fun dd e => (by
    subst e
    have hx := h.x
    generalize fs = fs0 at hx
    cases hx with
    | some e1 _ => exact ⟨_, e1⟩), q⟩
theorem h_lit {dd : Vm.D} {co : Const} {kk : Nat} {pos : Pos} (h : litB dd co = true) {S : Hp} {Y : Cx} {H : Hp} {σ : St} {Q : VK} (q : ∀ y, Hd T.toTb S y dd → Q y H) : wE Y (.Constant co kk pos) σ H Q := by
  cases dd <;> cases co <;> first | (cases h; done) | skip
  · exact ⟨_, pe_non, q _ .non⟩
  · cases beq_iff_eq.mp h; exact ⟨_, pe_bl, q _ (.bl _)⟩
  · cases beq_iff_eq.mp h; exact ⟨_, pe_int, q _ (.int _)⟩
  · cases beq_iff_eq.mp h; exact ⟨_, pe_str, q _ (.str _)⟩
theorem bl_hd {S : Hp} {y : V} {k : Bool} (h : Hd T.toTb S y (.bl k)) : y = .bl k := by cases h; rfl
variable (T t N G sc X a oe pn c fs d n) in
def HvP (b : HE) : Pc → Prop
  | .ex e => HvE T N G X a oe pn c fs d n b e ∧ (tstB e = true → HvT T N G X a oe pn c fs d n b e)
  | .ar es => HvA T N G X a oe pn c fs d n b es
  | .it _ => True
theorem HvE.both {b : HE} {e : Expr} (h : HvE T N G X a oe pn c fs d n b e) (ht : testy e = false) : HvP T N G X a oe pn c fs d n b (.ex e) := ⟨h, fun _ => h.tt ht⟩
/-- a row of and's: as a value, as a test -/
theorem h_andV {b1 b2 : HE} {e e2 : Expr} {es : List Expr} {pos : Pos} (h1 : HvE T N G X a oe pn c fs d n b1 e) (h2 : HvE T N G X a oe pn c fs d n b2 (.BoolOp .And (e2 :: es) pos)) : HvE T N G X a oe pn c fs d n (.and b1 b2) (.BoolOp .And (e :: e2 :: es) pos) := by
  intro v σ s C S H hs d' Q he go
  refine ⟨_, pe_and (wE_ok e) (wE_ok (.BoolOp .And (e2 :: es) pos)), ?_⟩
  unfold hev at he
  split at he
  · rename_i e1
    split at he
    · rename_i k2 e2'
      cases he
      refine h1 hs e1 fun y S1 H1 g hd => ⟨true, bl_hd hd, ?_⟩
      rw [if_pos rfl]
      exact h2 g.h e2' fun y2 S2 H2 g2 hd2 => go y2 S2 H2 (g.trans g2) hd2
    · cases he
  · rename_i e1
    cases he
    refine h1 hs e1 fun y S1 H1 g hd => ⟨false, bl_hd hd, ?_⟩
    rw [if_neg Bool.false_ne_true]
    exact go _ S1 H1 g (.bl _)
  · cases he
theorem h_orV {b1 b2 : HE} {e e2 : Expr} {es : List Expr} {pos : Pos} (h1 : HvE T N G X a oe pn c fs d n b1 e) (h2 : HvE T N G X a oe pn c fs d n b2 (.BoolOp .Or (e2 :: es) pos)) : HvE T N G X a oe pn c fs d n (.or b1 b2) (.BoolOp .Or (e :: e2 :: es) pos) := by
  intro v σ s C S H hs d' Q he go
  refine ⟨_, pe_or (wE_ok e) (wE_ok (.BoolOp .Or (e2 :: es) pos)), ?_⟩
  unfold hev at he
  split at he
  · rename_i e1
    split at he
    · rename_i k2 e2'
      cases he
      refine h1 hs e1 fun y S1 H1 g hd => ⟨false, bl_hd hd, ?_⟩
      rw [if_neg Bool.false_ne_true]
      exact h2 g.h e2' fun y2 S2 H2 g2 hd2 => go y2 S2 H2 (g.trans g2) hd2
    · cases he
  · rename_i e1
    cases he
    refine h1 hs e1 fun y S1 H1 g hd => ⟨true, bl_hd hd, ?_⟩
    rw [if_pos rfl]
    exact go _ S1 H1 g (.bl _)
  · cases he
variable (T N G X a oe pn c fs d n) in
def HvW (b : HE) (e : Expr) : Prop := ∀ {v σ : St} {s : Env} {C : Nat → List Addr} {S H : Hp}, Hst T N n a d fs v s σ S H C → ∀ {k : Bool} {Q : Bool → Hp → Prop}, hev G s c fs b = some (.bl k) → (∀ S1 H1, Hgo T N n a d fs v s σ C S H S1 H1 → Q k H1) → wW (X.suite a ((a, oe) :: pn)) e σ H Q
theorem HvW.tt {b : HE} {e : Expr} (h : HvW T N G X a oe pn c fs d n b e) : HvT T N G X a oe pn c fs d n b e := by
  intro v σ s C S H hs k Q he go
  obtain ⟨tt, p, q⟩ := h hs he go
  exact ⟨tt, p.pt, q⟩
theorem h_and1 {b : HE} {e : Expr} {pos : Pos} (h : HvT T N G X a oe pn c fs d n b e) : HvW T N G X a oe pn c fs d n b (.BoolOp .And [e] pos) := by
  intro v σ s C S H hs k Q he go
  exact ⟨_, pw_and1 (wT_ok e), h hs he go⟩
theorem h_or1 {b : HE} {e : Expr} {pos : Pos} (h : HvT T N G X a oe pn c fs d n b e) : HvW T N G X a oe pn c fs d n b (.BoolOp .Or [e] pos) := by
  intro v σ s C S H hs k Q he go
  exact ⟨_, pw_or1 (wT_ok e), h hs he go⟩
theorem h_one {op : BoolOp} {b : HE} {e : Expr} {pos : Pos} (h : HvE T N G X a oe pn c fs d n b e) : HvE T N G X a oe pn c fs d n b (.BoolOp op [e] pos) := by
  intro v σ s C S H hs d' Q he go
  exact ⟨_, pe_one (wE_ok e), h hs he go⟩
theorem h_andW {b1 b2 : HE} {e e2 : Expr} {es : List Expr} {pos : Pos} (h1 : HvT T N G X a oe pn c fs d n b1 e) (h2 : HvW T N G X a oe pn c fs d n b2 (.BoolOp .And (e2 :: es) pos)) : HvW T N G X a oe pn c fs d n (.and b1 b2) (.BoolOp .And (e :: e2 :: es) pos) := by
  intro v σ s C S H hs k Q he go
  refine ⟨_, pw_and (wT_ok e) (wW_ok (.BoolOp .And (e2 :: es) pos)), ?_⟩
  unfold hev at he
  split at he
  · rename_i e1
    split at he
    · rename_i k2 e2'
      cases he
      refine h1 hs e1 fun S1 H1 g => ?_
      rw [if_pos rfl]
      exact h2 g.h e2' fun S2 H2 g2 => go S2 H2 (g.trans g2)
    · cases he
  · rename_i e1
    cases he
    refine h1 hs e1 fun S1 H1 g => ?_
    rw [if_neg Bool.false_ne_true]
    exact go S1 H1 g
  · cases he
theorem h_orW {b1 b2 : HE} {e e2 : Expr} {es : List Expr} {pos : Pos} (h1 : HvT T N G X a oe pn c fs d n b1 e) (h2 : HvW T N G X a oe pn c fs d n b2 (.BoolOp .Or (e2 :: es) pos)) : HvW T N G X a oe pn c fs d n (.or b1 b2) (.BoolOp .Or (e :: e2 :: es) pos) := by
  intro v σ s C S H hs k Q he go
  refine ⟨_, pw_or (wT_ok e) (wW_ok (.BoolOp .Or (e2 :: es) pos)), ?_⟩
  unfold hev at he
  split at he
  · rename_i e1
    split at he
    · rename_i k2 e2'
      cases he
      refine h1 hs e1 fun S1 H1 g => ?_
      rw [if_neg Bool.false_ne_true]
      exact h2 g.h e2' fun S2 H2 g2 => go S2 H2 (g.trans g2)
    · cases he
  · rename_i e1
    cases he
    refine h1 hs e1 fun S1 H1 g => ?_
    rw [if_pos rfl]
    exact go S1 H1 g
  · cases he
/-- rows of and's, or's: value and test at once -/
structure HvR (T : Tx) (N : List Str) (G : Ct) (X : Cx) (a : Addr) (oe : Obj) (pn : List (Addr × Obj)) (c : Nat) (fs : List (Nat × Vm.D)) (d : Option Addr) (n : Option (Nat × Str)) (b : HE) (e : Expr) : Prop where
  ve : HvE T N G X a oe pn c fs d n b e
  vw : HvW T N G X a oe pn c fs d n b e
theorem h_len {s : Env} : ∀ {b : HE} {es : List Expr} {l : List Vm.D}, hchk t N sc n b (.ar es) = true → hev G s c fs b = some (.tup l) → l.length = es.length
  | .nil, [], _, _, h => by cases h; rfl
  | .cons b1 b2', e :: es, l, hp, h => by
    obtain ⟨hp, h3⟩ := b2 hp
    unfold hev at h
    split at h
    · rename_i x l' e1 e2
      cases h
      simp [h_len h3 e2]
    · cases h
  | .nil, _ :: _, _, hp, _ => by cases hp
  | .cons _ _, [], _, hp, _ => by cases hp
  | .lit _, es, _, hp, _ => by cases es <;> cases hp
  | .var _, es, _, hp, _ => by cases es <;> cases hp
  | .fld _, es, _, hp, _ => by cases es <;> cases hp
  | .isx _, es, _, hp, _ => by cases es <;> cases hp
  | .isv, es, _, hp, _ => by cases es <;> cases hp
  | .not _, es, _, hp, _ => by cases es <;> cases hp
  | .and _ _, es, _, hp, _ => by cases es <;> cases hp
  | .or _ _, es, _, hp, _ => by cases es <;> cases hp
  | .eq _ _, es, _, hp, _ => by cases es <;> cases hp
  | .tup _, es, _, hp, _ => by cases es <;> cases hp
  | .lst _, es, _, hp, _ => by cases es <;> cases hp
theorem hev_ok (Y : Yk T t N G sc X a oe c fs d) : ∀ (b : HE) (p : Pc), hchk t N sc n b p = true → HvP T N G X a oe pn c fs d n b p ∧
    ((∀ b1 b2, b = .and b1 b2 → ∀ es pos, p = .ex (.BoolOp .And es pos) → HvR T N G X a oe pn c fs d n b (.BoolOp .And es pos)) ∧ (∀ b1 b2, b = .or b1 b2 → ∀ es pos, p = .ex (.BoolOp .Or es pos) → HvR T N G X a oe pn c fs d n b (.BoolOp .Or es pos))) := by
  intro b
  induction b with
  | lit dd =>
    intro p hp
    refine ⟨?_, (fun _ _ z => by cases z), fun _ _ z => by cases z⟩
    cases p <;> first | (cases hp; done) | skip
    rename_i e
    cases e <;> first | (cases hp; done) | skip
    refine HvE.both (fun {v σ s C S H} hs {d' Q} he go => ?_) rfl
    unfold hev at he
    split at he
    · cases he
      exact h_lit (T := T) (S := S) hp fun y hd => go y S H (Hgo.refl hs) hd
    · cases he
  | var i =>
    intro p hp
    refine ⟨?_, (fun _ _ z => by cases z), fun _ _ z => by cases z⟩
    cases p <;> first | (cases hp; done) | skip
    rename_i e
    cases e <;> first | (cases hp; done) | skip
    rename_i x pos
    obtain ⟨h2, hne⟩ := b2 hp
    unfold slotB at h2
    obtain ⟨h2, h3⟩ := b2 h2
    obtain ⟨h4, h5⟩ := b2 h2
    obtain ⟨o1, o2, _⟩ := odd_of h3
    refine HvE.both (fun {v σ s C S H} hs {d' Q} he go => ?_) rfl
    have he : (match s[i]? with
      | some (some (.sh d)) => some d
      | _ => none) = some d' := he
    split at he
    · rename_i d0 hsl
      cases he
      obtain ⟨y, y1, y2⟩ := hs.g.sl i _ hsl
      generalize C i = ci at y2
      cases y2 with
      | sh hd => exact ⟨tVar i, pe_var (by show X.N[i]? = _; rw [Y.N]; exact beq_iff_eq.mp h4) (by show Vis X.env.scope _; rw [Y.sc]; exact vis_of h5) o1 o2, y, hs.sg i y hne y1, go y S H (Hgo.refl hs) hd⟩
    · cases he
  | fld f =>
    intro p hp
    refine ⟨?_, (fun _ _ z => by cases z), fun _ _ z => by cases z⟩
    cases p <;> first | (cases hp; done) | skip
    rename_i e
    cases e <;> first | (cases hp; done) | skip
    rename_i o m pos
    cases o <;> first | (cases hp; done) | skip
    rename_i x px
    obtain ⟨h1, h2⟩ := b2 hp
    have em : m = t.nm f := of_decide_eq_true h2
    rw [Y.fx.nm] at em
    subst em
    refine HvE.both (fun {v σ s C S H} hs {d' Q} he go => ?_) rfl
    have he : getD' f fs = some d' := he
    obtain ⟨te, pt, gt⟩ := h_nm (pn := pn) (p := px) Y hs h1
    have xc := (Y.xf.xc c (by rw [Y.hc]; rfl)).2
    have no := Y.xf.no c _ f Y.hc (mem_getD he)
    rw [← Y.K] at xc no
    refine ⟨_, pe_xf xc no Y.hz Y.hf pt, ?_⟩
    refine gt (Q := fun x H1 => x = .ref a ∧ Value.ref (T.ca c) = .ref (T.ca c) ∧ _) ⟨rfl, rfl, ?_⟩
    have hx := hs.x
    cases hx with
    | none => cases he
    | some e1 pr =>
      obtain ⟨w, w1, w2⟩ := xf_get pr he
      exact ⟨_, _, w, rfl, e1, w1, go w S H (Hgo.refl hs) w2⟩
  | isx k =>
    intro p hp
    refine ⟨?_, (fun _ _ z => by cases z), fun _ _ z => by cases z⟩
    cases p <;> first | (cases hp; done) | skip
    rename_i e
    cases e <;> first | (cases hp; done) | skip
    rename_i fn es ks pos
    cases fn <;> first | (cases hp; done) | skip
    rcases es with _ | ⟨x, _ | ⟨y, _ | ⟨z, es⟩⟩⟩ <;> first | (cases hp; done) | (cases x <;> cases hp; done) | skip
    · cases x <;> first | (cases hp; done) | skip
      cases y <;> first | (cases hp; done) | skip
      cases ks <;> first | (cases hp; done) | skip
      rename_i nb pb nx px nk pk
      obtain ⟨hp, h5⟩ := b2 hp
      obtain ⟨hp, h4⟩ := b2 hp
      obtain ⟨hp, h3⟩ := b2 hp
      obtain ⟨h1, h2⟩ := b2 hp
      refine HvE.both (fun {v σ s C S H} hs {d' Q} he go => ?_) rfl
      cases he
      have f1 := Y.xf.nm k nk (of_decide_eq_true h3)
      have kk := (Y.xf.kc c k nk (by rw [Y.hc]; rfl) (of_decide_eq_true h3)).1
      exact h_isi Y hs h1 h2 (pe_glob (v := .ref (T.ca k)) (h_gl Y h4) f1 rfl (odd_of h5).1) (fun w r => r) kk (go _ S H (Hgo.refl hs) (.bl _))
    · cases x <;> first | (cases hp; done) | skip
      cases y <;> cases hp
  | isv =>
    intro p hp
    refine ⟨?_, (fun _ _ z => by cases z), fun _ _ z => by cases z⟩
    cases p <;> first | (cases hp; done) | skip
    rename_i e
    cases e <;> first | (cases hp; done) | skip
    rename_i fn es ks pos
    cases fn <;> first | (cases hp; done) | skip
    rcases es with _ | ⟨x, _ | ⟨y, _ | ⟨z, es⟩⟩⟩ <;> first | (cases hp; done) | (cases x <;> cases hp; done) | skip
    · cases x <;> first | (cases hp; done) | skip
      cases y <;> first | (cases hp; done) | skip
      cases ks <;> first | (cases hp; done) | skip
      rename_i nb pb nx px nk pk
      obtain ⟨hp, h5⟩ := b2 hp
      obtain ⟨h1, h2⟩ := b2 hp
      obtain ⟨h5, h6⟩ := b2 h5
      obtain ⟨h7, h8⟩ := b2 h5
      cases beq_iff_eq.mp h7
      refine HvE.both (fun {v σ s C S H} hs {d' Q} he go => ?_) rfl
      cases he
      have kk := Y.xf.kv c (by rw [Y.hc]; rfl)
      exact h_isi Y hs h1 h2 (pe_bltn (v := .ty "ValueError") (u := .type "ValueError") (h_gl Y h8) Y.xf.isV (by rfl) rfl (by decide) (by decide)) (fun w r => r) kk (go _ S H (Hgo.refl hs) (.bl _))
    · cases x <;> first | (cases hp; done) | skip
      cases y <;> cases hp
  | not b ih =>
    intro p hp
    refine ⟨?_, (fun _ _ z => by cases z), fun _ _ z => by cases z⟩
    cases p <;> first | (cases hp; done) | skip
    rename_i e
    cases e <;> first | (cases hp; done) | skip
    rename_i op x pos
    cases op <;> first | (cases hp; done) | skip
    obtain ⟨h1, h2⟩ := b2 hp
    obtain ⟨i1, i2⟩ := (ih _ h2).1
    refine ⟨fun {v σ s C S H} hs {d' Q} he go => ?_, fun _ {v σ s C S H} hs {k Q} he go => ?_⟩
    · unfold hev at he
      split at he
      · rename_i k e1
        cases he
        refine ⟨_, pe_notV (wE_ok x), i1 hs e1 fun y S1 H1 g hd => ?_⟩
        rw [bl_hd hd]
        exact ⟨k, rfl, go _ S1 H1 g (.bl _)⟩
      · cases he
    · unfold hev at he
      split at he
      · rename_i k1 e1
        cases he
        exact ⟨_, pt_not (wT_ok x), i2 h1 hs e1 fun S1 H1 g => go S1 H1 g⟩
      · cases he
  | and b1 b2' ih1 ih2 =>
    intro p hp
    cases p <;> first | (cases hp; done) | skip
    rename_i e
    cases e <;> first | (cases hp; done) | skip
    rename_i op es pos
    cases op <;> first | (cases hp; done) | skip
    have R : HvR T N G X a oe pn c fs d n (.and b1 b2') (.BoolOp .And es pos) := by
      rcases es with _ | ⟨x, _ | ⟨y, _ | ⟨z, es⟩⟩⟩ <;> first | (cases hp; done) | skip
      · obtain ⟨hp, h4⟩ := b2 hp
        obtain ⟨hp, h3⟩ := b2 hp
        obtain ⟨h1, h2⟩ := b2 hp
        obtain ⟨k1, k2⟩ := (ih1 _ h3).1
        obtain ⟨k3, k4⟩ := (ih2 _ h4).1
        exact ⟨h_andV k1 (h_one k3), h_andW (k2 h1) (h_and1 (k4 h2))⟩
      · obtain ⟨hp, h4⟩ := b2 hp
        obtain ⟨h1, h3⟩ := b2 hp
        obtain ⟨k1, k2⟩ := (ih1 _ h3).1
        cases b2' <;> first | (cases h4; done) | skip
        have r := (ih2 _ h4).2.1 _ _ rfl _ _ rfl
        exact ⟨h_andV k1 r.ve, h_andW (k2 h1) r.vw⟩
    exact ⟨⟨R.ve, fun _ => HvW.tt R.vw⟩, fun _ _ _ es' pos' e => by cases e; exact R, fun _ _ z => by cases z⟩
  | or b1 b2' ih1 ih2 =>
    intro p hp
    cases p <;> first | (cases hp; done) | skip
    rename_i e
    cases e <;> first | (cases hp; done) | skip
    rename_i op es pos
    cases op <;> first | (cases hp; done) | skip
    have R : HvR T N G X a oe pn c fs d n (.or b1 b2') (.BoolOp .Or es pos) := by
      rcases es with _ | ⟨x, _ | ⟨y, _ | ⟨z, es⟩⟩⟩ <;> first | (cases hp; done) | skip
      · obtain ⟨hp, h4⟩ := b2 hp
        obtain ⟨hp, h3⟩ := b2 hp
        obtain ⟨h1, h2⟩ := b2 hp
        obtain ⟨k1, k2⟩ := (ih1 _ h3).1
        obtain ⟨k3, k4⟩ := (ih2 _ h4).1
        exact ⟨h_orV k1 (h_one k3), h_orW (k2 h1) (h_or1 (k4 h2))⟩
      · obtain ⟨hp, h4⟩ := b2 hp
        obtain ⟨h1, h3⟩ := b2 hp
        obtain ⟨k1, k2⟩ := (ih1 _ h3).1
        cases b2' <;> first | (cases h4; done) | skip
        have r := (ih2 _ h4).2.2 _ _ rfl _ _ rfl
        exact ⟨h_orV k1 r.ve, h_orW (k2 h1) r.vw⟩
    exact ⟨⟨R.ve, fun _ => HvW.tt R.vw⟩, (fun _ _ z => by cases z), fun _ _ _ es' pos' e => by cases e; exact R⟩
  | eq b1 b2' _ _ =>
    intro p hp
    cases p with
    | ex e => cases e <;> cases hp
    | ar es => cases es <;> cases hp
    | it e => cases hp
  | nil =>
    intro p hp
    refine ⟨?_, (fun _ _ z => by cases z), fun _ _ z => by cases z⟩
    cases p with
    | ex e => cases e <;> cases hp
    | it e => cases hp
    | ar es =>
      cases es <;> first | (cases hp; done) | skip
      intro v σ s C S H hs l Q he go
      cases he
      exact ⟨_, pa_nil, go [] S H (Hgo.refl hs) .nil⟩
  | cons b1 b2' ih1 ih2 =>
    intro p hp
    refine ⟨?_, (fun _ _ z => by cases z), fun _ _ z => by cases z⟩
    cases p with
    | ex e => cases e <;> cases hp
    | it e => cases hp
    | ar es =>
      cases es <;> first | (cases hp; done) | skip
      rename_i e es
      obtain ⟨hp, h3⟩ := b2 hp
      obtain ⟨h1, h2⟩ := b2 hp
      obtain ⟨i1, _⟩ := (ih1 _ h2).1
      have i2 : HvA T N G X a oe pn c fs d n b2' es := (ih2 _ h3).1
      intro v σ s C S H hs l Q he go
      unfold hev at he
      split at he
      · rename_i x l' e1 e2
        cases he
        refine ⟨_, pa_cons (wE_ok e) (wA_ok es) (star_of (n1 h1)), i1 hs e1 fun y S1 H1 g hd => ?_⟩
        exact i2 g.h e2 fun ys S2 H2 g2 hl => go (y :: ys) S2 H2 (g.trans g2) (.cons (hd.mono g2.e1) hl)
      · cases he
  | tup b ih =>
    intro p hp
    refine ⟨?_, (fun _ _ z => by cases z), fun _ _ z => by cases z⟩
    cases p <;> first | (cases hp; done) | skip
    rename_i e
    cases e <;> first | (cases hp; done) | skip
    rename_i es kk pos
    obtain ⟨h1, h2⟩ := b2 hp
    have i1 : HvA T N G X a oe pn c fs d n b es := (ih _ h2).1
    refine HvE.both (fun {v σ s C S H} hs {d' Q} he go => ?_) rfl
    unfold hev at he
    split at he
    · rename_i l e1
      cases he
      refine ⟨_, pe_tup (wA_ok es), i1 hs e1 fun ys S1 H1 g hl => ⟨?_, fun p hp => ?_⟩⟩
      · rw [hl.len, h_len (s := s) h2 e1]; exact Nat.le_trans (of_decide_eq_true h1) (by decide)
      · exact go _ _ _ (g.trans (g.h.new hp)) (.tup (st_of upd_same) (hl.mono (Ex.new (g.h.g.fresh hp))))
    · cases he
  | lst b ih =>
    intro p hp
    refine ⟨?_, (fun _ _ z => by cases z), fun _ _ z => by cases z⟩
    cases p <;> first | (cases hp; done) | skip
    rename_i e
    cases e <;> first | (cases hp; done) | skip
    rename_i es pos
    obtain ⟨h1, h2⟩ := b2 hp
    have i1 : HvA T N G X a oe pn c fs d n b es := (ih _ h2).1
    refine HvE.both (fun {v σ s C S H} hs {d' Q} he go => ?_) rfl
    unfold hev at he
    split at he
    · rename_i l e1
      cases he
      refine ⟨_, pe_lst (wA_ok es), i1 hs e1 fun ys S1 H1 g hl => ⟨?_, fun p hp => ?_⟩⟩
      · rw [hl.len, h_len (s := s) h2 e1]; exact Nat.le_trans (of_decide_eq_true h1) (by decide)
      · exact go _ _ _ (g.trans (g.h.new hp)) (.lst upd_same (hl.mono (Ex.new (g.h.g.fresh hp))))
    · cases he
end
end Vm

namespace Vm
open PySem L2 Evl VmX
section
variable {T : Tx} {t : Tt} {N : List Str} {G : Ct} {sc : Scope} {X : Cx} {a : Addr} {oe : Obj} {pn : List (Addr × Obj)} {c : Nat} {fs : List (Nat × Vm.D)} {d : Option Addr} {n : Option (Nat × Str)}
def endR (D : Ends) (σ : St) (S1 H1 : Hp) (T : Tb) : Option Vm.D → Prop
  | none => D.nx σ H1
  | some d' => ∀ y, Hd T S1 y d' → D.rt y H1
variable (T N G X a oe pn c fs d n) in
def HvS (b : HS) : Sp' → Prop
  | .one st => ∀ {v σ : St} {s : Env} {C : Nat → List Addr} {S H : Hp}, Hst T N n a d fs v s σ S H C → ∀ {r : Option Vm.D} {D : Ends}, hsv G s c fs b = some r → (∀ S1 H1, Hgo T N n a d fs v s σ C S H S1 H1 → endR D σ S1 H1 T.toTb r) → wS (X.suite a ((a, oe) :: pn)) st D σ H
  | .many sts => ∀ {v σ : St} {s : Env} {C : Nat → List Addr} {S H : Hp}, Hst T N n a d fs v s σ S H C → ∀ {r : Option Vm.D} {D : Ends}, hsv G s c fs b = some r → (∀ S1 H1, Hgo T N n a d fs v s σ C S H S1 H1 → endR D σ S1 H1 T.toTb r) → wSs (X.suite a ((a, oe) :: pn)) sts D σ H
theorem hsv_ok (Y : Yk T t N G sc X a oe c fs d) : ∀ (b : HS) (p : Sp'), hchkS t N sc n b p = true → HvS T N G X a oe pn c fs d n b p := by
  intro b
  induction b with
  | nvr =>
    intro p hp
    cases p with
    | one st => intro v σ s C S H hs r D he go; cases he
    | many st => intro v σ s C S H hs r D he go; cases he
  | nop =>
    intro p hp
    cases p with
    | one st => cases st <;> cases hp
    | many sts =>
      cases sts <;> first | (cases hp; done) | skip
      intro v σ s C S H hs r D he go
      cases he
      exact ⟨_, pss_nil, go S H (Hgo.refl hs)⟩
  | seq b1 b2' ih1 ih2 =>
    intro p hp
    cases p with
    | one st => cases st <;> cases hp
    | many sts =>
      cases sts <;> first | (cases hp; done) | skip
      rename_i st r
      obtain ⟨h1, h2⟩ := b2 hp
      have i1 : HvS T N G X a oe pn c fs d n b1 (.one st) := ih1 _ h1
      have i2 : HvS T N G X a oe pn c fs d n b2' (.many r) := ih2 _ h2
      intro v σ s C S H hs rr D he go
      refine ⟨_, pss_cons (wS_ok st) (wSs_ok r), ?_⟩
      show wS _ st { D with nx := wSs _ r D } σ H
      unfold hsv at he
      cases e1 : hsv G s c fs b1 with
      | none => rw [e1] at he; cases he
      | some r1 =>
        rw [e1] at he
        cases r1 with
        | none => exact i1 hs e1 fun S1 H1 g => i2 g.h he fun S2 H2 g2 => go S2 H2 (g.trans g2)
        | some d1 =>
          cases he
          exact i1 hs e1 fun S1 H1 g => go S1 H1 g
  | ife e b1 b2' ih1 ih2 =>
    intro p hp
    cases p with
    | many sts => cases sts <;> cases hp
    | one st =>
      cases st <;> first | (cases hp; done) | skip
      rename_i x as bs pos
      obtain ⟨hp, h4⟩ := b2 hp
      obtain ⟨hp, h3⟩ := b2 hp
      obtain ⟨h1, h2⟩ := b2 hp
      have i1 : HvS T N G X a oe pn c fs d n b1 (.many as) := ih1 _ h3
      have i2 : HvS T N G X a oe pn c fs d n b2' (.many bs) := ih2 _ h4
      have it : HvT T N G X a oe pn c fs d n e x := (hev_ok (pn := pn) Y e (.ex x) h2).1.2 h1
      intro v σ s C S H hs rr D he go
      refine ⟨_, ps_if (wT_ok x) (wSs_ok as) (wSs_ok bs), ?_⟩
      unfold hsv at he
      split at he
      · rename_i e1
        refine it hs e1 fun S1 H1 g => ?_
        exact i1 g.h he fun S2 H2 g2 => go S2 H2 (g.trans g2)
      · rename_i e1
        refine it hs e1 fun S1 H1 g => ?_
        exact i2 g.h he fun S2 H2 g2 => go S2 H2 (g.trans g2)
      · cases he
  | ret e =>
    intro p hp
    cases p with
    | many sts => cases sts <;> cases hp
    | one st =>
      cases st <;> first | (cases hp; done) | skip
      rename_i x pos
      cases x <;> first | (cases hp; done) | skip
      rename_i x
      have ie : HvE T N G X a oe pn c fs d n e x := (hev_ok (pn := pn) Y e (.ex x) hp).1.1
      intro v σ s C S H hs rr D he go
      refine ⟨_, ps_ret (wE_ok x), ?_⟩
      unfold hsv at he
      split at he
      · rename_i d1 e1
        cases he
        exact ie hs e1 fun y S1 H1 g hd => go S1 H1 g y hd
      · cases he
end
section
variable {T : Tx} {t : Tt} {N : List Str} {G : Ct} {CX : CXT} {E : WX} {k : Nat} {sc : Scope} {X : Cx} {pin : List Nat} {v : St} {s : Env} {S H : Hp} {C : Nat → List Addr} {D : Ends}
/-- the clauses -/
theorem clauses_ok (xx : Xs T t N G CX E k sc X) : ∀ (cs : List Hc) (hds : List ExceptHandler), hcB t N sc cs hds = true → ∃ l, HdsL X hds l ∧
    ∀ {c : Nat} {fs : List (Nat × Vm.D)} {d : Option Addr} {v : St} {s : Env} {S H : Hp} {C : Nat → List Addr} {pin : List Nat} {D : Ends}, Good T.toTb v s S H C → XF T.toTb S H d fs → G.xf c = some (fs.map (·.1)) → PSt T.toTb pin v S H C E D (hcv G pin c fs cs s) → wL X.K E D l (.ref (T.ca c)) d v H
  | [], hds, h => by
    cases hds with
    | cons _ _ => cases h
    | nil => exact ⟨[], .nil, fun {c fs d v s S H C pin D} g x _ q => q v S H C d (At.refl g) x⟩
  | h :: r, [], hh => by cases hh
  | h :: r, .ExceptHandler ot on sts p :: hds, hh => by
    cases ot <;> first | (cases hh; done) | skip
    rename_i ty
    cases ty <;> first | (cases hh; done) | skip
    rename_i x np
    cases sts <;> first | (cases hh; done) | skip
    rename_i b₀ suite
    obtain ⟨hh, h6⟩ := b2 hh
    obtain ⟨hh, h5⟩ := b2 hh
    obtain ⟨hh, h4⟩ := b2 hh
    obtain ⟨hh, h3⟩ := b2 hh
    obtain ⟨h1, h2⟩ := b2 hh
    have h1 := of_decide_eq_true h1
    obtain ⟨l, hl, go⟩ := clauses_ok xx r hds h6
    refine ⟨⟨.ref (T.ca h.c), h.n, fun a cls d D σ H => ∀ (oe : Obj) (pn : List (Addr × Obj)), Zc cls d oe → (∃ vs, oe.data = .fields vs) → wSs (X.suite a ((a, oe) :: pn)) (b₀ :: suite) D σ H⟩ :: l, .cons ⟨xx.gl h2, (odd_of h3).1, .inl (xx.xf.nm h.c x h1)⟩ ?_ ?_ hl, ?_⟩
    · show NmOk X on h.n
      unfold nmHB at h4
      unfold NmOk
      cases hn : h.n with
      | none =>
        rw [hn] at h4
        cases on with
        | none => trivial
        | some y => cases h4
      | some i =>
        rw [hn] at h4
        cases on with
        | none => cases h4
        | some y =>
          obtain ⟨k1, k2⟩ := b2 h4
          refine ⟨by rw [xx.N]; exact beq_iff_eq.mp k1, ?_⟩
          rw [xx.kindOf]
          unfold lclB at k2
          split at k2
          · assumption
          · cases k2
    · exact fun a oe cls d pn hz hf => ⟨fun pins s σ H D I q => (wSs_ok (b₀ :: suite)).run pins s σ H D I (q oe pn hz hf)⟩
    · intro c fs d v s S H C pin D g xf hc q
      have kk := (xx.xf.kc c h.c x (by rw [hc]; rfl) h1).2
      rw [← xx.K] at kk
      refine ⟨G.sub c h.c, kk, fun hs a na => ?_, fun hs => go (pin := pin) g xf hc ?_⟩
      · unfold hcv at q
        rw [if_pos hs] at q
        split at q
        · rename_i hn
          cases hr : hsv G s c fs h.h with
          | none => rw [hr] at q; exact False.elim q
          | some rr =>
            rw [hr] at q
            have Y : ∀ oe, Zc (.ref (T.ca c)) d oe → (∃ vs, oe.data = .fields vs) → Yk T t N G sc X a oe c fs d := fun oe hz hf => ⟨xx.K, xx.fx, xx.xf, xx.N, xx.sc, hz, hf, hc⟩
            have fin : ∀ {σ : St} {S1 H1 : Hp}, Hgo T N (nmPr h.n on) a d fs v s σ C S H S1 H1 → (∀ w, h.n = some w → σ = v.set w (some (.ref a))) → (h.n = none → σ = v) → endR (match h.n with
                | some i => endN D i
                | none => D) σ S1 H1 T.toTb rr := fun {σ S1 H1} gg e1 e2 => by
              have at1 : At T.toTb pin v S H C v s S1 H1 C := ⟨gg.h.g, gg.st, fun _ _ => rfl⟩
              cases rr with
              | none =>
                have q : PSt T.toTb pin v S H C E D (.nx s) := q
                cases hn1 : h.n with
                | none => show D.nx σ H1; rw [e2 hn1]; exact q v S1 H1 C at1
                | some i =>
                  show D.nx (σ.set i none) H1
                  rw [e1 i hn1, List.set_set]
                  rw [hn1] at hn
                  unfold okN at hn
                  simp only at hn
                  split at hn
                  · rename_i hsi
                    have hpi : i ∉ pin := by simpa using hn
                    refine q (v.set i none) S1 H1 C ⟨gg.h.g.slots (fun j x o h1 h2 => ?_) (by simp), gg.st, fun j hj => List.getElem?_set_ne (fun z => hpi (by rw [z]; exact hj))⟩
                    rw [List.getElem?_set_ne (fun z => by subst z; rw [hsi] at h1; cases h1)]
                    exact h2
                  · cases hn
              | some d' =>
                have q : PSt T.toTb pin v S H C E D (.rt (.sh d') s) := q
                have z : ∀ y, Hd T.toTb S1 y d' → D.rt y H1 := fun y hd => q v S1 H1 C y [] at1 (.sh hd) .nil (fun a ha => by cases ha) fun a ha => by cases ha
                cases hn1 : h.n with
                | none => exact z
                | some i => exact z
            unfold suiteW
            cases hn1 : h.n with
            | none =>
              cases on with
              | some y => rw [hn1] at h4; cases h4
              | none =>
                rw [hn1] at h5 fin
                intro oe pn hz hf
                have sv : HvS T N G X a oe pn c fs d none h.h (.many (b₀ :: suite)) := hsv_ok (Y oe hz hf) h.h _ h5
                refine sv ⟨g, fun i x _ z => z, (fun _ _ z => by cases z), xf⟩ hr fun S1 H1 gg => fin gg (fun w z => by cases z) fun _ => rfl
            | some i =>
              cases on with
              | none => rw [hn1] at h4; cases h4
              | some y =>
                rw [hn1] at h5 fin hn
                have hsi : s[i]? = some none := by
                  unfold okN at hn
                  simp only at hn
                  split at hn
                  · assumption
                  · cases hn
                have hlt : i < v.length := by
                  rw [← g.ln]
                  exact (List.getElem?_eq_some_iff.mp hsi).1
                show ∀ (oe : Obj) (pn : List (Addr × Obj)), Zc (.ref (T.ca c)) d oe → (∃ vs, oe.data = .fields vs) → wSs (X.suite a ((a, oe) :: pn)) (b₀ :: suite) (endN D i) (v.set i (some (.ref a))) H
                intro oe pn hz hf
                have sv : HvS T N G X a oe pn c fs d (some (i, y)) h.h (.many (b₀ :: suite)) := hsv_ok (Y oe hz hf) h.h _ h5
                refine sv ⟨g, fun j x hj hv => ?_, fun j z e => ?_, xf⟩ hr fun S1 H1 gg => fin gg (fun w z => by cases z; rfl) fun z => by cases z
                · have hj : (j != i) = true := hj
                  have hj : j ≠ i := by simpa using hj
                  rw [List.getElem?_set_ne (Ne.symm hj)]
                  exact hv
                · cases e
                  exact List.getElem?_set_self hlt
        · exact False.elim q
      · unfold hcv at q
        rw [if_neg (by rw [hs]; decide)] at q
        exact q
theorem Xs.tr (xx : Xs T t N G CX E k sc X) {pn : List (Addr × Obj)} {xe : Value → Shared → Prop} {W : WX} (tk : Takes (X.tr pn xe) W) (po : PassesOwn (model X.prog X.w) X.A X.env xe) : Xs T t N G CX W k sc (X.tr pn xe) where
  K := xx.K
  fx := xx.fx
  N := xx.N
  nd := xx.nd
  calm := xx.calm
  sc := xx.sc
  room := xx.room
  pass := by rw [xx.cx]; exact fun σ => passAt (X := X.tr pn xe) tk σ
  nox := xx.nox
  ln := xx.ln
  fn := xx.fn
  own := po
  kind := xx.kind
  fnT := xx.fnT
  tk := tk
  stk := xx.stk
  frm := xx.frm
  cx := xx.cx
  xf := xx.xf
theorem st_try {b : Vm.S} {cs : List Hc} {body : List Stmt} {h : ExceptHandler} {hds : List ExceptHandler} {p : Pos} (hb : SndS T t N G b sc (.many body)) (hc : hcB t N sc cs (h :: hds) = true) : SndS T t N G (.try_ b cs) sc (.one (.Try body (h :: hds) [] [] p)) := by
  intro CX E k X xx pin v s S H C D g q
  have q : PSt T.toTb pin v S H C E D ((evS G pin b s).catch fun c fs s => if G.xf c = some (fs.map (·.1)) then hcv G pin c fs cs s else .er) := q
  obtain ⟨l, hl, go⟩ := clauses_ok xx cs (h :: hds) hc
  refine ⟨_, ps_tryL (tb := fun W D σ H => ∀ (pn : List (Addr × Obj)) (xe : Value → Shared → Prop), Takes (X.tr pn xe) W → PassesOwn (model X.prog X.w) X.A X.env xe → wSs (X.tr pn xe) body D σ H) xx.stk xx.frm xx.nd xx.tk
    (fun W pn xe tk po => ⟨fun pins s σ H D I q => (wSs_ok body).run pins s σ H D I (q pn xe tk po)⟩) hl, ?_⟩
  intro pn xe tk po
  refine hb (xx.tr tk po) (pin := pin) g ?_
  cases hr : evS G pin b s with
  | nx s1 => rw [hr] at q; exact q
  | rt o s1 => rw [hr] at q; exact q
  | bk s1 => rw [hr] at q; exact q
  | ct s1 => rw [hr] at q; exact q
  | er => rw [hr] at q; exact q
  | ex c fs s1 =>
    rw [hr] at q
    have q : PSt T.toTb pin v S H C E D (if G.xf c = some (fs.map (·.1)) then hcv G pin c fs cs s1 else .er) := q
    split at q
    · rename_i hc
      exact fun v' S' H' C' d a x => go a.g x hc (PSt.step a q)
    · exact False.elim q
theorem PSt.ofL {r : R (List A)} {K : List A → Env → SR} {Q : List V → Hp → Prop} {T : Tb} (h : PSt T pin v S H C E D (r.st K))
    (go : ∀ l s1, r = .ok l s1 → ∀ xs S1 H1 C1, Good T v s1 S1 H1 C1 → Opds T v S1 H1 xs l → Step S H C S1 H1 C1 → PSt T pin v S1 H1 C1 E D (K l s1) → Q xs H1) : PL T v S H C E Q r := by
  cases r with
  | ok o s1 => exact fun x S1 H1 C1 g hd st => go o s1 rfl x S1 H1 C1 g hd st (PSt.step ⟨g, st, fun _ _ => rfl⟩ h)
  | ex k fs s1 => exact PSt.x h
  | er => exact h
theorem xf_zip {T : Tb} {S : Hp} : ∀ {fl : List Nat} {vs : List V} {ds : List Vm.D}, HdL T S vs ds → fl.length = ds.length → Paired (fun (p : Str × V) (q : Nat × Vm.D) => p.1 = T.nm q.1 ∧ Hd T S p.2 q.2) ((fl.map T.nm).zip vs) (fl.zip ds)
  | [], _, _, .nil, _ => .nil
  | [], _, _, .cons _ _, h => by cases h
  | _ :: _, _, _, .nil, h => by cases h
  | f :: fl, _, _, .cons h l, e => .cons ⟨rfl, h⟩ (xf_zip l (by simpa using e))
theorem st_rse {c : Nat} {as : Vm.E} {x : Str} {e : Expr} {es : List Expr} {px pos p : Pos} (hx : t.xn c = some x) (hg : glB sc x = true) (ho : (!odd x) = true) (ha : SndA T t N G as sc (e :: es)) (hc : chk t N sc as (.ar (e :: es)) = true) : SndS T t N G (.rse c as) sc (.one (.Raise (some (.Call (.Name x px) (e :: es) [] pos)) none p)) := by
  intro CX E k X xx pin v s S H C D g q
  have q : PSt T.toTb pin v S H C E D (okS (G.xf c) fun fs => if fs = [] then .er else (asL (ev G as s)).st fun l s => okS (shA l s) fun q => if fs.length = q.1.length then .ex c (fs.zip q.1) q.2 else .er) := q
  obtain ⟨fl, hf, q⟩ := okS_ok q
  cases fl with
  | nil => exact False.elim q
  | cons f r =>
      have q : PSt T.toTb pin v S H C E D ((asL (ev G as s)).st fun l s => okS (shA l s) fun q => if (f :: r).length = q.1.length then .ex c ((f :: r).zip q.1) q.2 else .er) := q
      obtain ⟨fI, name, qual, params, body, scope, sup, bd⟩ := xx.xf.su c f r hf
      have no : ∀ y ∈ (f :: r).map T.nm, PySem.W.findIn X.K (.ref (T.ca c)) y = some none := fun y hy => by
        obtain ⟨f', h1, rfl⟩ := List.mem_map.mp hy
        rw [xx.K]
        exact xx.xf.no c _ f' hf h1
      rw [← xx.K] at sup
      obtain ⟨s1, s2⟩ := chk_hd hc X.env
      refine ⟨_, ps_raise xx.calm xx.tk (pmk_sup sup bd no (xx.room.mono (by omega)) (xx.gl hg) (xx.xf.nm c x hx) (wA_ok (e :: es)) (odd_of ho).1 s1 (s2 pos)), ?_⟩
      show wA X (e :: es) v H fun vs H1 => vs.length = ((f :: r).map T.nm).length ∧ ∀ d, H1 d = none → E (.ref (T.ca c)) (some d) v (upd H1 d (.xd (((f :: r).map T.nm).zip vs)))
      refine ha xx.toXk g (PSt.ofL q fun l s1 _ xs S1 H1 C1 g1 os st q1 => ?_)
      obtain ⟨⟨ds, s3⟩, hz, q2⟩ := okS_ok q1
      obtain ⟨S2, C2, g2, hd, st2⟩ := shA_ok g1 os hz
      have q2 : PSt T.toTb pin v S1 H1 C1 E D (if (f :: r).length = ds.length then .ex c ((f :: r).zip ds) s3 else .er) := q2
      split at q2
      · rename_i hl
        refine ⟨by rw [hd.len, ← hl]; simp, fun d hdn => ?_⟩
        have q3 := PSt.step (T := T.toTb) (pin := pin) (D := D) ⟨g2, st2, fun _ _ => rfl⟩ q2
        refine q3 v S2 _ C2 (some d) ⟨g2.grow (Ex.new hdn), Step.grow (Ex.new hdn), fun _ _ => rfl⟩ (.some upd_same ?_)
        exact xf_zip hd hl
      · exact False.elim q2
theorem st_rsp {c : Nat} {x : Str} {m : Str} {kk : Nat} {px pm pos p : Pos} (hx : t.xn c = some x) (hg : glB sc x = true) (ho : (!odd x) = true) : SndS T t N G (.rsp c) sc (.one (.Raise (some (.Call (.Name x px) [.Constant (.str m) kk pm] [] pos)) none p)) := by
  intro CX E k X xx pin v s S H C D g q
  have q : PSt T.toTb pin v S H C E D (if G.xf c = some [] then .ex c [] s else .er) := q
  split at q
  · rename_i hf
    obtain ⟨k1, k2, k3, k4⟩ := xx.xf.pl c hf
    rw [← xx.K] at k1 k2 k3 k4
    exact ⟨_, ps_raise xx.calm xx.tk (pmk_own PySem.F.excBase_ValueError k1 (xx.xf.nm c x hx) k2 (raises_own k3 k4) (xx.gl hg) (odd_of ho).1), q v S H C none (At.refl g) .none⟩
  · exact False.elim q
end
end Vm

namespace Vm
open PySem L2 Evl
section
variable {T : Tx} {t : Tt} {N : List Str} {G : Ct} {CX : CXT} {E : WX} {k : Nat} {sc : Scope} {X : Cx} {pin : List Nat} {v : St} {s : Env} {S H : Hp} {C : Nat → List Addr} {D : Ends}
theorem tgB_pg (x : Xs T t N G CX E k sc X) {tg : Tg} {e : Expr} (h : tgB N sc tg e = true) : PG X e (gTg X.K tg) := by
  have one : ∀ (i : Nat) (y : Str) (p : Pos), (N[i]? == some y) = true → locB sc y = true → PG X (.Name y p) (gName i) := fun i y p h1 h2 =>
    pg_name x.nd (by rw [x.N]; exact beq_iff_eq.mp h1) (by rw [x.sc]; exact loc_of h2) (.inl (x.fnT y))
  unfold tgB at h
  split at h
  · obtain ⟨h1, h2⟩ := b2 h
    exact one _ _ _ h1 h2
  · obtain ⟨h, h5⟩ := b2 h
    obtain ⟨h, h4⟩ := b2 h
    obtain ⟨h, h3⟩ := b2 h
    obtain ⟨h1, h2⟩ := b2 h
    exact pg_tup x.calm (pgs_cons (one _ _ _ h1 h2) (pgs_cons (one _ _ _ h3 h4) pgs_nil))
  · obtain ⟨k1, k2, k3⟩ := nms_pgs one h
    exact pg_tup x.calm k1 k2 k3
  · cases h
theorem lwipe_get {i : Nat} : ∀ {vs : List Nat} {v : St}, i ∉ vs → (L2.wipe v vs)[i]? = v[i]?
  | [], _, _ => rfl
  | j :: r, v, h => by
    unfold L2.wipe
    rw [List.getElem?_set_ne (fun z => h (by simp [z])), lwipe_get fun z => h (List.mem_cons_of_mem _ z)]
theorem st_for {tg : Tg} {it : Vm.E} {b : Vm.S} {y x : Expr} {body : List Stmt} {p : Pos} (htg : tgB N sc tg y = true) (hset : setB x = false) (hok : okT it y = true) (hi : SndI T t N G it sc x) (hb : SndS T t N G b sc (.many body)) : SndS T t N G (.for_ tg it b) sc (.one (.For y x body [] p)) := by
  intro CX E k X xx pin v s S H C D g q
  have q : PSt T.toTb pin v S H C E D ((asD (ev G it s)).st fun d s => okS (itemsD d) fun l => if pinT pin tg = true then .er else forL tg pin (fun s => evS G pin b s) l s) := q
  have hf : ∀ z, foldedSetIterable x X.env z = pure z := folded_not (by cases x <;> first | rfl | cases hset)
  refine ⟨_, ps_for xx.own xx.calm (wI_ok y x) (tgB_pg xx htg) (wSs_ok body) hf, ?_⟩
  refine hi xx.toXk g ?_ y hok
  cases hr : asD (ev G it s) with
  | ex c fs s1 => rw [hr] at q; exact PSt.x q
  | er => rw [hr] at q; exact q
  | ok d s1 =>
    rw [hr] at q
    obtain ⟨l, hl, q1⟩ := okS_ok q
    refine ⟨l, hl, fun J S1 H1 C1 g1 wk st1 => ?_⟩
    have q2 : (∀ i ∈ tgV tg, i ∉ pin) ∧ PSt T.toTb pin v S H C E D (forL tg pin (fun s => evS G pin b s) l s1) := by
      split at q1
      · exact False.elim q1
      · rename_i hn
        refine ⟨fun m hm z => hn ?_, q1⟩
        cases tg with
        | nm i =>
          have : m = i := by simpa [tgV] using hm
          subst this
          simpa [pinT] using z
        | two i j =>
          have : m = i ∨ m = j := by simpa [tgV] using hm
          rcases this with e | e
          · subst e; simp [pinT, z]
          · subst e; simp [pinT, z]
        | many l => exact List.any_eq_true.mpr ⟨m, hm, List.contains_iff_mem.mpr z⟩
    obtain ⟨hpin, q2⟩ := q2
    refine ⟨fun i m σ Hx => m = l.length - i ∧ i ≤ l.length ∧ ∃ si S' C', At T.toTb pin v S H C σ si S' Hx C' ∧ Ex S1 S' ∧ PSt T.toTb pin v S H C E D (forL tg pin (fun s => evS G pin b s) (l.drop i) si), ⟨l.length, by simp, Nat.zero_le _, s1, S1, C1, ⟨g1, st1, fun _ _ => rfl⟩, Ex.refl S1, q2⟩, ?_⟩
    rintro i m σ H2 ⟨rfl, hile, si, S2, C2, at2, e12, ql⟩
    by_cases hlt : i < l.length
    · obtain ⟨jgo, _⟩ := wk.go S2 H2 i e12 at2.g.ex hlt
      refine .inr ⟨jgo, fun σ Hx => i + 1 ≤ l.length ∧ ∃ si S' C', At T.toTb pin v S H C σ si S' Hx C' ∧ Ex S1 S' ∧ PSt T.toTb pin v S H C E D (forL tg pin (fun s => evS G pin b s) (l.drop (i + 1)) si), fun σ' H' nx => ⟨l.length - (i + 1), by omega, rfl, nx.1, nx.2⟩, fun y H3 hy => ?_⟩
      obtain ⟨d1, S3, hd1, g3, st3, hdy⟩ := wk.turn at2.g e12 hlt hy
      have at2 := at2.trans (At.of (pin := pin) at2.g g3 st3)
      have e12 := e12.trans st3.ss
      have edrop : l.drop i = d1 :: l.drop (i + 1) := by
        rw [List.drop_eq_getElem_cons hlt]
        rw [List.getElem?_eq_getElem hlt] at hd1
        cases hd1; rfl
      rw [edrop] at ql
      unfold forL at ql
      cases htg : Vm.tgt tg d1 si with
      | none => rw [htg] at ql; exact False.elim ql
      | some sa =>
        rw [htg] at ql
        refine gTg_ok xx.K at2.g hdy htg fun va Ca ga sta hwa => ?_
        have ata : At T.toTb pin σ S3 H3 C2 va sa S3 H3 Ca := ⟨ga, sta, fun j hj => by
          have hn : j ∉ tgV tg := fun z => hpin j z hj
          rw [← lwipe_get (v := va) hn, hwa, lwipe_get hn]⟩
        refine hb xx (pin := pin) ga ?_
        have ql : PSt T.toTb pin v S H C E D (match evS G pin b sa with
          | .nx s2 => forL tg pin (fun s => evS G pin b s) (l.drop (i + 1)) s2
          | .ct s2 => forL tg pin (fun s => evS G pin b s) (l.drop (i + 1)) s2
          | .bk s2 => .nx s2
          | x => x) := ql
        have ab := at2.trans ata
        cases hb2 : evS G pin b sa with
        | nx s2 => rw [hb2] at ql; exact fun v' S' H' C' a => ⟨hlt, s2, S', C', ab.trans a, e12.trans a.st.ss, ql⟩
        | ct s2 => rw [hb2] at ql; exact fun v' S' H' C' a => ⟨hlt, s2, S', C', ab.trans a, e12.trans a.st.ss, ql⟩
        | bk s2 => rw [hb2] at ql; exact PSt.step (r := .nx s2) ab ql
        | rt o s2 => rw [hb2] at ql; exact PSt.step (r := .rt o s2) (D := D) ab ql
        | ex c fs s2 => rw [hb2] at ql; exact PSt.step (r := .ex c fs s2) (D := D) ab ql
        | er => rw [hb2] at ql; exact False.elim ql
    · have e : i = l.length := by omega
      subst e
      refine .inl ⟨wk.stop S2 H2 e12 at2.g.ex, ?_⟩
      rw [List.drop_length] at ql
      exact ql σ S2 H2 C2 at2
/-- a, b, c = value -/
theorem st_unpm {l : List Nat} {e : Vm.E} {es : List Expr} {x : Expr} {kk : Nat} {tp p : Pos} (htg : nmsB N (locB sc) l es = true) (hc : isComp x = false) (hd : dispB x = false) (he : SndE T t N G e sc x) : SndS T t N G (.unpm l e) sc (.one (.Assign [.Tuple es kk tp] x p)) := by
  intro CX E k X xx pin v s S H C D g q
  have q : PSt T.toTb pin v S H C E D ((asD (ev G e s)).st fun d s => if l.any pin.contains = true then .er else okS (tgt (.many l) d s) .nx) := q
  have hw : swappedStores [.Tuple es kk tp] x X.env = pure none := by
    cases x <;> first | rfl | cases hd
  have hs : swapsWithSole [.Tuple es kk tp] x p.line X.env = pure false := by
    cases x <;> first | rfl | cases hc
  refine ⟨_, ps_asg (wE_ok x) (tgB_pg (tg := .many l) xx htg) hs hw rfl, ?_⟩
  show wE X x v H fun y H1 => gTg X.K (.many l) y v H1 D.nx
  refine he.d xx.toXk g (PSt.ofD q fun d s1 _ y1 S1 H1 C1 g1 hd st1 q1 => ?_)
  split at q1
  · exact False.elim q1
  · rename_i hn
    obtain ⟨s2, h2, q2⟩ := okS_ok q1
    refine gTg_ok xx.K g1 hd h2 fun va Ca ga sta hwa => q2 va S1 H1 Ca ⟨ga, sta, fun j hj => ?_⟩
    have hn2 : j ∉ l := fun z => hn (List.any_eq_true.mpr ⟨j, z, List.contains_iff_mem.mpr hj⟩)
    have hwa : L2.wipe va l = L2.wipe v l := hwa
    rw [← lwipe_get (v := va) hn2, hwa, lwipe_get hn2]
theorem st_whl {c : Vm.E} {b : Vm.S} {x : Expr} {body : List Stmt} {p : Pos} (hc : SndT T t N G c sc x) (hb : SndS T t N G b sc (.many body)) : SndS T t N G (.whl c b) sc (.one (.While x body [] p)) := by
  intro CX E k X xx pin v s S H C D g q
  have q : PSt T.toTb pin v S H C E D (whlL (turn (fun s => tru c s (ev G c s)) fun s => evS G pin b s) s) := q
  generalize hr : whlL (turn (fun s => tru c s (ev G c s)) fun s => evS G pin b s) s = r at q
  obtain ⟨n, hn⟩ := whlL_done hr (fun z => by rw [z] at q; exact q)
  refine ⟨_, ps_while xx.own (wT_ok x) (wSs_ok body), ?_⟩
  refine ⟨fun m σ Hx => ∃ si S' C', At T.toTb pin v S H C σ si S' Hx C' ∧ iter (turn (fun s => tru c s (ev G c s)) fun s => evS G pin b s) m si = some r, ⟨n, s, S, C, At.refl g, hn⟩, ?_⟩
  rintro m σ H1 ⟨si, S1, C1, at1, hit⟩
  cases m with
  | zero => cases hit
  | succ m =>
    unfold iter at hit
    refine hc xx.toXk at1.g ?_
    cases hc2 : tru c si (ev G c si) with
    | er =>
      have e : turn (fun s => tru c s (ev G c s)) (fun s => evS G pin b s) si = .end_ .er := by unfold turn; simp only [hc2]
      rw [e] at hit
      cases hit
      exact False.elim q
    | ex cc fs s2 =>
      have e : turn (fun s => tru c s (ev G c s)) (fun s => evS G pin b s) si = .end_ (.ex cc fs s2) := by unfold turn; simp only [hc2]
      rw [e] at hit
      cases hit
      exact PSt.x (PSt.step at1 q)
    | ok bb s2 =>
      intro S2 H2 C2 g2 st2
      have at2 := at1.trans (At.of (pin := pin) at1.g g2 st2)
      cases bb with
      | false =>
        have e : turn (fun s => tru c s (ev G c s)) (fun s => evS G pin b s) si = .end_ (.nx s2) := by unfold turn; simp only [hc2]
        rw [e] at hit
        cases hit
        rw [if_neg Bool.false_ne_true]
        exact q σ S2 H2 C2 at2
      | true =>
        rw [if_pos rfl]
        refine ⟨fun σ Hx => ∃ si S' C', At T.toTb pin v S H C σ si S' Hx C' ∧ iter (turn (fun s => tru c s (ev G c s)) fun s => evS G pin b s) m si = some r, fun σ' H' nx => ⟨m, Nat.lt_succ_self m, nx⟩, ?_⟩
        refine hb xx (pin := pin) g2 ?_
        cases hb2 : evS G pin b s2 with
        | nx s3 =>
          have e : turn (fun s => tru c s (ev G c s)) (fun s => evS G pin b s) si = .go s3 := by unfold turn; simp only [hc2, hb2]
          rw [e] at hit
          exact fun v' S' H' C' a => ⟨s3, S', C', at2.trans a, hit⟩
        | ct s3 =>
          have e : turn (fun s => tru c s (ev G c s)) (fun s => evS G pin b s) si = .go s3 := by unfold turn; simp only [hc2, hb2]
          rw [e] at hit
          exact fun v' S' H' C' a => ⟨s3, S', C', at2.trans a, hit⟩
        | bk s3 =>
          have e : turn (fun s => tru c s (ev G c s)) (fun s => evS G pin b s) si = .end_ (.nx s3) := by unfold turn; simp only [hc2, hb2]
          rw [e] at hit
          cases hit
          exact PSt.step (r := .nx s3) at2 q
        | rt o s3 =>
          have e : turn (fun s => tru c s (ev G c s)) (fun s => evS G pin b s) si = .end_ (.rt o s3) := by unfold turn; simp only [hc2, hb2]
          rw [e] at hit
          cases hit
          exact PSt.step (r := .rt o s3) (D := D) at2 q
        | ex cc fs s3 =>
          have e : turn (fun s => tru c s (ev G c s)) (fun s => evS G pin b s) si = .end_ (.ex cc fs s3) := by unfold turn; simp only [hc2, hb2]
          rw [e] at hit
          cases hit
          exact PSt.step (r := .ex cc fs s3) (D := D) at2 q
        | er =>
          have e : turn (fun s => tru c s (ev G c s)) (fun s => evS G pin b s) si = .end_ .er := by unfold turn; simp only [hc2, hb2]
          rw [e] at hit
          cases hit
          exact False.elim q
theorem sw_cell {elt : Expr} {gs : List Comprehension} {scope : Scope} {pos py : Pos} {y : Str} {l : Nat} {env : PySem.Env} (hy : env.scope.names.lookup y = some .cell) : swapsWith (.ListComp elt gs scope pos) (some (.Name y py)) l env = pure false := by
  have ky : env.kindOf y = some .cell := hy
  unfold swapsWith
  simp only [ky]
  have : ((some NameKind.cell : Option NameKind) == some NameKind.local) = false := by decide
  simp [this]
/-- a piece of syntax that the check lets pass does what the small text says -/
theorem st_all (hM : Hm t G.toCs) : ∀ (b : Vm.S) (p : Sp'), chkS t N sc b p = true → SndS T t N G b sc p := by
  have A := fun {a : Vm.E} {e : Expr} (h : chk t N sc a (.ex e) = true) => (snd_all (T := T) (G := G) hM a (.ex e) sc h)
  intro b
  induction b with
  | nvr => intro p _; exact st_nvr
  | nop =>
    intro p h
    cases p with
    | one st => cases st <;> cases h
    | many sts =>
      cases sts with
      | nil => exact st_nop
      | cons a b => cases h
  | seq a b iha ihb =>
    intro p h
    cases p with
    | one st => cases st <;> cases h
    | many sts =>
      cases sts with
      | nil => cases h
      | cons st r =>
        obtain ⟨h1, h2⟩ := b2 h
        exact st_seq (iha _ h1) (ihb _ h2)
  | pas =>
    intro p h
    cases p with
    | one st =>
      cases st <;> first | (cases h; done) | skip
      exact st_pas
    | many sts => cases sts <;> cases h
  | expr e =>
    intro p h
    cases p with
    | one st =>
      cases st <;> first | (cases h; done) | skip
      obtain ⟨h1, h2⟩ := b2 h
      exact st_expr (A h2).1 (n1 h1)
    | many sts => cases sts <;> cases h
  | asg i e =>
    intro p h
    cases p with
    | one st =>
      cases st <;> first | (cases h; done) | skip
      rename_i tg x p2
      rcases tg with _ | ⟨y, _ | ⟨y2, tg⟩⟩ <;> first | (cases h; done) | (cases y <;> cases h; done) | skip
      cases y <;> first | (cases h; done) | skip
      rename_i y py
      obtain ⟨h, h4⟩ := b2 h
      obtain ⟨h, h3⟩ := b2 h
      obtain ⟨h1, h2⟩ := b2 h
      have h1 : N[i]? = some y := beq_iff_eq.mp h1
      cases hcx : isComp x with
      | false => exact @st_asg T t N G sc i e y x py p2 h1 h2 (A h4).1 (fun _ => swaps_not hcx)
      | true =>
        rw [hcx] at h3
        have h3 : (swB sc y py x || (lcB x && cellB sc y)) = true := h3
        rcases Bool.or_eq_true_iff.mp h3 with h5 | h5
        · cases x with
          | ListComp elt gs scope pos =>
            obtain ⟨k5, k7⟩ := b2 h5
            obtain ⟨k5, k6⟩ := b2 k5
            cases e <;> first | (cases h4; done) | skip
            rename_i vs tg it ts el
            obtain ⟨elt', tgt, iter, ifs, scope', pos', e1, c⟩ := compC h4
            cases e1
            have hts : (ts = .nil ∧ ifs = []) ∨ ∃ c, ifs = [c] ∧ SndT T t N G ts (relS scope sc) c ∧ ts ≠ .nil := by
              rcases c.tsc with h | ⟨c1, k1, k2, k3, k4⟩
              · exact .inl h
              · exact .inr ⟨c1, k1, (snd_all hM ts (.ex c1) (relS scope sc) k3).tt k3 k2, k4⟩
            exact @st_setLc T t N G sc i vs tg it ts el y elt tgt iter ifs scope py pos p2 h1 c (snd_all hM it (.it iter) sc c.it) hts (snd_all hM el (.ex elt) (relS scope sc) c.el).1 k5 k6 (n1 k7)
          | _ => cases h5
        · obtain ⟨h5, h6⟩ := b2 h5
          cases x <;> first | (cases h5; done) | skip
          have hy : sc.names.lookup y = some .cell := by
            unfold cellB at h6
            split at h6
            · assumption
            · cases h6
          exact @st_asg T t N G sc i e y _ py p2 h1 h2 (A h4).1 (fun xx => sw_cell (by rw [xx.sc]; exact hy))
    | many sts => cases sts <;> cases h
  | unp i j e =>
    intro p h
    cases p with
    | one st => cases st <;> cases h
    | many sts => cases sts <;> cases h
  | sub a i e =>
    intro p h
    cases p with
    | one st =>
      cases st <;> first | (cases h; done) | skip
      rename_i tg x p2
      rcases tg with _ | ⟨y, _ | ⟨y2, tg⟩⟩ <;> first | (cases h; done) | (cases y <;> cases h; done) | skip
      cases y <;> first | (cases h; done) | skip
      obtain ⟨h, h5⟩ := b2 h
      obtain ⟨h, h4⟩ := b2 h
      obtain ⟨h, h3⟩ := b2 h
      obtain ⟨h1, h2⟩ := b2 h
      exact st_sub (n1 h1) (n1 h2) (A h3).1 h3 (A h4).1 h4 (A h5).1
    | many sts => cases sts <;> cases h
  | fld a f e =>
    intro p h
    cases a <;> first | (cases p with | one st => (cases st <;> first | (cases h; done) | (rename_i tg x p2; rcases tg with _ | ⟨y, _ | ⟨y2, tg⟩⟩ <;> first | (cases h; done) | (cases y <;> cases h; done))) | many sts => (cases sts <;> cases h)) | skip
    cases p with
    | one st =>
      cases st <;> first | (cases h; done) | skip
      rename_i tg x p2
      rcases tg with _ | ⟨y, _ | ⟨y2, tg⟩⟩ <;> first | (cases h; done) | (cases y <;> cases h; done) | skip
      cases y <;> first | (cases h; done) | skip
      obtain ⟨h, h4⟩ := b2 h
      obtain ⟨h, h3⟩ := b2 h
      obtain ⟨h1, h2⟩ := b2 h
      exact st_fld (of_decide_eq_true h1) (n1 h2) h3 (A h4).1
    | many sts => cases sts <;> cases h
  | aug i op e =>
    intro p h
    cases p with
    | one st =>
      cases st <;> first | (cases h; done) | skip
      rename_i tg o x p2
      cases tg <;> first | (cases h; done) | skip
      obtain ⟨h, h4⟩ := b2 h
      obtain ⟨h, h3⟩ := b2 h
      obtain ⟨h1, h2⟩ := b2 h
      obtain ⟨h3, h5⟩ := b2 h3
      cases of_decide_eq_true h3
      refine st_aug (beq_iff_eq.mp h1) h2 (A h4).1 ?_
      cases op <;> first | exact .inl rfl | exact .inr rfl | cases h5
    | many sts => cases sts <;> cases h
  | app a e =>
    intro p h
    cases p with
    | one st =>
      cases st <;> first | (cases h; done) | skip
      rename_i x p2
      cases x <;> first | (cases h; done) | skip
      rename_i fn es ks p3
      cases fn <;> first | (cases h; done) | skip
      rename_i o n apos
      rcases es with _ | ⟨x, _ | ⟨x2, es⟩⟩ <;> first | (cases h; done) | skip
      cases ks <;> first | (cases h; done) | skip
      obtain ⟨h, h6⟩ := b2 h
      obtain ⟨h, h5⟩ := b2 h
      obtain ⟨h, h4⟩ := b2 h
      obtain ⟨h, h3⟩ := b2 h
      obtain ⟨h1, h2⟩ := b2 h
      exact st_app (beq_iff_eq.mp h1) h2 (n1 h3) (n1 h4) (A h5).1 h5 (A h6).1 h6
    | many sts => cases sts <;> cases h
  | inl a i e =>
    intro p h
    cases p with
    | one st =>
      cases st <;> first | (cases h; done) | skip
      rename_i x p2
      cases x <;> first | (cases h; done) | skip
      rename_i fn es ks p3
      cases fn <;> first | (cases h; done) | skip
      rename_i o n apos
      rcases es with _ | ⟨x, _ | ⟨x2, _ | ⟨x3, es⟩⟩⟩ <;> first | (cases h; done) | skip
      cases ks <;> first | (cases h; done) | skip
      obtain ⟨h, h8⟩ := b2 h
      obtain ⟨h, h7⟩ := b2 h
      obtain ⟨h, h6⟩ := b2 h
      obtain ⟨h, h5⟩ := b2 h
      obtain ⟨h, h4⟩ := b2 h
      obtain ⟨h, h3⟩ := b2 h
      obtain ⟨h1, h2⟩ := b2 h
      exact st_inl (beq_iff_eq.mp h1) h2 (n1 h3) (n1 h4) (n1 h5) (A h6).1 h6 (A h7).1 h7 (A h8).1 h8
    | many sts => cases sts <;> cases h
  | ife c a b iha ihb =>
    intro p h
    cases p with
    | one st =>
      cases st <;> first | (cases h; done) | skip
      obtain ⟨h, h4⟩ := b2 h
      obtain ⟨h, h3⟩ := b2 h
      obtain ⟨h1, h2⟩ := b2 h
      exact st_ife ((A h2).tt h2 h1) (iha _ h3) (ihb _ h4)
    | many sts => cases sts <;> cases h
  | for_ tg it b ihb =>
    intro p h
    cases p with
    | one st =>
      cases st <;> first | (cases h; done) | skip
      rename_i y x body els p2
      cases els <;> first | (cases h; done) | skip
      obtain ⟨h, h4⟩ := b2 h
      obtain ⟨h, h3⟩ := b2 h
      obtain ⟨h, h5⟩ := b2 h
      obtain ⟨h1, h2⟩ := b2 h
      exact st_for h1 (n1 h2) h5 (snd_all hM it (.it x) sc h3) (ihb _ h4)
    | many sts => cases sts <;> cases h
  | whl c b ihb =>
    intro p h
    cases p with
    | one st =>
      cases st <;> first | (cases h; done) | skip
      rename_i x body els p2
      cases els <;> first | (cases h; done) | skip
      obtain ⟨h, h3⟩ := b2 h
      obtain ⟨h1, h2⟩ := b2 h
      exact st_whl ((A h2).tt h2 h1) (ihb _ h3)
    | many sts => cases sts <;> cases h
  | ret e =>
    intro p h
    cases p with
    | one st =>
      cases st <;> first | (cases h; done) | skip
      rename_i x p2
      cases x <;> first | (cases h; done) | skip
      exact st_ret h (A h).1
    | many sts => cases sts <;> cases h
  | retn =>
    intro p h
    cases p with
    | one st =>
      cases st <;> first | (cases h; done) | skip
      rename_i x p2
      cases x <;> first | (cases h; done) | skip
      exact st_retn
    | many sts => cases sts <;> cases h
  | brk =>
    intro p h
    cases p with
    | one st =>
      cases st <;> first | (cases h; done) | skip
      exact st_brk
    | many sts => cases sts <;> cases h
  | cnt =>
    intro p h
    cases p with
    | one st =>
      cases st <;> first | (cases h; done) | skip
      exact st_cnt
    | many sts => cases sts <;> cases h
  | rse c as =>
    intro p h
    cases p with
    | one st =>
      cases st <;> first | (cases h; done) | skip
      rename_i ex cause p2
      cases ex <;> first | (cases h; done) | skip
      rename_i ex
      cases ex <;> first | (cases h; done) | skip
      rename_i fn es ks p3
      cases fn <;> first | (cases h; done) | skip
      cases es <;> first | (cases h; done) | skip
      cases ks <;> first | (cases h; done) | skip
      cases cause <;> first | (cases h; done) | skip
      obtain ⟨h, h4⟩ := b2 h
      obtain ⟨h, h3⟩ := b2 h
      obtain ⟨h1, h2⟩ := b2 h
      exact st_rse (of_decide_eq_true h1) h2 h3 (snd_all hM as (.ar _) sc h4) h4
    | many sts => cases sts <;> cases h
  | rsp c =>
    intro p h
    cases p with
    | one st =>
      cases st <;> first | (cases h; done) | skip
      rename_i ex cause p2
      cases ex <;> first | (cases h; done) | skip
      rename_i ex
      cases ex <;> first | (cases h; done) | skip
      rename_i fn es ks p3
      cases fn <;> first | (cases h; done) | skip
      rcases es with _ | ⟨x, _ | ⟨y, es⟩⟩ <;> first | (cases h; done) | (cases x <;> first | (cases h; done) | (rename_i co _ _; cases co <;> cases h; done)) | skip
      cases x <;> first | (cases h; done) | skip
      rename_i co _ _
      cases co <;> first | (cases h; done) | skip
      cases ks <;> first | (cases h; done) | skip
      cases cause <;> first | (cases h; done) | skip
      obtain ⟨h, h3⟩ := b2 h
      obtain ⟨h1, h2⟩ := b2 h
      exact st_rsp (of_decide_eq_true h1) h2 h3
    | many sts => cases sts <;> cases h
  | augs a i op e =>
    intro p h
    cases p with
    | one st =>
      cases st <;> first | (cases h; done) | skip
      rename_i tg o x p2
      cases tg <;> first | (cases h; done) | skip
      obtain ⟨h, h6⟩ := b2 h
      obtain ⟨h, h5⟩ := b2 h
      obtain ⟨h, h4⟩ := b2 h
      obtain ⟨h, h3⟩ := b2 h
      obtain ⟨h1, h2⟩ := b2 h
      cases of_decide_eq_true h1
      refine st_augs ?_ (n1 h3) (A h4).1 h4 (A h5).1 h5 (A h6).1 h6
      cases op <;> first | exact .inl rfl | exact .inr rfl | cases h2
    | many sts => cases sts <;> cases h
  | augf a f op e =>
    intro p h
    cases a <;> first | (cases p with | one st => (cases st <;> first | (cases h; done) | (rename_i tg o x p2; cases tg <;> cases h; done)) | many sts => (cases sts <;> cases h)) | skip
    cases p with
    | one st =>
      cases st <;> first | (cases h; done) | skip
      rename_i tg o x p2
      cases tg <;> first | (cases h; done) | skip
      obtain ⟨h, h5⟩ := b2 h
      obtain ⟨h, h4⟩ := b2 h
      obtain ⟨h, h3⟩ := b2 h
      obtain ⟨h1, h2⟩ := b2 h
      cases of_decide_eq_true h1
      refine st_augf ?_ (of_decide_eq_true h3) h4 (A h5).1
      cases op <;> first | exact .inl rfl | exact .inr rfl | cases h2
    | many sts => cases sts <;> cases h
  | unpm l e =>
    intro p h
    cases p with
    | one st =>
      cases st <;> first | (cases h; done) | skip
      rename_i tg x p2
      rcases tg with _ | ⟨y, _ | ⟨y2, tg⟩⟩ <;> first | (cases h; done) | (cases y <;> cases h; done) | skip
      cases y <;> first | (cases h; done) | skip
      obtain ⟨h, h4⟩ := b2 h
      obtain ⟨h, h3⟩ := b2 h
      obtain ⟨h1, h2⟩ := b2 h
      exact st_unpm h1 (n1 h2) (n1 h3) (A h4).1
    | many sts => cases sts <;> cases h
  | del a i =>
    intro p h
    cases p with
    | one st =>
      cases st <;> first | (cases h; done) | skip
      rename_i tg p2
      rcases tg with _ | ⟨y, _ | ⟨y2, tg⟩⟩ <;> first | (cases h; done) | (cases y <;> cases h; done) | skip
      cases y <;> first | (cases h; done) | skip
      obtain ⟨h, h3⟩ := b2 h
      obtain ⟨h1, h2⟩ := b2 h
      exact st_del (n1 h1) (A h2).1 h2 (A h3).1 h3
    | many sts => cases sts <;> cases h
  | try_ b cs ihb =>
    intro p h
    cases p with
    | one st =>
      cases st <;> first | (cases h; done) | skip
      rename_i body hds els fin p2
      cases hds <;> first | (cases h; done) | skip
      cases els <;> first | (cases h; done) | skip
      cases fin <;> first | (cases h; done) | skip
      obtain ⟨h1, h2⟩ := b2 h
      exact st_try (ihb _ h1) h2
    | many sts => cases sts <;> cases h
end
end Vm

namespace Vm
open PySem L2 Evl
theorem owned_mem : ∀ {os : List O} {j i : Nat}, i ∈ owned os j ↔ ∃ k o, i = j + k ∧ os[k]? = some o ∧ o.own = true
  | [], j, i => by simp [owned]
  | o :: r, j, i => by
    have ih := @owned_mem r (j + 1) i
    unfold owned
    constructor
    · intro h
      have h2 : (i = j ∧ o.own = true) ∨ i ∈ owned r (j + 1) := by
        split at h
        · rename_i ho
          rcases List.mem_cons.mp h with e | h
          · exact .inl ⟨e, ho⟩
          · exact .inr h
        · exact .inr h
      rcases h2 with ⟨rfl, ho⟩ | h
      · exact ⟨0, o, rfl, rfl, ho⟩
      · obtain ⟨k, u, e, h1, h2⟩ := ih.mp h
        exact ⟨k + 1, u, by omega, by simpa using h1, h2⟩
    · rintro ⟨k, u, e, h1, h2⟩
      cases k with
      | zero =>
        have : o = u := by simpa using h1
        subst this
        rw [if_pos h2, e]
        simp
      | succ k =>
        have : i ∈ owned r (j + 1) := ih.mpr ⟨k, u, by omega, by simpa using h1, h2⟩
        split
        · exact List.mem_cons_of_mem _ this
        · exact this
section
variable {T : Tb} {S H : Hp} {cell : Nat → List Addr}
/-- at the entry of a body -/
theorem Good.enter {vs : List V} {os : List O} {N : List Str} (g : Good T (vs.map some) (os.map some) S H cell) (hl : vs.length ≤ N.length) : Good T (L2.start N vs) (enter N.length os) S H cell := by
  have ln : os.length = vs.length := by simpa using g.ln
  have ext : ∀ i o, (Vm.enter N.length os)[i]? = some (some o) → (os.map some)[i]? = some (some o) := fun i o h => by
    unfold Vm.enter at h
    by_cases hi : i < (os.map some).length
    · rwa [List.getElem?_append_left hi] at h
    · rw [List.getElem?_append_right (by omega), List.getElem?_replicate] at h
      split at h <;> cases h
  refine ⟨by unfold Vm.enter L2.start; simp; omega, g.ex, fun i o h => ?_, g.nd, fun i h => g.nn i fun o z => h o ?_, g.dj⟩
  · obtain ⟨x, h1, h2⟩ := g.sl i o (ext i o h)
    refine ⟨x, ?_, h2⟩
    have hi : i < (vs.map some).length := (List.getElem?_eq_some_iff.mp h1).1
    unfold L2.start
    rw [List.getElem?_append_left hi]
    exact h1
  · have hi : i < (os.map some).length := (List.getElem?_eq_some_iff.mp z).1
    unfold Vm.enter
    rw [List.getElem?_append_left hi]
    exact z
theorem fin_get {pin : List Nat} {n : Nat} {s : Env} {i : Nat} : (fin pin n s)[i]? = if i < n then some (if i ∈ pin then s.getD i none else none) else none := by
  unfold fin
  rw [List.getElem?_map]
  by_cases hi : i < n
  · rw [if_pos hi, List.getElem?_range hi]; rfl
  · rw [if_neg hi, List.getElem?_eq_none (by simpa using hi)]; rfl
/-- at its end: what is given back -/
theorem Good.fin {vs : List V} {N : List Str} {pin : List Nat} {v' : St} {s' : Env} {S' H' : Hp} {C' : Nat → List Addr} (g : Good T v' s' S' H' C') (hp : ∀ i ∈ pin, v'[i]? = (L2.start N vs)[i]?) :
    Good T (vs.map some) (Vm.fin pin vs.length s') S' H' (fun i => if i ∈ pin ∧ i < vs.length then C' i else []) where
  ln := by unfold Vm.fin; simp
  ex := g.ex
  sl := fun i o h => by
    rw [fin_get] at h
    split at h
    · rename_i hi
      split at h
      · rename_i hm
        have h : s'.getD i none = some o := by simpa using h
        have hs : s'[i]? = some (some o) := by
          rw [List.getD_eq_getElem?_getD] at h
          cases e : s'[i]? with
          | none => rw [e] at h; cases h
          | some u => rw [e] at h; exact congrArg some h
        obtain ⟨x, h1, h2⟩ := g.sl i o hs
        refine ⟨x, ?_, ?_⟩
        · rw [hp i hm] at h1
          unfold L2.start at h1
          rwa [List.getElem?_append_left (by simpa using hi)] at h1
        · rw [if_pos ⟨hm, hi⟩]; exact h2
      · cases h
    · cases h
  nd := fun i => by
    split
    · exact g.nd i
    · exact .nil
  nn := fun i h => by
    split
    · rename_i hc
      refine g.nn i fun o z => h o ?_
      rw [fin_get, if_pos hc.2, if_pos hc.1, List.getD_eq_getElem?_getD, z]
      rfl
    · rfl
  dj := fun i j a h1 h2 => by
    split at h1
    · split at h2
      · exact g.dj i j a h1 h2
      · cases h2
    · cases h1
theorem fin_step {vs : List V} {pin : List Nat} {S' H' : Hp} {C' : Nat → List Addr} (st : Step S H cell S' H' C') : Step S H cell S' H' (fun i => if i ∈ pin ∧ i < vs.length then C' i else []) :=
  ⟨st.ss, st.si, st.hh, st.th, fun i a h => by
    split at h
    · exact st.cc i a h
    · cases h⟩
theorem fin_cl {vs : List V} {pin : List Nat} {C' : Nat → List Addr} {a : Addr} (h : Cl (fun i => if i ∈ pin ∧ i < vs.length then C' i else []) a) : Cl C' a := by
  obtain ⟨i, h⟩ := h
  have h : a ∈ (if i ∈ pin ∧ i < vs.length then C' i else []) := h
  split at h
  · exact ⟨i, h⟩
  · cases h
/-- from the def's promise to the body's wish -/
theorem body_ok {vs : List V} {os : List O} {N : List Str} {E : XK} {Q : VK} {r : SR} (g : Good T (vs.map some) (os.map some) S H cell)
    (h : match outR (owned os 0) vs.length r with
      | .ret o f => ∀ x S' H' cell' c, Res T (vs.map some) f S H cell S' H' cell' x o c → Q x H'
      | .ex k fs f => PX T (vs.map some) S H cell (fun c d _ H => E c d H) k fs f
      | .er => False) : PSt T (owned os 0) (L2.start N vs) S H cell (fun c d _ H => E c d H) { nx := fun _ H' => Q .non H', rt := Q } r := by
  have hc : ∀ i, i ∉ owned os 0 → cell i = [] := fun i hi => by
    cases e : os[i]? with
    | none =>
      refine g.nn i fun o z => ?_
      rw [List.getElem?_map, e] at z
      cases z
    | some o =>
      obtain ⟨x, h1, h2⟩ := g.sl i o (by rw [List.getElem?_map, e]; rfl)
      have ho : o.own = false := by
        cases q : o.own with
        | false => rfl
        | true => exact absurd (owned_mem.mpr ⟨i, o, by omega, e, q⟩) hi
      obtain ⟨d, rfl⟩ := own_sh ho
      generalize cell i = ci at h2
      cases h2
      rfl
  cases r with
  | nx s => exact fun v' S' H' C' a => h .non S' H' _ [] ⟨a.g.fin a.pn, .sh .non, .nil, (fun a ha => by cases ha), (fun a ha => by cases ha), fin_step a.st⟩
  | rt o s =>
    refine fun v' S' H' C' x c a ow nd dj fr => h x S' H' _ c ⟨a.g.fin a.pn, ow, nd, fun q hq z => dj q hq (fin_cl z), fun q hq => ?_, fin_step a.st⟩
    rcases fr q hq with z | ⟨i, hi, z⟩
    · exact z
    · rw [hc i hi] at z; cases z
  | ex k fs s => exact fun v' S' H' C' d a x => h S' H' _ d ⟨a.g.fin a.pn, x, fin_step a.st⟩
  | bk s => exact False.elim h
  | ct s => exact False.elim h
  | er => exact False.elim h
end

/-- what is known of a def -/
structure DefG (T : Tx) (t : Tt) (g : Nat) (d : Df) : Prop where
  ex : ∃ (x qual : Str) (params : Arguments) (body : List Stmt) (scope : Scope) (dvs : List V) (kws : List (Str × V)) (N : List Str), FunD T.K x qual params body scope dvs kws (T.fa g) (T.fd g) ∧ FnScope N (T.ps g) scope ∧ d.np = (T.ps g).length ∧ d.nn = N.length ∧ (T.ps g).length ≤ N.length ∧ chkS t N scope d.body (.many body) = true
theorem fn_all {T : Tx} {t : Tt} {ds : Nat → Option Df} {cs : Cs} {P : Program} {w : World} {mg : Str → Option Value} {base : Heap}
    (fx : ∀ F, Fx T t ⟨cs, F⟩ mg) (xx : ∀ F, Xf T t ⟨cs, F⟩ mg P) (hM : Hm t cs) (hd : ∀ g d, ds g = some d → DefG T t g d) :
    ∀ k g, FnOk P w T.K mg base (L2.CX P w) (3 * k) (T.fa g) (T.fd g) (T.ps g) (spF T (FF ds cs k) g) := by
  have len : ∀ k g vs H Q E, spF T (FF ds cs k) g vs H Q E → vs.length = (T.ps g).length := fun k g vs H Q E h => h.1
  have vac : ∀ {k g}, (∀ os, FF ds cs k g os = .er) → ∀ n, FnOk P w T.K mg base (L2.CX P w) n (T.fa g) (T.fd g) (T.ps g) (spF T (FF ds cs k) g) := fun {k g} h n =>
    ⟨len k g, fun A outer s H args us vs Q E _ _ _ _ hsp => by
      obtain ⟨_, os, S, cell, _, h2⟩ := hsp
      rw [h] at h2
      exact h2.elim⟩
  intro k
  induction k with
  | zero => exact fun g => vac (fun os => rfl) _
  | succ k ih =>
    intro g
    cases e : ds g with
    | none =>
      refine vac (fun os => ?_) _
      show (match ds g with
        | some d => runD ⟨cs, FF ds cs k⟩ d os
        | none => .er) = .er
      rw [e]
    | some d =>
      obtain ⟨x, qual, params, body', scope, dvs, kws, N, F, sc, hnp, hnn, hle, hc⟩ := (hd g d e).ex
      refine F.ok (k := 3 * k + 2) sc (len _ _) fun cdv A outer s H vs Q E hr hsp => ?_
      obtain ⟨hl, os, S, cell, gd, h2⟩ := hsp
      have hF : FF ds cs (k + 1) g os = runD ⟨cs, FF ds cs k⟩ d os := by
        show (match ds g with
          | some d => runD ⟨cs, FF ds cs k⟩ d os
          | none => .er) = _
        rw [e]
      rw [hF] at h2
      have xs : Xs T t N ⟨cs, FF ds cs k⟩ (L2.CX P w) (fun c d _ H => E c d H) (3 * k) scope (cxOf (L2.CX P w) P w T.K mg base N qual scope (T.fa g) cdv A outer s H E) := {
        K := rfl
        fx := fx _
        N := rfl
        nd := sc.nd
        calm := rfl
        sc := rfl
        room := hr
        pass := fun σ => passAt (takes_of (E := E) rfl rfl rfl rfl) σ
        nox := fun _ _ _ _ _ ⟨_, _, _, _, _, _, _, _, _, _, _, _, h⟩ => h
        ln := fun g' os' h => by
          cases k with
          | zero => exact absurd rfl h
          | succ k =>
            have h : (match ds g' with
              | some d => runD ⟨cs, FF ds cs k⟩ d os'
              | none => .er) ≠ .er := h
            cases e' : ds g' with
            | none => rw [e'] at h; exact absurd rfl h
            | some d' =>
              rw [e'] at h
              obtain ⟨_, _, _, _, _, _, _, _, _, _, hnp', _⟩ := (hd g' d' e').ex
              have h : runD ⟨cs, FF ds cs k⟩ d' os' ≠ .er := h
              unfold runD at h
              split at h
              · rename_i q; rw [q, hnp']
              · exact absurd rfl h
        fn := fun g' => ih g'
        own := passes_of rfl
        kind := sc.kind
        fnT := fun _ => rfl
        tk := takes_of rfl rfl rfl rfl
        stk := rfl
        frm := rfl
        cx := rfl
        xf := xx _ }
      have lv : os.length = vs.length := by simpa using gd.ln
      have hnv : d.np = vs.length := by rw [hnp, hl]
      unfold runD at h2
      rw [if_pos (by rw [hnv, lv])] at h2
      rw [hnv, hnn] at h2
      have body := body_ok (N := N) gd h2
      exact ⟨wSs _ body', wSs_ok _, st_all hM d.body (.many body') hc xs (gd.enter (by rw [hl]; exact hle)) body⟩
end Vm

namespace Vm
open PySem L2 Evl VmX
/-- an exception's class: its name, its fields, its __init__ (no fields: it has none) -/
structure XcI where
  name : Str
  fs : List Nat
  st : Stmt
  qual : Str
/-- does the __init__ say: super().__init__(text), self.f = p ..? -/
def supBB (params : Arguments) (body : List Stmt) (fs : List Str) : Bool := match body, (params.posonlyargs ++ params.args).map (·.arg), fs with
  | [.Expr (.Call (.Attribute (.Call (.Name s0 _) [] [] _) i0 p2) [.Constant (.str _) _ _] [] p4) _, .Assign [.Attribute (.Name a _) f _] (.Name b _) _], [sf, p], [g] =>
    decide (s0 = "super") && (decide (i0 = "__init__") && (decide (a = sf) && (decide (b = p) && (decide (f = g) && (decide (sf ≠ p) && (p2.endLine == p4.line && (!(sf == ("__debug__" : Str)) && !(p == ("__debug__" : Str)))))))))
  | [.Expr (.Call (.Attribute (.Call (.Name s0 _) [] [] _) i0 p2) [.Constant (.str _) _ _] [] p4) _, .Assign [.Attribute (.Name a _) f _] (.Name b _) _, .Assign [.Attribute (.Name a' _) f' _] (.Name b' _) _], [sf, p, p'], [g, g'] =>
    decide (s0 = "super") && (decide (i0 = "__init__") && (decide (a = sf) && (decide (b = p) && (decide (f = g) && (decide (a' = sf) && (decide (b' = p') && (decide (f' = g') && (decide (sf ≠ p) && (decide (sf ≠ p') && (decide (p ≠ p') && (decide (f ≠ f') && (p2.endLine == p4.line && (!(sf == ("__debug__" : Str)) && (!(p == ("__debug__" : Str)) && !(p' == ("__debug__" : Str))))))))))))))))
  | _, _, _ => false
theorem nq {a b : Str} (h : (!(a == b)) = true) : (a == b) = false := by simpa using h
theorem supBB_ok {params : Arguments} {body : List Stmt} {fs : List Str} (h : supBB params body fs = true) : SupB params body fs := by
  unfold supBB at h
  split at h
  · rename_i sf p g hp
    obtain ⟨h1, h⟩ := He.ba h
    obtain ⟨h2, h⟩ := He.ba h
    obtain ⟨h3, h⟩ := He.ba h
    obtain ⟨h4, h⟩ := He.ba h
    obtain ⟨h5, h⟩ := He.ba h
    obtain ⟨h6, h⟩ := He.ba h
    obtain ⟨h7, h⟩ := He.ba h
    obtain ⟨h8, h9⟩ := He.ba h
    have h1 := of_decide_eq_true h1
    have h2 := of_decide_eq_true h2
    have h3 := of_decide_eq_true h3
    have h4 := of_decide_eq_true h4
    have h5 := of_decide_eq_true h5
    subst h1 h2 h3 h4 h5
    exact .one hp (of_decide_eq_true h6) h7 (nq h8) (nq h9)
  · rename_i sf p p' g g' hp
    obtain ⟨h1, h⟩ := He.ba h
    obtain ⟨h2, h⟩ := He.ba h
    obtain ⟨h3, h⟩ := He.ba h
    obtain ⟨h4, h⟩ := He.ba h
    obtain ⟨h5, h⟩ := He.ba h
    obtain ⟨k3, h⟩ := He.ba h
    obtain ⟨k4, h⟩ := He.ba h
    obtain ⟨k5, h⟩ := He.ba h
    obtain ⟨h6, h⟩ := He.ba h
    obtain ⟨m1, h⟩ := He.ba h
    obtain ⟨m2, h⟩ := He.ba h
    obtain ⟨m3, h⟩ := He.ba h
    obtain ⟨h7, h⟩ := He.ba h
    obtain ⟨h8, h⟩ := He.ba h
    obtain ⟨h9, h10⟩ := He.ba h
    have h1 := of_decide_eq_true h1
    have h2 := of_decide_eq_true h2
    have h3 := of_decide_eq_true h3
    have h4 := of_decide_eq_true h4
    have h5 := of_decide_eq_true h5
    have k3 := of_decide_eq_true k3
    have k4 := of_decide_eq_true k4
    have k5 := of_decide_eq_true k5
    subst h1 h2 h3 h4 h5
    subst k3 k4 k5
    exact .two hp (of_decide_eq_true h6) (of_decide_eq_true m1) (of_decide_eq_true m2) (of_decide_eq_true m3) h7 (nq h8) (nq h9) (nq h10)
  · cases h
/-- what is seen by its text alone -/
structure XcOk (nm : Nat → Str) (x : XcI) : Prop where
  k : (defScope x.st).kind = .function
  c : (defScope x.st).isCoroutine = false
  g : (defScope x.st).isGenerator = false
  s1 : (defScope x.st).names.lookup ("super" : Str) = some .globalImplicit
  s2 : (defScope x.st).names.lookup ("__class__" : Str) = some .free
  s3 : ∀ y ∈ (defScope x.st).names, y.2 ≠ .cell
  s4 : ∀ y ∈ ((defArgs x.st).posonlyargs ++ (defArgs x.st).args).map (·.arg), (defScope x.st).names.lookup y = some .local
  bn : ∀ (kV doc pm : Value) (an : Option Addr) (cdv ct : Value) (cc : Addr) (us : List Value), us.length = ((defArgs x.st).posonlyargs ++ (defArgs x.st).args).length →
    bindArgs (PySem.W.ksFn "__init__" x.qual (defArgs x.st) (defBody x.st) (defScope x.st) .none kV doc pm an cdv ct cc) ⟨us, []⟩ = pure ((((defArgs x.st).posonlyargs ++ (defArgs x.st).args).map (·.arg)).zip us)
  sb : supBB (defArgs x.st) (defBody x.st) (x.fs.map nm) = true
abbrev XnW : Type := Option (Str × Str × Arguments × FuncBody × Scope × Addr × List Str × Addr)
def xnAt (K : PySem.W.Frag) (a : Addr) : XnW := match K.lookup a with
  | some ⟨_, _, .func fd, _⟩ => some (fd.name, fd.qualname, fd.params, fd.body, fd.scope, fd.globals, fd.closure.map (·.1), fd.builtins)
  | _ => none
def XcI.loc (K : PySem.W.Frag) (x : XcI) : Addr := He.ma K (He.ga K x.name) "__init__"
def XcI.obs (K : PySem.W.Frag) (x : XcI) : XnW := if x.fs = [] then none else xnAt K (x.loc K)
def XcI.val (x : XcI) : XnW := if x.fs = [] then none else some ("__init__", x.qual, defArgs x.st, .stmts (defBody x.st), defScope x.st, mainGlobals, ["__class__"], builtinsNs)
/-- the class's object -/
def supCls (K : PySem.W.Frag) (C : Addr) : Bool := match K.lookup C with
  | some ⟨.type "type", _, .cls cd, sl⟩ => (match cd.mro, sl.toList with
    | .ref C' :: bm, [_, _, _, _, some (.builtin n), _] => decide (C' = C) && (decide (n = "ValueError.__new__") && (!cd.hasDel && (cd.hasDict && HandSPX.refsVE bm)))
    | _, _ => false)
  | _ => false
theorem supCls_ok {K : PySem.W.Frag} {C : Addr} (q : supCls K C = true) : ∃ nm q N bs bm sn sub ab col dd k0 k1 k2 k3 k5, K.lookup C = some (excClassObj nm q C N bs bm true sn sub ab col dd k0 k1 k2 k3 k5 "ValueError.__new__") ∧ HandSPX.refsVE bm = true := by
  unfold supCls at q
  cases e : K.lookup C with
  | none => rw [e] at q; cases q
  | some o =>
    rw [e] at q
    obtain ⟨oc, od, dt, sl⟩ := o
    cases oc <;> first | (cases q; done) | skip
    cases dt <;> first | (simp at q; done) | skip
    rename_i ty cd
    by_cases hty : ty = "type"
    · subst hty
      have q : (match cd.mro, sl.toList with
        | .ref C' :: bm, [_, _, _, _, some (.builtin n), _] => decide (C' = C) && (decide (n = "ValueError.__new__") && (!cd.hasDel && (cd.hasDict && HandSPX.refsVE bm)))
        | _, _ => false) = true := q
      split at q
      · rename_i C' bm k0 k1 k2 k3 n k5 hm hs
        obtain ⟨q1, q⟩ := He.ba q
        obtain ⟨q2, q⟩ := He.ba q
        obtain ⟨q3, q⟩ := He.ba q
        obtain ⟨q4, q5⟩ := He.ba q
        have q1 := of_decide_eq_true q1
        have q2 := of_decide_eq_true q2
        subst q1 q2
        obtain ⟨a1, a2, a3, a4, a5, a6, a7, a8, a9, a10, a11⟩ := cd
        simp only at hm q3 q4
        have q3 : a11 = false := by simpa using q3
        subst hm q3 q4
        obtain ⟨l⟩ := sl
        have hs : l = _ := hs
        subst hs
        exact ⟨_, _, _, _, _, _, _, _, _, _, _, _, _, _, _, rfl, q5⟩
      · cases q
    · have : (match (⟨.type ty, od, .cls cd, sl⟩ : Obj) with
        | ⟨.type "type", _, .cls cd, sl⟩ => (match cd.mro, sl.toList with
          | .ref C' :: bm, [_, _, _, _, some (.builtin n), _] => decide (C' = C) && (decide (n = "ValueError.__new__") && (!cd.hasDel && (cd.hasDict && HandSPX.refsVE bm)))
          | _, _ => false)
        | _ => false) = false := by
        split
        · rename_i h; cases h; exact absurd rfl hty
        · rfl
      rw [show (match some (⟨.type ty, od, .cls cd, sl⟩ : Obj) with
        | some ⟨.type "type", _, .cls cd, sl⟩ => (match cd.mro, sl.toList with
          | .ref C' :: bm, [_, _, _, _, some (.builtin n), _] => decide (C' = C) && (decide (n = "ValueError.__new__") && (!cd.hasDel && (cd.hasDict && HandSPX.refsVE bm)))
          | _, _ => false)
        | _ => false) = false from by
          split
          · rename_i h; cases h; exact absurd rfl hty
          · rfl] at q
      cases q
/-- its __init__'s object: code, class cell, file -/
def supFn (K : PySem.W.Frag) (C f : Addr) (qual file : Str) : Bool := match K.lookup f with
  | some ⟨_, _, .func fd, _⟩ => (match fd.code, fd.closure, fd.defaults with
    | .ref cda, [(_, cc)], .none => PySem.W.codeIn K (.ref cda) qual && ((match K.lookup cda with
      | some ⟨_, _, .fields vs, _⟩ => (match (vs[2]? : Option Value) with
        | some (.str z _) => decide (file = z)
        | _ => false)
      | _ => false) && (match K.lookup cc with
      | some ⟨_, _, .cell (some (.ref D)), _⟩ => decide (D = C)
      | _ => false))
    | _, _, _ => false)
  | _ => false
def supB (K : PySem.W.Frag) (file : Str) (x : XcI) : Bool :=
  let C := He.ga K x.name
  let f := x.loc K
  supCls K C && (He.eqO (PySem.W.findIn K (.ref C) "__setattr__") (some (some (.builtin "object.__setattr__"))) && (decide (PySem.W.subIn K (.ref C) (.type "ValueError") = some true) && (decide (PySem.W.mroIn K C (.ref C) = some true) &&
    (He.eqO (PySem.W.findIn K (.ref C) "__init__") (some (some (.ref f))) && (decide (PySem.W.typeIn K (.ref f) = some (.type "function")) && (He.eqO (PySem.W.ks_superIn K C C "__init__") (some (some (.builtin "ValueError.__init__"))) &&
    (He.eqO (PySem.W.nsIn K cStatics "thirdparty.any") (some none) && (He.eqO (PySem.W.nsIn K mainGlobals "super") (some none) && supFn K C f x.qual file))))))))
theorem supB_ok {K : PySem.W.Frag} {P : Program} {nm : Nat → Str} {file : Str} {x : XcI} (ok : XcOk nm x) (hf : P.main.file = file) (ht : (P.main.scope.names.lookup ("super" : Str)).isSome = false) (hn : x.fs ≠ []) (ev : x.obs K = x.val) (c : supB K file x = true)
    (h1 : PySem.W.subIn K (.ref (He.ga K x.name)) (.type "BaseException") = some true) (h2 : PySem.W.typeIn K (.ref (He.ga K x.name)) = some (.type "type")) (h3 : PySem.W.keepIn K (.ref (He.ga K x.name)) = true) :
    SupC K P (He.ga K x.name) (x.loc K) "__init__" x.qual (defArgs x.st) (defBody x.st) (defScope x.st) := by
  unfold supB at c
  obtain ⟨c1, c⟩ := He.ba c
  obtain ⟨c2, c⟩ := He.ba c
  obtain ⟨c3, c⟩ := He.ba c
  obtain ⟨c4, c⟩ := He.ba c
  obtain ⟨c5, c⟩ := He.ba c
  obtain ⟨c6, c⟩ := He.ba c
  obtain ⟨c7, c⟩ := He.ba c
  obtain ⟨c8, c⟩ := He.ba c
  obtain ⟨c9, c10⟩ := He.ba c
  refine { cls := supCls_ok c1, sa := He.eqO_ok c2, exC := h1, veC := of_decide_eq_true c3, tyC := h2, kC := h3, slf := of_decide_eq_true c4, ini := He.eqO_ok c5, tyI := of_decide_eq_true c6, sup := He.eqO_ok c7, st := He.eqO_ok c8, ns := He.eqO_ok c9, top := ht, fn := ?_, scK := ok.k, scC := ok.c, scG := ok.g, sc1 := ok.s1, sc2 := ok.s2, sc3 := ok.s3, sc4 := ok.s4 }
  unfold XcI.obs XcI.val at ev
  rw [if_neg hn, if_neg hn] at ev
  unfold xnAt at ev
  unfold supFn at c10
  cases q : K.lookup (x.loc K) with
  | none => rw [q] at ev; cases ev
  | some o =>
    obtain ⟨oc, od, dt, osl⟩ := o
    rw [q] at ev c10
    cases dt with
    | func fd =>
      obtain ⟨n1, n2, n3, n4, n5, n6, n7, n8, n9, n10, n11, n12, n13, n14, n15⟩ := fd
      have e2 : (some (n1, n2, n3, n4, n5, n6, n7.map (·.1), n15) : XnW) = (some (("__init__" : Str), x.qual, defArgs x.st, FuncBody.stmts (defBody x.st), defScope x.st, mainGlobals, [("__class__" : Str)], builtinsNs) : XnW) := ev
      simp only [Option.some.injEq, Prod.mk.injEq] at e2
      obtain ⟨g1, g2, g3, g4, g5, g6, g7, g8⟩ := e2
      subst g1 g2 g3 g4 g5 g6 g8
      simp only at c10
      split at c10
      · rename_i cda y cc
        have g7 : y = "__class__" := by simpa using g7
        subst g7
        obtain ⟨k1, c10⟩ := He.ba c10
        obtain ⟨k2, k3⟩ := He.ba c10
        split at k2
        · rename_i ccl cdd vs ccs q2
          split at k2
          · rename_i z tf q3
            have k2 := of_decide_eq_true k2
            split at k3
            · rename_i cl cld D csl q4
              have k3 := of_decide_eq_true k3
              subst k3
              exact ⟨_, _, _, _, _, cda, _, cc, oc, od, osl, ccl, cdd, vs, ccs, z, tf, cl, cld, csl, rfl, k1, q2, q3, by rw [hf, k2]; simp, q4, fun us hu s => .of_eq (ok.bn _ _ _ _ _ _ _ us hu)⟩
            · cases k3
          · cases k2
        · cases k2
      · cases c10
    | _ => cases ev
/-- what an object names, its cells too -/
def refsX (o : Obj) : List Addr := He.refsD o ++ match o.data with
  | .func fd => fd.closure.map (·.2)
  | _ => []
def growX (g : Addr → Option Obj) (as : List Addr) : List Addr := (as ++ as.flatMap fun a => match g a with
  | some o => refsX o
  | none => []).eraseDups
def asX (g : Addr → Option Obj) : Nat → List Addr
  | 0 => [mainGlobals]
  | n + 1 => growX g (asX g n)
end Vm

namespace Vm
open PySem L2 Evl

/-- where a def stands -/
inductive Ad where
  | glo (x : Str) | met (C m : Str) | prp (C f : Str) | sta (C m : Str) | cla (C m : Str)
def prpAt (K : PySem.W.Frag) (p : Addr) : Addr := match PySem.W.recIn K p "property" with
  | some (.ref g :: _) => g
  | _ => 0
def Ad.loc (K : PySem.W.Frag) : Ad → Addr
  | .glo x => He.ga K x
  | .met C m => He.ma K (He.ga K C) m
  | .prp C f => prpAt K (He.ma K (He.ga K C) f)
  | .sta C m => He5.wf K (He.ga K C) "staticmethod" m
  | .cla C m => He5.wf K (He.ga K C) "classmethod" m
/-- one def: where, its name, its text, its parameters and slots, its small text -/
structure DfI where
  ad : Ad
  name : Str
  qual : Str
  st : Stmt
  ps : List Str
  N : List Str
  dfl : List He.Dv
  body : S
def DfI.df (d : DfI) : Df := ⟨d.ps.length, d.N.length, d.body⟩
def fnAt (K : PySem.W.Frag) (a : Addr) : He.FnW := match K.lookup a with
  | some ⟨_, _, .func fd, _⟩ => some (fd.name, fd.qualname, fd.params, fd.body, fd.scope, fd.globals, fd.closure, fd.builtins)
  | _ => none
def DfI.val (d : DfI) : He.FnW := some (d.name, d.qual, defArgs d.st, .stmts (defBody d.st), defScope d.st, mainGlobals, [], builtinsNs)
def DfI.dvs (K : PySem.W.Frag) (d : DfI) : List V := d.dfl.map (He.Dv.v K)
def DfI.ok (K : PySem.W.Frag) (d : DfI) : Bool := PySem.W.keepIn K (.ref (d.ad.loc K)) && (match K.lookup (d.ad.loc K) with
  | some ⟨_, _, .func fd, _⟩ => PySem.W.codeIn K fd.code d.qual && He.dflB K fd.defaults (d.dvs K)
  | _ => false)
def fdAt (K : PySem.W.Frag) (a : Addr) : FuncData := match K.lookup a with
  | some ⟨_, _, .func fd, _⟩ => fd
  | _ => default
theorem DfI.funD {K : PySem.W.Frag} {d : DfI} (e : fnAt K (d.ad.loc K) = d.val) (c : d.ok K = true) : FunD K d.name d.qual (defArgs d.st) (defBody d.st) (defScope d.st) (d.dvs K) [] (d.ad.loc K) (fdAt K (d.ad.loc K)) := by
  obtain ⟨kp, c2⟩ := He.ba c
  unfold fnAt at e
  cases q : K.lookup (d.ad.loc K) with
  | none =>
    rw [q] at c2
    cases c2
  | some o =>
    obtain ⟨oc, od, dt, osl⟩ := o
    rw [q] at c2 e
    cases dt with
    | func fd =>
      have ef : fdAt K (d.ad.loc K) = fd := by unfold fdAt; rw [q]
      rw [ef]
      obtain ⟨n1, n2, n3, n4, n5, n6, n7, n8, n9, n10, n11, n12, n13, n14, n15⟩ := fd
      have e2 : (some (n1, n2, n3, n4, n5, n6, n7, n15) : He.FnW) = some (d.name, d.qual, defArgs d.st, .stmts (defBody d.st), defScope d.st, mainGlobals, [], builtinsNs) := e
      simp only [Option.some.injEq, Prod.mk.injEq] at e2
      obtain ⟨h1, h2, h3, h4, h5, h6, h7, h8⟩ := e2
      subst h1 h2 h3 h4 h5 h6 h7 h8
      obtain ⟨k1, k2⟩ := He.ba c2
      exact ⟨⟨oc, od, n8, n9, n10, n11, n12, n13, n14, osl, rfl, q, k1, He.dflB_ok k2, .inl rfl⟩, kp⟩
    | _ => cases c2
/-- what is seen of a def by its text alone -/
structure DfOk (t : Tt) (d : DfI) : Prop where
  sc : FnScope d.N d.ps (defScope d.st)
  ck : chkS t d.N (defScope d.st) d.body (.many (defBody d.st)) = true
  le : d.ps.length ≤ d.N.length
  bn : d.dfl = [] → ∀ (kV doc pm : Value) (an : Option Addr) (cdv ct : Value) (us : List Value), us.length = d.ps.length →
    bindArgs (PySem.W.fnOf d.name d.qual (defArgs d.st) (defBody d.st) (defScope d.st) .none kV doc pm an cdv ct) ⟨us, []⟩ = pure (d.ps.zip us)
  bd : d.dfl ≠ [] → ∀ (T : Addr) (kV doc pm : Value) (an : Option Addr) (cdv ct : Value) (us its : List Value), us.length = d.ps.length → its.length = d.dfl.length →
    ∃ k, bindArgs (PySem.W.fnOf d.name d.qual (defArgs d.st) (defBody d.st) (defScope d.st) (.ref T) kV doc pm an cdv ct) ⟨us, []⟩ = seqItems? (.ref T) >>= k ∧ k (some its.toArray) = pure (d.ps.zip us)
theorem DfOk.binds {t : Tt} {d : DfI} (o : DfOk t d) {K : PySem.W.Frag} {f : Addr} {fd : FuncData} (F : FunD K d.name d.qual (defArgs d.st) (defBody d.st) (defScope d.st) (d.dvs K) [] f fd) : Binds K fd d.ps [] := by
  by_cases e : d.dfl = []
  · have ev : d.dvs K = [] := by unfold DfI.dvs; rw [e]; rfl
    rw [ev] at F
    exact F.bindsN (o.bn e)
  · have ne : d.dvs K ≠ [] := by
      unfold DfI.dvs
      intro z
      exact e (List.map_eq_nil_iff.mp z)
    have el : (d.dvs K).length = d.dfl.length := by unfold DfI.dvs; simp
    obtain ⟨ds, h1, h2⟩ := F.binds1 (ps := d.ps) d.ps.length (d.dvs K).length ne (by omega) fun T kV doc pm an cdv ct us its h1 h2 => by
      obtain ⟨k, k1, k2⟩ := o.bd e T kV doc pm an cdv ct us its h1 (by rw [h2, el])
      refine ⟨k, k1, ?_⟩
      rw [List.drop_eq_nil_of_le (by omega), List.append_nil]
      exact k2
    rw [List.drop_length] at h1
    cases h1
    exact h2

structure Tbl where
  nml : List Str
  cls : List (Nat × Str)
  mth : List (Nat × Nat × Nat)
  prp : List (Nat × Nat × Nat)
  fld : List (Nat × Nat)
  gi : List (Str × Int)
  dfs : List (Nat × DfI)
  /-- exceptions' classes, who is under whom, the file -/
  xcs : List (Nat × XcI)
  xsb : List (Nat × Nat)
  file : Str
  /-- constants of classes (at 0: no __init__), static and class methods -/
  cst : List (Nat × Nat × D)
  smt : List (Nat × Nat × Nat × Bool)
def look {α : Type} (n : Nat) : List (Nat × α) → Option α
  | [] => none
  | (m, a) :: r => if m = n then some a else look n r
theorem look_mem {α : Type} {n : Nat} {a : α} : ∀ {l : List (Nat × α)}, look n l = some a → (n, a) ∈ l
  | [], h => by cases h
  | (m, b) :: r, h => by
    unfold look at h
    split at h
    · rename_i e
      subst e
      cases h
      exact List.mem_cons_self
    · exact List.mem_cons_of_mem _ (look_mem h)
def look2 {α : Type} (c m : Nat) : List (Nat × Nat × α) → Option α
  | [] => none
  | (c', m', g) :: r => if c' = c ∧ m' = m then some g else look2 c m r
theorem look2_mem {α : Type} {c m : Nat} {g : α} : ∀ {l : List (Nat × Nat × α)}, look2 c m l = some g → (c, m, g) ∈ l
  | [], h => by cases h
  | (c', m', g') :: r, h => by
    unfold look2 at h
    split at h
    · rename_i e
      obtain ⟨rfl, rfl⟩ := e
      cases h
      exact List.mem_cons_self
    · exact List.mem_cons_of_mem _ (look2_mem h)
namespace Tbl
variable (b : Tbl)
def nm (i : Nat) : Str := match b.nml[i]? with
  | some x => x
  | none => ⟨Array.replicate (i + 100) 0⟩
def cn (c : Nat) : Option Str := look c b.cls
def gn (g : Nat) : Option Str := match look g b.dfs with
  | some d => (match d.ad with
    | .glo x => some x
    | _ => none)
  | none => none
def ds (g : Nat) : Option Df := (look g b.dfs).map DfI.df
def mt (c m : Nat) : Option Nat := look2 c m b.mth
def pp (c m : Nat) : Option Nat := look2 c m b.prp
def fl (c f : Nat) : Bool := b.fld.contains (c, f)
def xn (c : Nat) : Option Str := (look c b.xcs).map (·.name)
def xf (c : Nat) : Option (List Nat) := (look c b.xcs).map (·.fs)
def sb (c c' : Nat) : Bool := b.xsb.contains (c, c')
def cs2 (c f : Nat) : Option D := look2 c f b.cst
def sm2 (c m : Nat) : Option (Nat × Bool) := look2 c m b.smt
def cs : Cs := ⟨b.mt, b.pp, b.fl, b.xf, b.sb, b.cs2, b.sm2⟩
def tt : Tt := ⟨b.nm, b.gn, b.cn, fun g => match look g b.dfs with
  | some d => d.ps.length
  | none => 0, fun _ => none, b.gi, b.xn, fun c => (b.mt c 0).isSome, fun c m => (b.sm2 c m).isSome⟩
theorem hm : Hm b.tt b.cs := ⟨fun _ h => h, fun _ _ h => h⟩
def ca (K : PySem.W.Frag) (c : Nat) : Addr := match b.cn c with
  | some x => He.ga K x
  | none => (match b.xn c with
    | some x => He.ga K x
    | none => 0)
def fa (K : PySem.W.Frag) (g : Nat) : Addr := match look g b.dfs with
  | some d => d.ad.loc K
  | none => 0
def ps (g : Nat) : List Str := match look g b.dfs with
  | some d => d.ps
  | none => []
def isC (c : Nat) : Prop := (b.cn c).isSome = true
def nmOk : Bool := decide b.nml.Nodup && b.nml.all fun x => decide (x.cps.size < 100)
theorem nm_inj (h : b.nmOk = true) (f g : Nat) (e : b.nm f = b.nm g) : f = g := by
  obtain ⟨h1, h2⟩ := He.ba h
  have nd := of_decide_eq_true h1
  have sm : ∀ x ∈ b.nml, x.cps.size < 100 := fun x hx => of_decide_eq_true (List.all_eq_true.mp h2 x hx)
  unfold nm at e
  cases ef : b.nml[f]? with
  | some x =>
    cases eg : b.nml[g]? with
    | some y =>
      rw [ef, eg] at e
      have e : x = y := e
      subst e
      exact (List.getElem?_inj (List.getElem?_eq_some_iff.mp ef).1 nd).mp (ef.trans eg.symm)
    | none =>
      rw [ef, eg] at e
      have e : x = ⟨Array.replicate (g + 100) 0⟩ := e
      have := sm x (List.mem_of_getElem? ef)
      rw [e] at this
      simp at this
      omega
  | none =>
    cases eg : b.nml[g]? with
    | some y =>
      rw [ef, eg] at e
      have e : (⟨Array.replicate (f + 100) 0⟩ : Str) = y := e
      have := sm y (List.mem_of_getElem? eg)
      rw [← e] at this
      simp at this
      omega
    | none =>
      rw [ef, eg] at e
      have e : (⟨Array.replicate (f + 100) 0⟩ : Str) = ⟨Array.replicate (g + 100) 0⟩ := e
      have := congrArg (fun z : Str => z.cps.size) e
      simp at this
      omega
end Tbl

def clsB (K : PySem.W.Frag) (C : Addr) : Bool := PySem.W.plainGet K C Str.empty && (PySem.W.hasDictIn K C && (PySem.W.plainOver K C && He.eqO (PySem.W.findIn K (.ref C) "__setattr__") (some (some (.builtin "object.__setattr__")))))
theorem clsB_ok {K : PySem.W.Frag} {C : Addr} (c : clsB K C = true) : Cls K C := by
  obtain ⟨c1, c⟩ := He.ba c
  obtain ⟨c2, c⟩ := He.ba c
  obtain ⟨c3, c4⟩ := He.ba c
  exact ⟨c1, c2, c3, He.eqO_ok c4⟩
def methB (K : PySem.W.Frag) (C : Addr) (m : Str) (f : Addr) : Bool := He.eqO (PySem.W.findIn K (.ref C) m) (some (some (.ref f))) && (PySem.W.isFn K (.ref f) && PySem.W.keepIn K (.ref f))
theorem methB_ok {K : PySem.W.Frag} {C f : Addr} {m : Str} (c : methB K C m f = true) : Meth K C m f := by
  obtain ⟨c1, c⟩ := He.ba c
  obtain ⟨c2, c3⟩ := He.ba c
  exact ⟨He.eqO_ok c1, c2, c3⟩
def mkB (K : PySem.W.Frag) (C f : Addr) : Bool := PySem.W.makesIn K C && (He.eqO (PySem.W.findIn K (.ref C) "__init__") (some (some (.ref f))) && (PySem.W.isFn K (.ref f) && PySem.W.keepIn K (.ref C)))
theorem mkB_ok {K : PySem.W.Frag} {C f : Addr} (c : mkB K C f = true) : Mk K C f := by
  obtain ⟨c1, c⟩ := He.ba c
  obtain ⟨c2, c⟩ := He.ba c
  obtain ⟨c3, c4⟩ := He.ba c
  exact ⟨c1, He.eqO_ok c2, c3, c4⟩
def pinN : Nat → Option (Str × Str)
  | 1 => some ("__add__", "__radd__") | 2 => some ("__sub__", "__rsub__") | 3 => some ("__mul__", "__rmul__") | 4 => some ("__floordiv__", "__rfloordiv__") | 5 => some ("__mod__", "__rmod__")
  | 6 => some ("__xor__", "__rxor__") | 7 => some ("__and__", "__rand__") | 8 => some ("__or__", "__ror__") | _ => none
theorem pinN_ok (op : Operator) (h : pinD op ≠ 9) : pinN (pinD op) = some (PySem.dunder op.info.2, dunderR op.info.2) := by
  cases op <;> first | (exact absurd rfl h) | decide +kernel
def refO : Option (Option Value) → Bool
  | some none => true
  | some (some (.ref _)) => true
  | _ => false
def opB (K : PySem.W.Frag) (C f : Addr) (q : Str × Str) : Bool := He.eqO (PySem.W.findIn K (.ref C) q.1) (some (some (.ref f))) && (PySem.W.isFn K (.ref f) && (PySem.W.selfFirst K C && (refO (PySem.W.findIn K (.ref C) q.2) &&
  ((PySem.W.findIn K (.type "int") q.1).isSome && ((PySem.W.findIn K (.type "int") q.2).isSome && decide (PySem.W.subIn K (.type "int") (.ref C) = some false))))))
def cmpNm : Nat → Option Str
  | 11 => some "__eq__" | 12 => some "__lt__" | 13 => some "__le__" | _ => none
def opC (K : PySem.W.Frag) (C f : Addr) (x : Str) : Bool := He.eqO (PySem.W.findIn K (.ref C) x) (some (some (.ref f))) && PySem.W.isFn K (.ref f)
/-- one row of the table of methods -/
def mtB (b : Tbl) (K : PySem.W.Frag) (q : Nat × Nat × Nat) : Bool :=
  (b.cn q.1).isSome && ((b.ds q.2.2).isSome && (methB K (b.ca K q.1) (b.nm q.2.1) (b.fa K q.2.2) && (if q.2.1 = 0 then mkB K (b.ca K q.1) (b.fa K q.2.2) else
    if q.2.1 = 9 ∨ q.2.1 = 19 then false else
    if q.2.1 = 20 then opC K (b.ca K q.1) (b.fa K q.2.2) "__invert__" else
    if q.2.1 = 18 then opC K (b.ca K q.1) (b.fa K q.2.2) "__len__" else
    if q.2.1 = 14 then opC K (b.ca K q.1) (b.fa K q.2.2) "__getitem__" && PySem.W.fnIn K (b.fa K q.2.2) else
    if q.2.1 = 15 then opC K (b.ca K q.1) (b.fa K q.2.2) "__setitem__" && PySem.W.noSeq K (b.ca K q.1) else
    if q.2.1 = 17 then opC K (b.ca K q.1) (b.fa K q.2.2) "__call__" && PySem.W.fnIn K (b.fa K q.2.2) else
    match pinN q.2.1 with
    | some z => opB K (b.ca K q.1) (b.fa K q.2.2) z
    | none => (match cmpNm q.2.1 with
      | some z => opC K (b.ca K q.1) (b.fa K q.2.2) z
      | none => true))))
def relD : D → Value → Bool
  | .str a, .str x _ => decide (x = a)
  | .int a, .int x _ => decide (x = a)
  | .bl a, .bool x => decide (x = a)
  | _, _ => false
def vD : D → V
  | .str a => .str a
  | .int a => .int a
  | .bl a => .bl a
  | _ => .non
theorem relD_ok {d : D} {u : Value} (h : relD d u = true) : RelV (vD d) u ∧ ∀ {T : Tb} (S : Hp), Hd T S (vD d) d := by
  unfold relD at h
  split at h
  · have e := of_decide_eq_true h
    subst e
    exact ⟨⟨_, rfl⟩, fun S => .str _⟩
  · have e := of_decide_eq_true h
    subst e
    exact ⟨⟨_, rfl⟩, fun S => .int _⟩
  · have e := of_decide_eq_true h
    subst e
    exact ⟨rfl, fun S => .bl _⟩
  · cases h
def rdB (K : PySem.W.Frag) (C : Addr) : Bool := PySem.W.readsIn K C (.type "type") && He.eqO (PySem.W.specialIn K (.ref C) "__getattribute__") (some (some (.builtin "type.__getattribute__")))
def mk0B (K : PySem.W.Frag) (C : Addr) : Bool := PySem.W.makesIn K C && (He.eqO (PySem.W.findIn K (.ref C) "__init__") (some (some (.builtin "object.__init__"))) && (decide (PySem.W.mroIn K C (.type "object") = some true) && PySem.W.keepIn K (.ref C)))
def conB2 (K : PySem.W.Frag) (C : Addr) (f : Str) (d : D) : Bool := rdB K C && (!PySem.W.copiedNames.contains f && ((match PySem.W.findIn K (.ref C) f with
    | some (some u) => relD d u && He.eqO (PySem.W.specialIn K u "__get__") (some none)
    | _ => false) && (match PySem.W.findCls K (.ref C) (.type "type") f with
    | some (.val u) => relD d u
    | _ => false)))
theorem conB2_ok {K : PySem.W.Frag} {C : Addr} {f : Str} {d : D} (h : conB2 K C f d = true) : (∃ u, Con K C f (vD d) u) ∧ ClX.CRead K C (.type "type") ∧ (∃ u, ClX.CVal K C (.type "type") f (vD d) u) ∧ ∀ {T : Tb} (S : Hp), Hd T S (vD d) d := by
  obtain ⟨h1, h⟩ := He.ba h
  obtain ⟨h2, h⟩ := He.ba h
  obtain ⟨h3, h4⟩ := He.ba h
  obtain ⟨r1, r2⟩ := He.ba h1
  split at h3
  · rename_i u e
    obtain ⟨k1, k2⟩ := He.ba h3
    split at h4
    · rename_i u' e'
      exact ⟨⟨u, e, (relD_ok k1).1, He.eqO_ok k2, by simpa using h2⟩, ⟨r1, He.eqO_ok r2⟩, ⟨u', e', (relD_ok h4).1⟩, (relD_ok k1).2⟩
    · cases h4
  · cases h3
def cstB (b : Tbl) (K : PySem.W.Frag) (q : Nat × Nat × D) : Bool := if q.2.1 = 0 then mk0B K (b.ca K q.1) else conB2 K (b.ca K q.1) (b.nm q.2.1) q.2.2
def smtB (b : Tbl) (K : PySem.W.Frag) (q : Nat × Nat × Nat × Bool) : Bool := (b.ds q.2.2.1).isSome && (rdB K (b.ca K q.1) && (if q.2.2.2 = true then He5.wrapB K (b.ca K q.1) "classmethod" "classmethod.__get__" (b.nm q.2.1) && (decide (He5.wf K (b.ca K q.1) "classmethod" (b.nm q.2.1) = b.fa K q.2.2.1) && PySem.W.fnIn K (b.fa K q.2.2.1))
  else He5.wrapB K (b.ca K q.1) "staticmethod" "staticmethod.__get__" (b.nm q.2.1) && (decide (He5.wf K (b.ca K q.1) "staticmethod" (b.nm q.2.1) = b.fa K q.2.2.1) && PySem.W.keepIn K (.ref (b.fa K q.2.2.1)))))
def ppB (b : Tbl) (K : PySem.W.Frag) (q : Nat × Nat × Nat) : Bool :=
  let p := He.ma K (b.ca K q.1) (b.nm q.2.1)
  (b.ds q.2.2).isSome && (He.eqO (PySem.W.findIn K (.ref (b.ca K q.1)) (b.nm q.2.1)) (some (some (.ref p))) && (He.eqO (PySem.W.specialIn K (.ref p) "__get__") (some (some (.builtin "property.__get__"))) &&
    (decide (PySem.W.takesIn K (.ref p) = some true) && (match PySem.W.recIn K p "property" with
      | some (.ref g :: _) => decide (g = b.fa K q.2.2)
      | _ => false))))
/-- one class -/
def clB (b : Tbl) (K : PySem.W.Frag) (q : Nat × Str) : Bool :=
  (He.Fa.glo q.2).ok K && (clsB K (He.ga K q.2) && (He.eqO (PySem.W.findIn K (.ref (He.ga K q.2)) "__class__") (some (some (.builtin "object.__class__"))) && (decide (PySem.W.mroIn K (He.ga K q.2) (.type "object") = some true) &&
    ((b.cls.all fun p => decide (PySem.W.kitOne K (.ref (He.ga K q.2)) (.ref (He.ga K p.2)) = some (q.1 == p.1)) && PySem.W.notFirst K (He.ga K q.2) (.ref (He.ga K p.2))) &&
    ((["int", "bool", "str", "tuple", "list"].all fun z => decide (PySem.W.kitOne K (.ref (He.ga K q.2)) (.type z) = some false)) &&
    (["NoneType", "int", "bool", "str", "tuple", "list"].all fun z => decide (PySem.W.kitOne K (.type z) (.ref (He.ga K q.2)) = some false)))))))
def dfB (K : PySem.W.Frag) (q : Nat × DfI) : Bool := match q.2.ad with
  | .glo x => (He.Fa.glo x).ok K
  | _ => true
/-- one exception's class -/
def xcB (b : Tbl) (K : PySem.W.Frag) (q : Nat × XcI) : Bool :=
  let C := He.ga K q.2.name
  (b.cn q.1).isNone && ((He.Fa.glo q.2.name).ok K && (PySem.W.keepIn K (.ref C) && (decide (PySem.W.subIn K (.ref C) (.type "BaseException") = some true) && (decide (PySem.W.typeIn K (.ref C) = some (.type "type")) &&
    (xfB K C && (He.eqO (PySem.W.findIn K (.ref C) "__class__") (some (some (.builtin "object.__class__"))) && (decide (PySem.W.mroIn K C (.type "object") = some true) && (decide (PySem.W.kitOne K (.ref C) (.type "ValueError") = some true) &&
    ((b.xcs.all fun p => decide (PySem.W.kitOne K (.ref C) (.ref (He.ga K p.2.name)) = some (b.sb q.1 p.1)) && decide (PySem.W.exmOne K (.ref C) (.ref (He.ga K p.2.name)) = some (b.sb q.1 p.1))) &&
    ((q.2.fs.all fun f => He.eqO (PySem.W.findIn K (.ref C) (b.nm f)) (some none)) && (if q.2.fs = [] then PySem.W.excIn K C He.veBase "ValueError.__new__" else supB K b.file q.2)))))))))))
def allBi : List Bi := [.len, .int, .bool, .list, .tuple, .sorted, .range, .abs, .sum, .str, .min, .max, .any, .all, .zip, .reversed]
def frees : List Str := ["isinstance", "int", "bool", "str", "tuple", "list", "ValueError"]
def exB0 (b : Tbl) (K : PySem.W.Frag) : Bool :=
  (b.cls.all (clB b K) && b.mth.all (mtB b K)) && ((b.prp.all (ppB b K) && b.fld.all fun q => He.eqO (PySem.W.findIn K (.ref (b.ca K q.1)) (b.nm q.2)) (some none)) && ((b.gi.all (fun q => (He.Fa.int q.1 q.2).ok K) && b.dfs.all (dfB K)) &&
    (((allBi.all fun i => (He.Fa.free (biN i)).ok K) && (frees.all fun x => (He.Fa.free x).ok K)) &&
      (He.eqO (PySem.W.specialIn K (.builtin "object.__class__") "__get__") (some (some (.builtin "getset_descriptor.__get__"))) && decide (PySem.W.takesIn K (.builtin "object.__class__") = some true)))))
def exB1 (b : Tbl) (K : PySem.W.Frag) : Bool := exB0 b K && b.xcs.all (xcB b K)
def exB (b : Tbl) (K : PySem.W.Frag) : Bool := exB1 b K && (b.cst.all (cstB b K) && b.smt.all (smtB b K))
section
variable {b : Tbl} {K : PySem.W.Frag}
theorem exB_xcs (h : exB b K = true) {q : Nat × XcI} (hq : q ∈ b.xcs) : xcB b K q = true := List.all_eq_true.mp (He.ba (He.ba h).1).2 q hq
theorem exB_cst (h : exB b K = true) {q : Nat × Nat × D} (hq : q ∈ b.cst) : cstB b K q = true := List.all_eq_true.mp (He.ba (He.ba h).2).1 q hq
theorem exB_smt (h : exB b K = true) {q : Nat × Nat × Nat × Bool} (hq : q ∈ b.smt) : smtB b K q = true := List.all_eq_true.mp (He.ba (He.ba h).2).2 q hq
theorem exB_0 (h : exB b K = true) : exB0 b K = true := (He.ba (He.ba h).1).1
theorem exB_cls (h : exB b K = true) {q : Nat × Str} (hq : q ∈ b.cls) : clB b K q = true := List.all_eq_true.mp (He.ba (He.ba (exB_0 h)).1).1 q hq
theorem exB_mth (h : exB b K = true) {q : Nat × Nat × Nat} (hq : q ∈ b.mth) : mtB b K q = true := List.all_eq_true.mp (He.ba (He.ba (exB_0 h)).1).2 q hq
theorem exB_prp (h : exB b K = true) {q : Nat × Nat × Nat} (hq : q ∈ b.prp) : ppB b K q = true := List.all_eq_true.mp (He.ba (He.ba (He.ba (exB_0 h)).2).1).1 q hq
theorem exB_fld (h : exB b K = true) {q : Nat × Nat} (hq : q ∈ b.fld) : PySem.W.findIn K (.ref (b.ca K q.1)) (b.nm q.2) = some none := He.eqO_ok (List.all_eq_true.mp (He.ba (He.ba (He.ba (exB_0 h)).2).1).2 q hq)
theorem exB_gi (h : exB b K = true) {q : Str × Int} (hq : q ∈ b.gi) : (He.Fa.int q.1 q.2).ok K = true := List.all_eq_true.mp (He.ba (He.ba (He.ba (He.ba (exB_0 h)).2).2).1).1 q hq
theorem exB_dfs (h : exB b K = true) {q : Nat × DfI} (hq : q ∈ b.dfs) : dfB K q = true := List.all_eq_true.mp (He.ba (He.ba (He.ba (He.ba (exB_0 h)).2).2).1).2 q hq
theorem exB_bi (h : exB b K = true) (i : Bi) : (He.Fa.free (biN i)).ok K = true := List.all_eq_true.mp (He.ba (He.ba (He.ba (He.ba (He.ba (exB_0 h)).2).2).2).1).1 i (by cases i <;> decide)
theorem exB_fr (h : exB b K = true) {x : Str} (hx : x ∈ frees) : (He.Fa.free x).ok K = true := List.all_eq_true.mp (He.ba (He.ba (He.ba (He.ba (He.ba (exB_0 h)).2).2).2).1).2 x hx
theorem exB_cl (h : exB b K = true) : PySem.W.specialIn K (.builtin "object.__class__") "__get__" = some (some (.builtin "getset_descriptor.__get__")) ∧ PySem.W.takesIn K (.builtin "object.__class__") = some true :=
  ⟨He.eqO_ok (He.ba (He.ba (He.ba (He.ba (He.ba (exB_0 h)).2).2).2).2).1, of_decide_eq_true (He.ba (He.ba (He.ba (He.ba (He.ba (exB_0 h)).2).2).2).2).2⟩
theorem isC_get {c : Nat} (h : b.isC c) : ∃ x, b.cn c = some x ∧ (c, x) ∈ b.cls ∧ b.ca K c = He.ga K x := by
  unfold Tbl.isC at h
  cases e : b.cn c with
  | none => rw [e] at h; cases h
  | some x => exact ⟨x, rfl, look_mem e, by unfold Tbl.ca; rw [e]⟩
theorem cls_of (h : exB b K = true) (c : Nat) (hc : b.isC c) : Cls K (b.ca K c) := by
  obtain ⟨x, _, hm, e⟩ := isC_get (K := K) hc
  rw [e]
  exact clsB_ok (He.ba (He.ba (exB_cls h hm)).2).1
/-- the text's names and addresses -/
def Tbl.tx (b : Tbl) (K : PySem.W.Frag) (hn : b.nmOk = true) (h : exB b K = true) : Tx := ⟨⟨K, b.ca K, b.nm, b.nm_inj hn, b.isC, cls_of h⟩, b.fa K, fun g => fdAt K (b.fa K g), b.ps⟩
theorem ds_get {g : Nat} {d : Df} (h : b.ds g = some d) : ∃ i, look g b.dfs = some i ∧ d = i.df := by
  unfold Tbl.ds at h
  cases e : look g b.dfs with
  | none => rw [e] at h; cases h
  | some i => rw [e] at h; exact ⟨i, rfl, (Option.some.inj h).symm⟩
end
section
variable {b : Tbl} {K : PySem.W.Frag} (hn : b.nmOk = true) (h : exB b K = true) (ho : ∀ q ∈ b.dfs, DfOk b.tt q.2)
  (hf : ∀ q ∈ b.dfs, FunD K q.2.name q.2.qual (defArgs q.2.st) (defBody q.2.st) (defScope q.2.st) (q.2.dvs K) [] (q.2.ad.loc K) (fdAt K (q.2.ad.loc K)))
include ho hf in
theorem binds_of {g : Nat} (hg : (b.ds g).isSome = true) : Binds K (fdAt K (b.fa K g)) (b.ps g) [] := by
  cases e : b.ds g with
  | none => rw [e] at hg; cases hg
  | some d =>
    obtain ⟨i, hi, _⟩ := ds_get e
    have e1 : b.fa K g = i.ad.loc K := by unfold Tbl.fa; rw [hi]
    have e2 : b.ps g = i.ps := by unfold Tbl.ps; rw [hi]
    rw [e1, e2]
    exact (ho _ (look_mem hi)).binds (hf _ (look_mem hi))
include ho hf in
theorem fx_of {h0 : Heap} {mg : Str → Option Value} (X : K.In h0) (NS : h0.Ns mainGlobals mg) (F : Nat → List O → FR) : Fx (b.tx K hn h) b.tt ⟨b.cs, F⟩ mg := by
  have B : ∀ {g : Nat}, (b.ds g).isSome = true → Binds K (fdAt K (b.fa K g)) (b.ps g) [] := fun hg => binds_of ho hf hg
  have M : ∀ {c m g : Nat}, b.mt c m = some g → mtB b K (c, m, g) = true := fun e => exB_mth h (look2_mem e)
  have free : ∀ x ∈ frees, mg x = none := fun x hx => He.free_ok X NS (exB_fr h hx)
  refine {
    nm := rfl
    gl := fun g x e => ?_
    cl := fun c x e => ?_
    mkc := fun c g e => ?_
    bl := fun i => He.free_ok X NS (exB_bi h i)
    isi := free _ (by decide)
    gi := fun x i e => ?_
    op := fun c op g e ho => ?_
    opB := fun c op g _ e => ?_
    m19 := fun c => ?_
    inv := fun c g _ e => ?_
    len := fun c g _ e => ?_
    prp := fun c f g _ e => ?_
    mt := fun c m g _ e => ?_
    na := fun c f _ e => ?_
    mk0 := fun c _ e => ?_
    con := fun c f d _ hf e => ?_
    getm := fun c g _ e => ?_
    setm := fun c g _ e => ?_
    calm := fun c g _ e => ?_
    smt := fun c m g kk _ e => ?_
    tyF := ⟨free _ (by decide), free _ (by decide), free _ (by decide), free _ (by decide), free _ (by decide)⟩
    insF := fun c hc => ?_
    kCC := fun c c' hc hc' => ?_
    kCB := fun c hc z hz => ?_
    kBC := fun c hc z hz => ?_ }
  · have e : b.gn g = some x := e
    unfold Tbl.gn at e
    cases q : look g b.dfs with
    | none => rw [q] at e; cases e
    | some d =>
      rw [q] at e
      have e : (match d.ad with
        | .glo x => some x
        | _ => none) = some x := e
      cases qa : d.ad with
      | glo y =>
        rw [qa] at e
        cases e
        have e1 : b.fa K g = He.ga K x := by unfold Tbl.fa; rw [q]; show d.ad.loc K = _; rw [qa]; rfl
        have k := exB_dfs h (look_mem q)
        unfold dfB at k
        have k : (match d.ad with
          | .glo x => (He.Fa.glo x).ok K
          | _ => true) = true := k
        rw [qa] at k
        refine ⟨?_, ?_, B ?_⟩
        · show mg x = some (.ref (b.fa K g))
          rw [e1]
          exact He.glo_ok X NS k
        · have := (hf _ (look_mem q)).kp
          show PySem.W.keepIn K (.ref (b.fa K g)) = true
          have e2 : b.fa K g = d.ad.loc K := by unfold Tbl.fa; rw [q]
          rw [e2]
          exact this
        · unfold Tbl.ds; rw [q]; rfl
      | _ => rw [qa] at e; cases e
  · have e : b.cn c = some x := e
    have hc : b.isC c := by unfold Tbl.isC; rw [e]; rfl
    refine ⟨?_, hc⟩
    have k := (He.ba (exB_cls h (look_mem e))).1
    have e1 : b.ca K c = He.ga K x := by unfold Tbl.ca; rw [e]
    show mg x = some (.ref (b.ca K c))
    rw [e1]
    exact He.glo_ok X NS k
  · obtain ⟨k1, k⟩ := He.ba (M e)
    obtain ⟨k2, k⟩ := He.ba k
    obtain ⟨k3, k4⟩ := He.ba k
    have k4 : mkB K (b.ca K c) (b.fa K g) = true := by simpa using k4
    exact ⟨mkB_ok k4, B k2⟩
  · obtain ⟨t, e2⟩ := He.int_ok X NS (exB_gi h e)
    exact ⟨_, e2, t, rfl⟩
  · obtain ⟨k1, k⟩ := He.ba (M e)
    obtain ⟨k2, k⟩ := He.ba k
    obtain ⟨k3, k4⟩ := He.ba k
    have : opC K (b.ca K c) (b.fa K g) (cmpInfo op).2.1 = true := by
      rcases ho with rfl | rfl | rfl <;> simpa [cmpN, pinN, cmpNm, cmpInfo] using k4
    obtain ⟨z1, z2⟩ := He.ba this
    exact ⟨He.eqO_ok z1, z2, B k2⟩
  · obtain ⟨k1, k⟩ := He.ba (M e)
    obtain ⟨k2, k⟩ := He.ba k
    obtain ⟨k3, k4⟩ := He.ba k
    have n9 : pinD op ≠ 9 := fun z => by rw [z] at k4; simp at k4
    have z : opB K (b.ca K c) (b.fa K g) (PySem.dunder op.info.2, dunderR op.info.2) = true := by
      have n0 : pinD op ≠ 0 := by cases op <;> simp [pinD]
      have n19 : pinD op ≠ 19 := by cases op <;> simp [pinD]
      have n20 : pinD op ≠ 20 := by cases op <;> simp [pinD]
      have n18 : pinD op ≠ 18 := by cases op <;> simp [pinD]
      have n14 : pinD op ≠ 14 := by cases op <;> simp [pinD]
      have n15 : pinD op ≠ 15 := by cases op <;> simp [pinD]
      have n17 : pinD op ≠ 17 := by cases op <;> simp [pinD]
      have k4 : (if pinD op = 0 then mkB K (b.ca K c) (b.fa K g) else
        if pinD op = 9 ∨ pinD op = 19 then false else
        if pinD op = 20 then opC K (b.ca K c) (b.fa K g) "__invert__" else
        if pinD op = 18 then opC K (b.ca K c) (b.fa K g) "__len__" else
        if pinD op = 14 then opC K (b.ca K c) (b.fa K g) "__getitem__" && PySem.W.fnIn K (b.fa K g) else
        if pinD op = 15 then opC K (b.ca K c) (b.fa K g) "__setitem__" && PySem.W.noSeq K (b.ca K c) else
        if pinD op = 17 then opC K (b.ca K c) (b.fa K g) "__call__" && PySem.W.fnIn K (b.fa K g) else
        match pinN (pinD op) with
        | some z => opB K (b.ca K c) (b.fa K g) z
        | none => (match cmpNm (pinD op) with
          | some z => opC K (b.ca K c) (b.fa K g) z
          | none => true)) = true := k4
      rw [if_neg n0, if_neg (by simp [n9, n19]), if_neg n20, if_neg n18, if_neg n14, if_neg n15, if_neg n17, pinN_ok op n9] at k4
      exact k4
    obtain ⟨z1, z⟩ := He.ba z
    obtain ⟨z2, z⟩ := He.ba z
    obtain ⟨z3, z⟩ := He.ba z
    obtain ⟨z4, z⟩ := He.ba z
    obtain ⟨z5, z⟩ := He.ba z
    obtain ⟨z6, z7⟩ := He.ba z
    obtain ⟨fo, hfo⟩ := Option.isSome_iff_exists.mp z5
    obtain ⟨ro, hro⟩ := Option.isSome_iff_exists.mp z6
    refine ⟨He.eqO_ok z1, z2, z3, B k2, fo, ro, ?_⟩
    have z4 : refO (PySem.W.findIn K (.ref (b.ca K c)) (dunderR op.info.2)) = true := z4
    cases q : PySem.W.findIn K (.ref (b.ca K c)) (dunderR op.info.2) with
    | none => rw [q] at z4; cases z4
    | some rc =>
      rw [q] at z4
      refine ⟨rc, q, ?_, hfo, hro, of_decide_eq_true z7⟩
      cases rc with
      | none => exact .inl rfl
      | some u =>
        cases u with
        | ref g2 => exact .inr ⟨g2, rfl⟩
        | _ => cases z4
  · show b.mt c 19 = none
    cases e : b.mt c 19 with
    | none => rfl
    | some g =>
      have k4 := (He.ba (He.ba (He.ba (M e)).2).2).2
      exact absurd k4 (by simp)
  · obtain ⟨k1, k⟩ := He.ba (M e)
    obtain ⟨k2, k⟩ := He.ba k
    obtain ⟨k3, k4⟩ := He.ba k
    have : opC K (b.ca K c) (b.fa K g) "__invert__" = true := by simpa using k4
    obtain ⟨z1, z2⟩ := He.ba this
    exact ⟨He.eqO_ok z1, z2, B k2⟩
  · obtain ⟨k1, k⟩ := He.ba (M e)
    obtain ⟨k2, k⟩ := He.ba k
    obtain ⟨k3, k4⟩ := He.ba k
    have : opC K (b.ca K c) (b.fa K g) "__len__" = true := by simpa using k4
    obtain ⟨z1, z2⟩ := He.ba this
    exact ⟨He.eqO_ok z1, z2, B k2⟩
  · have e : b.pp c f = some g := e
    have k := exB_prp h (look2_mem e)
    unfold ppB at k
    obtain ⟨k1, k⟩ := He.ba k
    obtain ⟨k2, k⟩ := He.ba k
    obtain ⟨k3, k⟩ := He.ba k
    obtain ⟨k4, k5⟩ := He.ba k
    refine ⟨_, ⟨He.eqO_ok k2, He.eqO_ok k3, of_decide_eq_true k4, ?_⟩, B k1⟩
    split at k5
    · rename_i g' rest q
      exact ⟨rest, by
        have e2 := of_decide_eq_true k5
        have e2 : g' = b.fa K g := e2
        show _ = some (Value.ref (b.fa K g) :: rest)
        rw [← e2]
        exact q⟩
    · cases k5
  · obtain ⟨k1, k⟩ := He.ba (M e)
    obtain ⟨k2, k⟩ := He.ba k
    obtain ⟨k3, k4⟩ := He.ba k
    exact ⟨methB_ok k3, B k2⟩
  · exact exB_fld h (List.contains_iff_mem.mp e)
  · obtain ⟨d, e⟩ := Option.isSome_iff_exists.mp e
    have e : b.cs2 c 0 = some d := e
    have k := exB_cst h (look2_mem e)
    have k : mk0B K (b.ca K c) = true := by unfold cstB at k; simpa using k
    obtain ⟨k1, k⟩ := He.ba k
    obtain ⟨k2, k⟩ := He.ba k
    obtain ⟨k3, k4⟩ := He.ba k
    exact ⟨k1, He.eqO_ok k2, of_decide_eq_true k3, k4⟩
  · have e : b.cs2 c f = some d := e
    have k := exB_cst h (look2_mem e)
    have k : conB2 K (b.ca K c) (b.nm f) d = true := by unfold cstB at k; simpa [hf] using k
    obtain ⟨⟨u, c1⟩, c2, ⟨u', c3⟩, c4⟩ := conB2_ok k
    exact ⟨⟨_, u, c1, fun S => c4 S⟩, _, _, u', c2, c3, fun S => c4 S⟩
  · obtain ⟨k1, k⟩ := He.ba (M e)
    obtain ⟨k2, k⟩ := He.ba k
    obtain ⟨k3, k4⟩ := He.ba k
    have : (opC K (b.ca K c) (b.fa K g) "__getitem__" && PySem.W.fnIn K (b.fa K g)) = true := by simpa using k4
    obtain ⟨z, z3⟩ := He.ba this
    obtain ⟨z1, z2⟩ := He.ba z
    exact ⟨He.eqO_ok z1, z2, z3, B k2⟩
  · obtain ⟨k1, k⟩ := He.ba (M e)
    obtain ⟨k2, k⟩ := He.ba k
    obtain ⟨k3, k4⟩ := He.ba k
    have : (opC K (b.ca K c) (b.fa K g) "__setitem__" && PySem.W.noSeq K (b.ca K c)) = true := by simpa using k4
    obtain ⟨z, z3⟩ := He.ba this
    obtain ⟨z1, z2⟩ := He.ba z
    exact ⟨He.eqO_ok z1, z2, z3, B k2⟩
  · obtain ⟨k1, k⟩ := He.ba (M e)
    obtain ⟨k2, k⟩ := He.ba k
    obtain ⟨k3, k4⟩ := He.ba k
    have : (opC K (b.ca K c) (b.fa K g) "__call__" && PySem.W.fnIn K (b.fa K g)) = true := by simpa using k4
    obtain ⟨z, z3⟩ := He.ba this
    obtain ⟨z1, z2⟩ := He.ba z
    exact ⟨⟨He.eqO_ok z1, z2, z3⟩, B k2⟩
  · have e : b.sm2 c m = some (g, kk) := e
    have k := exB_smt h (look2_mem e)
    obtain ⟨k1, k⟩ := He.ba k
    obtain ⟨k2, k3⟩ := He.ba k
    obtain ⟨r1, r2⟩ := He.ba k2
    refine ⟨B k1, .type "type", He.ma K (b.ca K c) (b.nm m), ⟨r1, He.eqO_ok r2⟩, fun hk => ?_, fun hk => ?_⟩
    · subst hk
      have k3 : (He5.wrapB K (b.ca K c) "classmethod" "classmethod.__get__" (b.nm m) && (decide (He5.wf K (b.ca K c) "classmethod" (b.nm m) = b.fa K g) && PySem.W.fnIn K (b.fa K g))) = true := by simpa using k3
      obtain ⟨z1, z⟩ := He.ba k3
      obtain ⟨z2, z3⟩ := He.ba z
      obtain ⟨w1, w2⟩ := He5.wrapB_ok z1
      rw [of_decide_eq_true z2] at w2
      exact ⟨w1, w2, z3⟩
    · subst hk
      have k3 : (He5.wrapB K (b.ca K c) "staticmethod" "staticmethod.__get__" (b.nm m) && (decide (He5.wf K (b.ca K c) "staticmethod" (b.nm m) = b.fa K g) && PySem.W.keepIn K (.ref (b.fa K g)))) = true := by simpa using k3
      obtain ⟨z1, z⟩ := He.ba k3
      obtain ⟨z2, z3⟩ := He.ba z
      obtain ⟨w1, w2⟩ := He5.wrapB_ok z1
      rw [of_decide_eq_true z2] at w2
      exact ⟨w1, w2, z3, rfl⟩
  · obtain ⟨x, hx, hm, e⟩ := isC_get (K := K) hc
    have k := (He.ba (He.ba (exB_cls h hm)).2).2
    obtain ⟨k1, k⟩ := He.ba k
    obtain ⟨k2, k⟩ := He.ba k
    show PySem.W.findIn K (.ref (b.ca K c)) "__class__" = _ ∧ PySem.W.specialIn K _ _ = _ ∧ PySem.W.takesIn K _ = _ ∧ PySem.W.mroIn K (b.ca K c) _ = _
    rw [e]
    exact ⟨He.eqO_ok k1, (exB_cl h).1, (exB_cl h).2, of_decide_eq_true k2⟩
  · obtain ⟨x, hx, hm, e⟩ := isC_get (K := K) hc
    obtain ⟨x', hx', hm', e'⟩ := isC_get (K := K) hc'
    have k := (He.ba (He.ba (He.ba (He.ba (exB_cls h hm)).2).2).2).2
    obtain ⟨k1, k⟩ := He.ba k
    obtain ⟨z1, z2⟩ := He.ba (List.all_eq_true.mp k1 _ hm')
    show PySem.W.kitOne K (.ref (b.ca K c)) (.ref (b.ca K c')) = _ ∧ PySem.W.notFirst K (b.ca K c) (.ref (b.ca K c')) = true
    rw [e, e']
    exact ⟨of_decide_eq_true z1, z2⟩
  · obtain ⟨x, hx, hm, e⟩ := isC_get (K := K) hc
    have k := (He.ba (He.ba (He.ba (He.ba (He.ba (exB_cls h hm)).2).2).2).2).2
    obtain ⟨k1, k⟩ := He.ba k
    show PySem.W.kitOne K (.ref (b.ca K c)) (.type z) = _
    rw [e]
    exact of_decide_eq_true (List.all_eq_true.mp k1 _ hz)
  · obtain ⟨x, hx, hm, e⟩ := isC_get (K := K) hc
    have k := (He.ba (He.ba (He.ba (He.ba (He.ba (exB_cls h hm)).2).2).2).2).2
    obtain ⟨k1, k⟩ := He.ba k
    show PySem.W.kitOne K (.type z) (.ref (b.ca K c)) = _
    rw [e]
    exact of_decide_eq_true (List.all_eq_true.mp k _ hz)
theorem xn_get {c : Nat} {x : Str} (h : b.xn c = some x) : ∃ q, (c, q) ∈ b.xcs ∧ q.name = x ∧ look c b.xcs = some q := by
  unfold Tbl.xn at h
  cases e : look c b.xcs with
  | none => rw [e] at h; cases h
  | some q => rw [e] at h; cases h; exact ⟨q, look_mem e, rfl, rfl⟩
theorem xf_get' {c : Nat} {fs : List Nat} (h : b.xf c = some fs) : ∃ q, (c, q) ∈ b.xcs ∧ q.fs = fs ∧ look c b.xcs = some q := by
  unfold Tbl.xf at h
  cases e : look c b.xcs with
  | none => rw [e] at h; cases h
  | some q => rw [e] at h; cases h; exact ⟨q, look_mem e, rfl, rfl⟩
theorem ca_x {c : Nat} {q : XcI} (h : exB b K = true) (e : look c b.xcs = some q) : b.ca K c = He.ga K q.name := by
  have k := (He.ba (exB_xcs h (look_mem e))).1
  have k : b.cn c = none := Option.isNone_iff_eq_none.mp k
  unfold Tbl.ca Tbl.xn
  rw [k, e]
  rfl
/-- the facts of the exceptions' classes -/
theorem xf_of {h0 : Heap} {mg : Str → Option Value} {P : Program} (X : K.In h0) (NS : h0.Ns mainGlobals mg) (xo : ∀ q ∈ b.xcs, q.2.fs ≠ [] → XcOk b.nm q.2) (xv : ∀ q ∈ b.xcs, q.2.obs K = q.2.val) (hf : P.main.file = b.file) (ht : (P.main.scope.names.lookup ("super" : Str)).isSome = false) (F : Nat → List O → FR) :
    Xf (b.tx K hn h) b.tt ⟨b.cs, F⟩ mg P := by
  have free : ∀ x ∈ frees, mg x = none := fun x hx => He.free_ok X NS (exB_fr h hx)
  have ax : ∀ {c : Nat} {q : XcI}, look c b.xcs = some q → (b.tx K hn h).ca c = He.ga K q.name := fun e => ca_x h e
  have facts : ∀ {c : Nat} {q : XcI}, look c b.xcs = some q → xcB b K (c, q) = true := fun e => exB_xcs h (look_mem e)
  refine {
    nm := fun c x e => ?_
    isV := free _ (by decide)
    pl := fun c e => ?_
    su := fun c f r e => ?_
    no := fun c fl f e hm => ?_
    kc := fun c c' x e hx => ?_
    kv := fun c e => ?_
    xc := fun c e => ?_ }
  · obtain ⟨q, _, rfl, e2⟩ := xn_get (b := b) e
    rw [ax e2]
    exact He.glo_ok X NS (He.ba (He.ba (facts e2)).2).1
  · obtain ⟨q, _, e1, e2⟩ := xf_get' (b := b) e
    have k := facts e2
    unfold xcB at k
    obtain ⟨_, k⟩ := He.ba k
    obtain ⟨_, k⟩ := He.ba k
    obtain ⟨k1, k⟩ := He.ba k
    obtain ⟨k2, k⟩ := He.ba k
    obtain ⟨k3, k⟩ := He.ba k
    obtain ⟨_, k⟩ := He.ba k
    obtain ⟨_, k⟩ := He.ba k
    obtain ⟨_, k⟩ := He.ba k
    obtain ⟨_, k⟩ := He.ba k
    obtain ⟨_, k⟩ := He.ba k
    obtain ⟨_, k4⟩ := He.ba k
    rw [if_pos e1] at k4
    rw [ax e2]
    exact ⟨k4, k1, of_decide_eq_true k2, of_decide_eq_true k3⟩
  · obtain ⟨q, hq, e1, e2⟩ := xf_get' (b := b) e
    have hne : q.fs ≠ [] := by rw [e1]; simp
    have k := facts e2
    unfold xcB at k
    obtain ⟨_, k⟩ := He.ba k
    obtain ⟨_, k⟩ := He.ba k
    obtain ⟨k1, k⟩ := He.ba k
    obtain ⟨k2, k⟩ := He.ba k
    obtain ⟨k3, k⟩ := He.ba k
    obtain ⟨_, k⟩ := He.ba k
    obtain ⟨_, k⟩ := He.ba k
    obtain ⟨_, k⟩ := He.ba k
    obtain ⟨_, k⟩ := He.ba k
    obtain ⟨_, k⟩ := He.ba k
    obtain ⟨_, k4⟩ := He.ba k
    rw [if_neg hne] at k4
    rw [ax e2]
    have ok := xo _ hq hne
    have sbb := supBB_ok ok.sb
    rw [e1] at sbb
    exact ⟨_, _, _, _, _, _, supB_ok ok hf ht hne (xv _ hq) k4 (of_decide_eq_true k2) (of_decide_eq_true k3) k1, sbb⟩
  · obtain ⟨q, hq, e1, e2⟩ := xf_get' (b := b) e
    subst e1
    have k := facts e2
    unfold xcB at k
    obtain ⟨_, k⟩ := He.ba k
    obtain ⟨_, k⟩ := He.ba k
    obtain ⟨_, k⟩ := He.ba k
    obtain ⟨_, k⟩ := He.ba k
    obtain ⟨_, k⟩ := He.ba k
    obtain ⟨_, k⟩ := He.ba k
    obtain ⟨_, k⟩ := He.ba k
    obtain ⟨_, k⟩ := He.ba k
    obtain ⟨_, k⟩ := He.ba k
    obtain ⟨_, k⟩ := He.ba k
    obtain ⟨k4, _⟩ := He.ba k
    rw [ax e2]
    exact He.eqO_ok (List.all_eq_true.mp k4 f hm)
  · obtain ⟨fs, e⟩ := Option.isSome_iff_exists.mp e
    obtain ⟨q, hq, e1, e2⟩ := xf_get' (b := b) e
    obtain ⟨q', hq', rfl, e2'⟩ := xn_get (b := b) hx
    have k := facts e2
    unfold xcB at k
    obtain ⟨_, k⟩ := He.ba k
    obtain ⟨_, k⟩ := He.ba k
    obtain ⟨_, k⟩ := He.ba k
    obtain ⟨_, k⟩ := He.ba k
    obtain ⟨_, k⟩ := He.ba k
    obtain ⟨_, k⟩ := He.ba k
    obtain ⟨_, k⟩ := He.ba k
    obtain ⟨_, k⟩ := He.ba k
    obtain ⟨_, k⟩ := He.ba k
    obtain ⟨k4, _⟩ := He.ba k
    obtain ⟨z1, z2⟩ := He.ba (List.all_eq_true.mp k4 _ hq')
    rw [ax e2, ax e2']
    exact ⟨of_decide_eq_true z1, of_decide_eq_true z2⟩
  · obtain ⟨fs, e⟩ := Option.isSome_iff_exists.mp e
    obtain ⟨q, hq, e1, e2⟩ := xf_get' (b := b) e
    have k := facts e2
    unfold xcB at k
    obtain ⟨_, k⟩ := He.ba k
    obtain ⟨_, k⟩ := He.ba k
    obtain ⟨_, k⟩ := He.ba k
    obtain ⟨_, k⟩ := He.ba k
    obtain ⟨_, k⟩ := He.ba k
    obtain ⟨_, k⟩ := He.ba k
    obtain ⟨_, k⟩ := He.ba k
    obtain ⟨_, k⟩ := He.ba k
    obtain ⟨k4, _⟩ := He.ba k
    rw [ax e2]
    exact of_decide_eq_true k4
  · obtain ⟨fs, e⟩ := Option.isSome_iff_exists.mp e
    obtain ⟨q, hq, e1, e2⟩ := xf_get' (b := b) e
    have k := facts e2
    unfold xcB at k
    obtain ⟨_, k⟩ := He.ba k
    obtain ⟨_, k⟩ := He.ba k
    obtain ⟨_, k⟩ := He.ba k
    obtain ⟨k2, k⟩ := He.ba k
    obtain ⟨_, k⟩ := He.ba k
    obtain ⟨k3, k⟩ := He.ba k
    obtain ⟨k4, k⟩ := He.ba k
    obtain ⟨k5, k⟩ := He.ba k
    rw [ax e2]
    have xc := xfB_ok k3
    exact ⟨⟨xc.ga, xc.gg, xc.exC, xc.hdC, He.eqO_ok k4, (exB_cl h).1, (exB_cl h).2, of_decide_eq_true k5⟩, xc⟩
end
end Vm

namespace Vm
open PySem L2 Evl
abbrev AlV : Type := Bool × List He.FnW × List XnW
def obsV (b : Tbl) (K : PySem.W.Frag) : AlV := (exB b K && b.dfs.all fun q => q.2.ok K, b.dfs.map fun q => fnAt K (q.2.ad.loc K), b.xcs.map fun q => q.2.obs K)
def valV (b : Tbl) : AlV := (true, b.dfs.map fun q => q.2.val, b.xcs.map fun q => q.2.val)
def obsVG (n : Nat) (b : Tbl) (g : Addr → Option Obj) : AlV := obsV b (He.frG g (cStatics :: asX g n))
def hookV (n : Nat) (b : Tbl) : PySem.W.Hook where
  α := AlV
  obs := fun s => obsVG n b s.heap.get?
  val := fun _ => valV b
  says := fun _ h => ∃ K : PySem.W.Frag, K.In h ∧ obsV b K = valV b
  of := fun _ _ e => ⟨_, He.frG_in, e⟩
  keeps := fun _ _ _ ⟨K, hK, c⟩ k => ⟨K, PySem.W.Frag.In.keeps hK k, c⟩
theorem obsVG_eq {n : Nat} {b : Tbl} {g : Addr → Option Obj} {s : Shared} (h : ∀ a, g a = s.heap.get? a) : obsVG n b g = (hookV n b).obs s := by
  have e : g = s.heap.get? := funext h
  rw [e] <;> rfl
section
variable {b : Tbl} {K : PySem.W.Frag}
theorem says_ex (c : obsV b K = valV b) : exB b K = true := (He.ba (show (exB b K && b.dfs.all fun q => q.2.ok K) = true from congrArg (fun z : AlV => z.1) c)).1
theorem map_mem {α β : Type} {f g : α → β} : ∀ {l : List α}, l.map f = l.map g → ∀ q ∈ l, f q = g q
  | [], _, _, h => by cases h
  | a :: r, e, q, h => by
    have e : f a :: r.map f = g a :: r.map g := e
    injection e with e1 e2
    rcases List.mem_cons.mp h with rfl | h
    · exact e1
    · exact map_mem e2 q h
theorem says_fn (c : obsV b K = valV b) : ∀ q ∈ b.dfs, FunD K q.2.name q.2.qual (defArgs q.2.st) (defBody q.2.st) (defScope q.2.st) (q.2.dvs K) [] (q.2.ad.loc K) (fdAt K (q.2.ad.loc K)) := fun q hq => by
  have c2 := (He.ba (show (exB b K && b.dfs.all fun q => q.2.ok K) = true from congrArg (fun z : AlV => z.1) c)).2
  have e : b.dfs.map (fun q => fnAt K (q.2.ad.loc K)) = b.dfs.map fun q => q.2.val := congrArg (fun z : AlV => z.2.1) c
  exact DfI.funD (map_mem e q hq) (List.all_eq_true.mp c2 q hq)
theorem says_xv (c : obsV b K = valV b) : ∀ q ∈ b.xcs, q.2.obs K = q.2.val := fun q hq => by
  have e : b.xcs.map (fun q => q.2.obs K) = b.xcs.map fun q => q.2.val := congrArg (fun z : AlV => z.2.2) c
  exact map_mem e q hq
end
/-- the defs of a table, k calls deep -/
noncomputable abbrev Tbl.FF (b : Tbl) : Nat → Nat → List O → FR := Vm.FF b.ds b.cs
/-- what an expression leans on -/
noncomputable def Tbl.ct (b : Tbl) (k : Nat) : Ct := ⟨b.cs, b.FF k⟩
/-- what is let out is known less -/
theorem fnOk_cx {P : Program} {w : World} {K : PySem.W.Frag} {mg : Str → Option Value} {base : Heap} {A B : CXT} {k : Nat} {f : Addr} {fd : FuncData} {ps : List Str} {sp : Sp} (h : ∀ st H s E e s', A st H s E e s' → B st H s E e s') (F : FnOk P w K mg base A k f fd ps sp) : FnOk P w K mg base B k f fd ps sp :=
  ⟨F.len, fun _ _ _ _ _ _ _ _ _ r1 r2 r3 r4 r5 => codeAny_mono (F.run _ _ _ _ _ _ _ _ _ r1 r2 r3 r4 r5) fun r s' z => by
    rcases r with e | (_ | _ | _ | u)
    · exact h _ _ _ _ _ _ z
    all_goals exact z⟩
/-- a law: its def gives True at every script -/
theorem end_ {b : Tbl} {l : PySem.W.OpenLaw} {n k gl n0 : Nat} {q : Program} {loose : List Str} {XP : (Str → Option Value) → Heap → Prop} {d : DefRec} {x : Str} {li : DfI}
    (hn : b.nmOk = true) (ho : ∀ q ∈ b.dfs, DfOk b.tt q.2) (xo : ∀ q ∈ b.xcs, q.2.fs ≠ [] → XcOk b.nm q.2) (hfl : l.prog.main.file = b.file) (htp : (l.prog.main.scope.names.lookup ("super" : Str)).isSome = false)
    (hg : look gl b.dfs = some li) (hl : li.ad = .glo d.name) (hps : li.ps = [x]) (hdfl : li.dfl = [])
    (hm : l.most = some n) (hn2 : n ≤ sizeLine) (hdf : d.params.defaults = []) (hr : Room (3 * k) callerA)
    (law : ∀ ns : List Int, ns.length ≤ n → ∃ f, b.FF k gl [.sh (.scr ns)] = .ret (.sh (.bl true)) f) :
    PySem.W.WalkO q loose XP (hookV n0 b).says l.row.toRowW d [] (fun f vs => PySem.call f vs) := by
  refine L2.walk_ofE (l := l) (n := n) (k := 3 * k) (x := x) (CX := fun st H s E e s' => ∃ w, L2.CX l.prog w st H s E e s') hm hn2 hdf hr ?_ ?_
  intro w mg fa h Y NS hmg
  obtain ⟨K, KX, c⟩ := Y
  have hx := says_ex c
  have hf := says_fn c
  have hdef := hf _ (look_mem hg)
  have el : b.fa K gl = li.ad.loc K := by unfold Tbl.fa; rw [hg]
  have k2 := exB_dfs hx (look_mem hg)
  unfold dfB at k2
  have k2 : (match li.ad with
    | .glo x => (He.Fa.glo x).ok K
    | _ => true) = true := k2
  rw [hl] at k2
  have e2 := hmg.symm.trans (He.glo_ok KX NS k2)
  have e3 : fa = li.ad.loc K := by
    cases e2
    rw [hl]
    rfl
  have Fx := fx_of hn hx ho hf KX NS
  have hps2 : b.ps gl = [x] := by unfold Tbl.ps; rw [hg]; exact hps
  have hdv : li.dvs K = [] := by unfold DfI.dvs; rw [hdfl]; rfl
  have okl := ho _ (look_mem hg)
  refine ⟨K, fdAt K (li.ad.loc K), spF (b.tx K hn hx) (b.FF k) gl, KX, fun s u => ?_, fun H a ns hlen hO hS => ?_, fun base hb hns => ?_⟩
  · have hdef : FunD K li.name li.qual (defArgs li.st) (defBody li.st) (defScope li.st) (li.dvs K) [] (li.ad.loc K) (fdAt K (li.ad.loc K)) := hdef
    rw [hdv] at hdef
    have bn := okl.bn hdfl
    have hps3 : li.ps = [x] := hps
    have bn2 : ∀ (kV doc pm : Value) (an : Option Addr) (cdv ct : Value) (us : List Value), us.length = [x].length → bindArgs (PySem.W.fnOf li.name li.qual (defArgs li.st) (defBody li.st) (defScope li.st) .none kV doc pm an cdv ct) ⟨us, []⟩ = pure ([x].zip us) := by
      intro kV doc pm an cdv ct us hu
      rw [← hps3] at hu ⊢
      exact bn kV doc pm an cdv ct us hu
    exact FunD.bindsA (ps := [x]) hdef bn2 s [u] rfl
  · refine ⟨by show [V.ref a].length = (b.ps gl).length; rw [hps2]; rfl, [.sh (.scr ns)], H, fun _ => [], ?_, ?_⟩
    · refine ⟨rfl, Ex.refl H, fun i o e => ?_, fun _ => .nil, fun _ _ => rfl, fun i j a h1 _ => by cases h1⟩
      cases i with
      | zero =>
        have e : (O.sh (.scr ns)) = o := by simpa using e
        subst e
        exact ⟨.ref a, rfl, .sh (.scr hS)⟩
      | succ i => simp at e
    · obtain ⟨f, e⟩ := law ns hlen
      rw [e]
      intro x S' H' cell' c r
      have ow := r.o
      cases ow with
      | sh hd => cases hd; rfl
  · rw [e3]
    have hall := fn_all (T := b.tx K hn hx) (t := b.tt) (ds := b.ds) (cs := b.cs) (P := l.prog) (w := w) (mg := mg) (base := base) (fun F => fx_of hn hx ho hf KX NS F) (fun F => xf_of hn hx KX NS xo (says_xv c) hfl htp F) b.hm (fun g d hd => by
        obtain ⟨i, hi, rfl⟩ := ds_get hd
        have oi := ho _ (look_mem hi)
        have fi := hf _ (look_mem hi)
        have e1 : b.fa K g = i.ad.loc K := by unfold Tbl.fa; rw [hi]
        have e2 : b.ps g = i.ps := by unfold Tbl.ps; rw [hi]
        refine ⟨⟨i.name, i.qual, defArgs i.st, defBody i.st, defScope i.st, i.dvs K, [], i.N, ?_, ?_, ?_, rfl, ?_, oi.ck⟩⟩
        · show FunD K _ _ _ _ _ _ _ (b.fa K g) (fdAt K (b.fa K g))
          rw [e1]; exact fi
        · show FnScope i.N (b.ps g) _
          rw [e2]; exact oi.sc
        · show i.ps.length = (b.ps g).length
          rw [e2]
        · show (b.ps g).length ≤ i.N.length
          rw [e2]; exact oi.le) k gl
    have hall : FnOk l.prog w K mg base (L2.CX l.prog w) (3 * k) (b.fa K gl) (fdAt K (b.fa K gl)) (b.ps gl) (spF (b.tx K hn hx) (b.FF k) gl) := hall
    rw [el, hps2] at hall
    exact fnOk_cx (fun _ _ _ _ _ _ z => ⟨w, z⟩) hall
  · rintro H s e s' ⟨w, _, _, _, _, _, _, _, _, _, _, _, _, z⟩
    exact z
end Vm

namespace Vm.Rn
open PySem
theorem run (b : Tbl) {k g : Nat} {d : Df} {os : List O} (h : b.ds g = some d) :
    b.FF (k + 1) g os = runD (b.ct k) d os := by
  show (match b.ds g with
    | some d => runD (b.ct k) d os
    | none => .er) = _
  rw [h]
@[simp] theorem ct_F (b : Tbl) (k : Nat) : (b.ct k).F = b.FF k := rfl
@[simp] theorem ct_mth (b : Tbl) (k : Nat) : (b.ct k).mth = b.mt := rfl
@[simp] theorem ct_prp (b : Tbl) (k : Nat) : (b.ct k).prp = b.pp := rfl
@[simp] theorem ct_fld (b : Tbl) (k : Nat) : (b.ct k).fld = b.fl := rfl
@[simp] theorem ct_xf (b : Tbl) (k : Nat) : (b.ct k).xf = b.xf := rfl
@[simp] theorem ct_sub (b : Tbl) (k : Nat) : (b.ct k).sub = b.sb := rfl
@[simp] theorem ct_cst (b : Tbl) (k : Nat) : (b.ct k).cst = b.cs2 := rfl
@[simp] theorem ct_smt (b : Tbl) (k : Nat) : (b.ct k).smt = b.sm2 := rfl
section
variable {G : Ct} {pin : List Nat} {s : Env} {c : Nat} {fs : List (Nat × D)}
@[simp] theorem frz_sh (d : D) : frz (.sh d) = d := rfl
@[simp] theorem frz_ol (l : List D) : frz (.ol l) = .lst l := rfl
@[simp] theorem frz_oo (k : Nat) (f : List (Nat × O)) : frz (.oo k f) = .ins k (frzF f) := rfl
@[simp] theorem frz_od (l : List (Int × D)) : frz (.od l) = .dct l := rfl
@[simp] theorem own_od_ (l : List (Int × D)) : O.own (.od l) = true := rfl
@[simp] theorem frzF_n  : frzF [] = [] := rfl
@[simp] theorem frzF_c (f : Nat) (o : O) (r : List (Nat × O)) : frzF ((f, o) :: r) = (f, frz o) :: frzF r := rfl
@[simp] theorem own_sh_ (d : D) : O.own (.sh d) = false := rfl
@[simp] theorem own_ol_ (l : List D) : O.own (.ol l) = true := rfl
@[simp] theorem own_oo_ (k : Nat) (f : List (Nat × O)) : O.own (.oo k f) = true := rfl
def kGet (q : List Nat) (r : Option (Option O)) : Option O := match r with | some (some o) => getO o q | _ => none
@[simp] theorem kGet_some0 (q : List Nat) (o : O) : kGet q (some (some o)) = getO o q := rfl
@[simp] theorem kGet_some1 (q : List Nat)  : kGet q (some none) = none := rfl
@[simp] theorem kGet_none (q : List Nat) : kGet q none = none := rfl
@[simp] theorem getP_ (i : Nat) (q : List Nat) : getP s ⟨i, q⟩ = kGet q (s[i]?) := by unfold getP kGet; rfl
@[simp] theorem getO_nil (o : O) : getO o [] = some o := by cases o <;> rfl
def kGetO (q : List Nat) (r : Option O) : Option O := match r with | some o => getO o q | none => none
@[simp] theorem kGetO_some0 (q : List Nat) (o : O) : kGetO q (some o) = getO o q := rfl
@[simp] theorem kGetO_none (q : List Nat) : kGetO q none = none := rfl
@[simp] theorem getO_oo (k f : Nat) (l : List (Nat × O)) (q : List Nat) : getO (.oo k l) (f :: q) = kGetO q (getF f l) := by unfold kGetO; cases h : getF f l <;> simp [getO, h]
def kGetD (q : List Nat) (r : Option D) : Option O := match r with | some d => getO (.sh d) q | none => none
@[simp] theorem kGetD_some0 (q : List Nat) (d : D) : kGetD q (some d) = getO (.sh d) q := rfl
@[simp] theorem kGetD_none (q : List Nat) : kGetD q none = none := rfl
@[simp] theorem getO_ins (k f : Nat) (l : List (Nat × D)) (q : List Nat) : getO (.sh (.ins k l)) (f :: q) = kGetD q (getD' f l) := by unfold kGetD; cases h : getD' f l <;> simp [getO, h]
@[simp] theorem getO_non (f : Nat) (q : List Nat) : getO (.sh .non) (f :: q) = none := by simp [getO]
@[simp] theorem getO_bl (b : Bool) (f : Nat) (q : List Nat) : getO (.sh (.bl b)) (f :: q) = none := by simp [getO]
@[simp] theorem getO_int (b : Int) (f : Nat) (q : List Nat) : getO (.sh (.int b)) (f :: q) = none := by simp [getO]
@[simp] theorem getO_str (b : Str) (f : Nat) (q : List Nat) : getO (.sh (.str b)) (f :: q) = none := by simp [getO]
@[simp] theorem getO_tup (b : List D) (f : Nat) (q : List Nat) : getO (.sh (.tup b)) (f :: q) = none := by simp [getO]
@[simp] theorem getO_lst (b : List D) (f : Nat) (q : List Nat) : getO (.sh (.lst b)) (f :: q) = none := by simp [getO]
@[simp] theorem getO_scr (b : List Int) (f : Nat) (q : List Nat) : getO (.sh (.scr b)) (f :: q) = none := by simp [getO]
@[simp] theorem getO_ol (l : List D) (f : Nat) (q : List Nat) : getO (.ol l) (f :: q) = none := by simp [getO]
@[simp] theorem getO_od (l : List (Int × D)) (f : Nat) (q : List Nat) : getO (.od l) (f :: q) = none := by simp [getO]
@[simp] theorem getO_cls (b : Nat) (f : Nat) (q : List Nat) : getO (.sh (.cls b)) (f :: q) = none := by simp [getO]
@[simp] theorem getO_dct (b : List (Int × D)) (f : Nat) (q : List Nat) : getO (.sh (.dct b)) (f :: q) = none := by simp [getO]
@[simp] theorem getF_n (f : Nat) : getF f [] = none := rfl
@[simp] theorem getF_c (f g : Nat) (o : O) (r : List (Nat × O)) : getF f ((g, o) :: r) = if g = f then some o else getF f r := rfl
@[simp] theorem getD_n (f : Nat) : getD' f [] = none := rfl
@[simp] theorem getD_c (f g : Nat) (o : D) (r : List (Nat × D)) : getD' f ((g, o) :: r) = if g = f then some o else getD' f r := rfl
@[simp] theorem setF_n (f : Nat) (o : O) : setF f o [] = [(f, o)] := rfl
@[simp] theorem setF_c (f g : Nat) (o u : O) (r : List (Nat × O)) : setF f o ((g, u) :: r) = if g = f then (g, o) :: r else (g, u) :: setF f o r := rfl
@[simp] theorem setO_nil (o v : O) : setO o [] v = v := by cases o <;> rfl
def kSetO (k : Nat) (l : List (Nat × O)) (f : Nat) (q : List Nat) (v : O) (r : Option O) : O := match r with | some o => .oo k (setF f (setO o q v) l) | none => .oo k l
@[simp] theorem kSetO_some0 (k : Nat) (l : List (Nat × O)) (f : Nat) (q : List Nat) (v : O) (o : O) : kSetO k l f q v (some o) = .oo k (setF f (setO o q v) l) := rfl
@[simp] theorem kSetO_none (k : Nat) (l : List (Nat × O)) (f : Nat) (q : List Nat) (v : O) : kSetO k l f q v none = .oo k l := rfl
@[simp] theorem setO_oo (k f : Nat) (l : List (Nat × O)) (q : List Nat) (v : O) : setO (.oo k l) (f :: q) v = kSetO k l f q v (getF f l) := by unfold kSetO; cases h : getF f l <;> simp [setO, h]
def kSet (s : Env) (i : Nat) (q : List Nat) (v : O) (r : Option (Option O)) : Env := match r with | some (some o) => s.set i (some (setO o q v)) | _ => s
@[simp] theorem kSet_some0 (s : Env) (i : Nat) (q : List Nat) (v : O) (o : O) : kSet s i q v (some (some o)) = s.set i (some (setO o q v)) := rfl
@[simp] theorem kSet_some1 (s : Env) (i : Nat) (q : List Nat) (v : O)  : kSet s i q v (some none) = s := rfl
@[simp] theorem kSet_none (s : Env) (i : Nat) (q : List Nat) (v : O) : kSet s i q v none = s := rfl
@[simp] theorem setP_ (i : Nat) (q : List Nat) (v : O) : setP s ⟨i, q⟩ v = kSet s i q v (s[i]?) := by unfold setP kSet; rfl
def kShr (s : Env) (p : Pth) (r : Option O) : Option (D × Env) := match r with | some (.sh d) => some (d, s) | some o => some (frz o, setP s p (.sh (frz o))) | none => none
@[simp] theorem kShr_some0 (s : Env) (p : Pth) (d : D) : kShr s p (some (.sh d)) = some (d, s) := rfl
@[simp] theorem kShr_some1 (s : Env) (p : Pth) (l : List D) : kShr s p (some (.ol l)) = some (.lst l, setP s p (.sh (.lst l))) := rfl
@[simp] theorem kShr_some2 (s : Env) (p : Pth) (k : Nat) (f : List (Nat × O)) : kShr s p (some (.oo k f)) = some (.ins k (frzF f), setP s p (.sh (.ins k (frzF f)))) := rfl
@[simp] theorem kShr_some3 (s : Env) (p : Pth) (l : List (Int × D)) : kShr s p (some (.od l)) = some (.dct l, setP s p (.sh (.dct l))) := rfl
@[simp] theorem kShr_none (s : Env) (p : Pth) : kShr s p none = none := rfl
@[simp] theorem shareP_ (p : Pth) : shareP s p = kShr s p (getP s p) := by unfold shareP kShr; rfl
def kO (α : Type) (k : α → R Vl) (r : Option α) : R Vl := okO r k
@[simp] theorem kO_some0 (α : Type) (k : α → R Vl) (a : α) : kO α k (some a) = k a := rfl
@[simp] theorem kO_none (α : Type) (k : α → R Vl) : kO α k none = .er := rfl
def kVar (s : Env) (r : Option (D × Env)) : R Vl := okO r fun q => .ok (.o (.sh q.1)) q.2
@[simp] theorem kVar_some0 (s : Env) (d : D) (s1 : Env) : kVar s (some (d, s1)) = .ok (.o (.sh d)) s1 := rfl
@[simp] theorem kVar_none (s : Env) : kVar s none = .er := rfl
@[simp] theorem ev_var (i : Nat) : ev G (.var i) s = kVar s (shareP s ⟨i, []⟩) := rfl
@[simp] theorem ev_lit (d : D) : ev G (.lit d) s = .ok (.o (.sh d)) s := rfl
@[simp] theorem ev_glb (x : Str) (d : D) : ev G (.glb x d) s = .ok (.o (.sh d)) s := rfl
@[simp] theorem ev_nil  : ev G .nil s = .ok (.l []) s := rfl
def kD  (r : R Vl) : R A := r.bind fun v s => (match v with | .o o => .ok (.val (frz o)) s | .l _ => .er)
@[simp] theorem kD_ok0  (o : O) : kD  (.ok (.o o) s) = .ok (.val (frz o)) s := rfl
@[simp] theorem kD_ex  : kD  (.ex c fs s) = .ex c fs s := rfl
@[simp] theorem kD_er  : kD  .er = .er := rfl
def kPk2 (rest : E) (p : Pth) (s : Env) (r0 : R Vl) (r : Option O) : R A := match r with | some (.sh d) => .ok (.val d) s | some o => if (p.fs.isEmpty || simple rest) = true then .ok (.ref p) s else .ok (.val (frz o)) (setP s p (.sh (frz o))) | none => kD r0
@[simp] theorem kPk2_some0 (rest : E) (p : Pth) (s : Env) (r0 : R Vl) (d : D) : kPk2 rest p s r0 (some (.sh d)) = .ok (.val d) s := rfl
@[simp] theorem kPk2_some1 (rest : E) (p : Pth) (s : Env) (r0 : R Vl) (l : List D) : kPk2 rest p s r0 (some (.ol l)) = if (p.fs.isEmpty || simple rest) = true then .ok (.ref p) s else .ok (.val (.lst l)) (setP s p (.sh (.lst l))) := rfl
@[simp] theorem kPk2_some2 (rest : E) (p : Pth) (s : Env) (r0 : R Vl) (k : Nat) (f : List (Nat × O)) : kPk2 rest p s r0 (some (.oo k f)) = if (p.fs.isEmpty || simple rest) = true then .ok (.ref p) s else .ok (.val (.ins k (frzF f))) (setP s p (.sh (.ins k (frzF f)))) := rfl
@[simp] theorem kPk2_some3 (rest : E) (p : Pth) (s : Env) (r0 : R Vl) (l : List (Int × D)) : kPk2 rest p s r0 (some (.od l)) = if (p.fs.isEmpty || simple rest) = true then .ok (.ref p) s else .ok (.val (.dct l)) (setP s p (.sh (.dct l))) := rfl
@[simp] theorem kPk2_none (rest : E) (p : Pth) (s : Env) (r0 : R Vl) : kPk2 rest p s r0 none = kD r0 := rfl
def kPk (rest : E) (s : Env) (r0 : R Vl) (r : Option Pth) : R A := match r with | some p => kPk2 rest p s r0 (getP s p) | none => kD r0
@[simp] theorem kPk_some0 (rest : E) (s : Env) (r0 : R Vl) (p : Pth) : kPk rest s r0 (some p) = kPk2 rest p s r0 (getP s p) := rfl
@[simp] theorem kPk_none (rest : E) (s : Env) (r0 : R Vl) : kPk rest s r0 none = kD r0 := rfl
theorem kD_eq (r : R Vl) : ((asD r).bind fun d s => .ok (.val d) s) = kD r := by
  cases r with
  | ok a s => cases a <;> rfl
  | ex c fs s => rfl
  | er => rfl
@[simp] theorem pk_ (a rest : E) (r : R Vl) : pk a rest s r = kPk rest s r (plc a) := by
  unfold pk kPk
  cases plc a with
  | none => exact kD_eq r
  | some p =>
    dsimp only
    unfold kPk2
    generalize getP s p = g
    cases g with
    | none => exact kD_eq r
    | some o => cases o <;> rfl
def kPlc (f : Nat) (r : Option Pth) : Option Pth := match r with | some p => some ⟨p.i, p.fs ++ [f]⟩ | none => none
@[simp] theorem kPlc_some0 (f : Nat) (p : Pth) : kPlc f (some p) = some ⟨p.i, p.fs ++ [f]⟩ := rfl
@[simp] theorem kPlc_none (f : Nat) : kPlc f none = none := rfl
@[simp] theorem plc_var (i : Nat) : plc (.var i) = some ⟨i, []⟩ := rfl
@[simp] theorem plc_attr (a : E) (f : Nat) : plc (.attr a f) = kPlc f (plc a) := by unfold kPlc; cases h : plc a <;> simp [plc, h]
@[simp] theorem plc_lit (d : D) : plc (.lit d) = none := rfl
@[simp] theorem plc_glb (x : Str) (d : D) : plc (.glb x d) = none := rfl
@[simp] theorem plc_nil  : plc .nil = none := rfl
@[simp] theorem plc_cons (a b : E) : plc (.cons a b) = none := rfl
@[simp] theorem plc_tup (a : E) : plc (.tup a) = none := rfl
@[simp] theorem plc_lst (a : E) : plc (.lst a) = none := rfl
@[simp] theorem plc_bin (op : Operator) (a b : E) : plc (.bin op a b) = none := rfl
@[simp] theorem plc_neg (a : E) : plc (.neg a) = none := rfl
@[simp] theorem plc_inv (a : E) : plc (.inv a) = none := rfl
@[simp] theorem plc_cmp (op : CmpOp) (a b : E) : plc (.cmp op a b) = none := rfl
@[simp] theorem plc_chn (op op1 : CmpOp) (a b d : E) : plc (.chn op op1 a b d) = none := rfl
@[simp] theorem plc_not (a : E) : plc (.not a) = none := rfl
@[simp] theorem plc_and (a b : E) : plc (.and a b) = none := rfl
@[simp] theorem plc_or (a b : E) : plc (.or a b) = none := rfl
@[simp] theorem plc_ite (d a b : E) : plc (.ite d a b) = none := rfl
@[simp] theorem plc_idx (a b : E) : plc (.idx a b) = none := rfl
@[simp] theorem plc_slc (a b d : E) : plc (.slc a b d) = none := rfl
@[simp] theorem plc_call (g : Nat) (a : E) : plc (.call g a) = none := rfl
@[simp] theorem plc_mk (g : Nat) (a : E) : plc (.mk g a) = none := rfl
@[simp] theorem plc_meth (a : E) (m : Nat) (b : E) : plc (.meth a m b) = none := rfl
@[simp] theorem plc_bi (x : Bi) (a : E) : plc (.bi x a) = none := rfl
@[simp] theorem plc_len (a : E) : plc (.len a) = none := rfl
@[simp] theorem plc_lrg (a : E) : plc (.lrg a) = none := rfl
@[simp] theorem plc_isi (a : E) (x : Is) : plc (.isi a x) = none := rfl
@[simp] theorem plc_rng (a : E) : plc (.rng a) = none := rfl
@[simp] theorem plc_zip (a : E) : plc (.zip a) = none := rfl
@[simp] theorem plc_itr (a : E) : plc (.itr a) = none := rfl
@[simp] theorem plc_pop (a b : E) : plc (.pop a b) = none := rfl
@[simp] theorem plc_comp (vs : List Nat) (t : Tg) (a b d : E) : plc (.comp vs t a b d) = none := rfl
@[simp] theorem plc_pf (x : Pf) (a : E) : plc (.pf x a) = none := rfl
@[simp] theorem plc_bm0 (a : E) (x : Bm) : plc (.bm0 a x) = none := rfl
@[simp] theorem plc_bm1 (a : E) (x : Bm) (b : E) : plc (.bm1 a x b) = none := rfl
@[simp] theorem plc_mk0 (k : Nat) : plc (.mk0 k) = none := rfl
@[simp] theorem plc_cst (k l : Nat) : plc (.cst k l) = none := rfl
@[simp] theorem plc_clm (k l : Nat) (a : E) : plc (.clm k l a) = none := rfl
@[simp] theorem plc_mkv (k l : Nat) (a : E) : plc (.mkv k l a) = none := rfl
@[simp] theorem plc_cal (k : Nat) (a : E) : plc (.cal k a) = none := rfl
def kCons2 (x : A) (r : R Vl) : R Vl := r.bind fun v s => (match v with | .o _ => .er | .l l => .ok (.l (x :: l)) s)
@[simp] theorem kCons2_ok0 (x : A) (l : List A) : kCons2 x (.ok (.l l) s) = .ok (.l (x :: l)) s := rfl
@[simp] theorem kCons2_ex (x : A) : kCons2 x (.ex c fs s) = .ex c fs s := rfl
@[simp] theorem kCons2_er (x : A) : kCons2 x .er = .er := rfl
def kCons1 (G : Ct) (b : E) (r : R A) : R Vl := r.bind fun x s => kCons2 x (ev G b s)
@[simp] theorem kCons1_ok0 (G : Ct) (b : E) (x : A) : kCons1 G b (.ok x s) = kCons2 x (ev G b s) := rfl
@[simp] theorem kCons1_ex (G : Ct) (b : E) : kCons1 G b (.ex c fs s) = .ex c fs s := rfl
@[simp] theorem kCons1_er (G : Ct) (b : E) : kCons1 G b .er = .er := rfl
@[simp] theorem ev_cons (a b : E) : ev G (.cons a b) s = kCons1 G b (pk a b s (ev G a s)) := by
  unfold kCons1
  rw [ev]
  congr 1
  funext x s
  unfold kCons2
  cases ev G b s with
  | ok v s => cases v <;> rfl
  | ex c fs s => rfl
  | er => rfl
def kShA (d : D) (r : Option (List D × Env)) : Option (List D × Env) := r.map fun q => (d :: q.1, q.2)
@[simp] theorem kShA_some0 (d : D) (l : List D) (s1 : Env) : kShA d (some (l, s1)) = some (d :: l, s1) := rfl
@[simp] theorem kShA_none (d : D) : kShA d none = none := rfl
@[simp] theorem shA_n  : shA [] s = some ([], s) := rfl
@[simp] theorem shA_v (d : D) (r : List A) : shA (.val d :: r) s = kShA d (shA r s) := rfl
def kShB (r0 : List A) (r : Option (D × Env)) : Option (List D × Env) := match r with | some (d, s1) => kShA d (shA r0 s1) | none => none
@[simp] theorem kShB_some0 (r0 : List A) (d : D) (s1 : Env) : kShB r0 (some (d, s1)) = kShA d (shA r0 s1) := rfl
@[simp] theorem kShB_none (r0 : List A) : kShB r0 none = none := rfl
@[simp] theorem shA_r (p : Pth) (r : List A) : shA (.ref p :: r) s = kShB r (shareP s p) := by unfold kShB kShA; rw [shA] <;> (rcases shareP s p with _ | q <;> rfl)
def kTup2  (r : Option (List D × Env)) : R Vl := okO r fun q => .ok (.o (.sh (.tup q.1))) q.2
@[simp] theorem kTup2_some0  (l : List D) (s1 : Env) : kTup2  (some (l, s1)) = .ok (.o (.sh (.tup l))) s1 := rfl
@[simp] theorem kTup2_none  : kTup2  none = .er := rfl
def kLst2  (r : Option (List D × Env)) : R Vl := okO r fun q => .ok (.o (.ol q.1)) q.2
@[simp] theorem kLst2_some0  (l : List D) (s1 : Env) : kLst2  (some (l, s1)) = .ok (.o (.ol l)) s1 := rfl
@[simp] theorem kLst2_none  : kLst2  none = .er := rfl
def kTup  (r : R Vl) : R Vl := r.bind fun v s => (match v with | .o _ => .er | .l l => kTup2 (shA l s))
@[simp] theorem kTup_ok0  (l : List A) : kTup  (.ok (.l l) s) = kTup2 (shA l s) := rfl
@[simp] theorem kTup_ex  : kTup  (.ex c fs s) = .ex c fs s := rfl
@[simp] theorem kTup_er  : kTup  .er = .er := rfl
def kLst  (r : R Vl) : R Vl := r.bind fun v s => (match v with | .o _ => .er | .l l => kLst2 (shA l s))
@[simp] theorem kLst_ok0  (l : List A) : kLst  (.ok (.l l) s) = kLst2 (shA l s) := rfl
@[simp] theorem kLst_ex  : kLst  (.ex c fs s) = .ex c fs s := rfl
@[simp] theorem kLst_er  : kLst  .er = .er := rfl
theorem asL_bind {β : Type} (r : R Vl) (k : List A → Env → R β) : (asL r).bind k = r.bind fun v s => (match v with | .o _ => .er | .l l => k l s) := by
  cases r with
  | ok v s => cases v <;> rfl
  | ex c fs s => rfl
  | er => rfl
theorem asD_bind {β : Type} (r : R Vl) (k : D → Env → R β) : (asD r).bind k = r.bind fun v s => (match v with | .o o => k (frz o) s | .l _ => .er) := by
  cases r with
  | ok v s => cases v <;> rfl
  | ex c fs s => rfl
  | er => rfl
theorem asO_bind {β : Type} (r : R Vl) (k : O → Env → R β) : (asO r).bind k = r.bind fun v s => (match v with | .o o => k o s | .l _ => .er) := by
  cases r with
  | ok v s => cases v <;> rfl
  | ex c fs s => rfl
  | er => rfl
theorem bind_congr {α β : Type} (r : R α) {k k' : α → Env → R β} (h : ∀ a s, k a s = k' a s) : r.bind k = r.bind k' := by
  cases r with
  | ok v s => exact h v s
  | ex c fs s => rfl
  | er => rfl
@[simp] theorem ev_tup (a : E) : ev G (.tup a) s = kTup (ev G a s) := asL_bind _ _
@[simp] theorem ev_lst (a : E) : ev G (.lst a) s = kLst (ev G a s) := asL_bind _ _
def kBin2 (G : Ct) (op : Operator) (x : A) (r : R Vl) : R Vl := r.bind fun v s => (match v with | .o o => binA G op x (frz o) s | .l _ => .er)
@[simp] theorem kBin2_ok0 (G : Ct) (op : Operator) (x : A) (o : O) : kBin2 G op x (.ok (.o o) s) = binA G op x (frz o) s := rfl
@[simp] theorem kBin2_ex (G : Ct) (op : Operator) (x : A) : kBin2 G op x (.ex c fs s) = .ex c fs s := rfl
@[simp] theorem kBin2_er (G : Ct) (op : Operator) (x : A) : kBin2 G op x .er = .er := rfl
def kBin1 (G : Ct) (op : Operator) (b : E) (r : R A) : R Vl := r.bind fun x s => kBin2 G op x (ev G b s)
@[simp] theorem kBin1_ok0 (G : Ct) (op : Operator) (b : E) (x : A) : kBin1 G op b (.ok x s) = kBin2 G op x (ev G b s) := rfl
@[simp] theorem kBin1_ex (G : Ct) (op : Operator) (b : E) : kBin1 G op b (.ex c fs s) = .ex c fs s := rfl
@[simp] theorem kBin1_er (G : Ct) (op : Operator) (b : E) : kBin1 G op b .er = .er := rfl
@[simp] theorem ev_bin (op : Operator) (a b : E) : ev G (.bin op a b) s = kBin1 G op b (pk a b s (ev G a s)) := bind_congr _ fun _ _ => asD_bind _ _
@[simp] theorem res_v (d : D) : A.res s (.val d) = some (.sh d) := rfl
@[simp] theorem res_r (p : Pth) : A.res s (.ref p) = getP s p := rfl
@[simp] theorem clsO_i (k : Nat) (f : List (Nat × D)) : clsO (.sh (.ins k f)) = some k := rfl
@[simp] theorem clsO_o (k : Nat) (f : List (Nat × O)) : clsO (.oo k f) = some k := rfl
@[simp] theorem clsO_l (l : List D) : clsO (.ol l) = none := rfl
@[simp] theorem clsO_od (l : List (Int × D)) : clsO (.od l) = none := rfl
@[simp] theorem clsO_cls (b : Nat) : clsO (.sh (.cls b)) = none := rfl
@[simp] theorem clsO_dct (b : List (Int × D)) : clsO (.sh (.dct b)) = none := rfl
@[simp] theorem clsO_non  : clsO (.sh .non) = none := rfl
@[simp] theorem clsO_bl (b : Bool) : clsO (.sh (.bl b)) = none := rfl
@[simp] theorem clsO_int (b : Int) : clsO (.sh (.int b)) = none := rfl
@[simp] theorem clsO_str (b : Str) : clsO (.sh (.str b)) = none := rfl
@[simp] theorem clsO_tup (b : List D) : clsO (.sh (.tup b)) = none := rfl
@[simp] theorem clsO_lst (b : List D) : clsO (.sh (.lst b)) = none := rfl
@[simp] theorem clsO_scr (b : List Int) : clsO (.sh (.scr b)) = none := rfl
def kOo (s : Env) (r : Option O) : R Vl := okO r fun o => .ok (.o o) s
@[simp] theorem kOo_some0 (s : Env) (o : O) : kOo s (some o) = .ok (.o o) s := rfl
@[simp] theorem kOo_none (s : Env) : kOo s none = .er := rfl
def kRO  (r : R O) : R Vl := r.bind fun o s => .ok (.o o) s
@[simp] theorem kRO_ok0  (o : O) : kRO  (.ok o s) = .ok (.o o) s := rfl
@[simp] theorem kRO_ex  : kRO  (.ex c fs s) = .ex c fs s := rfl
@[simp] theorem kRO_er  : kRO  .er = .er := rfl
def kBin6 (op : Operator) (y : D) (r : Option (D × Env)) : R Vl := okO r fun q => okO (binD op q.1 y) fun o => .ok (.o o) q.2
@[simp] theorem kBin6_some0 (op : Operator) (y : D) (d : D) (s1 : Env) : kBin6 op y (some (d, s1)) = kOo s1 (binD op d y) := rfl
@[simp] theorem kBin6_none (op : Operator) (y : D) : kBin6 op y none = .er := rfl
def kBin5 (op : Operator) (x : A) (y : D) (s : Env) : R Vl := match x with
  | .val x => kOo s (binD op x y)
  | .ref p => kBin6 op y (shareP s p)
@[simp] theorem kBin5_v (op : Operator) (x y : D) : kBin5 op (.val x) y s = kOo s (binD op x y) := rfl
@[simp] theorem kBin5_r (op : Operator) (p : Pth) (y : D) : kBin5 op (.ref p) y s = kBin6 op y (shareP s p) := rfl
def kBin7 (G : Ct) (x : A) (y : D) (s : Env) (r : Option Nat) : R Vl := okO r fun g => rO (callF G.F g [x, .val y] s)
@[simp] theorem kBin7_some0 (G : Ct) (x : A) (y : D) (s : Env) (g : Nat) : kBin7 G x y s (some g) = kRO (callF G.F g [x, .val y] s) := rfl
@[simp] theorem kBin7_none (G : Ct) (x : A) (y : D) (s : Env) : kBin7 G x y s none = .er := rfl
def kBin4 (G : Ct) (op : Operator) (x : A) (y : D) (s : Env) (r : Option Nat) : R Vl := match r with | some k => if okB k y = true then kBin7 G x y s (G.mth k (pinD op)) else .er | none => kBin5 op x y s
@[simp] theorem kBin4_some0 (G : Ct) (op : Operator) (x : A) (y : D) (s : Env) (k : Nat) : kBin4 G op x y s (some k) = if okB k y = true then kBin7 G x y s (G.mth k (pinD op)) else .er := rfl
@[simp] theorem kBin4_none (G : Ct) (op : Operator) (x : A) (y : D) (s : Env) : kBin4 G op x y s none = kBin5 op x y s := rfl
def kBin3 (G : Ct) (op : Operator) (x : A) (y : D) (s : Env) (r : Option O) : R Vl := okO r fun o => kBin4 G op x y s (clsO o)
@[simp] theorem kBin3_some0 (G : Ct) (op : Operator) (x : A) (y : D) (s : Env) (o : O) : kBin3 G op x y s (some o) = kBin4 G op x y s (clsO o) := rfl
@[simp] theorem kBin3_none (G : Ct) (op : Operator) (x : A) (y : D) (s : Env) : kBin3 G op x y s none = .er := rfl
@[simp] theorem binA_ (op : Operator) (x : A) (y : D) : binA G op x y s = kBin3 G op x y s (x.res s) := by
  unfold binA kBin3
  cases x.res s with
  | none => rfl
  | some o =>
    show (match clsO o with | some c => _ | none => _) = kBin4 G op x y s (clsO o)
    cases clsO o with
    | some k => rfl
    | none => cases x <;> rfl
@[simp] theorem okB_int (k : Nat) (i : Int) : okB k (.int i) = true := rfl
@[simp] theorem okB_ins (k k' : Nat) (f : List (Nat × D)) : okB k (.ins k' f) = (k' == k) := rfl
@[simp] theorem binD_add (i j : Int) : binD .Add (.int i) (.int j) = some (.sh (.int (i + j))) := rfl
@[simp] theorem binD_sub (i j : Int) : binD .Sub (.int i) (.int j) = some (.sh (.int (i - j))) := rfl
@[simp] theorem binD_mul (i j : Int) : binD .Mult (.int i) (.int j) = if fitM i j = true then some (.sh (.int (i * j))) else none := rfl
theorem dvB_small {j : Int} (h : 0 < j ∧ j < 1073741824) : dvB j = true := by
  have h2 : j.toNat < 1073741824 := by omega
  unfold dvB
  rw [decide_eq_true h.1, decide_eq_true (Nat.lt_of_lt_of_le h2 (by decide))]
  rfl
@[simp] theorem binD_div (i j : Int) (h : 0 < j ∧ j < 1073741824) : binD .FloorDiv (.int i) (.int j) = some (.sh (.int (i / j))) := by
  show (if dvB j = true then _ else _) = _
  rw [if_pos (dvB_small h)]
@[simp] theorem binD_divW (i j : Int) (h : dvB j = true) : binD .FloorDiv (.int i) (.int j) = some (.sh (.int (i / j))) := by
  show (if dvB j = true then _ else _) = _
  rw [if_pos h]
@[simp] theorem binD_mod (i j : Int) : binD .Mod (.int i) (.int j) = if 0 < j then some (.sh (.int (i % j))) else none := rfl
@[simp] theorem binD_pow (i j : Int) : binD .Pow (.int i) (.int j) = if 0 ≤ j ∧ j ≤ 1000 ∧ i.natAbs < 1000 then some (.sh (.int (i ^ j.toNat))) else none := rfl
@[simp] theorem binD_addl (a b : List D) : binD .Add (.lst a) (.lst b) = if a.length + b.length ≤ lim then some (.ol (a ++ b)) else none := rfl
@[simp] theorem binD_addt (a b : List D) : binD .Add (.tup a) (.tup b) = if a.length + b.length ≤ lim then some (.sh (.tup (a ++ b))) else none := rfl
@[simp] theorem binD_mull (a : List D) (k : Int) : binD .Mult (.lst a) (.int k) = if 0 ≤ k ∧ k ≤ 1000 ∧ a.length * k.toNat ≤ lim then some (.ol (List.replicate k.toNat a).flatten) else none := rfl
theorem atI_nat {α : Type} (l : List α) (n : Nat) : L2.atI l (n : Int) = l[n]? := by
  unfold L2.atI L2.ixN
  by_cases h : n < l.length
  · simp [h]
  · simp [h]
theorem ixN_nat (m n : Nat) : L2.ixN m (n : Int) = if n < m then some n else none := by
  unfold L2.ixN
  by_cases h : n < m
  · simp [h]
  · simp [h]
@[simp] theorem atI_lit {α : Type} (l : List α) (n : Nat) : L2.atI l (no_index (@OfNat.ofNat Int n _)) = l[(OfNat.ofNat n : Nat)]? := atI_nat l n
@[simp] theorem ixN_lit (m n : Nat) : L2.ixN m (no_index (@OfNat.ofNat Int n _)) = if (OfNat.ofNat n : Nat) < m then some (OfNat.ofNat n) else none := ixN_nat m n
theorem atI_in {α : Type} {l : List α} {i : Int} (h0 : 0 ≤ i) (h1 : i < l.length) : L2.atI l i = some (l[i.toNat]'(by omega)) := by
  obtain ⟨n, rfl⟩ := Int.eq_ofNat_of_zero_le h0
  rw [atI_nat]
  simp
theorem ixN_in {m : Nat} {i : Int} (h0 : 0 ≤ i) (h1 : i < m) : L2.ixN m i = some i.toNat := by
  unfold L2.ixN
  rw [if_pos h0, if_pos h1]
@[simp] theorem atI_neg1 {α : Type} (l : List α) : L2.atI l (-1) = l.getLast? := by
  unfold L2.atI L2.ixN
  rw [if_neg (by omega), List.getLast?_eq_getElem?]
  cases l with
  | nil => rfl
  | cons a r =>
    rw [if_pos (by simp only [List.length_cons]; omega)]
    have e : (-1 + ((a :: r).length : Int)).toNat = (a :: r).length - 1 := by simp only [List.length_cons]; omega
    rw [e] <;> rfl
@[simp] theorem cmpD_Eq (x y : D) : cmpD .Eq x y = eqQ x y := rfl
@[simp] theorem cmpD_NotEq (x y : D) : cmpD .NotEq x y = (eqQ x y).map (!·) := rfl
@[simp] theorem cmpD_Lt (i j : Int) : cmpD .Lt (.int i) (.int j) = some (decide (i < j)) := rfl
@[simp] theorem cmpD_LtE (i j : Int) : cmpD .LtE (.int i) (.int j) = some (decide (i ≤ j)) := rfl
@[simp] theorem cmpD_Gt (i j : Int) : cmpD .Gt (.int i) (.int j) = some (decide (j < i)) := rfl
@[simp] theorem cmpD_GtE (i j : Int) : cmpD .GtE (.int i) (.int j) = some (decide (j ≤ i)) := rfl
@[simp] theorem eqQ_int (i j : Int) : eqQ (.int i) (.int j) = some (decide (i = j)) := rfl
@[simp] theorem eqQ_bl (i j : Bool) : eqQ (.bl i) (.bl j) = some (decide (i = j)) := rfl
@[simp] theorem eqQ_str (i j : Str) : eqQ (.str i) (.str j) = some (decide (i = j)) := rfl
@[simp] theorem eqQ_non : eqQ .non .non = some true := rfl
@[simp] theorem cmpD_is_bl (b : Bool) : cmpD .Is (.bl b) .non = some false := rfl
@[simp] theorem cmpD_isn_bl (b : Bool) : cmpD .IsNot (.bl b) .non = some true := rfl
@[simp] theorem cmpD_is_int (b : Int) : cmpD .Is (.int b) .non = some false := rfl
@[simp] theorem cmpD_isn_int (b : Int) : cmpD .IsNot (.int b) .non = some true := rfl
@[simp] theorem cmpD_is_str (b : Str) : cmpD .Is (.str b) .non = some false := rfl
@[simp] theorem cmpD_isn_str (b : Str) : cmpD .IsNot (.str b) .non = some true := rfl
@[simp] theorem cmpD_is_tup (b : List D) : cmpD .Is (.tup b) .non = some false := rfl
@[simp] theorem cmpD_isn_tup (b : List D) : cmpD .IsNot (.tup b) .non = some true := rfl
@[simp] theorem cmpD_is_lst (b : List D) : cmpD .Is (.lst b) .non = some false := rfl
@[simp] theorem cmpD_isn_lst (b : List D) : cmpD .IsNot (.lst b) .non = some true := rfl
@[simp] theorem cmpD_is_scr (b : List Int) : cmpD .Is (.scr b) .non = some false := rfl
@[simp] theorem cmpD_isn_scr (b : List Int) : cmpD .IsNot (.scr b) .non = some true := rfl
@[simp] theorem cmpD_is_ins (k : Nat) (b : List (Nat × D)) : cmpD .Is (.ins k b) .non = some false := rfl
@[simp] theorem cmpD_isn_ins (k : Nat) (b : List (Nat × D)) : cmpD .IsNot (.ins k b) .non = some true := rfl
@[simp] theorem cmpD_is_non  : cmpD .Is .non .non = some true := rfl
@[simp] theorem cmpD_isn_non  : cmpD .IsNot .non .non = some false := rfl
@[simp] theorem cmpN_Eq : cmpN .Eq = 11 := rfl
@[simp] theorem cmpN_Lt : cmpN .Lt = 12 := rfl
@[simp] theorem cmpN_LtE : cmpN .LtE = 13 := rfl
@[simp] theorem pinD_Add : pinD .Add = 1 := rfl
@[simp] theorem pinD_Sub : pinD .Sub = 2 := rfl
@[simp] theorem pinD_Mult : pinD .Mult = 3 := rfl
@[simp] theorem pinD_FloorDiv : pinD .FloorDiv = 4 := rfl
@[simp] theorem pinD_Mod : pinD .Mod = 5 := rfl
@[simp] theorem pinD_BitXor : pinD .BitXor = 6 := rfl
@[simp] theorem pinD_BitAnd : pinD .BitAnd = 7 := rfl
@[simp] theorem pinD_BitOr : pinD .BitOr = 8 := rfl
def kNeg2 (s : Env) (r : Option Int) : R Vl := okO r fun i => .ok (.o (.sh (.int (-i)))) s
@[simp] theorem kNeg2_some0 (s : Env) (i : Int) : kNeg2 s (some i) = .ok (.o (.sh (.int (-i)))) s := rfl
@[simp] theorem kNeg2_none (s : Env) : kNeg2 s none = .er := rfl
def kNeg  (r : R Vl) : R Vl := r.bind fun v s => (match v with | .o o => kNeg2 s (intO (frz o)) | .l _ => .er)
@[simp] theorem kNeg_ok0  (o : O) : kNeg  (.ok (.o o) s) = kNeg2 s (intO (frz o)) := rfl
@[simp] theorem kNeg_ex  : kNeg  (.ex c fs s) = .ex c fs s := rfl
@[simp] theorem kNeg_er  : kNeg  .er = .er := rfl
@[simp] theorem ev_neg (a : E) : ev G (.neg a) s = kNeg (ev G a s) := asD_bind _ _
@[simp] theorem intO_i (i : Int) : intO (.int i) = some i := rfl
@[simp] theorem noX_ok {α : Type} (a : α) : noX (.ok a s) = .ok a s := rfl
def kInv3 (G : Ct) (x : A) (s : Env) (r : Option Nat) : R Vl := okO r fun g => rO (noX (callF G.F g [x] s))
@[simp] theorem kInv3_some0 (G : Ct) (x : A) (s : Env) (g : Nat) : kInv3 G x s (some g) = kRO (noX (callF G.F g [x] s)) := rfl
@[simp] theorem kInv3_none (G : Ct) (x : A) (s : Env) : kInv3 G x s none = .er := rfl
def kInv2 (G : Ct) (x : A) (s : Env) (r : Option Nat) : R Vl := okO r fun k => kInv3 G x s (G.mth k 20)
@[simp] theorem kInv2_some0 (G : Ct) (x : A) (s : Env) (k : Nat) : kInv2 G x s (some k) = kInv3 G x s (G.mth k 20) := rfl
@[simp] theorem kInv2_none (G : Ct) (x : A) (s : Env) : kInv2 G x s none = .er := rfl
def kInv1 (G : Ct) (x : A) (s : Env) (r : Option O) : R Vl := okO r fun o => kInv2 G x s (clsO o)
@[simp] theorem kInv1_some0 (G : Ct) (x : A) (s : Env) (o : O) : kInv1 G x s (some o) = kInv2 G x s (clsO o) := rfl
@[simp] theorem kInv1_none (G : Ct) (x : A) (s : Env) : kInv1 G x s none = .er := rfl
def kInv (G : Ct) (r : R A) : R Vl := r.bind fun x s => kInv1 G x s (x.res s)
@[simp] theorem kInv_ok0 (G : Ct) (x : A) : kInv G (.ok x s) = kInv1 G x s (x.res s) := rfl
@[simp] theorem kInv_ex (G : Ct) : kInv G (.ex c fs s) = .ex c fs s := rfl
@[simp] theorem kInv_er (G : Ct) : kInv G .er = .er := rfl
@[simp] theorem ev_inv (a : E) : ev G (.inv a) s = kInv G (pk a .nil s (ev G a s)) := rfl
def kCmp5 (s : Env) (r : Option Bool) : R Vl := okO r fun k => .ok (.o (.sh (.bl k))) s
@[simp] theorem kCmp5_some0 (s : Env) (k : Bool) : kCmp5 s (some k) = .ok (.o (.sh (.bl k))) s := rfl
@[simp] theorem kCmp5_none (s : Env) : kCmp5 s none = .er := rfl
@[simp] theorem onlyB_b (k : Bool) : onlyB (.ok (.sh (.bl k)) s) = .ok (.sh (.bl k)) s := rfl
@[simp] theorem onlyB_ex : onlyB (.ex c fs s) = .ex c fs s := rfl
def kCmp6 (G : Ct) (x y : A) (s : Env) (r : Option Nat) : R Vl := okO r fun g => rO (onlyB (noX (callF G.F g [x, y] s)))
@[simp] theorem kCmp6_some0 (G : Ct) (x y : A) (s : Env) (g : Nat) : kCmp6 G x y s (some g) = kRO (onlyB (noX (callF G.F g [x, y] s))) := rfl
@[simp] theorem kCmp6_none (G : Ct) (x y : A) (s : Env) : kCmp6 G x y s none = .er := rfl
def kCmp4 (G : Ct) (op : CmpOp) (x y : A) (s : Env) (o u : O) (r : Option Nat) : R Vl := match r with | some k => if (clsO u).isSome = true then kCmp6 G x y s (G.mth k (cmpN op)) else .er | none => kCmp5 s (cmpD op (frz o) (frz u))
@[simp] theorem kCmp4_some0 (G : Ct) (op : CmpOp) (x y : A) (s : Env) (o u : O) (k : Nat) : kCmp4 G op x y s o u (some k) = if (clsO u).isSome = true then kCmp6 G x y s (G.mth k (cmpN op)) else .er := rfl
@[simp] theorem kCmp4_none (G : Ct) (op : CmpOp) (x y : A) (s : Env) (o u : O) : kCmp4 G op x y s o u none = kCmp5 s (cmpD op (frz o) (frz u)) := rfl
def kCmp3 (G : Ct) (op : CmpOp) (x y : A) (s : Env) (o : O) (r : Option O) : R Vl := okO r fun u => kCmp4 G op x y s o u (clsO o)
@[simp] theorem kCmp3_some0 (G : Ct) (op : CmpOp) (x y : A) (s : Env) (o : O) (u : O) : kCmp3 G op x y s o (some u) = kCmp4 G op x y s o u (clsO o) := rfl
@[simp] theorem kCmp3_none (G : Ct) (op : CmpOp) (x y : A) (s : Env) (o : O) : kCmp3 G op x y s o none = .er := rfl
def kCmp2 (G : Ct) (op : CmpOp) (x y : A) (s : Env) (r : Option O) : R Vl := okO r fun o => kCmp3 G op x y s o (y.res s)
@[simp] theorem kCmp2_some0 (G : Ct) (op : CmpOp) (x y : A) (s : Env) (o : O) : kCmp2 G op x y s (some o) = kCmp3 G op x y s o (y.res s) := rfl
@[simp] theorem kCmp2_none (G : Ct) (op : CmpOp) (x y : A) (s : Env) : kCmp2 G op x y s none = .er := rfl
def kCmp1 (G : Ct) (op : CmpOp) (x : A) (r : R A) : R Vl := r.bind fun y s => kCmp2 G op x y s (x.res s)
@[simp] theorem kCmp1_ok0 (G : Ct) (op : CmpOp) (x : A) (y : A) : kCmp1 G op x (.ok y s) = kCmp2 G op x y s (x.res s) := rfl
@[simp] theorem kCmp1_ex (G : Ct) (op : CmpOp) (x : A) : kCmp1 G op x (.ex c fs s) = .ex c fs s := rfl
@[simp] theorem kCmp1_er (G : Ct) (op : CmpOp) (x : A) : kCmp1 G op x .er = .er := rfl
def kCmp (G : Ct) (op : CmpOp) (b : E) (r : R A) : R Vl := r.bind fun x s => kCmp1 G op x (pk b .nil s (ev G b s))
@[simp] theorem kCmp_ok0 (G : Ct) (op : CmpOp) (b : E) (x : A) : kCmp G op b (.ok x s) = kCmp1 G op x (pk b .nil s (ev G b s)) := rfl
@[simp] theorem kCmp_ex (G : Ct) (op : CmpOp) (b : E) : kCmp G op b (.ex c fs s) = .ex c fs s := rfl
@[simp] theorem kCmp_er (G : Ct) (op : CmpOp) (b : E) : kCmp G op b .er = .er := rfl
@[simp] theorem ev_cmp (op : CmpOp) (a b : E) : ev G (.cmp op a b) s = kCmp G op b (pk a b s (ev G a s)) := by
  refine bind_congr _ fun x s => bind_congr _ fun y s => ?_
  unfold cmpA kCmp2
  cases x.res s with
  | none => rfl
  | some o =>
    show _ = kCmp3 G op x y s o (y.res s)
    unfold kCmp3
    show okO (y.res s) _ = okO (y.res s) _
    cases y.res s with
    | none => rfl
    | some u =>
      show (match clsO o with | some c => _ | none => _) = kCmp4 G op x y s o u (clsO o)
      cases clsO o <;> rfl
def kChn5 (s : Env) (r : Option Bool) : R Vl := okO r fun k => bitE k s
@[simp] theorem kChn5_some0 (s : Env) (k : Bool) : kChn5 s (some k) = .ok (.o (.sh (.bl k))) s := rfl
@[simp] theorem kChn5_none (s : Env) : kChn5 s none = .er := rfl
def kChn4 (op : CmpOp) (y : D) (r : R Vl) : R Vl := r.bind fun v s => (match v with | .o z => kChn5 s (cmpD op y (frz z)) | .l _ => .er)
@[simp] theorem kChn4_ok0 (op : CmpOp) (y : D) (z : O) : kChn4 op y (.ok (.o z) s) = kChn5 s (cmpD op y (frz z)) := rfl
@[simp] theorem kChn4_ex (op : CmpOp) (y : D) : kChn4 op y (.ex c fs s) = .ex c fs s := rfl
@[simp] theorem kChn4_er (op : CmpOp) (y : D) : kChn4 op y .er = .er := rfl
def kChn3 (G : Ct) (op1 : CmpOp) (y : D) (e : E) (s : Env) (r : Option Bool) : R Vl := okO r fun k => if k = true then kChn4 op1 y (ev G e s) else bitE false s
@[simp] theorem kChn3_some0 (G : Ct) (op1 : CmpOp) (y : D) (e : E) (s : Env) (k : Bool) : kChn3 G op1 y e s (some k) = if k = true then kChn4 op1 y (ev G e s) else .ok (.o (.sh (.bl false))) s := rfl
@[simp] theorem kChn3_none (G : Ct) (op1 : CmpOp) (y : D) (e : E) (s : Env) : kChn3 G op1 y e s none = .er := rfl
def kChn2 (G : Ct) (op op1 : CmpOp) (x : D) (e : E) (r : R Vl) : R Vl := r.bind fun v s => (match v with | .o y => kChn3 G op1 (frz y) e s (cmpD op x (frz y)) | .l _ => .er)
@[simp] theorem kChn2_ok0 (G : Ct) (op op1 : CmpOp) (x : D) (e : E) (y : O) : kChn2 G op op1 x e (.ok (.o y) s) = kChn3 G op1 (frz y) e s (cmpD op x (frz y)) := rfl
@[simp] theorem kChn2_ex (G : Ct) (op op1 : CmpOp) (x : D) (e : E) : kChn2 G op op1 x e (.ex c fs s) = .ex c fs s := rfl
@[simp] theorem kChn2_er (G : Ct) (op op1 : CmpOp) (x : D) (e : E) : kChn2 G op op1 x e .er = .er := rfl
def kChn1 (G : Ct) (op op1 : CmpOp) (b e : E) (r : R Vl) : R Vl := r.bind fun v s => (match v with | .o x => kChn2 G op op1 (frz x) e (ev G b s) | .l _ => .er)
@[simp] theorem kChn1_ok0 (G : Ct) (op op1 : CmpOp) (b e : E) (x : O) : kChn1 G op op1 b e (.ok (.o x) s) = kChn2 G op op1 (frz x) e (ev G b s) := rfl
@[simp] theorem kChn1_ex (G : Ct) (op op1 : CmpOp) (b e : E) : kChn1 G op op1 b e (.ex c fs s) = .ex c fs s := rfl
@[simp] theorem kChn1_er (G : Ct) (op op1 : CmpOp) (b e : E) : kChn1 G op op1 b e .er = .er := rfl
@[simp] theorem ev_chn (op op1 : CmpOp) (a b e : E) : ev G (.chn op op1 a b e) s = kChn1 G op op1 b e (ev G a s) := by
  refine (asD_bind _ _).trans (bind_congr _ fun v s => ?_)
  cases v with
  | l _ => rfl
  | o x =>
    refine (asD_bind _ _).trans (bind_congr _ fun v s => ?_)
    cases v with
    | l _ => rfl
    | o y =>
      show okO (cmpD op (frz x) (frz y)) _ = okO (cmpD op (frz x) (frz y)) _
      congr 1
      funext k
      cases k with
      | false => rfl
      | true => exact asD_bind _ _
def kTruD (s : Env) (r : Option Bool) : R Bool := match r with | some b => .ok b s | none => .er
@[simp] theorem kTruD_some0 (s : Env) (b : Bool) : kTruD s (some b) = .ok b s := rfl
@[simp] theorem kTruD_none (s : Env) : kTruD s none = .er := rfl
def kTruO (s : Env) (r : Option O) : R Bool := match r with | some o => kTruD s (truD (frz o)) | none => .er
@[simp] theorem kTruO_some0 (s : Env) (o : O) : kTruO s (some o) = kTruD s (truD (frz o)) := rfl
@[simp] theorem kTruO_none (s : Env) : kTruO s none = .er := rfl
@[simp] theorem truA_ (x : A) : truA x s = kTruO s (x.res s) := by unfold truA kTruO kTruD; rfl
def kTru  (r : R A) : R Bool := r.bind truA
@[simp] theorem kTru_ok0  (x : A) : kTru  (.ok x s) = truA x s := rfl
@[simp] theorem kTru_ex  : kTru  (.ex c fs s) = .ex c fs s := rfl
@[simp] theorem kTru_er  : kTru  .er = .er := rfl
@[simp] theorem tru_ (a : E) (r : R Vl) : tru a s r = kTru (pk a .nil s r) := rfl
@[simp] theorem truD_b (b : Bool) : truD (.bl b) = some b := rfl
@[simp] theorem truD_n  : truD .non = some false := rfl
@[simp] theorem truD_i (i : Int) : truD (.int i) = some (i != 0) := rfl
@[simp] theorem truD_l (l : List D) : truD (.lst l) = some (!l.isEmpty) := rfl
@[simp] theorem truD_t (l : List D) : truD (.tup l) = some (!l.isEmpty) := rfl
def kNot  (r : R Bool) : R Vl := r.bind fun k s => bitE (!k) s
@[simp] theorem kNot_ok0  (k : Bool) : kNot  (.ok k s) = .ok (.o (.sh (.bl (!k)))) s := rfl
@[simp] theorem kNot_ex  : kNot  (.ex c fs s) = .ex c fs s := rfl
@[simp] theorem kNot_er  : kNot  .er = .er := rfl
@[simp] theorem ev_not (a : E) : ev G (.not a) s = kNot (tru a s (ev G a s)) := rfl
def kBo (d : D) (s : Env) : R Bool := match d with
  | .bl k => .ok k s
  | _ => .er
@[simp] theorem kBo_b (k : Bool) : kBo (.bl k) s = .ok k s := rfl
def kB  (r : R Vl) : R Bool := r.bind fun v s => (match v with | .o o => kBo (frz o) s | .l _ => .er)
@[simp] theorem kB_ok0  (o : O) : kB  (.ok (.o o) s) = kBo (frz o) s := rfl
@[simp] theorem kB_ex  : kB  (.ex c fs s) = .ex c fs s := rfl
@[simp] theorem kB_er  : kB  .er = .er := rfl
@[simp] theorem bo_ (r : R Vl) : bo r = kB r := asD_bind _ _
def kBit  (r : R Bool) : R Vl := r.bind bitE
@[simp] theorem kBit_ok0  (k : Bool) : kBit  (.ok k s) = .ok (.o (.sh (.bl k))) s := rfl
@[simp] theorem kBit_ex  : kBit  (.ex c fs s) = .ex c fs s := rfl
@[simp] theorem kBit_er  : kBit  .er = .er := rfl
def kAnd (G : Ct) (b : E) (r : R Bool) : R Vl := r.bind fun k s => if k = true then kBit (bo (ev G b s)) else bitE false s
@[simp] theorem kAnd_ok0 (G : Ct) (b : E) (k : Bool) : kAnd G b (.ok k s) = if k = true then kBit (bo (ev G b s)) else .ok (.o (.sh (.bl false))) s := rfl
@[simp] theorem kAnd_ex (G : Ct) (b : E) : kAnd G b (.ex c fs s) = .ex c fs s := rfl
@[simp] theorem kAnd_er (G : Ct) (b : E) : kAnd G b .er = .er := rfl
def kOr (G : Ct) (b : E) (r : R Bool) : R Vl := r.bind fun k s => if k = true then bitE true s else kBit (bo (ev G b s))
@[simp] theorem kOr_ok0 (G : Ct) (b : E) (k : Bool) : kOr G b (.ok k s) = if k = true then .ok (.o (.sh (.bl true))) s else kBit (bo (ev G b s)) := rfl
@[simp] theorem kOr_ex (G : Ct) (b : E) : kOr G b (.ex c fs s) = .ex c fs s := rfl
@[simp] theorem kOr_er (G : Ct) (b : E) : kOr G b .er = .er := rfl
@[simp] theorem ev_and (a b : E) : ev G (.and a b) s = kAnd G b (bo (ev G a s)) := rfl
@[simp] theorem ev_or (a b : E) : ev G (.or a b) s = kOr G b (bo (ev G a s)) := rfl
def kIte (G : Ct) (a b : E) (r : R Bool) : R Vl := r.bind fun k s => if k = true then ev G a s else ev G b s
@[simp] theorem kIte_ok0 (G : Ct) (a b : E) (k : Bool) : kIte G a b (.ok k s) = if k = true then ev G a s else ev G b s := rfl
@[simp] theorem kIte_ex (G : Ct) (a b : E) : kIte G a b (.ex c fs s) = .ex c fs s := rfl
@[simp] theorem kIte_er (G : Ct) (a b : E) : kIte G a b .er = .er := rfl
@[simp] theorem ev_ite (d a b : E) : ev G (.ite d a b) s = kIte G a b (tru d s (ev G d s)) := rfl
def kIdx4 (s : Env) (r : Option D) : R Vl := okO r fun d => .ok (.o (.sh d)) s
@[simp] theorem kIdx4_some0 (s : Env) (d : D) : kIdx4 s (some d) = .ok (.o (.sh d)) s := rfl
@[simp] theorem kIdx4_none (s : Env) : kIdx4 s none = .er := rfl
def kIdx6 (G : Ct) (x : A) (y : D) (s : Env) (r : Option Nat) : R Vl := okO r fun g => rO (callF G.F g [x, .val y] s)
@[simp] theorem kIdx6_some0 (G : Ct) (x : A) (y : D) (s : Env) (g : Nat) : kIdx6 G x y s (some g) = kRO (callF G.F g [x, .val y] s) := rfl
@[simp] theorem kIdx6_none (G : Ct) (x : A) (y : D) (s : Env) : kIdx6 G x y s none = .er := rfl
def kIdx5 (G : Ct) (x : A) (y : D) (s : Env) (o : O) (r : Option Nat) : R Vl := match r with | some k => kIdx6 G x y s (G.mth k 14) | none => kIdx4 s (idxD o y)
@[simp] theorem kIdx5_some0 (G : Ct) (x : A) (y : D) (s : Env) (o : O) (k : Nat) : kIdx5 G x y s o (some k) = kIdx6 G x y s (G.mth k 14) := rfl
@[simp] theorem kIdx5_none (G : Ct) (x : A) (y : D) (s : Env) (o : O) : kIdx5 G x y s o none = kIdx4 s (idxD o y) := rfl
def kIdx3 (G : Ct) (x : A) (y : D) (s : Env) (r : Option O) : R Vl := okO r fun o => kIdx5 G x y s o (clsO o)
@[simp] theorem kIdx3_some0 (G : Ct) (x : A) (y : D) (s : Env) (o : O) : kIdx3 G x y s (some o) = kIdx5 G x y s o (clsO o) := rfl
@[simp] theorem kIdx3_none (G : Ct) (x : A) (y : D) (s : Env) : kIdx3 G x y s none = .er := rfl
def kIdx2 (G : Ct) (x : A) (r : R Vl) : R Vl := r.bind fun v s => (match v with | .o y => kIdx3 G x (frz y) s (x.res s) | .l _ => .er)
@[simp] theorem kIdx2_ok0 (G : Ct) (x : A) (y : O) : kIdx2 G x (.ok (.o y) s) = kIdx3 G x (frz y) s (x.res s) := rfl
@[simp] theorem kIdx2_ex (G : Ct) (x : A) : kIdx2 G x (.ex c fs s) = .ex c fs s := rfl
@[simp] theorem kIdx2_er (G : Ct) (x : A) : kIdx2 G x .er = .er := rfl
def kIdx (G : Ct) (b : E) (r : R A) : R Vl := r.bind fun x s => kIdx2 G x (ev G b s)
@[simp] theorem kIdx_ok0 (G : Ct) (b : E) (x : A) : kIdx G b (.ok x s) = kIdx2 G x (ev G b s) := rfl
@[simp] theorem kIdx_ex (G : Ct) (b : E) : kIdx G b (.ex c fs s) = .ex c fs s := rfl
@[simp] theorem kIdx_er (G : Ct) (b : E) : kIdx G b .er = .er := rfl
@[simp] theorem ev_idx (a b : E) : ev G (.idx a b) s = kIdx G b (pk a b s (ev G a s)) := by
  refine bind_congr _ fun x s => (asD_bind _ _).trans (bind_congr _ fun v s => ?_)
  cases v with
  | l _ => rfl
  | o y =>
    show okO (x.res s) _ = okO (x.res s) _
    congr 1
@[simp] theorem idxD_l (l : List D) (i : Int) : idxD (.sh (.lst l)) (.int i) = L2.atI l i := rfl
@[simp] theorem idxD_o (l : List D) (i : Int) : idxD (.ol l) (.int i) = L2.atI l i := rfl
@[simp] theorem idxD_t (l : List D) (i : Int) : idxD (.sh (.tup l)) (.int i) = L2.atI l i := rfl
@[simp] theorem idxD_d (l : List (Int × D)) (i : Int) : idxD (.sh (.dct l)) (.int i) = getK i l := rfl
@[simp] theorem idxD_od (l : List (Int × D)) (i : Int) : idxD (.od l) (.int i) = getK i l := rfl
@[simp] theorem idxO_l (l : List D) (i : Int) : idxO (.sh (.lst l)) (.int i) = L2.atI l i := rfl
@[simp] theorem idxO_o (l : List D) (i : Int) : idxO (.ol l) (.int i) = L2.atI l i := rfl
@[simp] theorem idxO_t (l : List D) (i : Int) : idxO (.sh (.tup l)) (.int i) = L2.atI l i := rfl
def kSlc5 (l h : Option Int) (s : Env) (r : Option O) : R Vl := okO r fun o => okO (slcO o l h) fun o => .ok (.o o) s
@[simp] theorem kSlc5_some0 (l h : Option Int) (s : Env) (o : O) : kSlc5 l h s (some o) = kOo s (slcO o l h) := rfl
@[simp] theorem kSlc5_none (l h : Option Int) (s : Env) : kSlc5 l h s none = .er := rfl
def kSlc4 (x : A) (l : Option Int) (r : R (Option Int)) : R Vl := r.bind fun h s => kSlc5 l h s (x.res s)
@[simp] theorem kSlc4_ok0 (x : A) (l : Option Int) (h : Option Int) : kSlc4 x l (.ok h s) = kSlc5 l h s (x.res s) := rfl
@[simp] theorem kSlc4_ex (x : A) (l : Option Int) : kSlc4 x l (.ex c fs s) = .ex c fs s := rfl
@[simp] theorem kSlc4_er (x : A) (l : Option Int) : kSlc4 x l .er = .er := rfl
def kSlc3 (G : Ct) (x : A) (hi : E) (r : R (Option Int)) : R Vl := r.bind fun l s => kSlc4 x l (prt hi s (ev G hi s))
@[simp] theorem kSlc3_ok0 (G : Ct) (x : A) (hi : E) (l : Option Int) : kSlc3 G x hi (.ok l s) = kSlc4 x l (prt hi s (ev G hi s)) := rfl
@[simp] theorem kSlc3_ex (G : Ct) (x : A) (hi : E) : kSlc3 G x hi (.ex c fs s) = .ex c fs s := rfl
@[simp] theorem kSlc3_er (G : Ct) (x : A) (hi : E) : kSlc3 G x hi .er = .er := rfl
def kSlc (G : Ct) (lo hi : E) (r : R A) : R Vl := r.bind fun x s => kSlc3 G x hi (prt lo s (ev G lo s))
@[simp] theorem kSlc_ok0 (G : Ct) (lo hi : E) (x : A) : kSlc G lo hi (.ok x s) = kSlc3 G x hi (prt lo s (ev G lo s)) := rfl
@[simp] theorem kSlc_ex (G : Ct) (lo hi : E) : kSlc G lo hi (.ex c fs s) = .ex c fs s := rfl
@[simp] theorem kSlc_er (G : Ct) (lo hi : E) : kSlc G lo hi .er = .er := rfl
@[simp] theorem ev_slc (a lo hi : E) : ev G (.slc a lo hi) s = kSlc G lo hi (pk a (.cons lo hi) s (ev G a s)) := rfl
def kPrt2 (s : Env) (r : Option Int) : R (Option Int) := match r with | some i => .ok (some i) s | none => .er
@[simp] theorem kPrt2_some0 (s : Env) (i : Int) : kPrt2 s (some i) = .ok (some i) s := rfl
@[simp] theorem kPrt2_none (s : Env) : kPrt2 s none = .er := rfl
def kPrt  (r : R Vl) : R (Option Int) := r.bind fun v s => (match v with | .o o => kPrt2 s (intO (frz o)) | .l _ => .er)
@[simp] theorem kPrt_ok0  (o : O) : kPrt  (.ok (.o o) s) = kPrt2 s (intO (frz o)) := rfl
@[simp] theorem kPrt_ex  : kPrt  (.ex c fs s) = .ex c fs s := rfl
@[simp] theorem kPrt_er  : kPrt  .er = .er := rfl
@[simp] theorem prt_nil (r : R Vl) : prt .nil s r = .ok none s := rfl
@[simp] theorem prt_lit (d : D) (r : R Vl) : prt (.lit d) s r = kPrt r := asD_bind _ _
@[simp] theorem prt_glb (x : Str) (d : D) (r : R Vl) : prt (.glb x d) s r = kPrt r := asD_bind _ _
@[simp] theorem prt_cons (a b : E) (r : R Vl) : prt (.cons a b) s r = kPrt r := asD_bind _ _
@[simp] theorem prt_tup (a : E) (r : R Vl) : prt (.tup a) s r = kPrt r := asD_bind _ _
@[simp] theorem prt_lst (a : E) (r : R Vl) : prt (.lst a) s r = kPrt r := asD_bind _ _
@[simp] theorem prt_bin (op : Operator) (a b : E) (r : R Vl) : prt (.bin op a b) s r = kPrt r := asD_bind _ _
@[simp] theorem prt_neg (a : E) (r : R Vl) : prt (.neg a) s r = kPrt r := asD_bind _ _
@[simp] theorem prt_inv (a : E) (r : R Vl) : prt (.inv a) s r = kPrt r := asD_bind _ _
@[simp] theorem prt_cmp (op : CmpOp) (a b : E) (r : R Vl) : prt (.cmp op a b) s r = kPrt r := asD_bind _ _
@[simp] theorem prt_chn (op op1 : CmpOp) (a b d : E) (r : R Vl) : prt (.chn op op1 a b d) s r = kPrt r := asD_bind _ _
@[simp] theorem prt_not (a : E) (r : R Vl) : prt (.not a) s r = kPrt r := asD_bind _ _
@[simp] theorem prt_and (a b : E) (r : R Vl) : prt (.and a b) s r = kPrt r := asD_bind _ _
@[simp] theorem prt_or (a b : E) (r : R Vl) : prt (.or a b) s r = kPrt r := asD_bind _ _
@[simp] theorem prt_ite (d a b : E) (r : R Vl) : prt (.ite d a b) s r = kPrt r := asD_bind _ _
@[simp] theorem prt_idx (a b : E) (r : R Vl) : prt (.idx a b) s r = kPrt r := asD_bind _ _
@[simp] theorem prt_slc (a b d : E) (r : R Vl) : prt (.slc a b d) s r = kPrt r := asD_bind _ _
@[simp] theorem prt_call (g : Nat) (a : E) (r : R Vl) : prt (.call g a) s r = kPrt r := asD_bind _ _
@[simp] theorem prt_mk (g : Nat) (a : E) (r : R Vl) : prt (.mk g a) s r = kPrt r := asD_bind _ _
@[simp] theorem prt_meth (a : E) (m : Nat) (b : E) (r : R Vl) : prt (.meth a m b) s r = kPrt r := asD_bind _ _
@[simp] theorem prt_bi (x : Bi) (a : E) (r : R Vl) : prt (.bi x a) s r = kPrt r := asD_bind _ _
@[simp] theorem prt_len (a : E) (r : R Vl) : prt (.len a) s r = kPrt r := asD_bind _ _
@[simp] theorem prt_lrg (a : E) (r : R Vl) : prt (.lrg a) s r = kPrt r := asD_bind _ _
@[simp] theorem prt_isi (a : E) (x : Is) (r : R Vl) : prt (.isi a x) s r = kPrt r := asD_bind _ _
@[simp] theorem prt_rng (a : E) (r : R Vl) : prt (.rng a) s r = kPrt r := asD_bind _ _
@[simp] theorem prt_zip (a : E) (r : R Vl) : prt (.zip a) s r = kPrt r := asD_bind _ _
@[simp] theorem prt_itr (a : E) (r : R Vl) : prt (.itr a) s r = kPrt r := asD_bind _ _
@[simp] theorem prt_pop (a b : E) (r : R Vl) : prt (.pop a b) s r = kPrt r := asD_bind _ _
@[simp] theorem prt_comp (vs : List Nat) (t : Tg) (a b d : E) (r : R Vl) : prt (.comp vs t a b d) s r = kPrt r := asD_bind _ _
@[simp] theorem prt_pf (x : Pf) (a : E) (r : R Vl) : prt (.pf x a) s r = kPrt r := asD_bind _ _
@[simp] theorem prt_bm0 (a : E) (x : Bm) (r : R Vl) : prt (.bm0 a x) s r = kPrt r := asD_bind _ _
@[simp] theorem prt_bm1 (a : E) (x : Bm) (b : E) (r : R Vl) : prt (.bm1 a x b) s r = kPrt r := asD_bind _ _
@[simp] theorem prt_mk0 (k : Nat) (r : R Vl) : prt (.mk0 k) s r = kPrt r := asD_bind _ _
@[simp] theorem prt_cst (k l : Nat) (r : R Vl) : prt (.cst k l) s r = kPrt r := asD_bind _ _
@[simp] theorem prt_clm (k l : Nat) (a : E) (r : R Vl) : prt (.clm k l a) s r = kPrt r := asD_bind _ _
@[simp] theorem prt_mkv (k l : Nat) (a : E) (r : R Vl) : prt (.mkv k l a) s r = kPrt r := asD_bind _ _
@[simp] theorem prt_cal (k : Nat) (a : E) (r : R Vl) : prt (.cal k a) s r = kPrt r := asD_bind _ _
@[simp] theorem prt_var (i : Nat) (r : R Vl) : prt (.var i) s r = kPrt r := asD_bind _ _
@[simp] theorem prt_attr (a : E) (f : Nat) (r : R Vl) : prt (.attr a f) s r = kPrt r := asD_bind _ _
@[simp] theorem slcO_l (xs : List D) (l h : Option Int) : slcO (.sh (.lst xs)) l h = some (.ol (cutD xs l h)) := rfl
@[simp] theorem slcO_o (xs : List D) (l h : Option Int) : slcO (.ol xs) l h = some (.ol (cutD xs l h)) := rfl
@[simp] theorem slcO_t (xs : List D) (l h : Option Int) : slcO (.sh (.tup xs)) l h = some (.sh (.tup (cutD xs l h))) := rfl
def kAtt5 (G : Ct) (x : A) (s : Env) (r : Option Nat) : R Vl := okO r fun g => rO (noX (callF G.F g [x] s))
@[simp] theorem kAtt5_some0 (G : Ct) (x : A) (s : Env) (g : Nat) : kAtt5 G x s (some g) = kRO (noX (callF G.F g [x] s)) := rfl
@[simp] theorem kAtt5_none (G : Ct) (x : A) (s : Env) : kAtt5 G x s none = .er := rfl
def kAtt7 (G : Ct) (x : A) (f k : Nat) (s : Env) (r : Option D) : R Vl := match r with | some d => .ok (.o (.sh d)) s | none => kAtt5 G x s (G.prp k f)
@[simp] theorem kAtt7_some0 (G : Ct) (x : A) (f k : Nat) (s : Env) (d : D) : kAtt7 G x f k s (some d) = .ok (.o (.sh d)) s := rfl
@[simp] theorem kAtt7_none (G : Ct) (x : A) (f k : Nat) (s : Env) : kAtt7 G x f k s none = kAtt5 G x s (G.prp k f) := rfl
def kAtt4 (G : Ct) (x : A) (f : Nat) (s : Env) (r : Option Nat) : R Vl := okO r fun k => kAtt7 G x f k s (cst1 G k f)
@[simp] theorem kAtt4_some0 (G : Ct) (x : A) (f : Nat) (s : Env) (k : Nat) : kAtt4 G x f s (some k) = kAtt7 G x f k s (cst1 G k f) := rfl
@[simp] theorem kAtt4_none (G : Ct) (x : A) (f : Nat) (s : Env) : kAtt4 G x f s none = .er := rfl
@[simp] theorem cst1_ (k f : Nat) : cst1 G k f = if f = 0 then none else G.cst k f := rfl
def kAtt6 (x : A) (f : Nat) (u : D) (s : Env) : R Vl := match x with
  | .ref p => .ok (.o (.sh u)) (setP s ⟨p.i, p.fs ++ [f]⟩ (.sh u))
  | .val _ => .er
@[simp] theorem kAtt6_r (p : Pth) (f : Nat) (u : D) : kAtt6 (.ref p) f u s = .ok (.o (.sh u)) (setP s ⟨p.i, p.fs ++ [f]⟩ (.sh u)) := rfl
def kAtt3 (G : Ct) (x : A) (f : Nat) (s : Env) (o : O) (r : Option O) : R Vl := match r with | some (.sh d) => .ok (.o (.sh d)) s | some u => kAtt6 x f (frz u) s | none => kAtt4 G x f s (clsO o)
@[simp] theorem kAtt3_some0 (G : Ct) (x : A) (f : Nat) (s : Env) (o : O) (d : D) : kAtt3 G x f s o (some (.sh d)) = .ok (.o (.sh d)) s := rfl
@[simp] theorem kAtt3_some1 (G : Ct) (x : A) (f : Nat) (s : Env) (o : O) (l : List D) : kAtt3 G x f s o (some (.ol l)) = kAtt6 x f (.lst l) s := rfl
@[simp] theorem kAtt3_some2 (G : Ct) (x : A) (f : Nat) (s : Env) (o : O) (k : Nat) (l : List (Nat × O)) : kAtt3 G x f s o (some (.oo k l)) = kAtt6 x f (.ins k (frzF l)) s := rfl
@[simp] theorem kAtt3_some3 (G : Ct) (x : A) (f : Nat) (s : Env) (o : O) (l : List (Int × D)) : kAtt3 G x f s o (some (.od l)) = kAtt6 x f (.dct l) s := rfl
@[simp] theorem kAtt3_none (G : Ct) (x : A) (f : Nat) (s : Env) (o : O) : kAtt3 G x f s o none = kAtt4 G x f s (clsO o) := rfl
def kAtt2 (G : Ct) (x : A) (f : Nat) (s : Env) (r : Option O) : R Vl := okO r fun o => kAtt3 G x f s o (getO o [f])
@[simp] theorem kAtt2_some0 (G : Ct) (x : A) (f : Nat) (s : Env) (o : O) : kAtt2 G x f s (some o) = kAtt3 G x f s o (getO o [f]) := rfl
@[simp] theorem kAtt2_none (G : Ct) (x : A) (f : Nat) (s : Env) : kAtt2 G x f s none = .er := rfl
def kAtt (G : Ct) (f : Nat) (r : R A) : R Vl := r.bind fun x s => kAtt2 G x f s (x.res s)
@[simp] theorem kAtt_ok0 (G : Ct) (f : Nat) (x : A) : kAtt G f (.ok x s) = kAtt2 G x f s (x.res s) := rfl
@[simp] theorem kAtt_ex (G : Ct) (f : Nat) : kAtt G f (.ex c fs s) = .ex c fs s := rfl
@[simp] theorem kAtt_er (G : Ct) (f : Nat) : kAtt G f .er = .er := rfl
@[simp] theorem ev_attr (a : E) (f : Nat) : ev G (.attr a f) s = kAtt G f (pk a .nil s (ev G a s)) := by
  refine bind_congr _ fun x s => ?_
  unfold attrA kAtt2
  cases x.res s with
  | none => rfl
  | some o =>
    show _ = kAtt3 G x f s o (getO o [f])
    unfold kAtt3
    show (match getO o [f] with | some (.sh d) => _ | some u => _ | none => _) = _
    cases getO o [f] with
    | none =>
      show okO (clsO o) _ = okO (clsO o) _
      congr 1
    | some u => cases u <;> first | rfl | (cases x <;> rfl)
@[simp] theorem resAll_n  : resAll s [] = some [] := rfl
def kRes2 (o : O) (r : Option (List O)) : Option (List O) := match r with | some l => some (o :: l) | none => none
@[simp] theorem kRes2_some0 (o : O) (l : List O) : kRes2 o (some l) = some (o :: l) := rfl
@[simp] theorem kRes2_none (o : O) : kRes2 o none = none := rfl
def kRes (q : List A) (s : Env) (r : Option O) : Option (List O) := match r with | some o => kRes2 o (resAll s q) | none => none
@[simp] theorem kRes_some0 (q : List A) (s : Env) (o : O) : kRes q s (some o) = kRes2 o (resAll s q) := rfl
@[simp] theorem kRes_none (q : List A) (s : Env) : kRes q s none = none := rfl
@[simp] theorem resAll_c (a : A) (q : List A) : resAll s (a :: q) = kRes q s (a.res s) := by rw [resAll]; unfold kRes kRes2; cases a.res s <;> cases resAll s q <;> rfl
def kOwn (i : Nat) (q : List Nat) (r : Option O) : List Nat := match r with | some o => if o.own then i :: q else q | none => q
@[simp] theorem kOwn_some0 (i : Nat) (q : List Nat) (o : O) : kOwn i q (some o) = if o.own = true then i :: q else q := rfl
@[simp] theorem kOwn_none (i : Nat) (q : List Nat) : kOwn i q none = q := rfl
@[simp] theorem ownIx_n  : ownIx s [] = [] := rfl
@[simp] theorem ownIx_v (d : D) (q : List A) : ownIx s (.val d :: q) = ownIx s q := rfl
@[simp] theorem ownIx_r (p : Pth) (q : List A) : ownIx s (.ref p :: q) = kOwn p.i (ownIx s q) (getP s p) := rfl
def kGiv (s : Env) (p : Pth) (o : O) (r : Option O) : Env := match r with | some u => if u.own then setP s p o else s | none => s
@[simp] theorem kGiv_some0 (s : Env) (p : Pth) (o : O) (u : O) : kGiv s p o (some u) = if u.own = true then setP s p o else s := rfl
@[simp] theorem kGiv_none (s : Env) (p : Pth) (o : O) : kGiv s p o none = s := rfl
@[simp] theorem give_n (f : Env) : give s [] f = s := by cases f <;> rfl
@[simp] theorem give_v (d : D) (q : List A) (x : Option O) (f : Env) : give s (.val d :: q) (x :: f) = give s q f := by cases x <;> rfl
@[simp] theorem give_r (p : Pth) (q : List A) (o : O) (f : Env) : give s (.ref p :: q) (some o :: f) = kGiv (give s q f) p o (getP s p) := rfl
@[simp] theorem give_rn (p : Pth) (q : List A) (f : Env) : give s (.ref p :: q) (none :: f) = give s q f := rfl
def kBk (f : Env) (r : Option O) : Bool := match r with | some o => (!o.own || headSome f) | none => true
@[simp] theorem kBk_some0 (f : Env) (o : O) : kBk f (some o) = (!o.own || headSome f) := rfl
@[simp] theorem kBk_none (f : Env) : kBk f none = true := rfl
@[simp] theorem backOk_n (f : Env) : backOk s [] f = true := rfl
@[simp] theorem backOk_r (p : Pth) (q : List A) (f : Env) : backOk s (.ref p :: q) f = (kBk f (getP s p) && backOk s q f.tail) := rfl
@[simp] theorem backOk_v (d : D) (q : List A) (f : Env) : backOk s (.val d :: q) f = backOk s q f.tail := rfl
@[simp] theorem headSome_s (o : O) (f : Env) : headSome (some o :: f) = true := rfl
@[simp] theorem headSome_n (f : Env) : headSome (none :: f) = false := rfl
@[simp] theorem done_r (q : List A) (o : O) (f : Env) : done s q (.ret o f) = if backOk s q f = true then .ok o (give s q f) else .er := rfl
@[simp] theorem done_x (q : List A) (k : Nat) (l : List (Nat × D)) (f : Env) : done s q (.ex k l f) = if backOk s q f = true then .ex k l (give s q f) else .er := rfl
def kCall (F : Nat → List O → FR) (g : Nat) (q : List A) (s : Env) (r : Option (List O)) : R O := match r with | some os => if (ownIx s q).Nodup then done s q (F g os) else .er | none => .er
@[simp] theorem kCall_some0 (F : Nat → List O → FR) (g : Nat) (q : List A) (s : Env) (os : List O) : kCall F g q s (some os) = if (ownIx s q).Nodup then done s q (F g os) else .er := rfl
@[simp] theorem kCall_none (F : Nat → List O → FR) (g : Nat) (q : List A) (s : Env) : kCall F g q s none = .er := rfl
@[simp] theorem callF_ (F : Nat → List O → FR) (g : Nat) (q : List A) : callF F g q s = kCall F g q s (resAll s q) := rfl
def kCl (G : Ct) (g : Nat) (r : R Vl) : R Vl := r.bind fun v s => (match v with | .o _ => .er | .l l => rO (callF G.F g l s))
@[simp] theorem kCl_ok0 (G : Ct) (g : Nat) (l : List A) : kCl G g (.ok (.l l) s) = kRO (callF G.F g l s) := rfl
@[simp] theorem kCl_ex (G : Ct) (g : Nat) : kCl G g (.ex c fs s) = .ex c fs s := rfl
@[simp] theorem kCl_er (G : Ct) (g : Nat) : kCl G g .er = .er := rfl
@[simp] theorem ev_call (g : Nat) (q : E) : ev G (.call g q) s = kCl G g (ev G q s) := asL_bind _ _
@[simp] theorem made_r (q : List A) (o : O) (f : Env) : made s q (.ret (.sh .non) (some o :: f)) = if backOk s q f = true then .ok o (give s q f) else .er := rfl
@[simp] theorem made_x (q : List A) (k : Nat) (l : List (Nat × D)) (o : O) (f : Env) : made s q (.ex k l (some o :: f)) = if backOk s q f = true then .ex k l (give s q f) else .er := rfl
def kMak (F : Nat → List O → FR) (k g : Nat) (q : List A) (s : Env) (r : Option (List O)) : R O := match r with | some os => if (ownIx s q).Nodup then made s q (F g (.oo k [] :: os)) else .er | none => .er
@[simp] theorem kMak_some0 (F : Nat → List O → FR) (k g : Nat) (q : List A) (s : Env) (os : List O) : kMak F k g q s (some os) = if (ownIx s q).Nodup then made s q (F g (.oo k [] :: os)) else .er := rfl
@[simp] theorem kMak_none (F : Nat → List O → FR) (k g : Nat) (q : List A) (s : Env) : kMak F k g q s none = .er := rfl
@[simp] theorem makeF_ (F : Nat → List O → FR) (k g : Nat) (q : List A) : makeF F k g q s = kMak F k g q s (resAll s q) := rfl
def kMk2 (G : Ct) (k : Nat) (l : List A) (s : Env) (r : Option Nat) : R Vl := okO r fun g => rO (makeF G.F k g l s)
@[simp] theorem kMk2_some0 (G : Ct) (k : Nat) (l : List A) (s : Env) (g : Nat) : kMk2 G k l s (some g) = kRO (makeF G.F k g l s) := rfl
@[simp] theorem kMk2_none (G : Ct) (k : Nat) (l : List A) (s : Env) : kMk2 G k l s none = .er := rfl
def kMk (G : Ct) (k : Nat) (r : R Vl) : R Vl := r.bind fun v s => (match v with | .o _ => .er | .l l => kMk2 G k l s (G.mth k 0))
@[simp] theorem kMk_ok0 (G : Ct) (k : Nat) (l : List A) : kMk G k (.ok (.l l) s) = kMk2 G k l s (G.mth k 0) := rfl
@[simp] theorem kMk_ex (G : Ct) (k : Nat) : kMk G k (.ex c fs s) = .ex c fs s := rfl
@[simp] theorem kMk_er (G : Ct) (k : Nat) : kMk G k .er = .er := rfl
@[simp] theorem ev_mk (k : Nat) (q : E) : ev G (.mk k q) s = kMk G k (ev G q s) := asL_bind _ _
def kMt4 (G : Ct) (g : Nat) (x : A) (r : R Vl) : R Vl := r.bind fun v s => (match v with | .o _ => .er | .l l => rO (callF G.F g (x :: l) s))
@[simp] theorem kMt4_ok0 (G : Ct) (g : Nat) (x : A) (l : List A) : kMt4 G g x (.ok (.l l) s) = kRO (callF G.F g (x :: l) s) := rfl
@[simp] theorem kMt4_ex (G : Ct) (g : Nat) (x : A) : kMt4 G g x (.ex c fs s) = .ex c fs s := rfl
@[simp] theorem kMt4_er (G : Ct) (g : Nat) (x : A) : kMt4 G g x .er = .er := rfl
def kMt3 (G : Ct) (x : A) (q : E) (s : Env) (r : Option Nat) : R Vl := okO r fun g => kMt4 G g x (ev G q s)
@[simp] theorem kMt3_some0 (G : Ct) (x : A) (q : E) (s : Env) (g : Nat) : kMt3 G x q s (some g) = kMt4 G g x (ev G q s) := rfl
@[simp] theorem kMt3_none (G : Ct) (x : A) (q : E) (s : Env) : kMt3 G x q s none = .er := rfl
def kMt2 (G : Ct) (m : Nat) (x : A) (q : E) (s : Env) (r : Option Nat) : R Vl := okO r fun k => kMt3 G x q s (G.mth k m)
@[simp] theorem kMt2_some0 (G : Ct) (m : Nat) (x : A) (q : E) (s : Env) (k : Nat) : kMt2 G m x q s (some k) = kMt3 G x q s (G.mth k m) := rfl
@[simp] theorem kMt2_none (G : Ct) (m : Nat) (x : A) (q : E) (s : Env) : kMt2 G m x q s none = .er := rfl
def kMtC (m : Nat) (r : Option O) : Option Nat := r.bind fun o => if (getO o [m]).isNone then clsO o else none
@[simp] theorem kMtC_some0 (m : Nat) (o : O) : kMtC m (some o) = if (getO o [m]).isNone = true then clsO o else none := rfl
@[simp] theorem kMtC_none (m : Nat) : kMtC m none = none := rfl
def kMt (G : Ct) (m : Nat) (q : E) (r : R A) : R Vl := r.bind fun x s => kMt2 G m x q s (kMtC m (x.res s))
@[simp] theorem kMt_ok0 (G : Ct) (m : Nat) (q : E) (x : A) : kMt G m q (.ok x s) = kMt2 G m x q s (kMtC m (x.res s)) := rfl
@[simp] theorem kMt_ex (G : Ct) (m : Nat) (q : E) : kMt G m q (.ex c fs s) = .ex c fs s := rfl
@[simp] theorem kMt_er (G : Ct) (m : Nat) (q : E) : kMt G m q .er = .er := rfl
@[simp] theorem ev_meth (a : E) (m : Nat) (q : E) : ev G (.meth a m q) s = kMt G m q (pk a q s (ev G a s)) := by
  refine bind_congr _ fun x s => ?_
  show okO (kMtC m (x.res s)) _ = okO (kMtC m (x.res s)) _
  congr 1
  funext k
  show okO (G.mth k m) _ = okO (G.mth k m) _
  congr 1
  funext g
  exact asL_bind _ _
@[simp] theorem dsA_n  : dsA s [] = some [] := rfl
def kDs2 (o : D) (r : Option (List D)) : Option (List D) := match r with | some l => some (o :: l) | none => none
@[simp] theorem kDs2_some0 (o : D) (l : List D) : kDs2 o (some l) = some (o :: l) := rfl
@[simp] theorem kDs2_none (o : D) : kDs2 o none = none := rfl
def kDs (q : List A) (s : Env) (r : Option O) : Option (List D) := match r with | some o => kDs2 (frz o) (dsA s q) | none => none
@[simp] theorem kDs_some0 (q : List A) (s : Env) (o : O) : kDs q s (some o) = kDs2 (frz o) (dsA s q) := rfl
@[simp] theorem kDs_none (q : List A) (s : Env) : kDs q s none = none := rfl
@[simp] theorem dsA_c (a : A) (q : List A) : dsA s (a :: q) = kDs q s (a.res s) := by rw [dsA]; unfold kDs kDs2; cases a.res s <;> cases dsA s q <;> rfl
def kBi2 (b : Bi) (s : Env) (r : Option (List D)) : R Vl := okO r fun ds => okO (biD b ds) fun o => .ok (.o o) s
@[simp] theorem kBi2_some0 (b : Bi) (s : Env) (l : List D) : kBi2 b s (some l) = kOo s (biD b l) := rfl
@[simp] theorem kBi2_none (b : Bi) (s : Env) : kBi2 b s none = .er := rfl
def kBi (b : Bi) (r : R Vl) : R Vl := r.bind fun v s => (match v with | .o _ => .er | .l l => kBi2 b s (dsA s l))
@[simp] theorem kBi_ok0 (b : Bi) (l : List A) : kBi b (.ok (.l l) s) = kBi2 b s (dsA s l) := rfl
@[simp] theorem kBi_ex (b : Bi) : kBi b (.ex c fs s) = .ex c fs s := rfl
@[simp] theorem kBi_er (b : Bi) : kBi b .er = .er := rfl
@[simp] theorem ev_bi (b : Bi) (q : E) : ev G (.bi b q) s = kBi b (ev G q s) := asL_bind _ _
@[simp] theorem biD_lent (a : List D) : biD .len [.tup a] = some (.sh (.int a.length)) := rfl
@[simp] theorem biD_lenl (a : List D) : biD .len [.lst a] = some (.sh (.int a.length)) := rfl
@[simp] theorem biD_inti (i : Int) : biD .int [.int i] = some (.sh (.int i)) := rfl
@[simp] theorem biD_intb (k : Bool) : biD .int [.bl k] = some (.sh (.int (if k then 1 else 0))) := rfl
@[simp] theorem biD_boolb (k : Bool) : biD .bool [.bl k] = some (.sh (.bl k)) := rfl
@[simp] theorem biD_booli (i : Int) : biD .bool [.int i] = some (.sh (.bl (i != 0))) := rfl
@[simp] theorem biD_listt (a : List D) : biD .list [.tup a] = some (.ol a) := rfl
@[simp] theorem biD_listl (a : List D) : biD .list [.lst a] = some (.ol a) := rfl
@[simp] theorem biD_lists (ns : List Int) : biD .list [.scr ns] = some (.ol (ns.map .int)) := rfl
@[simp] theorem biD_tupt (a : List D) : biD .tuple [.tup a] = some (.sh (.tup a)) := rfl
@[simp] theorem biD_tupl (a : List D) : biD .tuple [.lst a] = some (.sh (.tup a)) := rfl
@[simp] theorem biD_abs (i : Int) : biD .abs [.int i] = some (.sh (.int (if i < 0 then -i else i))) := rfl
@[simp] theorem biD_any (a : List D) : biD .any [.lst a] = (blsOf a).map fun bs => .sh (.bl (bs.any id)) := rfl
@[simp] theorem biD_all (a : List D) : biD .all [.lst a] = (blsOf a).map fun bs => .sh (.bl (bs.all id)) := rfl
@[simp] theorem biD_sum (a : List D) : biD .sum [.lst a] = (intsOf a).map fun ns => .sh (.int ns.sum) := rfl
@[simp] theorem biD_min2 (i j : Int) : biD .min [.int i, .int j] = some (.sh (.int (if j < i then j else i))) := rfl
@[simp] theorem biD_max2 (i j : Int) : biD .max [.int i, .int j] = some (.sh (.int (if j > i then j else i))) := rfl
@[simp] theorem biD_listd (a : List (Int × D)) : biD .list [.dct a] = some (.ol (a.map fun q => .int q.1)) := rfl
@[simp] theorem biD_lend (a : List (Int × D)) : biD .len [.dct a] = some (.sh (.int a.length)) := rfl
theorem blsOf_map {α : Type} (f : α → Bool) (l : List α) : blsOf (l.map fun x => D.bl (f x)) = some (l.map f) := by
  induction l with
  | nil => rfl
  | cons n ns ih => simp [blsOf, ih]
theorem intsOf_mapf {α : Type} (f : α → Int) (l : List α) : intsOf (l.map fun x => D.int (f x)) = some (l.map f) := by
  induction l with
  | nil => rfl
  | cons n ns ih => simp [intsOf, ih]
@[simp] theorem intsOf_map (ns : List Int) : intsOf (ns.map D.int) = some ns := by
  induction ns with
  | nil => rfl
  | cons n ns ih => simp [intsOf, ih]
@[simp] theorem biD_sorted (ns : List Int) : biD .sorted [.lst (ns.map .int)] = some (.ol ((sortI ns).map .int)) := by
  show (intsOf (ns.map D.int)).map _ = _
  rw [intsOf_map] <;> rfl
@[simp] theorem lenR_ok (n : Int) : lenR (.ok (.sh (.int n)) s) = if 0 ≤ n ∧ n.toNat ≤ lim then .ok (.sh (.int n)) s else .er := rfl
def kLen4 (G : Ct) (x : A) (s : Env) (r : Option Nat) : R Vl := okO r fun g => rO (lenR (noX (callF G.F g [x] s)))
@[simp] theorem kLen4_some0 (G : Ct) (x : A) (s : Env) (g : Nat) : kLen4 G x s (some g) = kRO (lenR (noX (callF G.F g [x] s))) := rfl
@[simp] theorem kLen4_none (G : Ct) (x : A) (s : Env) : kLen4 G x s none = .er := rfl
def kLen3 (G : Ct) (x : A) (s : Env) (o : O) (r : Option Nat) : R Vl := match r with | some k => kLen4 G x s (G.mth k 18) | none => kOo s (biD .len [frz o])
@[simp] theorem kLen3_some0 (G : Ct) (x : A) (s : Env) (o : O) (k : Nat) : kLen3 G x s o (some k) = kLen4 G x s (G.mth k 18) := rfl
@[simp] theorem kLen3_none (G : Ct) (x : A) (s : Env) (o : O) : kLen3 G x s o none = kOo s (biD .len [frz o]) := rfl
def kLen2 (G : Ct) (x : A) (s : Env) (r : Option O) : R Vl := okO r fun o => kLen3 G x s o (clsO o)
@[simp] theorem kLen2_some0 (G : Ct) (x : A) (s : Env) (o : O) : kLen2 G x s (some o) = kLen3 G x s o (clsO o) := rfl
@[simp] theorem kLen2_none (G : Ct) (x : A) (s : Env) : kLen2 G x s none = .er := rfl
def kLen (G : Ct) (r : R A) : R Vl := r.bind fun x s => kLen2 G x s (x.res s)
@[simp] theorem kLen_ok0 (G : Ct) (x : A) : kLen G (.ok x s) = kLen2 G x s (x.res s) := rfl
@[simp] theorem kLen_ex (G : Ct) : kLen G (.ex c fs s) = .ex c fs s := rfl
@[simp] theorem kLen_er (G : Ct) : kLen G .er = .er := rfl
@[simp] theorem ev_len (a : E) : ev G (.len a) s = kLen G (pk a .nil s (ev G a s)) := by
  refine bind_congr _ fun x s => ?_
  unfold kLen2
  cases x.res s with
  | none => rfl
  | some o =>
    show (match clsO o with | some c => _ | none => _) = kLen3 G x s o (clsO o)
    cases clsO o <;> rfl
@[simp] theorem biD_sortedt (ns : List Int) : biD .sorted [.tup (ns.map .int)] = some (.ol ((sortI ns).map .int)) := by
  show (intsOf (ns.map D.int)).map _ = _
  rw [intsOf_map] <;> rfl
def kIsi2 (t : Is) (s : Env) (r : Option O) : R Vl := okO r fun o => if isScr (frz o) = true then .er else bitE (isD t (frz o)) s
@[simp] theorem kIsi2_some0 (t : Is) (s : Env) (o : O) : kIsi2 t s (some o) = if isScr (frz o) = true then .er else .ok (.o (.sh (.bl (isD t (frz o))))) s := rfl
@[simp] theorem kIsi2_none (t : Is) (s : Env) : kIsi2 t s none = .er := rfl
def kIsi (t : Is) (r : R A) : R Vl := r.bind fun x s => kIsi2 t s (x.res s)
@[simp] theorem kIsi_ok0 (t : Is) (x : A) : kIsi t (.ok x s) = kIsi2 t s (x.res s) := rfl
@[simp] theorem kIsi_ex (t : Is) : kIsi t (.ex c fs s) = .ex c fs s := rfl
@[simp] theorem kIsi_er (t : Is) : kIsi t .er = .er := rfl
@[simp] theorem ev_isi (a : E) (t : Is) : ev G (.isi a t) s = kIsi t (pk a .nil s (ev G a s)) := rfl
@[simp] theorem isScr_non  : isScr .non = false := rfl
@[simp] theorem isD_int_non  : isD .int .non = false := rfl
@[simp] theorem isD_bool_non  : isD .bool .non = false := rfl
@[simp] theorem isD_str_non  : isD .str .non = false := rfl
@[simp] theorem isD_tuple_non  : isD .tuple .non = false := rfl
@[simp] theorem isD_list_non  : isD .list .non = false := rfl
@[simp] theorem isD_cls_non (q : Nat)  : isD (.cls q) .non = false := rfl
@[simp] theorem isScr_bl (b : Bool) : isScr (.bl b) = false := rfl
@[simp] theorem isD_int_bl (b : Bool) : isD .int (.bl b) = true := rfl
@[simp] theorem isD_bool_bl (b : Bool) : isD .bool (.bl b) = true := rfl
@[simp] theorem isD_str_bl (b : Bool) : isD .str (.bl b) = false := rfl
@[simp] theorem isD_tuple_bl (b : Bool) : isD .tuple (.bl b) = false := rfl
@[simp] theorem isD_list_bl (b : Bool) : isD .list (.bl b) = false := rfl
@[simp] theorem isD_cls_bl (q : Nat) (b : Bool) : isD (.cls q) (.bl b) = false := rfl
@[simp] theorem isScr_int (b : Int) : isScr (.int b) = false := rfl
@[simp] theorem isD_int_int (b : Int) : isD .int (.int b) = true := rfl
@[simp] theorem isD_bool_int (b : Int) : isD .bool (.int b) = false := rfl
@[simp] theorem isD_str_int (b : Int) : isD .str (.int b) = false := rfl
@[simp] theorem isD_tuple_int (b : Int) : isD .tuple (.int b) = false := rfl
@[simp] theorem isD_list_int (b : Int) : isD .list (.int b) = false := rfl
@[simp] theorem isD_cls_int (q : Nat) (b : Int) : isD (.cls q) (.int b) = false := rfl
@[simp] theorem isScr_str (b : Str) : isScr (.str b) = false := rfl
@[simp] theorem isD_int_str (b : Str) : isD .int (.str b) = false := rfl
@[simp] theorem isD_bool_str (b : Str) : isD .bool (.str b) = false := rfl
@[simp] theorem isD_str_str (b : Str) : isD .str (.str b) = true := rfl
@[simp] theorem isD_tuple_str (b : Str) : isD .tuple (.str b) = false := rfl
@[simp] theorem isD_list_str (b : Str) : isD .list (.str b) = false := rfl
@[simp] theorem isD_cls_str (q : Nat) (b : Str) : isD (.cls q) (.str b) = false := rfl
@[simp] theorem isScr_tup (b : List D) : isScr (.tup b) = false := rfl
@[simp] theorem isD_int_tup (b : List D) : isD .int (.tup b) = false := rfl
@[simp] theorem isD_bool_tup (b : List D) : isD .bool (.tup b) = false := rfl
@[simp] theorem isD_str_tup (b : List D) : isD .str (.tup b) = false := rfl
@[simp] theorem isD_tuple_tup (b : List D) : isD .tuple (.tup b) = true := rfl
@[simp] theorem isD_list_tup (b : List D) : isD .list (.tup b) = false := rfl
@[simp] theorem isD_cls_tup (q : Nat) (b : List D) : isD (.cls q) (.tup b) = false := rfl
@[simp] theorem isScr_lst (b : List D) : isScr (.lst b) = false := rfl
@[simp] theorem isD_int_lst (b : List D) : isD .int (.lst b) = false := rfl
@[simp] theorem isD_bool_lst (b : List D) : isD .bool (.lst b) = false := rfl
@[simp] theorem isD_str_lst (b : List D) : isD .str (.lst b) = false := rfl
@[simp] theorem isD_tuple_lst (b : List D) : isD .tuple (.lst b) = false := rfl
@[simp] theorem isD_list_lst (b : List D) : isD .list (.lst b) = true := rfl
@[simp] theorem isD_cls_lst (q : Nat) (b : List D) : isD (.cls q) (.lst b) = false := rfl
@[simp] theorem isScr_ins (k : Nat) (b : List (Nat × D)) : isScr (.ins k b) = false := rfl
@[simp] theorem isD_int_ins (k : Nat) (b : List (Nat × D)) : isD .int (.ins k b) = false := rfl
@[simp] theorem isD_bool_ins (k : Nat) (b : List (Nat × D)) : isD .bool (.ins k b) = false := rfl
@[simp] theorem isD_str_ins (k : Nat) (b : List (Nat × D)) : isD .str (.ins k b) = false := rfl
@[simp] theorem isD_tuple_ins (k : Nat) (b : List (Nat × D)) : isD .tuple (.ins k b) = false := rfl
@[simp] theorem isD_list_ins (k : Nat) (b : List (Nat × D)) : isD .list (.ins k b) = false := rfl
@[simp] theorem isD_cls_ins (q : Nat) (k : Nat) (b : List (Nat × D)) : isD (.cls q) (.ins k b) = (k == q) := rfl
def kZip3 (s : Env) (r : Option (List D)) : R Vl := okO r fun l => .ok (.o (.ol l)) s
@[simp] theorem kZip3_some0 (s : Env) (l : List D) : kZip3 s (some l) = .ok (.o (.ol l)) s := rfl
@[simp] theorem kZip3_none (s : Env) : kZip3 s none = .er := rfl
def kZip2  (r : Option (List D × Env)) : R Vl := okO r fun q => okO (zipO q.1) fun l => .ok (.o (.ol l)) q.2
@[simp] theorem kZip2_some0  (l : List D) (s1 : Env) : kZip2  (some (l, s1)) = kZip3 s1 (zipO l) := rfl
@[simp] theorem kZip2_none  : kZip2  none = .er := rfl
def kZip  (r : R Vl) : R Vl := r.bind fun v s => (match v with | .o _ => .er | .l l => kZip2 (shA l s))
@[simp] theorem kZip_ok0  (l : List A) : kZip  (.ok (.l l) s) = kZip2 (shA l s) := rfl
@[simp] theorem kZip_ex  : kZip  (.ex c fs s) = .ex c fs s := rfl
@[simp] theorem kZip_er  : kZip  .er = .er := rfl
@[simp] theorem ev_zip (q : E) : ev G (.zip q) s = kZip (ev G q s) := asL_bind _ _
@[simp] theorem zipO_l (a b : List D) : zipO [.lst a, .lst b] = some ((a.zip b).map fun q => .tup [q.1, q.2]) := rfl
@[simp] theorem zipO_t (a b : List D) : zipO [.tup a, .tup b] = some ((a.zip b).map fun q => .tup [q.1, q.2]) := rfl
def kPf2 (f : Pf) (s : Env) (r : Option O) : R Vl := okO r fun o => okO (pfO f (frz o)) fun o => .ok (.o o) s
@[simp] theorem kPf2_some0 (f : Pf) (s : Env) (o : O) : kPf2 f s (some o) = kOo s (pfO f (frz o)) := rfl
@[simp] theorem kPf2_none (f : Pf) (s : Env) : kPf2 f s none = .er := rfl
def kPf (f : Pf) (r : R A) : R Vl := r.bind fun x s => kPf2 f s (x.res s)
@[simp] theorem kPf_ok0 (f : Pf) (x : A) : kPf f (.ok x s) = kPf2 f s (x.res s) := rfl
@[simp] theorem kPf_ex (f : Pf) : kPf f (.ex c fs s) = .ex c fs s := rfl
@[simp] theorem kPf_er (f : Pf) : kPf f .er = .er := rfl
@[simp] theorem ev_pf (f : Pf) (a : E) : ev G (.pf f a) s = kPf f (pk a .nil s (ev G a s)) := rfl
@[simp] theorem pfO_rev (l : List D) : pfO .rev (.lst l) = some (.ol l.reverse) := rfl
@[simp] theorem bmR_n (o : O) (x : A) : bmR (o, none) x s = .ok (.o o) s := rfl
@[simp] theorem bmR_s (o u : O) (p : Pth) : bmR (o, some u) (.ref p) s = .ok (.o o) (setP s p u) := rfl
@[simp] theorem bmK_s (m : Bm) (o : O) : bmK m (some o) = if bmT m o = true then some () else none := rfl
@[simp] theorem bmT_ex (l : List D) : bmT .extend (.ol l) = true := rfl
@[simp] theorem bmT_re (l : List D) : bmT .remove (.ol l) = true := rfl
@[simp] theorem bmT_po (l : List D) : bmT .popl (.ol l) = true := rfl
@[simp] theorem bmT_ix (l : List D) : bmT .index (.ol l) = true := rfl
@[simp] theorem bmT_ix2 (l : List D) : bmT .index (.sh (.lst l)) = true := rfl
@[simp] theorem bmT_gt (l : List (Int × D)) : bmT .get (.od l) = true := rfl
@[simp] theorem bmT_gt2 (l : List (Int × D)) : bmT .get (.sh (.dct l)) = true := rfl
@[simp] theorem bmO_ex (l a : List D) : bmO .extend (.ol l) (some (.lst a)) = if l.length + a.length ≤ lim then some (.sh .non, some (.ol (l ++ a))) else none := rfl
theorem bmO_re (ns : List Int) (k : Int) : bmO .remove (.ol (ns.map .int)) (some (.int k)) = (idxI k ns).map fun j => (.sh .non, some (.ol ((ns.eraseIdx j).map .int))) := by
  show (match intsOf (ns.map D.int) with | some ns => _ | none => _) = _
  rw [intsOf_map]
theorem bmO_ix (ns : List Int) (k : Int) : bmO .index (.ol (ns.map .int)) (some (.int k)) = (idxI k ns).map fun (j : Nat) => (.sh (.int (j : Int)), none) := by
  show (match intsOf (ns.map D.int) with | some ns => _ | none => _) = _
  rw [intsOf_map]
theorem bmO_ix2 (ns : List Int) (k : Int) : bmO .index (.sh (.lst (ns.map .int))) (some (.int k)) = (idxI k ns).map fun (j : Nat) => (.sh (.int (j : Int)), none) := by
  show (match intsOf (ns.map D.int) with | some ns => _ | none => _) = _
  rw [intsOf_map]
@[simp] theorem bmO_gt (l : List (Int × D)) (k : Int) : bmO .get (.od l) (some (.int k)) = some (.sh ((getK k l).getD .non), none) := rfl
@[simp] theorem bmO_gt2 (l : List (Int × D)) (k : Int) : bmO .get (.sh (.dct l)) (some (.int k)) = some (.sh ((getK k l).getD .non), none) := rfl
def kBmR (x : A) (s : Env) (r : Option (O × Option O)) : R Vl := okO r fun q => bmR q x s
@[simp] theorem kBmR_some0 (x : A) (s : Env) (q : O × Option O) : kBmR x s (some q) = bmR q x s := rfl
@[simp] theorem kBmR_none (x : A) (s : Env) : kBmR x s none = .er := rfl
def kBm03 (m : Bm) (x : A) (s : Env) (r : Option O) : R Vl := okO r fun o => kBmR x s (bmO m o none)
@[simp] theorem kBm03_some0 (m : Bm) (x : A) (s : Env) (o : O) : kBm03 m x s (some o) = kBmR x s (bmO m o none) := rfl
@[simp] theorem kBm03_none (m : Bm) (x : A) (s : Env) : kBm03 m x s none = .er := rfl
def kBm02 (m : Bm) (x : A) (s : Env) (r : Option Unit) : R Vl := okO r fun _ => kBm03 m x s (x.res s)
@[simp] theorem kBm02_some0 (m : Bm) (x : A) (s : Env) (u : Unit) : kBm02 m x s (some u) = kBm03 m x s (x.res s) := rfl
@[simp] theorem kBm02_none (m : Bm) (x : A) (s : Env) : kBm02 m x s none = .er := rfl
def kBm0 (m : Bm) (r : R A) : R Vl := r.bind fun x s => kBm02 m x s (bmK m (x.res s))
@[simp] theorem kBm0_ok0 (m : Bm) (x : A) : kBm0 m (.ok x s) = kBm02 m x s (bmK m (x.res s)) := rfl
@[simp] theorem kBm0_ex (m : Bm) : kBm0 m (.ex c fs s) = .ex c fs s := rfl
@[simp] theorem kBm0_er (m : Bm) : kBm0 m .er = .er := rfl
@[simp] theorem ev_bm0 (a : E) (m : Bm) : ev G (.bm0 a m) s = kBm0 m (pk a .nil s (ev G a s)) := rfl
def kBm14 (m : Bm) (x : A) (d : D) (s : Env) (r : Option O) : R Vl := okO r fun o => kBmR x s (bmO m o (some d))
@[simp] theorem kBm14_some0 (m : Bm) (x : A) (d : D) (s : Env) (o : O) : kBm14 m x d s (some o) = kBmR x s (bmO m o (some d)) := rfl
@[simp] theorem kBm14_none (m : Bm) (x : A) (d : D) (s : Env) : kBm14 m x d s none = .er := rfl
def kBm13 (m : Bm) (x : A) (r : R Vl) : R Vl := r.bind fun v s => (match v with | .o o => kBm14 m x (frz o) s (x.res s) | .l _ => .er)
@[simp] theorem kBm13_ok0 (m : Bm) (x : A) (o : O) : kBm13 m x (.ok (.o o) s) = kBm14 m x (frz o) s (x.res s) := rfl
@[simp] theorem kBm13_ex (m : Bm) (x : A) : kBm13 m x (.ex c fs s) = .ex c fs s := rfl
@[simp] theorem kBm13_er (m : Bm) (x : A) : kBm13 m x .er = .er := rfl
def kBm12 (G : Ct) (m : Bm) (x : A) (b : E) (s : Env) (r : Option Unit) : R Vl := okO r fun _ => kBm13 m x (ev G b s)
@[simp] theorem kBm12_some0 (G : Ct) (m : Bm) (x : A) (b : E) (s : Env) (u : Unit) : kBm12 G m x b s (some u) = kBm13 m x (ev G b s) := rfl
@[simp] theorem kBm12_none (G : Ct) (m : Bm) (x : A) (b : E) (s : Env) : kBm12 G m x b s none = .er := rfl
def kBm1 (G : Ct) (m : Bm) (b : E) (r : R A) : R Vl := r.bind fun x s => kBm12 G m x b s (bmK m (x.res s))
@[simp] theorem kBm1_ok0 (G : Ct) (m : Bm) (b : E) (x : A) : kBm1 G m b (.ok x s) = kBm12 G m x b s (bmK m (x.res s)) := rfl
@[simp] theorem kBm1_ex (G : Ct) (m : Bm) (b : E) : kBm1 G m b (.ex c fs s) = .ex c fs s := rfl
@[simp] theorem kBm1_er (G : Ct) (m : Bm) (b : E) : kBm1 G m b .er = .er := rfl
@[simp] theorem ev_bm1 (a : E) (m : Bm) (b : E) : ev G (.bm1 a m b) s = kBm1 G m b (pk a b s (ev G a s)) := by
  refine bind_congr _ fun x s => ?_
  show okO (bmK m (x.res s)) _ = okO (bmK m (x.res s)) _
  congr 1
  funext _
  exact asD_bind _ _
@[simp] theorem ev_mk0 (k : Nat) : ev G (.mk0 k) s = if (G.cst k 0).isSome = true then .ok (.o (.oo k [])) s else .er := rfl
def kCst (s : Env) (r : Option D) : R Vl := okO r fun d => .ok (.o (.sh d)) s
@[simp] theorem kCst_some0 (s : Env) (d : D) : kCst s (some d) = .ok (.o (.sh d)) s := rfl
@[simp] theorem kCst_none (s : Env) : kCst s none = .er := rfl
@[simp] theorem ev_cst (k f : Nat) : ev G (.cst k f) s = kCst s (cst1 G k f) := rfl
def kClm2 (G : Ct) (k : Nat) (l : List A) (s : Env) (r : Option (Nat × Bool)) : R Vl := okO r fun q => rO (callF G.F q.1 (if q.2 = true then .val (.cls k) :: l else l) s)
@[simp] theorem kClm2_some0 (G : Ct) (k : Nat) (l : List A) (s : Env) (g : Nat) (b : Bool) : kClm2 G k l s (some (g, b)) = kRO (callF G.F g (if b = true then .val (.cls k) :: l else l) s) := rfl
@[simp] theorem kClm2_none (G : Ct) (k : Nat) (l : List A) (s : Env) : kClm2 G k l s none = .er := rfl
def kClm (G : Ct) (k m : Nat) (r : R Vl) : R Vl := r.bind fun v s => (match v with | .o _ => .er | .l l => kClm2 G k l s (G.smt k m))
@[simp] theorem kClm_ok0 (G : Ct) (k m : Nat) (l : List A) : kClm G k m (.ok (.l l) s) = kClm2 G k l s (G.smt k m) := rfl
@[simp] theorem kClm_ex (G : Ct) (k m : Nat) : kClm G k m (.ex c fs s) = .ex c fs s := rfl
@[simp] theorem kClm_er (G : Ct) (k m : Nat) : kClm G k m .er = .er := rfl
@[simp] theorem ev_clm (k m : Nat) (q : E) : ev G (.clm k m q) s = kClm G k m (ev G q s) := asL_bind _ _
def kMkv (G : Ct) (k : Nat) (q : E) (s : Env) (r : Option Nat) : R Vl := okO r fun j => if j = k then kMk G k (ev G q s) else .er
@[simp] theorem kMkv_some0 (G : Ct) (k : Nat) (q : E) (s : Env) (j : Nat) : kMkv G k q s (some j) = if j = k then kMk G k (ev G q s) else .er := rfl
@[simp] theorem kMkv_none (G : Ct) (k : Nat) (q : E) (s : Env) : kMkv G k q s none = .er := rfl
@[simp] theorem ev_mkv (i k : Nat) (q : E) : ev G (.mkv i k q) s = kMkv G k q s (isCls (getP s ⟨i, []⟩)) := by
  show okO (isCls (getP s ⟨i, []⟩)) _ = okO (isCls (getP s ⟨i, []⟩)) _
  congr 1
  funext j
  show (if j = k then _ else _) = (if j = k then _ else _)
  split
  · exact asL_bind _ _
  · rfl
@[simp] theorem isCls_c (k : Nat) : isCls (some (.sh (.cls k))) = some k := rfl
@[simp] theorem hold_s (i : Nat) (d : D) : hold i (.sh d) = .val d := rfl
@[simp] theorem hold_o (i k : Nat) (l : List (Nat × O)) : hold i (.oo k l) = .ref ⟨i, []⟩ := rfl
def kCal4 (G : Ct) (i : Nat) (o : O) (l : List A) (s : Env) (r : Option Nat) : R Vl := okO r fun g => rO (callF G.F g (hold i o :: l) s)
@[simp] theorem kCal4_some0 (G : Ct) (i : Nat) (o : O) (l : List A) (s : Env) (g : Nat) : kCal4 G i o l s (some g) = kRO (callF G.F g (hold i o :: l) s) := rfl
@[simp] theorem kCal4_none (G : Ct) (i : Nat) (o : O) (l : List A) (s : Env) : kCal4 G i o l s none = .er := rfl
def kCal3 (G : Ct) (i : Nat) (o : O) (l : List A) (s : Env) (r : Option Nat) : R Vl := okO r fun k => kCal4 G i o l s (G.mth k 17)
@[simp] theorem kCal3_some0 (G : Ct) (i : Nat) (o : O) (l : List A) (s : Env) (k : Nat) : kCal3 G i o l s (some k) = kCal4 G i o l s (G.mth k 17) := rfl
@[simp] theorem kCal3_none (G : Ct) (i : Nat) (o : O) (l : List A) (s : Env) : kCal3 G i o l s none = .er := rfl
def kCal2 (G : Ct) (i : Nat) (l : List A) (s : Env) (r : Option O) : R Vl := okO r fun o => kCal3 G i o l s (clsO o)
@[simp] theorem kCal2_some0 (G : Ct) (i : Nat) (l : List A) (s : Env) (o : O) : kCal2 G i l s (some o) = kCal3 G i o l s (clsO o) := rfl
@[simp] theorem kCal2_none (G : Ct) (i : Nat) (l : List A) (s : Env) : kCal2 G i l s none = .er := rfl
def kCal1 (G : Ct) (i : Nat) (r : R Vl) : R Vl := r.bind fun v s => (match v with | .o _ => .er | .l l => kCal2 G i l s (getP s ⟨i, []⟩))
@[simp] theorem kCal1_ok0 (G : Ct) (i : Nat) (l : List A) : kCal1 G i (.ok (.l l) s) = kCal2 G i l s (getP s ⟨i, []⟩) := rfl
@[simp] theorem kCal1_ex (G : Ct) (i : Nat) : kCal1 G i (.ex c fs s) = .ex c fs s := rfl
@[simp] theorem kCal1_er (G : Ct) (i : Nat) : kCal1 G i .er = .er := rfl
def kCalC  (r : Option O) : Option Nat := r.bind clsO
@[simp] theorem kCalC_some0  (o : O) : kCalC  (some o) = clsO o := rfl
@[simp] theorem kCalC_none  : kCalC  none = none := rfl
def kCal (G : Ct) (i : Nat) (q : E) (s : Env) (r : Option Nat) : R Vl := okO r fun _ => kCal1 G i (ev G q s)
@[simp] theorem kCal_some0 (G : Ct) (i : Nat) (q : E) (s : Env) (k : Nat) : kCal G i q s (some k) = kCal1 G i (ev G q s) := rfl
@[simp] theorem kCal_none (G : Ct) (i : Nat) (q : E) (s : Env) : kCal G i q s none = .er := rfl
@[simp] theorem ev_cal (i : Nat) (q : E) : ev G (.cal i q) s = kCal G i q s (kCalC (getP s ⟨i, []⟩)) := by
  show okO (kCalC (getP s ⟨i, []⟩)) _ = okO (kCalC (getP s ⟨i, []⟩)) _
  congr 1
  funext _
  exact asL_bind _ _
def kRng3 (s : Env) (r : Option (List D)) : R Vl := okO r fun l => .ok (.o (.ol l)) s
@[simp] theorem kRng3_some0 (s : Env) (l : List D) : kRng3 s (some l) = .ok (.o (.ol l)) s := rfl
@[simp] theorem kRng3_none (s : Env) : kRng3 s none = .er := rfl
def kRng2 (s : Env) (r : Option (List D)) : R Vl := okO r fun l => okO (rngO l) fun l => .ok (.o (.ol l)) s
@[simp] theorem kRng2_some0 (s : Env) (l : List D) : kRng2 s (some l) = kRng3 s (rngO l) := rfl
@[simp] theorem kRng2_none (s : Env) : kRng2 s none = .er := rfl
def kRng  (r : R Vl) : R Vl := r.bind fun v s => (match v with | .o _ => .er | .l l => kRng2 s (dsA s l))
@[simp] theorem kRng_ok0  (l : List A) : kRng  (.ok (.l l) s) = kRng2 s (dsA s l) := rfl
@[simp] theorem kRng_ex  : kRng  (.ex c fs s) = .ex c fs s := rfl
@[simp] theorem kRng_er  : kRng  .er = .er := rfl
@[simp] theorem ev_rng (q : E) : ev G (.rng q) s = kRng (ev G q s) := asL_bind _ _
@[simp] theorem rngO_1 (n : Int) : rngO [.int n] = if -lim ≤ n ∧ n ≤ lim then some (rngD 0 n.toNat) else none := rfl
@[simp] theorem rngO_2 (a n : Int) : rngO [.int a, .int n] = if -lim ≤ a ∧ a ≤ lim ∧ -lim ≤ n ∧ n ≤ lim then some (rngD a (n - a).toNat) else none := rfl
@[simp] theorem rngO_3 (a n : Int) : rngO [.int a, .int n, .int (-1)] = if -lim ≤ a ∧ a ≤ lim ∧ -lim ≤ n ∧ n ≤ lim then some ((List.range (a - n).toNat).map fun (i : Nat) => D.int (a - (i : Int))) else none := rfl
@[simp] theorem ev_itr (a : E) : ev G (.itr a) s = ev G a s := rfl
def kLrg2 (s : Env) (r : Option Int) : R Vl := okO r fun n => if -lim ≤ n ∧ n ≤ lim then .ok (.o (.ol (rngD 0 n.toNat))) s else .er
@[simp] theorem kLrg2_some0 (s : Env) (n : Int) : kLrg2 s (some n) = if -lim ≤ n ∧ n ≤ lim then .ok (.o (.ol (rngD 0 n.toNat))) s else .er := rfl
@[simp] theorem kLrg2_none (s : Env) : kLrg2 s none = .er := rfl
def kLrg  (r : R Vl) : R Vl := r.bind fun v s => (match v with | .o o => kLrg2 s (intO (frz o)) | .l _ => .er)
@[simp] theorem kLrg_ok0  (o : O) : kLrg  (.ok (.o o) s) = kLrg2 s (intO (frz o)) := rfl
@[simp] theorem kLrg_ex  : kLrg  (.ex c fs s) = .ex c fs s := rfl
@[simp] theorem kLrg_er  : kLrg  .er = .er := rfl
@[simp] theorem ev_lrg (a : E) : ev G (.lrg a) s = kLrg (ev G a s) := asD_bind _ _
def kPop4 (s : Env) (p : Pth) (r : Option (D × O)) : R Vl := okO r fun q => .ok (.o (.sh q.1)) (setP s p q.2)
@[simp] theorem kPop4_some0 (s : Env) (p : Pth) (d : D) (o : O) : kPop4 s p (some (d, o)) = .ok (.o (.sh d)) (setP s p o) := rfl
@[simp] theorem kPop4_none (s : Env) (p : Pth) : kPop4 s p none = .er := rfl
def kPop3 (s : Env) (p : Pth) (y : D) (r : Option O) : R Vl := okO r fun o => kPop4 s p (popO o y)
@[simp] theorem kPop3_some0 (s : Env) (p : Pth) (y : D) (o : O) : kPop3 s p y (some o) = kPop4 s p (popO o y) := rfl
@[simp] theorem kPop3_none (s : Env) (p : Pth) (y : D) : kPop3 s p y none = .er := rfl
def kPopX (x : A) (y : D) (s : Env) : R Vl := match x with
  | .ref p => kPop3 s p y (getP s p)
  | .val _ => .er
@[simp] theorem kPopX_r (p : Pth) (y : D) : kPopX (.ref p) y s = kPop3 s p y (getP s p) := rfl
def kPop2 (x : A) (r : R Vl) : R Vl := r.bind fun v s => (match v with | .o o => kPopX x (frz o) s | .l _ => .er)
@[simp] theorem kPop2_ok0 (x : A) (o : O) : kPop2 x (.ok (.o o) s) = kPopX x (frz o) s := rfl
@[simp] theorem kPop2_ex (x : A) : kPop2 x (.ex c fs s) = .ex c fs s := rfl
@[simp] theorem kPop2_er (x : A) : kPop2 x .er = .er := rfl
def kPop1 (G : Ct) (x : A) (i : E) (s : Env) (r : Option Unit) : R Vl := okO r fun _ => kPop2 x (ev G i s)
@[simp] theorem kPop1_some0 (G : Ct) (x : A) (i : E) (s : Env) (u : Unit) : kPop1 G x i s (some u) = kPop2 x (ev G i s) := rfl
@[simp] theorem kPop1_none (G : Ct) (x : A) (i : E) (s : Env) : kPop1 G x i s none = .er := rfl
def kPop (G : Ct) (i : E) (r : R A) : R Vl := r.bind fun x s => kPop1 G x i s (isL (x.res s))
@[simp] theorem kPop_ok0 (G : Ct) (i : E) (x : A) : kPop G i (.ok x s) = kPop1 G x i s (isL (x.res s)) := rfl
@[simp] theorem kPop_ex (G : Ct) (i : E) : kPop G i (.ex c fs s) = .ex c fs s := rfl
@[simp] theorem kPop_er (G : Ct) (i : E) : kPop G i .er = .er := rfl
@[simp] theorem isL_o (l : List D) : isL (some (.ol l)) = some () := rfl
@[simp] theorem ev_pop (a i : E) : ev G (.pop a i) s = kPop G i (pk a i s (ev G a s)) := by
  refine bind_congr _ fun x s => ?_
  show okO (isL (x.res s)) _ = okO (isL (x.res s)) _
  congr 1
  funext _
  refine (asD_bind _ _).trans (bind_congr _ fun v s => ?_)
  cases v with
  | l _ => rfl
  | o y => cases x <;> rfl
@[simp] theorem popO_ (l : List D) (k : Int) : popO (.ol l) (.int k) = if 0 ≤ k ∧ k.toNat < 4611686018427387904 then l[k.toNat]?.map fun d => (d, .ol (l.eraseIdx k.toNat)) else none := rfl
def tsR (G : Ct) (ts : E) (s : Env) : R Bool := match ts with
  | .nil => .ok true s
  | _ => tru ts s (ev G ts s)
def elR (G : Ct) (el : E) (s : Env) : R D := asD (ev G el s)
def cmpR (G : Ct) (s0 : Env) (vs : List Nat) (t : Tg) (ts el : E) (l acc : List D) (s : Env) : R (List D) := compL s0 vs t (tsR G ts) (elR G el) l acc s
def kCmpr3 (s : Env) (r : Option (List D)) : R Vl := match r with | some l => .ok (.o (.ol l)) s | none => .er
@[simp] theorem kCmpr3_some0 (s : Env) (l : List D) : kCmpr3 s (some l) = .ok (.o (.ol l)) s := rfl
@[simp] theorem kCmpr3_none (s : Env) : kCmpr3 s none = .er := rfl
def kCmprE  (r : R (List D)) : R Vl := r.bind fun l s => .ok (.o (.ol l)) s
@[simp] theorem kCmprE_ok0  (l : List D) : kCmprE  (.ok l s) = .ok (.o (.ol l)) s := rfl
@[simp] theorem kCmprE_ex  : kCmprE  (.ex c fs s) = .ex c fs s := rfl
@[simp] theorem kCmprE_er  : kCmprE  .er = .er := rfl
def kCmpr2 (G : Ct) (vs : List Nat) (t : Tg) (ts el : E) (s : Env) (r : Option (List D)) : R Vl := okO r fun l => if freeV s vs = true ∧ l.length ≤ lim then kCmprE (noX (cmpR G s vs t ts el l [] s)) else .er
@[simp] theorem kCmpr2_some0 (G : Ct) (vs : List Nat) (t : Tg) (ts el : E) (s : Env) (l : List D) : kCmpr2 G vs t ts el s (some l) = if freeV s vs = true ∧ l.length ≤ lim then kCmprE (noX (cmpR G s vs t ts el l [] s)) else .er := rfl
@[simp] theorem kCmpr2_none (G : Ct) (vs : List Nat) (t : Tg) (ts el : E) (s : Env) : kCmpr2 G vs t ts el s none = .er := rfl
def kCmpr (G : Ct) (vs : List Nat) (t : Tg) (ts el : E) (r : R Vl) : R Vl := r.bind fun v s => (match v with | .o o => kCmpr2 G vs t ts el s (itemsD (frz o)) | .l _ => .er)
@[simp] theorem kCmpr_ok0 (G : Ct) (vs : List Nat) (t : Tg) (ts el : E) (o : O) : kCmpr G vs t ts el (.ok (.o o) s) = kCmpr2 G vs t ts el s (itemsD (frz o)) := rfl
@[simp] theorem kCmpr_ex (G : Ct) (vs : List Nat) (t : Tg) (ts el : E) : kCmpr G vs t ts el (.ex c fs s) = .ex c fs s := rfl
@[simp] theorem kCmpr_er (G : Ct) (vs : List Nat) (t : Tg) (ts el : E) : kCmpr G vs t ts el .er = .er := rfl
@[simp] theorem ev_comp (vs : List Nat) (t : Tg) (it ts el : E) : ev G (.comp vs t it ts el) s = kCmpr G vs t ts el (ev G it s) := by
  refine (asD_bind _ _).trans (bind_congr _ fun v s => ?_)
  cases v with
  | l _ => rfl
  | o o =>
    show okO (itemsD (frz o)) _ = okO (itemsD (frz o)) _
    congr 1
@[simp] theorem itemsD_t (l : List D) : itemsD (.tup l) = some l := rfl
@[simp] theorem itemsD_l (l : List D) : itemsD (.lst l) = some l := rfl
@[simp] theorem cmpR_nil (s0 : Env) (vs : List Nat) (t : Tg) (ts el : E) (acc : List D) : cmpR G s0 vs t ts el [] acc s = .ok acc s := rfl
/-- an element, by its parts -/
theorem cmpR_in {s0 : Env} {vs : List Nat} {t : Tg} {ts el : E} {d x : D} {r acc : List D} {s1 s2 s3 : Env} (h1 : tgt t d (wipe s vs) = some s1) (h2 : tsR G ts s1 = .ok true s2) (h3 : elR G el s2 = .ok x s3) :
    cmpR G s0 vs t ts el (d :: r) acc s = cmpR G s0 vs t ts el r (acc ++ [x]) (back s0 s3 vs) := by
  show (match tgt t d (wipe s vs) with
    | none => R.er
    | some s1 => (tsR G ts s1).bind fun b s2 => if b = true then (elR G el s2).bind fun x s3 => compL s0 vs t (tsR G ts) (elR G el) r (acc ++ [x]) (back s0 s3 vs) else compL s0 vs t (tsR G ts) (elR G el) r acc (back s0 s2 vs)) = _
  rw [h1]
  show ((tsR G ts s1).bind _) = _
  rw [h2]
  show ((elR G el s2).bind _) = _
  rw [h3]
  rfl
theorem cmpR_out {s0 : Env} {vs : List Nat} {t : Tg} {ts el : E} {d : D} {r acc : List D} {s1 s2 : Env} (h1 : tgt t d (wipe s vs) = some s1) (h2 : tsR G ts s1 = .ok false s2) :
    cmpR G s0 vs t ts el (d :: r) acc s = cmpR G s0 vs t ts el r acc (back s0 s2 vs) := by
  show (match tgt t d (wipe s vs) with
    | none => R.er
    | some s1 => (tsR G ts s1).bind fun b s2 => if b = true then (elR G el s2).bind fun x s3 => compL s0 vs t (tsR G ts) (elR G el) r (acc ++ [x]) (back s0 s3 vs) else compL s0 vs t (tsR G ts) (elR G el) r acc (back s0 s2 vs)) = _
  rw [h1]
  show ((tsR G ts s1).bind _) = _
  rw [h2]
  rfl
@[simp] theorem tsR_nil : tsR G .nil s = .ok true s := rfl
@[simp] theorem tsR_lit (d : D) : tsR G (.lit d) s = tru (.lit d) s (ev G (.lit d) s) := rfl
@[simp] theorem tsR_glb (x : Str) (d : D) : tsR G (.glb x d) s = tru (.glb x d) s (ev G (.glb x d) s) := rfl
@[simp] theorem tsR_cons (a b : E) : tsR G (.cons a b) s = tru (.cons a b) s (ev G (.cons a b) s) := rfl
@[simp] theorem tsR_tup (a : E) : tsR G (.tup a) s = tru (.tup a) s (ev G (.tup a) s) := rfl
@[simp] theorem tsR_lst (a : E) : tsR G (.lst a) s = tru (.lst a) s (ev G (.lst a) s) := rfl
@[simp] theorem tsR_bin (op : Operator) (a b : E) : tsR G (.bin op a b) s = tru (.bin op a b) s (ev G (.bin op a b) s) := rfl
@[simp] theorem tsR_neg (a : E) : tsR G (.neg a) s = tru (.neg a) s (ev G (.neg a) s) := rfl
@[simp] theorem tsR_inv (a : E) : tsR G (.inv a) s = tru (.inv a) s (ev G (.inv a) s) := rfl
@[simp] theorem tsR_cmp (op : CmpOp) (a b : E) : tsR G (.cmp op a b) s = tru (.cmp op a b) s (ev G (.cmp op a b) s) := rfl
@[simp] theorem tsR_chn (op op1 : CmpOp) (a b d : E) : tsR G (.chn op op1 a b d) s = tru (.chn op op1 a b d) s (ev G (.chn op op1 a b d) s) := rfl
@[simp] theorem tsR_not (a : E) : tsR G (.not a) s = tru (.not a) s (ev G (.not a) s) := rfl
@[simp] theorem tsR_and (a b : E) : tsR G (.and a b) s = tru (.and a b) s (ev G (.and a b) s) := rfl
@[simp] theorem tsR_or (a b : E) : tsR G (.or a b) s = tru (.or a b) s (ev G (.or a b) s) := rfl
@[simp] theorem tsR_ite (d a b : E) : tsR G (.ite d a b) s = tru (.ite d a b) s (ev G (.ite d a b) s) := rfl
@[simp] theorem tsR_idx (a b : E) : tsR G (.idx a b) s = tru (.idx a b) s (ev G (.idx a b) s) := rfl
@[simp] theorem tsR_slc (a b d : E) : tsR G (.slc a b d) s = tru (.slc a b d) s (ev G (.slc a b d) s) := rfl
@[simp] theorem tsR_call (g : Nat) (a : E) : tsR G (.call g a) s = tru (.call g a) s (ev G (.call g a) s) := rfl
@[simp] theorem tsR_mk (g : Nat) (a : E) : tsR G (.mk g a) s = tru (.mk g a) s (ev G (.mk g a) s) := rfl
@[simp] theorem tsR_meth (a : E) (m : Nat) (b : E) : tsR G (.meth a m b) s = tru (.meth a m b) s (ev G (.meth a m b) s) := rfl
@[simp] theorem tsR_bi (x : Bi) (a : E) : tsR G (.bi x a) s = tru (.bi x a) s (ev G (.bi x a) s) := rfl
@[simp] theorem tsR_len (a : E) : tsR G (.len a) s = tru (.len a) s (ev G (.len a) s) := rfl
@[simp] theorem tsR_lrg (a : E) : tsR G (.lrg a) s = tru (.lrg a) s (ev G (.lrg a) s) := rfl
@[simp] theorem tsR_isi (a : E) (x : Is) : tsR G (.isi a x) s = tru (.isi a x) s (ev G (.isi a x) s) := rfl
@[simp] theorem tsR_rng (a : E) : tsR G (.rng a) s = tru (.rng a) s (ev G (.rng a) s) := rfl
@[simp] theorem tsR_zip (a : E) : tsR G (.zip a) s = tru (.zip a) s (ev G (.zip a) s) := rfl
@[simp] theorem tsR_itr (a : E) : tsR G (.itr a) s = tru (.itr a) s (ev G (.itr a) s) := rfl
@[simp] theorem tsR_pop (a b : E) : tsR G (.pop a b) s = tru (.pop a b) s (ev G (.pop a b) s) := rfl
@[simp] theorem tsR_comp (vs : List Nat) (t : Tg) (a b d : E) : tsR G (.comp vs t a b d) s = tru (.comp vs t a b d) s (ev G (.comp vs t a b d) s) := rfl
@[simp] theorem tsR_pf (x : Pf) (a : E) : tsR G (.pf x a) s = tru (.pf x a) s (ev G (.pf x a) s) := rfl
@[simp] theorem tsR_bm0 (a : E) (x : Bm) : tsR G (.bm0 a x) s = tru (.bm0 a x) s (ev G (.bm0 a x) s) := rfl
@[simp] theorem tsR_bm1 (a : E) (x : Bm) (b : E) : tsR G (.bm1 a x b) s = tru (.bm1 a x b) s (ev G (.bm1 a x b) s) := rfl
@[simp] theorem tsR_mk0 (k : Nat) : tsR G (.mk0 k) s = tru (.mk0 k) s (ev G (.mk0 k) s) := rfl
@[simp] theorem tsR_cst (k l : Nat) : tsR G (.cst k l) s = tru (.cst k l) s (ev G (.cst k l) s) := rfl
@[simp] theorem tsR_clm (k l : Nat) (a : E) : tsR G (.clm k l a) s = tru (.clm k l a) s (ev G (.clm k l a) s) := rfl
@[simp] theorem tsR_mkv (k l : Nat) (a : E) : tsR G (.mkv k l a) s = tru (.mkv k l a) s (ev G (.mkv k l a) s) := rfl
@[simp] theorem tsR_cal (k : Nat) (a : E) : tsR G (.cal k a) s = tru (.cal k a) s (ev G (.cal k a) s) := rfl
@[simp] theorem tsR_var (i : Nat) : tsR G (.var i) s = tru (.var i) s (ev G (.var i) s) := rfl
@[simp] theorem tsR_attr (a : E) (f : Nat) : tsR G (.attr a f) s = tru (.attr a f) s (ev G (.attr a f) s) := rfl
def kEl  (r : R Vl) : R D := r.bind fun v s => (match v with | .o o => .ok (frz o) s | .l _ => .er)
@[simp] theorem kEl_ok0  (o : O) : kEl  (.ok (.o o) s) = .ok (frz o) s := rfl
@[simp] theorem kEl_ex  : kEl  (.ex c fs s) = .ex c fs s := rfl
@[simp] theorem kEl_er  : kEl  .er = .er := rfl
@[simp] theorem elR_ (el : E) : elR G el s = kEl (ev G el s) := by
  show asD _ = _
  cases ev G el s with
  | ok v s => cases v <;> rfl
  | ex c fs s => rfl
  | er => rfl
@[simp] theorem tgt_nm (i : Nat) (d : D) : tgt (.nm i) d s = some (s.set i (some (.sh d))) := by cases d <;> rfl
@[simp] theorem tgt_many (l : List Nat) (ds : List D) : tgt (.many l) (.tup ds) s = if l.length = ds.length then some (sets l ds s) else none := rfl
@[simp] theorem sets_n (ds : List D) : sets [] ds s = s := by cases ds <;> rfl
@[simp] theorem sets_c (i : Nat) (r : List Nat) (d : D) (ds : List D) : sets (i :: r) (d :: ds) s = sets r ds (s.set i (some (.sh d))) := rfl
@[simp] theorem tgt_two (i j : Nat) (a b : D) : tgt (.two i j) (.tup [a, b]) s = some ((s.set i (some (.sh a))).set j (some (.sh b))) := rfl
theorem asO_st (r : R Vl) (k : O → Env → SR) : (asO r).st k = r.st fun v s => (match v with | .o o => k o s | .l _ => .er) := by
  cases r with
  | ok v s => cases v <;> rfl
  | ex c fs s => rfl
  | er => rfl
theorem asD_st (r : R Vl) (k : D → Env → SR) : (asD r).st k = r.st fun v s => (match v with | .o o => k (frz o) s | .l _ => .er) := by
  cases r with
  | ok v s => cases v <;> rfl
  | ex c fs s => rfl
  | er => rfl
theorem st_congr {α : Type} (r : R α) {k k' : α → Env → SR} (h : ∀ a s, k a s = k' a s) : r.st k = r.st k' := by
  cases r with
  | ok v s => exact h v s
  | ex c fs s => rfl
  | er => rfl
noncomputable def kSeq (G : Ct) (pin : List Nat) (b : S) (r : SR) : SR := r.seq (evS G pin b)
@[simp] theorem kSeq_nx (b : S) : kSeq G pin b (.nx s) = evS G pin b s := rfl
@[simp] theorem kSeq_rt (b : S) (o : O) : kSeq G pin b (.rt o s) = .rt o s := rfl
@[simp] theorem kSeq_bk (b : S) : kSeq G pin b (.bk s) = .bk s := rfl
@[simp] theorem kSeq_ct (b : S) : kSeq G pin b (.ct s) = .ct s := rfl
@[simp] theorem kSeq_ex (b : S) : kSeq G pin b (.ex c fs s) = .ex c fs s := rfl
@[simp] theorem kSeq_er (b : S) : kSeq G pin b .er = .er := rfl
@[simp] theorem evS_seq (a b : S) : evS G pin (.seq a b) s = kSeq G pin b (evS G pin a s) := by rw [evS]; rfl
@[simp] theorem evS_nvr : evS G pin .nvr s = .er := by rw [evS]
@[simp] theorem evS_nop : evS G pin .nop s = .nx s := by rw [evS]
@[simp] theorem catch_bk (k : Nat → List (Nat × D) → Env → SR) : (SR.bk s).catch k = .bk s := rfl
@[simp] theorem catch_ct (k : Nat → List (Nat × D) → Env → SR) : (SR.ct s).catch k = .ct s := rfl
@[simp] theorem catch_er (k : Nat → List (Nat × D) → Env → SR) : SR.er.catch k = .er := rfl
noncomputable def kTry (G : Ct) (pin : List Nat) (cs : List Hc) (r : SR) : SR := r.catch fun c fs s => if G.xf c = some (fs.map (·.1)) then hcv G pin c fs cs s else .er
@[simp] theorem kTry_ex (cs : List Hc) : kTry G pin cs (.ex c fs s) = if G.xf c = some (fs.map (·.1)) then hcv G pin c fs cs s else .er := rfl
@[simp] theorem kTry_nx (cs : List Hc) : kTry G pin cs (.nx s) = .nx s := rfl
@[simp] theorem kTry_rt (cs : List Hc) (o : O) : kTry G pin cs (.rt o s) = .rt o s := rfl
@[simp] theorem kTry_bk (cs : List Hc) : kTry G pin cs (.bk s) = .bk s := rfl
@[simp] theorem kTry_ct (cs : List Hc) : kTry G pin cs (.ct s) = .ct s := rfl
@[simp] theorem evS_try (b : S) (cs : List Hc) : evS G pin (.try_ b cs) s = kTry G pin cs (evS G pin b s) := by rw [evS]; rfl
@[simp] theorem evS_rsp (k : Nat) : evS G pin (.rsp k) s = if G.xf k = some [] then .ex k [] s else .er := by rw [evS]
@[simp] theorem hcv_n : hcv G pin c fs [] s = .ex c fs s := rfl
noncomputable def kHc (s : Env) (r : Option (Option D)) : SR := match r with
  | some none => .nx s
  | some (some d) => .rt (.sh d) s
  | none => .er
@[simp] theorem kHc_n : kHc s (some none) = .nx s := rfl
@[simp] theorem kHc_s (d : D) : kHc s (some (some d)) = .rt (.sh d) s := rfl
@[simp] theorem hcv_c (h : Hc) (r : List Hc) : hcv G pin c fs (h :: r) s = if G.sub c h.c = true then (if okN pin s h.n = true then kHc s (hsv G s c fs h.h) else .er) else hcv G pin c fs r s := rfl
@[simp] theorem okN_n : okN pin s none = true := rfl
noncomputable def kOkN (pin : List Nat) (i : Nat) (r : Option (Option O)) : Bool := match r with
  | some none => !pin.contains i
  | _ => false
@[simp] theorem kOkN_n (i : Nat) : kOkN pin i (some none) = !pin.contains i := rfl
@[simp] theorem okN_s (i : Nat) : okN pin s (some i) = kOkN pin i (s[i]?) := rfl
@[simp] theorem hsv_nop : hsv G s c fs .nop = some none := rfl
def kHs1 (G : Ct) (s : Env) (c : Nat) (fs : List (Nat × D)) (b : HS) (r : Option (Option D)) : Option (Option D) := match r with
  | some none => hsv G s c fs b
  | r => r
@[simp] theorem kHs1_n (b : HS) : kHs1 G s c fs b (some none) = hsv G s c fs b := rfl
@[simp] theorem kHs1_s (b : HS) (d : D) : kHs1 G s c fs b (some (some d)) = some (some d) := rfl
@[simp] theorem hsv_seq (a b : HS) : hsv G s c fs (.seq a b) = kHs1 G s c fs b (hsv G s c fs a) := by rw [hsv]; unfold kHs1; cases hsv G s c fs a with | none => rfl | some r => cases r <;> rfl
def kHs2 (x y : Option (Option D)) (r : Option D) : Option (Option D) := match r with
  | some (.bl true) => x
  | some (.bl false) => y
  | _ => none
@[simp] theorem kHs2_b (x y : Option (Option D)) (k : Bool) : kHs2 x y (some (.bl k)) = if k = true then x else y := by cases k <;> rfl
@[simp] theorem hsv_ife (e : HE) (a b : HS) : hsv G s c fs (.ife e a b) = kHs2 (hsv G s c fs a) (hsv G s c fs b) (hev G s c fs e) := by rw [hsv]; unfold kHs2; rfl
@[simp] theorem hsv_ret (e : HE) : hsv G s c fs (.ret e) = (hev G s c fs e).map some := by rw [hsv]; cases hev G s c fs e <;> rfl
@[simp] theorem hev_lit (d : D) : hev G s c fs (.lit d) = if flatD d = true then some d else none := rfl
@[simp] theorem flatD_b (b : Bool) : flatD (.bl b) = true := rfl
@[simp] theorem flatD_i (i : Int) : flatD (.int i) = true := rfl
@[simp] theorem flatD_s (x : Str) : flatD (.str x) = true := rfl
@[simp] theorem flatD_non : flatD .non = true := rfl
def kHv (r : Option (Option O)) : Option D := match r with
  | some (some (.sh d)) => some d
  | _ => none
@[simp] theorem kHv_s (d : D) : kHv (some (some (.sh d))) = some d := rfl
@[simp] theorem hev_var (i : Nat) : hev G s c fs (.var i) = kHv (s[i]?) := by rw [hev]; rfl
@[simp] theorem hev_fld (f : Nat) : hev G s c fs (.fld f) = getD' f fs := rfl
@[simp] theorem hev_isx (k : Nat) : hev G s c fs (.isx k) = some (.bl (G.sub c k)) := rfl
@[simp] theorem hev_isv : hev G s c fs .isv = some (.bl true) := rfl
def kHn (r : Option D) : Option D := match r with
  | some (.bl k) => some (.bl (!k))
  | _ => none
@[simp] theorem kHn_b (k : Bool) : kHn (some (.bl k)) = some (.bl (!k)) := rfl
@[simp] theorem hev_not (a : HE) : hev G s c fs (.not a) = kHn (hev G s c fs a) := by rw [hev]; rfl
def kHb (r : Option D) : Option D := match r with
  | some (.bl k) => some (.bl k)
  | _ => none
@[simp] theorem kHb_b (k : Bool) : kHb (some (.bl k)) = some (.bl k) := rfl
def kHa (y r : Option D) : Option D := match r with
  | some (.bl true) => kHb y
  | some (.bl false) => some (.bl false)
  | _ => none
@[simp] theorem kHa_b (y : Option D) (k : Bool) : kHa y (some (.bl k)) = if k = true then kHb y else some (.bl false) := by cases k <;> rfl
@[simp] theorem hev_and (a b : HE) : hev G s c fs (.and a b) = kHa (hev G s c fs b) (hev G s c fs a) := by rw [hev]; rfl
def kHo (y r : Option D) : Option D := match r with
  | some (.bl false) => kHb y
  | some (.bl true) => some (.bl true)
  | _ => none
@[simp] theorem kHo_b (y : Option D) (k : Bool) : kHo y (some (.bl k)) = if k = true then some (.bl true) else kHb y := by cases k <;> rfl
@[simp] theorem hev_or (a b : HE) : hev G s c fs (.or a b) = kHo (hev G s c fs b) (hev G s c fs a) := by rw [hev]; rfl
@[simp] theorem hev_nil : hev G s c fs .nil = some (.tup []) := rfl
def kHc2 (y r : Option D) : Option D := match r, y with
  | some x, some (.tup l) => some (.tup (x :: l))
  | _, _ => none
@[simp] theorem kHc2_b (x : D) (l : List D) : kHc2 (some (.tup l)) (some x) = some (.tup (x :: l)) := rfl
@[simp] theorem hev_cons (a b : HE) : hev G s c fs (.cons a b) = kHc2 (hev G s c fs b) (hev G s c fs a) := by rw [hev]; rfl
def kHt (r : Option D) : Option D := match r with
  | some (.tup l) => some (.tup l)
  | _ => none
@[simp] theorem kHt_b (l : List D) : kHt (some (.tup l)) = some (.tup l) := rfl
@[simp] theorem hev_tup (a : HE) : hev G s c fs (.tup a) = kHt (hev G s c fs a) := by rw [hev]; rfl
def kHl (r : Option D) : Option D := match r with
  | some (.tup l) => some (.lst l)
  | _ => none
@[simp] theorem kHl_b (l : List D) : kHl (some (.tup l)) = some (.lst l) := rfl
@[simp] theorem hev_lst (a : HE) : hev G s c fs (.lst a) = kHl (hev G s c fs a) := by rw [hev]; rfl
noncomputable def kRse2 (k : Nat) (fl : List Nat) (r : Option (List D × Env)) : SR := okS r fun q => if fl.length = q.1.length then .ex k (fl.zip q.1) q.2 else .er
@[simp] theorem kRse2_s (k : Nat) (fl : List Nat) (ds : List D) (s1 : Env) : kRse2 k fl (some (ds, s1)) = if fl.length = ds.length then .ex k (fl.zip ds) s1 else .er := rfl
noncomputable def kRse1 (k : Nat) (fl : List Nat) (r : R Vl) : SR := r.st fun v s => (match v with | .o _ => .er | .l l => kRse2 k fl (shA l s))
@[simp] theorem kRse1_ok (k : Nat) (fl : List Nat) (l : List A) : kRse1 k fl (.ok (.l l) s) = kRse2 k fl (shA l s) := rfl
@[simp] theorem kRse1_ex (k : Nat) (fl : List Nat) : kRse1 k fl (.ex c fs s) = .ex c fs s := rfl
noncomputable def kRse (G : Ct) (k : Nat) (q : E) (s : Env) (r : Option (List Nat)) : SR := match r with
  | some fl => if fl = [] then .er else kRse1 k fl (ev G q s)
  | none => .er
@[simp] theorem kRse_s (k : Nat) (q : E) (fl : List Nat) : kRse G k q s (some fl) = if fl = [] then .er else kRse1 k fl (ev G q s) := rfl
@[simp] theorem evS_rse (k : Nat) (q : E) : evS G pin (.rse k q) s = kRse G k q s (G.xf k) := by
  rw [evS]
  cases h : G.xf k with
  | none => rfl
  | some fl =>
    show (if fl = [] then SR.er else _) = (if fl = [] then SR.er else kRse1 k fl (ev G q s))
    split
    · rfl
    · cases ev G q s with
      | ok v s => cases v <;> rfl
      | ex c fs s => rfl
      | er => rfl
@[simp] theorem evS_pas : evS G pin .pas s = .nx s := by rw [evS]
@[simp] theorem evS_retn : evS G pin .retn s = .rt (.sh .non) s := by rw [evS]
@[simp] theorem evS_brk : evS G pin .brk s = .bk s := by rw [evS]
@[simp] theorem evS_cnt : evS G pin .cnt s = .ct s := by rw [evS]
@[simp] theorem put_ (i : Nat) (o : O) : put pin i o s = if i ∈ pin then .er else .nx (s.set i (some o)) := rfl
noncomputable def kExpr  (r : R Vl) : SR := r.st fun v s => (match v with | .o _ => .nx s | .l _ => .er)
@[simp] theorem kExpr_ok0  (o : O) : kExpr  (.ok (.o o) s) = .nx s := rfl
@[simp] theorem kExpr_ex  : kExpr  (.ex c fs s) = .ex c fs s := rfl
@[simp] theorem evS_expr (e : E) : evS G pin (.expr e) s = kExpr (ev G e s) := by rw [evS]; exact asO_st _ _
noncomputable def kAsg (pin : List Nat) (i : Nat) (r : R Vl) : SR := r.st fun v s => (match v with | .o o => put pin i o s | .l _ => .er)
@[simp] theorem kAsg_ok0 (pin : List Nat) (i : Nat) (o : O) : kAsg pin i (.ok (.o o) s) = put pin i o s := rfl
@[simp] theorem kAsg_ex (pin : List Nat) (i : Nat) : kAsg pin i (.ex c fs s) = .ex c fs s := rfl
@[simp] theorem evS_asg (i : Nat) (e : E) : evS G pin (.asg i e) s = kAsg pin i (ev G e s) := by rw [evS]; exact asO_st _ _
noncomputable def kSub5 (p : Pth) (s : Env) (r : Option O) : SR := okS r fun o => .nx (setP s p o)
@[simp] theorem kSub5_some0 (p : Pth) (s : Env) (o : O) : kSub5 p s (some o) = .nx (setP s p o) := rfl
noncomputable def kSub8  (r : R O) : SR := r.st fun _ s => .nx s
@[simp] theorem kSub8_ok0  (o : O) : kSub8  (.ok o s) = .nx s := rfl
@[simp] theorem kSub8_ex  : kSub8  (.ex c fs s) = .ex c fs s := rfl
noncomputable def kSub7 (G : Ct) (p : Pth) (d k : D) (s : Env) (r : Option Nat) : SR := okS r fun g => kSub8 (callF G.F g [.ref p, .val k, .val d] s)
@[simp] theorem kSub7_some0 (G : Ct) (p : Pth) (d k : D) (s : Env) (g : Nat) : kSub7 G p d k s (some g) = kSub8 (callF G.F g [.ref p, .val k, .val d] s) := rfl
noncomputable def kSub6 (G : Ct) (p : Pth) (d k : D) (s : Env) (o : O) (r : Option Nat) : SR := match r with | some c => kSub7 G p d k s (G.mth c 15) | none => kSub5 p s (subO o k d)
@[simp] theorem kSub6_some0 (G : Ct) (p : Pth) (d k : D) (s : Env) (o : O) (c : Nat) : kSub6 G p d k s o (some c) = kSub7 G p d k s (G.mth c 15) := rfl
@[simp] theorem kSub6_n (p : Pth) (d k : D) (o : O) : kSub6 G p d k s o none = kSub5 p s (subO o k d) := rfl
noncomputable def kSub4 (G : Ct) (p : Pth) (d k : D) (s : Env) (r : Option O) : SR := okS r fun o => kSub6 G p d k s o (clsO o)
@[simp] theorem kSub4_some0 (G : Ct) (p : Pth) (d k : D) (s : Env) (o : O) : kSub4 G p d k s (some o) = kSub6 G p d k s o (clsO o) := rfl
noncomputable def kSubX (G : Ct) (x : A) (d k : D) (s : Env) : SR := match x with
  | .ref p => kSub4 G p d k s (getP s p)
  | .val _ => .er
@[simp] theorem kSubX_r (p : Pth) (d k : D) : kSubX G (.ref p) d k s = kSub4 G p d k s (getP s p) := rfl
noncomputable def kSub3 (G : Ct) (x : A) (d : D) (r : R Vl) : SR := r.st fun v s => (match v with | .o o => kSubX G x d (frz o) s | .l _ => .er)
@[simp] theorem kSub3_ok0 (G : Ct) (x : A) (d : D) (o : O) : kSub3 G x d (.ok (.o o) s) = kSubX G x d (frz o) s := rfl
@[simp] theorem kSub3_ex (G : Ct) (x : A) (d : D) : kSub3 G x d (.ex c fs s) = .ex c fs s := rfl
noncomputable def kSub2 (G : Ct) (i : E) (d : D) (r : R A) : SR := r.st fun x s => kSub3 G x d (ev G i s)
@[simp] theorem kSub2_ok0 (G : Ct) (i : E) (d : D) (x : A) : kSub2 G i d (.ok x s) = kSub3 G x d (ev G i s) := rfl
@[simp] theorem kSub2_ex (G : Ct) (i : E) (d : D) : kSub2 G i d (.ex c fs s) = .ex c fs s := rfl
noncomputable def kSub1 (G : Ct) (a i : E) (r : R Vl) : SR := r.st fun v s => (match v with | .o o => kSub2 G i (frz o) (pk a i s (ev G a s)) | .l _ => .er)
@[simp] theorem kSub1_ok0 (G : Ct) (a i : E) (o : O) : kSub1 G a i (.ok (.o o) s) = kSub2 G i (frz o) (pk a i s (ev G a s)) := rfl
@[simp] theorem kSub1_ex (G : Ct) (a i : E) : kSub1 G a i (.ex c fs s) = .ex c fs s := rfl
@[simp] theorem evS_sub (a i e : E) : evS G pin (.sub a i e) s = kSub1 G a i (ev G e s) := by
  rw [evS]
  refine (asD_st _ _).trans (st_congr _ fun v s => ?_)
  cases v with
  | l _ => rfl
  | o o =>
    refine st_congr _ fun x s => (asD_st _ _).trans (st_congr _ fun v s => ?_)
    cases v with
    | l _ => rfl
    | o y =>
      cases x with
      | val _ => rfl
      | ref p =>
        show okS (getP s p) _ = okS (getP s p) _
        congr 1
@[simp] theorem subO_d (l : List (Int × D)) (k : Int) (d : D) : subO (.od l) (.int k) d = if l.length < lim then some (.od (setK k d l)) else none := rfl
@[simp] theorem subO_ (l : List D) (k : Int) (d : D) : subO (.ol l) (.int k) d = (L2.ixN l.length k).map fun j => .ol (l.set j d) := rfl
noncomputable def kFld3 (i : Nat) (s : Env) (r : Option O) : SR := okS r fun o => .nx (setP s ⟨i, []⟩ o)
@[simp] theorem kFld3_some0 (i : Nat) (s : Env) (o : O) : kFld3 i s (some o) = .nx (setP s ⟨i, []⟩ o) := rfl
noncomputable def kFld2 (G : Ct) (i f : Nat) (v : O) (s : Env) (r : Option O) : SR := okS r fun o => kFld3 i s (fldO G.toCs o f v)
@[simp] theorem kFld2_some0 (G : Ct) (i f : Nat) (v : O) (s : Env) (o : O) : kFld2 G i f v s (some o) = kFld3 i s (fldO G.toCs o f v) := rfl
noncomputable def kFld (G : Ct) (i f : Nat) (r : R Vl) : SR := r.st fun v s => (match v with | .o o => kFld2 G i f o s (getP s ⟨i, []⟩) | .l _ => .er)
@[simp] theorem kFld_ok0 (G : Ct) (i f : Nat) (o : O) : kFld G i f (.ok (.o o) s) = kFld2 G i f o s (getP s ⟨i, []⟩) := rfl
@[simp] theorem kFld_ex (G : Ct) (i f : Nat) : kFld G i f (.ex c fs s) = .ex c fs s := rfl
@[simp] theorem evS_fld (i f : Nat) (e : E) : evS G pin (.fld (.var i) f e) s = kFld G i f (ev G e s) := by
  rw [evS]
  exact asO_st _ _
@[simp] theorem fldO_ (k : Nat) (l : List (Nat × O)) (f : Nat) (v : O) : fldO G.toCs (.oo k l) f v = if l.length < 100 ∧ G.fld k f = true then some (.oo k (setF f v l)) else none := rfl
noncomputable def kAug3 (pin : List Nat) (i : Nat) (s : Env) (r : Option D) : SR := okS r fun d => put pin i (.sh d) s
@[simp] theorem kAug3_some0 (pin : List Nat) (i : Nat) (s : Env) (d : D) : kAug3 pin i s (some d) = put pin i (.sh d) s := rfl
noncomputable def kAug2 (pin : List Nat) (i : Nat) (op : Operator) (x : D) (r : R Vl) : SR := r.st fun v s => (match v with | .o o => kAug3 pin i s (augD op x (frz o)) | .l _ => .er)
@[simp] theorem kAug2_ok0 (pin : List Nat) (i : Nat) (op : Operator) (x : D) (o : O) : kAug2 pin i op x (.ok (.o o) s) = kAug3 pin i s (augD op x (frz o)) := rfl
@[simp] theorem kAug2_ex (pin : List Nat) (i : Nat) (op : Operator) (x : D) : kAug2 pin i op x (.ex c fs s) = .ex c fs s := rfl
noncomputable def kAug (G : Ct) (pin : List Nat) (i : Nat) (op : Operator) (e : E) (s : Env) (r : Option (Option O)) : SR := match r with | some (some (.sh x)) => kAug2 pin i op x (ev G e s) | _ => .er
@[simp] theorem kAug_some0 (G : Ct) (pin : List Nat) (i : Nat) (op : Operator) (e : E) (s : Env) (x : D) : kAug G pin i op e s (some (some (.sh x))) = kAug2 pin i op x (ev G e s) := rfl
@[simp] theorem evS_aug (i : Nat) (op : Operator) (e : E) : evS G pin (.aug i op e) s = kAug G pin i op e s (s[i]?) := by
  rw [evS]
  unfold kAug
  rcases s[i]? with _ | _ | o
  · rfl
  · rfl
  · cases o with
    | sh x => exact asD_st _ _
    | _ => rfl
@[simp] theorem augD_add (i j : Int) : augD .Add (.int i) (.int j) = some (.int (i + j)) := rfl
@[simp] theorem augD_sub (i j : Int) : augD .Sub (.int i) (.int j) = some (.int (i - j)) := rfl
noncomputable def kAs8 (p : Pth) (k z : D) (s : Env) (r : Option O) : SR := okS r fun o => kSub5 p s (subO o k z)
@[simp] theorem kAs8_some0 (p : Pth) (k z : D) (s : Env) (o : O) : kAs8 p k z s (some o) = kSub5 p s (subO o k z) := rfl
noncomputable def kAs7 (p : Pth) (k z : D) (s : Env) (r : Option O) : SR := okS r fun o => kAs8 p k z s (olO o)
@[simp] theorem kAs7_some0 (p : Pth) (k z : D) (s : Env) (o : O) : kAs7 p k z s (some o) = kAs8 p k z s (olO o) := rfl
noncomputable def kAsX (x : A) (k z : D) (s : Env) : SR := match x with
  | .ref p => kAs7 p k z s (getP s p)
  | .val _ => .er
@[simp] theorem kAsX_r (p : Pth) (k z : D) : kAsX (.ref p) k z s = kAs7 p k z s (getP s p) := rfl
@[simp] theorem olO_l (l : List D) : olO (.ol l) = some (.ol l) := rfl
@[simp] theorem shO_s (d : D) : shO (.sh d) = some d := rfl
noncomputable def kAs6 (x : A) (k : D) (s : Env) (r : Option D) : SR := okS r fun z => kAsX x k z s
@[simp] theorem kAs6_some0 (x : A) (k : D) (s : Env) (z : D) : kAs6 x k s (some z) = kAsX x k z s := rfl
noncomputable def kAs5 (op : Operator) (x : A) (k d : D) (r : R Vl) : SR := r.st fun v s => (match v with | .o o => kAs6 x k s (augD op d (frz o)) | .l _ => .er)
@[simp] theorem kAs5_ok0 (op : Operator) (x : A) (k d : D) (o : O) : kAs5 op x k d (.ok (.o o) s) = kAs6 x k s (augD op d (frz o)) := rfl
@[simp] theorem kAs5_ex (op : Operator) (x : A) (k d : D) : kAs5 op x k d (.ex c fs s) = .ex c fs s := rfl
noncomputable def kAs4 (G : Ct) (op : Operator) (e : E) (x : A) (k : D) (s : Env) (r : Option D) : SR := okS r fun d => kAs5 op x k d (ev G e s)
@[simp] theorem kAs4_some0 (G : Ct) (op : Operator) (e : E) (x : A) (k : D) (s : Env) (d : D) : kAs4 G op e x k s (some d) = kAs5 op x k d (ev G e s) := rfl
noncomputable def kAs3 (G : Ct) (op : Operator) (e : E) (x : A) (k : D) (s : Env) (r : Option O) : SR := okS r fun o => kAs4 G op e x k s (idxO o k)
@[simp] theorem kAs3_some0 (G : Ct) (op : Operator) (e : E) (x : A) (k : D) (s : Env) (o : O) : kAs3 G op e x k s (some o) = kAs4 G op e x k s (idxO o k) := rfl
noncomputable def kAs2 (G : Ct) (op : Operator) (e : E) (x : A) (k : D) (s : Env) (r : Option O) : SR := okS r fun o => kAs3 G op e x k s (olO o)
@[simp] theorem kAs2_some0 (G : Ct) (op : Operator) (e : E) (x : A) (k : D) (s : Env) (o : O) : kAs2 G op e x k s (some o) = kAs3 G op e x k s (olO o) := rfl
noncomputable def kAs1 (G : Ct) (op : Operator) (e : E) (x : A) (r : R Vl) : SR := r.st fun v s => (match v with | .o o => kAs2 G op e x (frz o) s (x.res s) | .l _ => .er)
@[simp] theorem kAs1_ok0 (G : Ct) (op : Operator) (e : E) (x : A) (o : O) : kAs1 G op e x (.ok (.o o) s) = kAs2 G op e x (frz o) s (x.res s) := rfl
@[simp] theorem kAs1_ex (G : Ct) (op : Operator) (e : E) (x : A) : kAs1 G op e x (.ex c fs s) = .ex c fs s := rfl
noncomputable def kAs (G : Ct) (i : E) (op : Operator) (e : E) (r : R A) : SR := r.st fun x s => kAs1 G op e x (ev G i s)
@[simp] theorem kAs_ok0 (G : Ct) (i : E) (op : Operator) (e : E) (x : A) : kAs G i op e (.ok x s) = kAs1 G op e x (ev G i s) := rfl
@[simp] theorem kAs_ex (G : Ct) (i : E) (op : Operator) (e : E) : kAs G i op e (.ex c fs s) = .ex c fs s := rfl
@[simp] theorem evS_augs (a i : E) (op : Operator) (e : E) : evS G pin (.augs a i op e) s = kAs G i op e (pk a (.cons i e) s (ev G a s)) := by
  rw [evS]
  refine st_congr _ fun x s => (asD_st _ _).trans (st_congr _ fun v s => ?_)
  cases v with
  | l _ => rfl
  | o k =>
    show okS (x.res s) _ = okS (x.res s) _
    congr 1
    funext o
    show okS (olO o) _ = okS (olO o) _
    congr 1
    funext o
    show okS (idxO o (frz k)) _ = okS (idxO o (frz k)) _
    congr 1
    funext d
    refine (asD_st _ _).trans (st_congr _ fun v s => ?_)
    cases v with
    | l _ => rfl
    | o y =>
      show okS (augD op d (frz y)) _ = okS (augD op d (frz y)) _
      congr 1
noncomputable def kAf7 (i f c : Nat) (d : D) (G : Ct) (s : Env) (r : Option O) : SR := okS r fun o => if clsO o = some c then kFld3 i s (fldO G.toCs o f (.sh d)) else .er
@[simp] theorem kAf7_s (i f c : Nat) (d : D) (o : O) : kAf7 i f c d G s (some o) = if clsO o = some c then kFld3 i s (fldO G.toCs o f (.sh d)) else .er := rfl
noncomputable def kAf6 (G : Ct) (i f c : Nat) (s : Env) (r : Option D) : SR := okS r fun d => kAf7 i f c d G s (getP s ⟨i, []⟩)
@[simp] theorem kAf6_some0 (G : Ct) (i f c : Nat) (s : Env) (d : D) : kAf6 G i f c s (some d) = kAf7 i f c d G s (getP s ⟨i, []⟩) := rfl
noncomputable def kAf5 (G : Ct) (i f c2 : Nat) (op : Operator) (x : D) (r : R Vl) : SR := r.st fun v s => (match v with | .o o => kAf6 G i f c2 s (augD op x (frz o)) | .l _ => .er)
@[simp] theorem kAf5_ok0 (G : Ct) (i f c2 : Nat) (op : Operator) (x : D) (o : O) : kAf5 G i f c2 op x (.ok (.o o) s) = kAf6 G i f c2 s (augD op x (frz o)) := rfl
@[simp] theorem kAf5_ex (G : Ct) (i f c2 : Nat) (op : Operator) (x : D) : kAf5 G i f c2 op x (.ex c fs s) = .ex c fs s := rfl
noncomputable def kAf4 (G : Ct) (i f c : Nat) (op : Operator) (e : E) (s : Env) (r : Option D) : SR := okS r fun x => kAf5 G i f c op x (ev G e s)
@[simp] theorem kAf4_some0 (G : Ct) (i f c : Nat) (op : Operator) (e : E) (s : Env) (x : D) : kAf4 G i f c op e s (some x) = kAf5 G i f c op x (ev G e s) := rfl
noncomputable def kAf3 (G : Ct) (i f c : Nat) (op : Operator) (e : E) (s : Env) (r : Option O) : SR := okS r fun o => kAf4 G i f c op e s (shO o)
@[simp] theorem kAf3_some0 (G : Ct) (i f c : Nat) (op : Operator) (e : E) (s : Env) (o : O) : kAf3 G i f c op e s (some o) = kAf4 G i f c op e s (shO o) := rfl
noncomputable def kAf2 (G : Ct) (i f : Nat) (op : Operator) (e : E) (s : Env) (r : Option Nat) : SR := okS r fun c => kAf3 G i f c op e s (getP s ⟨i, [f]⟩)
@[simp] theorem kAf2_some0 (G : Ct) (i f : Nat) (op : Operator) (e : E) (s : Env) (c : Nat) : kAf2 G i f op e s (some c) = kAf3 G i f c op e s (getP s ⟨i, [f]⟩) := rfl
@[simp] theorem evS_augf (i f : Nat) (op : Operator) (e : E) : evS G pin (.augf (.var i) f op e) s = kAf2 G i f op e s (kCalC (getP s ⟨i, []⟩)) := by
  rw [evS]
  show okS (kCalC (getP s ⟨i, []⟩)) _ = okS (kCalC (getP s ⟨i, []⟩)) _
  congr 1
  funext c
  show okS (getP s ⟨i, [f]⟩) _ = okS (getP s ⟨i, [f]⟩) _
  congr 1
  funext o
  show okS (shO o) _ = okS (shO o) _
  congr 1
  funext x
  exact asD_st _ _
noncomputable def kUnm2  (r : Option Env) : SR := okS r .nx
@[simp] theorem kUnm2_some0  (s1 : Env) : kUnm2  (some s1) = .nx s1 := rfl
noncomputable def kUnm (pin : List Nat) (l : List Nat) (r : R Vl) : SR := r.st fun v s => (match v with | .o o => if l.any pin.contains = true then .er else kUnm2 (tgt (.many l) (frz o) s) | .l _ => .er)
@[simp] theorem kUnm_ok0 (pin : List Nat) (l : List Nat) (o : O) : kUnm pin l (.ok (.o o) s) = if l.any pin.contains = true then .er else kUnm2 (tgt (.many l) (frz o) s) := rfl
@[simp] theorem kUnm_ex (pin : List Nat) (l : List Nat) : kUnm pin l (.ex c fs s) = .ex c fs s := rfl
@[simp] theorem evS_unpm (l : List Nat) (e : E) : evS G pin (.unpm l e) s = kUnm pin l (ev G e s) := by
  rw [evS]
  exact asD_st _ _
noncomputable def kDel4 (p : Pth) (k : D) (s : Env) (r : Option O) : SR := okS r fun o => kSub5 p s (delO o k)
@[simp] theorem kDel4_some0 (p : Pth) (k : D) (s : Env) (o : O) : kDel4 p k s (some o) = kSub5 p s (delO o k) := rfl
noncomputable def kDelX (x : A) (k : D) (s : Env) : SR := match x with
  | .ref p => kDel4 p k s (getP s p)
  | .val _ => .er
@[simp] theorem kDelX_r (p : Pth) (k : D) : kDelX (.ref p) k s = kDel4 p k s (getP s p) := rfl
@[simp] theorem delO_ (l : List D) (k : Int) : delO (.ol l) (.int k) = if -4611686018427387904 ≤ k ∧ k < 4611686018427387904 then (L2.ixN l.length k).map fun j => .ol (l.eraseIdx j) else none := rfl
noncomputable def kDel3 (x : A) (r : R Vl) : SR := r.st fun v s => (match v with | .o o => kDelX x (frz o) s | .l _ => .er)
@[simp] theorem kDel3_ok0 (x : A) (o : O) : kDel3 x (.ok (.o o) s) = kDelX x (frz o) s := rfl
@[simp] theorem kDel3_ex (x : A) : kDel3 x (.ex c fs s) = .ex c fs s := rfl
noncomputable def kDel2 (G : Ct) (i : E) (x : A) (s : Env) (r : Option Unit) : SR := okS r fun _ => kDel3 x (ev G i s)
@[simp] theorem kDel2_some0 (G : Ct) (i : E) (x : A) (s : Env) (u : Unit) : kDel2 G i x s (some u) = kDel3 x (ev G i s) := rfl
noncomputable def kDel (G : Ct) (i : E) (r : R A) : SR := r.st fun x s => kDel2 G i x s (isL (x.res s))
@[simp] theorem kDel_ok0 (G : Ct) (i : E) (x : A) : kDel G i (.ok x s) = kDel2 G i x s (isL (x.res s)) := rfl
@[simp] theorem kDel_ex (G : Ct) (i : E) : kDel G i (.ex c fs s) = .ex c fs s := rfl
@[simp] theorem evS_del (a i : E) : evS G pin (.del a i) s = kDel G i (pk a i s (ev G a s)) := by
  rw [evS]
  refine st_congr _ fun x s => ?_
  show okS (isL (x.res s)) _ = okS (isL (x.res s)) _
  congr 1
  funext _
  refine (asD_st _ _).trans (st_congr _ fun v s => ?_)
  cases v with
  | l _ => rfl
  | o o => cases x <;> rfl
noncomputable def kApp5 (p : Pth) (s : Env) (r : Option O) : SR := okS r fun o => .nx (setP s p o)
@[simp] theorem kApp5_some0 (p : Pth) (s : Env) (o : O) : kApp5 p s (some o) = .nx (setP s p o) := rfl
noncomputable def kApp4 (p : Pth) (d : D) (s : Env) (r : Option O) : SR := okS r fun o => kApp5 p s (appO o d)
@[simp] theorem kApp4_some0 (p : Pth) (d : D) (s : Env) (o : O) : kApp4 p d s (some o) = kApp5 p s (appO o d) := rfl
noncomputable def kAppX (x : A) (d : D) (s : Env) : SR := match x with
  | .ref p => kApp4 p d s (getP s p)
  | .val _ => .er
@[simp] theorem kAppX_r (p : Pth) (d : D) : kAppX (.ref p) d s = kApp4 p d s (getP s p) := rfl
noncomputable def kApp3 (x : A) (r : R Vl) : SR := r.st fun v s => (match v with | .o o => kAppX x (frz o) s | .l _ => .er)
@[simp] theorem kApp3_ok0 (x : A) (o : O) : kApp3 x (.ok (.o o) s) = kAppX x (frz o) s := rfl
@[simp] theorem kApp3_ex (x : A) : kApp3 x (.ex c fs s) = .ex c fs s := rfl
noncomputable def kApp2 (G : Ct) (e : E) (x : A) (s : Env) (r : Option Unit) : SR := okS r fun _ => kApp3 x (ev G e s)
@[simp] theorem kApp2_some0 (G : Ct) (e : E) (x : A) (s : Env) (u : Unit) : kApp2 G e x s (some u) = kApp3 x (ev G e s) := rfl
noncomputable def kApp (G : Ct) (e : E) (r : R A) : SR := r.st fun x s => kApp2 G e x s (isL (x.res s))
@[simp] theorem kApp_ok0 (G : Ct) (e : E) (x : A) : kApp G e (.ok x s) = kApp2 G e x s (isL (x.res s)) := rfl
@[simp] theorem kApp_ex (G : Ct) (e : E) : kApp G e (.ex c fs s) = .ex c fs s := rfl
@[simp] theorem evS_app (a e : E) : evS G pin (.app a e) s = kApp G e (pk a e s (ev G a s)) := by
  rw [evS]
  refine st_congr _ fun x s => ?_
  show okS (isL (x.res s)) _ = okS (isL (x.res s)) _
  congr 1
  funext _
  refine (asD_st _ _).trans (st_congr _ fun v s => ?_)
  cases v with
  | l _ => rfl
  | o o => cases x <;> rfl
@[simp] theorem appO_ (l : List D) (d : D) : appO (.ol l) d = if l.length < lim then some (.ol (l ++ [d])) else none := rfl
noncomputable def kInl4 (p : Pth) (k d : D) (s : Env) (r : Option O) : SR := okS r fun o => kApp5 p s (inlO o k d)
@[simp] theorem kInl4_some0 (p : Pth) (k d : D) (s : Env) (o : O) : kInl4 p k d s (some o) = kApp5 p s (inlO o k d) := rfl
noncomputable def kInlX (x : A) (k d : D) (s : Env) : SR := match x with
  | .ref p => kInl4 p k d s (getP s p)
  | .val _ => .er
@[simp] theorem kInlX_r (p : Pth) (k d : D) : kInlX (.ref p) k d s = kInl4 p k d s (getP s p) := rfl
noncomputable def kInl3 (x : A) (k : D) (r : R Vl) : SR := r.st fun v s => (match v with | .o o => kInlX x k (frz o) s | .l _ => .er)
@[simp] theorem kInl3_ok0 (x : A) (k : D) (o : O) : kInl3 x k (.ok (.o o) s) = kInlX x k (frz o) s := rfl
@[simp] theorem kInl3_ex (x : A) (k : D) : kInl3 x k (.ex c fs s) = .ex c fs s := rfl
noncomputable def kInl2 (G : Ct) (e : E) (x : A) (r : R Vl) : SR := r.st fun v s => (match v with | .o o => kInl3 x (frz o) (ev G e s) | .l _ => .er)
@[simp] theorem kInl2_ok0 (G : Ct) (e : E) (x : A) (o : O) : kInl2 G e x (.ok (.o o) s) = kInl3 x (frz o) (ev G e s) := rfl
@[simp] theorem kInl2_ex (G : Ct) (e : E) (x : A) : kInl2 G e x (.ex c fs s) = .ex c fs s := rfl
noncomputable def kInl1 (G : Ct) (i e : E) (x : A) (s : Env) (r : Option Unit) : SR := okS r fun _ => kInl2 G e x (ev G i s)
@[simp] theorem kInl1_some0 (G : Ct) (i e : E) (x : A) (s : Env) (u : Unit) : kInl1 G i e x s (some u) = kInl2 G e x (ev G i s) := rfl
noncomputable def kInl (G : Ct) (i e : E) (r : R A) : SR := r.st fun x s => kInl1 G i e x s (isL (x.res s))
@[simp] theorem kInl_ok0 (G : Ct) (i e : E) (x : A) : kInl G i e (.ok x s) = kInl1 G i e x s (isL (x.res s)) := rfl
@[simp] theorem kInl_ex (G : Ct) (i e : E) : kInl G i e (.ex c fs s) = .ex c fs s := rfl
@[simp] theorem evS_inl (a i e : E) : evS G pin (.inl a i e) s = kInl G i e (pk a (.cons i e) s (ev G a s)) := by
  rw [evS]
  refine st_congr _ fun x s => ?_
  show okS (isL (x.res s)) _ = okS (isL (x.res s)) _
  congr 1
  funext _
  refine (asD_st _ _).trans (st_congr _ fun v s => ?_)
  cases v with
  | l _ => rfl
  | o k =>
    refine (asD_st _ _).trans (st_congr _ fun v s => ?_)
    cases v with
    | l _ => rfl
    | o o => cases x <;> rfl
@[simp] theorem inlO_ (l : List D) (k : Int) (d : D) : inlO (.ol l) (.int k) d = if l.length < lim ∧ 0 ≤ k ∧ k ≤ l.length then some (.ol (insL k.toNat d l)) else none := rfl
noncomputable def kIf (G : Ct) (pin : List Nat) (a b : S) (r : R Bool) : SR := r.st fun k s => if k = true then evS G pin a s else evS G pin b s
@[simp] theorem kIf_ok0 (G : Ct) (pin : List Nat) (a b : S) (k : Bool) : kIf G pin a b (.ok k s) = if k = true then evS G pin a s else evS G pin b s := rfl
@[simp] theorem kIf_ex (G : Ct) (pin : List Nat) (a b : S) : kIf G pin a b (.ex c fs s) = .ex c fs s := rfl
@[simp] theorem evS_ife (d : E) (a b : S) : evS G pin (.ife d a b) s = kIf G pin a b (tru d s (ev G d s)) := by rw [evS]; rfl
noncomputable def kFor2 (G : Ct) (pin : List Nat) (t : Tg) (b : S) (s : Env) (r : Option (List D)) : SR := okS r fun l => if pinT pin t = true then .er else forL t pin (evS G pin b) l s
@[simp] theorem kFor2_some0 (G : Ct) (pin : List Nat) (t : Tg) (b : S) (s : Env) (l : List D) : kFor2 G pin t b s (some l) = if pinT pin t = true then .er else forL t pin (evS G pin b) l s := rfl
noncomputable def kFor (G : Ct) (pin : List Nat) (t : Tg) (b : S) (r : R Vl) : SR := r.st fun v s => (match v with | .o o => kFor2 G pin t b s (itemsD (frz o)) | .l _ => .er)
@[simp] theorem kFor_ok0 (G : Ct) (pin : List Nat) (t : Tg) (b : S) (o : O) : kFor G pin t b (.ok (.o o) s) = kFor2 G pin t b s (itemsD (frz o)) := rfl
@[simp] theorem kFor_ex (G : Ct) (pin : List Nat) (t : Tg) (b : S) : kFor G pin t b (.ex c fs s) = .ex c fs s := rfl
@[simp] theorem evS_for (t : Tg) (it : E) (b : S) : evS G pin (.for_ t it b) s = kFor G pin t b (ev G it s) := by rw [evS]; exact asD_st _ _
noncomputable def trR (G : Ct) (d : E) (s : Env) : R Bool := tru d s (ev G d s)
@[simp] theorem trR_ (d : E) : trR G d s = tru d s (ev G d s) := rfl
@[simp] theorem evS_whl (d : E) (b : S) : evS G pin (.whl d b) s = whlL (turn (trR G d) (evS G pin b)) s := by rw [evS]; rfl
@[simp] theorem pinT_nm (pin : List Nat) (i : Nat) : pinT pin (.nm i) = pin.contains i := rfl
@[simp] theorem pinT_two (pin : List Nat) (i j : Nat) : pinT pin (.two i j) = (pin.contains i || pin.contains j) := rfl
noncomputable def kRet  (r : R Vl) : SR := r.st fun v s => (match v with | .o o => .rt o s | .l _ => .er)
@[simp] theorem kRet_ok0  (o : O) : kRet  (.ok (.o o) s) = .rt o s := rfl
@[simp] theorem kRet_ex  : kRet  (.ex c fs s) = .ex c fs s := rfl
noncomputable def kRetV (G : Ct) (pin : List Nat) (i : Nat) (s : Env) (r : Option (Option O)) : SR := match r with | some (some o) => if i ∈ pin then kRet (ev G (.var i) s) else .rt o (s.set i none) | _ => .er
@[simp] theorem kRetV_some0 (G : Ct) (pin : List Nat) (i : Nat) (s : Env) (o : O) : kRetV G pin i s (some (some o)) = if i ∈ pin then kRet (ev G (.var i) s) else .rt o (s.set i none) := rfl
@[simp] theorem evS_retv (i : Nat) : evS G pin (.ret (.var i)) s = kRetV G pin i s (s[i]?) := by
  rw [evS]
  unfold kRetV
  rfl
@[simp] theorem evS_ret_lit (d : D) : evS G pin (.ret (.lit d)) s = kRet (ev G (.lit d) s) := by
  rw [evS]
  · exact asO_st _ _
  · intro i h; cases h
@[simp] theorem evS_ret_glb (x : Str) (d : D) : evS G pin (.ret (.glb x d)) s = kRet (ev G (.glb x d) s) := by
  rw [evS]
  · exact asO_st _ _
  · intro i h; cases h
@[simp] theorem evS_ret_nil  : evS G pin (.ret .nil) s = kRet (ev G .nil s) := by
  rw [evS]
  · exact asO_st _ _
  · intro i h; cases h
@[simp] theorem evS_ret_cons (a b : E) : evS G pin (.ret (.cons a b)) s = kRet (ev G (.cons a b) s) := by
  rw [evS]
  · exact asO_st _ _
  · intro i h; cases h
@[simp] theorem evS_ret_tup (a : E) : evS G pin (.ret (.tup a)) s = kRet (ev G (.tup a) s) := by
  rw [evS]
  · exact asO_st _ _
  · intro i h; cases h
@[simp] theorem evS_ret_lst (a : E) : evS G pin (.ret (.lst a)) s = kRet (ev G (.lst a) s) := by
  rw [evS]
  · exact asO_st _ _
  · intro i h; cases h
@[simp] theorem evS_ret_bin (op : Operator) (a b : E) : evS G pin (.ret (.bin op a b)) s = kRet (ev G (.bin op a b) s) := by
  rw [evS]
  · exact asO_st _ _
  · intro i h; cases h
@[simp] theorem evS_ret_neg (a : E) : evS G pin (.ret (.neg a)) s = kRet (ev G (.neg a) s) := by
  rw [evS]
  · exact asO_st _ _
  · intro i h; cases h
@[simp] theorem evS_ret_inv (a : E) : evS G pin (.ret (.inv a)) s = kRet (ev G (.inv a) s) := by
  rw [evS]
  · exact asO_st _ _
  · intro i h; cases h
@[simp] theorem evS_ret_cmp (op : CmpOp) (a b : E) : evS G pin (.ret (.cmp op a b)) s = kRet (ev G (.cmp op a b) s) := by
  rw [evS]
  · exact asO_st _ _
  · intro i h; cases h
@[simp] theorem evS_ret_chn (op op1 : CmpOp) (a b d : E) : evS G pin (.ret (.chn op op1 a b d)) s = kRet (ev G (.chn op op1 a b d) s) := by
  rw [evS]
  · exact asO_st _ _
  · intro i h; cases h
@[simp] theorem evS_ret_not (a : E) : evS G pin (.ret (.not a)) s = kRet (ev G (.not a) s) := by
  rw [evS]
  · exact asO_st _ _
  · intro i h; cases h
@[simp] theorem evS_ret_and (a b : E) : evS G pin (.ret (.and a b)) s = kRet (ev G (.and a b) s) := by
  rw [evS]
  · exact asO_st _ _
  · intro i h; cases h
@[simp] theorem evS_ret_or (a b : E) : evS G pin (.ret (.or a b)) s = kRet (ev G (.or a b) s) := by
  rw [evS]
  · exact asO_st _ _
  · intro i h; cases h
@[simp] theorem evS_ret_ite (d a b : E) : evS G pin (.ret (.ite d a b)) s = kRet (ev G (.ite d a b) s) := by
  rw [evS]
  · exact asO_st _ _
  · intro i h; cases h
@[simp] theorem evS_ret_idx (a b : E) : evS G pin (.ret (.idx a b)) s = kRet (ev G (.idx a b) s) := by
  rw [evS]
  · exact asO_st _ _
  · intro i h; cases h
@[simp] theorem evS_ret_slc (a b d : E) : evS G pin (.ret (.slc a b d)) s = kRet (ev G (.slc a b d) s) := by
  rw [evS]
  · exact asO_st _ _
  · intro i h; cases h
@[simp] theorem evS_ret_call (g : Nat) (a : E) : evS G pin (.ret (.call g a)) s = kRet (ev G (.call g a) s) := by
  rw [evS]
  · exact asO_st _ _
  · intro i h; cases h
@[simp] theorem evS_ret_mk (g : Nat) (a : E) : evS G pin (.ret (.mk g a)) s = kRet (ev G (.mk g a) s) := by
  rw [evS]
  · exact asO_st _ _
  · intro i h; cases h
@[simp] theorem evS_ret_meth (a : E) (m : Nat) (b : E) : evS G pin (.ret (.meth a m b)) s = kRet (ev G (.meth a m b) s) := by
  rw [evS]
  · exact asO_st _ _
  · intro i h; cases h
@[simp] theorem evS_ret_bi (x : Bi) (a : E) : evS G pin (.ret (.bi x a)) s = kRet (ev G (.bi x a) s) := by
  rw [evS]
  · exact asO_st _ _
  · intro i h; cases h
@[simp] theorem evS_ret_len (a : E) : evS G pin (.ret (.len a)) s = kRet (ev G (.len a) s) := by
  rw [evS]
  · exact asO_st _ _
  · intro i h; cases h
@[simp] theorem evS_ret_lrg (a : E) : evS G pin (.ret (.lrg a)) s = kRet (ev G (.lrg a) s) := by
  rw [evS]
  · exact asO_st _ _
  · intro i h; cases h
@[simp] theorem evS_ret_isi (a : E) (x : Is) : evS G pin (.ret (.isi a x)) s = kRet (ev G (.isi a x) s) := by
  rw [evS]
  · exact asO_st _ _
  · intro i h; cases h
@[simp] theorem evS_ret_rng (a : E) : evS G pin (.ret (.rng a)) s = kRet (ev G (.rng a) s) := by
  rw [evS]
  · exact asO_st _ _
  · intro i h; cases h
@[simp] theorem evS_ret_zip (a : E) : evS G pin (.ret (.zip a)) s = kRet (ev G (.zip a) s) := by
  rw [evS]
  · exact asO_st _ _
  · intro i h; cases h
@[simp] theorem evS_ret_itr (a : E) : evS G pin (.ret (.itr a)) s = kRet (ev G (.itr a) s) := by
  rw [evS]
  · exact asO_st _ _
  · intro i h; cases h
@[simp] theorem evS_ret_pop (a b : E) : evS G pin (.ret (.pop a b)) s = kRet (ev G (.pop a b) s) := by
  rw [evS]
  · exact asO_st _ _
  · intro i h; cases h
@[simp] theorem evS_ret_comp (vs : List Nat) (t : Tg) (a b d : E) : evS G pin (.ret (.comp vs t a b d)) s = kRet (ev G (.comp vs t a b d) s) := by
  rw [evS]
  · exact asO_st _ _
  · intro i h; cases h
@[simp] theorem evS_ret_pf (x : Pf) (a : E) : evS G pin (.ret (.pf x a)) s = kRet (ev G (.pf x a) s) := by
  rw [evS]
  · exact asO_st _ _
  · intro i h; cases h
@[simp] theorem evS_ret_bm0 (a : E) (x : Bm) : evS G pin (.ret (.bm0 a x)) s = kRet (ev G (.bm0 a x) s) := by
  rw [evS]
  · exact asO_st _ _
  · intro i h; cases h
@[simp] theorem evS_ret_bm1 (a : E) (x : Bm) (b : E) : evS G pin (.ret (.bm1 a x b)) s = kRet (ev G (.bm1 a x b) s) := by
  rw [evS]
  · exact asO_st _ _
  · intro i h; cases h
@[simp] theorem evS_ret_mk0 (k : Nat) : evS G pin (.ret (.mk0 k)) s = kRet (ev G (.mk0 k) s) := by
  rw [evS]
  · exact asO_st _ _
  · intro i h; cases h
@[simp] theorem evS_ret_cst (k l : Nat) : evS G pin (.ret (.cst k l)) s = kRet (ev G (.cst k l) s) := by
  rw [evS]
  · exact asO_st _ _
  · intro i h; cases h
@[simp] theorem evS_ret_clm (k l : Nat) (a : E) : evS G pin (.ret (.clm k l a)) s = kRet (ev G (.clm k l a) s) := by
  rw [evS]
  · exact asO_st _ _
  · intro i h; cases h
@[simp] theorem evS_ret_mkv (k l : Nat) (a : E) : evS G pin (.ret (.mkv k l a)) s = kRet (ev G (.mkv k l a) s) := by
  rw [evS]
  · exact asO_st _ _
  · intro i h; cases h
@[simp] theorem evS_ret_cal (k : Nat) (a : E) : evS G pin (.ret (.cal k a)) s = kRet (ev G (.cal k a) s) := by
  rw [evS]
  · exact asO_st _ _
  · intro i h; cases h
@[simp] theorem evS_ret_attr (a : E) (f : Nat) : evS G pin (.ret (.attr a f)) s = kRet (ev G (.attr a f) s) := by
  rw [evS]
  · exact asO_st _ _
  · intro i h; cases h
@[simp] theorem owned_n (i : Nat) : owned [] i = [] := rfl
@[simp] theorem owned_c (o : O) (r : List O) (i : Nat) : owned (o :: r) i = if o.own = true then i :: owned r (i + 1) else owned r (i + 1) := rfl
def finG (pin : List Nat) (s : Env) (i : Nat) : Nat → Env
  | 0 => []
  | n + 1 => (if i ∈ pin then s.getD i none else none) :: finG pin s (i + 1) n
theorem finG_get : ∀ (n i j : Nat), (finG pin s i n)[j]? = if j < n then some (if i + j ∈ pin then s.getD (i + j) none else none) else none
  | 0, i, j => by simp [finG]
  | n + 1, i, 0 => by simp [finG]
  | n + 1, i, j + 1 => by
    have := finG_get n (i + 1) j
    simp [finG, this, Nat.add_assoc, Nat.add_comm 1 j]
@[simp] theorem fin_ (n : Nat) : fin pin n s = finG pin s 0 n := by
  apply List.ext_getElem?
  intro j
  rw [finG_get, Nat.zero_add]
  unfold fin
  rw [List.getElem?_map]
  by_cases h : j < n
  · rw [if_pos h, List.getElem?_range h] <;> rfl
  · rw [if_neg h, List.getElem?_eq_none (by simpa using h)] <;> rfl
@[simp] theorem finG_0 (i : Nat) : finG pin s i 0 = [] := rfl
@[simp] theorem finG_s (i n : Nat) : finG pin s i (n + 1) = (if i ∈ pin then s.getD i none else none) :: finG pin s (i + 1) n := rfl
@[simp] theorem outR_nx (n : Nat) : outR pin n (.nx s) = .ret (.sh .non) (fin pin n s) := rfl
@[simp] theorem outR_rt (n : Nat) (o : O) : outR pin n (.rt o s) = .ret o (fin pin n s) := rfl
@[simp] theorem outR_ex (n : Nat) : outR pin n (.ex c fs s) = .ex c fs (fin pin n s) := rfl
end
end Vm.Rn

namespace Vm.Rn
open PySem
section
variable {G : Ct} {pin : List Nat} {s : Env}
theorem drop_cons {α : Type} {l : List α} {i : Nat} {d : α} (h : l[i]? = some d) : l.drop i = d :: l.drop (i + 1) := by
  obtain ⟨hi, e⟩ := List.getElem?_eq_some_iff.mp h
  rw [List.drop_eq_getElem_cons hi, e]
/-- what a turn comes to: the loop goes on, or ends -/
def TurnOk (P : Env → Prop) (Q : SR → Prop) : SR → Prop
  | .nx s => P s
  | .ct s => P s
  | .bk s => Q (.nx s)
  | r => Q r
@[simp] theorem TurnOk_nx (P : Env → Prop) (Q : SR → Prop) : TurnOk P Q (.nx s) = P s := rfl
@[simp] theorem TurnOk_ct (P : Env → Prop) (Q : SR → Prop) : TurnOk P Q (.ct s) = P s := rfl
@[simp] theorem TurnOk_bk (P : Env → Prop) (Q : SR → Prop) : TurnOk P Q (.bk s) = Q (.nx s) := rfl
@[simp] theorem TurnOk_rt (P : Env → Prop) (Q : SR → Prop) (o : O) : TurnOk P Q (.rt o s) = Q (.rt o s) := rfl
@[simp] theorem TurnOk_ex (P : Env → Prop) (Q : SR → Prop) (c : Nat) (f : List (Nat × D)) : TurnOk P Q (.ex c f s) = Q (.ex c f s) := rfl
theorem forL_at {t : Tg} {b : Env → SR} (l : List D) (P : Nat → Env → Prop) (Q : SR → Prop)
    (step : ∀ i d s, l[i]? = some d → P i s → ∃ s1, tgt t d s = some s1 ∧ TurnOk (P (i + 1)) Q (b s1)) (hend : ∀ s, P l.length s → Q (.nx s)) :
    ∀ n i s, l.length - i = n → i ≤ l.length → P i s → Q (forL t pin b (l.drop i) s)
  | 0, i, s, e, hi, h => by
    have : i = l.length := by omega
    subst this
    rw [List.drop_length]
    exact hend s h
  | n + 1, i, s, e, hi, h => by
    have lt : i < l.length := by omega
    have hd : l[i]? = some l[i] := List.getElem?_eq_getElem lt
    obtain ⟨s1, h1, h2⟩ := step i _ s hd h
    rw [drop_cons hd]
    unfold forL
    rw [h1]
    dsimp only
    have go := fun s2 (h3 : P (i + 1) s2) => forL_at l P Q step hend n (i + 1) s2 (by omega) (by omega) h3
    revert h2
    generalize b s1 = r
    intro h2
    cases r with
    | nx s2 => exact go s2 h2
    | ct s2 => exact go s2 h2
    | bk s2 => exact h2
    | rt o s2 => exact h2
    | ex k f s2 => exact h2
    | er => exact h2
theorem forL_by {t : Tg} {b : Env → SR} {l : List D} (P : Nat → Env → Prop) (Q : SR → Prop) (h0 : P 0 s)
    (step : ∀ i d s, l[i]? = some d → P i s → ∃ s1, tgt t d s = some s1 ∧ TurnOk (P (i + 1)) Q (b s1)) (hend : ∀ s, P l.length s → Q (.nx s)) : Q (forL t pin b l s) := by
  have := forL_at (pin := pin) l P Q step hend l.length 0 s (by omega) (by omega) h0
  rwa [List.drop_zero] at this
/-- a loop that goes through -/
theorem forL_nx {t : Tg} {b : Env → SR} {l : List D} (P : Nat → Env → Prop) (h0 : P 0 s)
    (step : ∀ i d s, l[i]? = some d → P i s → ∃ s1, tgt t d s = some s1 ∧ ∃ s2, b s1 = .nx s2 ∧ P (i + 1) s2) : ∃ s', forL t pin b l s = .nx s' ∧ P l.length s' :=
  forL_by P (fun r => ∃ s', r = .nx s' ∧ P l.length s') h0 (fun i d s hd hp => by
    obtain ⟨s1, h1, s2, h2, h3⟩ := step i d s hd hp
    exact ⟨s1, h1, by rw [h2]; exact h3⟩) fun s h => ⟨s, rfl, h⟩
/-- a comprehension -/
theorem cmpR_at {s0 : Env} {vs : List Nat} {t : Tg} {ts el : E} (l : List D) (P : Nat → List D → Env → Prop)
    (step : ∀ i d acc s, l[i]? = some d → P i acc s → ∃ s1, tgt t d (wipe s vs) = some s1 ∧ ((∃ s2 x s3, tsR G ts s1 = .ok true s2 ∧ elR G el s2 = .ok x s3 ∧ P (i + 1) (acc ++ [x]) (back s0 s3 vs)) ∨ (∃ s2, tsR G ts s1 = .ok false s2 ∧ P (i + 1) acc (back s0 s2 vs)))) :
    ∀ n i acc s, l.length - i = n → i ≤ l.length → P i acc s → ∃ acc' s', cmpR G s0 vs t ts el (l.drop i) acc s = .ok acc' s' ∧ P l.length acc' s'
  | 0, i, acc, s, e, hi, h => by
    have : i = l.length := by omega
    subst this
    rw [List.drop_length]
    exact ⟨acc, s, rfl, h⟩
  | n + 1, i, acc, s, e, hi, h => by
    have lt : i < l.length := by omega
    have hd : l[i]? = some l[i] := List.getElem?_eq_getElem lt
    obtain ⟨s1, h1, h2⟩ := step i _ acc s hd h
    rw [drop_cons hd]
    rcases h2 with ⟨s2, x, s3, h3, h4, h5⟩ | ⟨s2, h3, h5⟩
    · rw [cmpR_in h1 h3 h4]
      exact cmpR_at l P step n (i + 1) _ _ (by omega) (by omega) h5
    · rw [cmpR_out h1 h3]
      exact cmpR_at l P step n (i + 1) _ _ (by omega) (by omega) h5
theorem cmpR_by {s0 : Env} {vs : List Nat} {t : Tg} {ts el : E} {l : List D} (P : Nat → List D → Env → Prop) (h0 : P 0 [] s)
    (step : ∀ i d acc s, l[i]? = some d → P i acc s → ∃ s1, tgt t d (wipe s vs) = some s1 ∧ ((∃ s2 x s3, tsR G ts s1 = .ok true s2 ∧ elR G el s2 = .ok x s3 ∧ P (i + 1) (acc ++ [x]) (back s0 s3 vs)) ∨ (∃ s2, tsR G ts s1 = .ok false s2 ∧ P (i + 1) acc (back s0 s2 vs)))) :
    ∃ acc' s', cmpR G s0 vs t ts el l [] s = .ok acc' s' ∧ P l.length acc' s' := by
  have := cmpR_at (G := G) (s0 := s0) l P step l.length 0 [] s (by omega) (by omega) h0
  rwa [List.drop_zero] at this
/-- a comprehension that changes nothing: its elements one by one -/
theorem cmpR_map {s0 : Env} {vs : List Nat} {t : Tg} {el : E} {l : List D} (f : D → D)
    (step : ∀ d ∈ l, ∃ s1 s2, tgt t d (wipe s vs) = some s1 ∧ elR G el s1 = .ok (f d) s2 ∧ back s0 s2 vs = s) :
    cmpR G s0 vs t .nil el l [] s = .ok (l.map f) s := by
  obtain ⟨acc, s', h1, h2, h3⟩ := cmpR_by (G := G) (s0 := s0) (vs := vs) (t := t) (ts := .nil) (el := el) (l := l) (s := s) (fun i acc s' => acc = (l.take i).map f ∧ s' = s) ⟨rfl, rfl⟩ (by
    rintro i d acc s' hd ⟨rfl, rfl⟩
    obtain ⟨s1, s2, h1, h2, h3⟩ := step d (List.mem_of_getElem? hd)
    obtain ⟨hi, e⟩ := List.getElem?_eq_some_iff.mp hd
    refine ⟨s1, h1, .inl ⟨s1, f d, s2, rfl, h2, ?_, h3⟩⟩
    rw [List.take_add_one, hd, List.map_append] <;> rfl)
  rw [h1, h2, h3, List.take_length]
/-- .. over things -/
theorem cmpR_maps {α : Type} {s0 : Env} {vs : List Nat} {t : Tg} {el : E} {L : List α} (emb f : α → D)
    (step : ∀ a ∈ L, ∃ s1 s2, tgt t (emb a) (wipe s vs) = some s1 ∧ elR G el s1 = .ok (f a) s2 ∧ back s0 s2 vs = s) :
    cmpR G s0 vs t .nil el (L.map emb) [] s = .ok (L.map f) s := by
  obtain ⟨acc, s', h1, h2, h3⟩ := cmpR_by (G := G) (s0 := s0) (vs := vs) (t := t) (ts := .nil) (el := el) (l := L.map emb) (s := s) (fun i acc s' => acc = (L.take i).map f ∧ s' = s) ⟨rfl, rfl⟩ (by
    rintro i d acc s' hd ⟨rfl, rfl⟩
    rw [List.getElem?_map] at hd
    cases e : L[i]? with
    | none => rw [e] at hd; cases hd
    | some a =>
      rw [e] at hd
      have hd : emb a = d := Option.some.inj hd
      subst hd
      obtain ⟨s1, s2, h1, h2, h3⟩ := step a (List.mem_of_getElem? e)
      refine ⟨s1, h1, .inl ⟨s1, f a, s2, rfl, h2, ?_, h3⟩⟩
      rw [List.take_add_one, e, List.map_append] <;> rfl)
  rw [h1, h2, h3, List.length_map, List.take_length]
theorem cmpR_filters {α : Type} {s0 : Env} {vs : List Nat} {t : Tg} {ts el : E} {L : List α} (emb : α → D) (p : α → Bool) (f : α → D)
    (step : ∀ a ∈ L, ∃ s1, tgt t (emb a) (wipe s vs) = some s1 ∧ ∃ s2, tsR G ts s1 = .ok (p a) s2 ∧ (if p a = true then ∃ s3, elR G el s2 = .ok (f a) s3 ∧ back s0 s3 vs = s else back s0 s2 vs = s)) :
    cmpR G s0 vs t ts el (L.map emb) [] s = .ok ((L.filter p).map f) s := by
  obtain ⟨acc, s', h1, h2, h3⟩ := cmpR_by (G := G) (s0 := s0) (vs := vs) (t := t) (ts := ts) (el := el) (l := L.map emb) (s := s) (fun i acc s' => acc = ((L.take i).filter p).map f ∧ s' = s) ⟨rfl, rfl⟩ (by
    rintro i d acc s' hd ⟨rfl, rfl⟩
    rw [List.getElem?_map] at hd
    cases e : L[i]? with
    | none => rw [e] at hd; cases hd
    | some a =>
      rw [e] at hd
      have hd : emb a = d := Option.some.inj hd
      subst hd
      obtain ⟨s1, h1, s2, h2, h3⟩ := step a (List.mem_of_getElem? e)
      refine ⟨s1, h1, ?_⟩
      rw [List.take_add_one, e]
      cases hp : p a with
      | true =>
        rw [hp] at h2 h3
        obtain ⟨s3, h4, h5⟩ := h3
        exact .inl ⟨s2, f a, s3, h2, h4, by simp [hp], h5⟩
      | false =>
        rw [hp] at h2 h3
        exact .inr ⟨s2, h2, by simp [hp], h3⟩)
  rw [h1, h2, h3, List.length_map, List.take_length]
/-- a loop over things -/
theorem forL_things {α : Type} {t : Tg} {b : Env → SR} {L : List α} (emb : α → D) (P : Nat → Env → Prop) (Q : SR → Prop) (h0 : P 0 s)
    (step : ∀ i a s, L[i]? = some a → P i s → ∃ s1, tgt t (emb a) s = some s1 ∧ TurnOk (P (i + 1)) Q (b s1)) (hend : ∀ s, P L.length s → Q (.nx s)) : Q (forL t pin b (L.map emb) s) :=
  forL_by P Q h0 (fun i d s hd hp => by
    rw [List.getElem?_map] at hd
    cases e : L[i]? with
    | none => rw [e] at hd; cases hd
    | some a =>
      rw [e] at hd
      have hd : emb a = d := Option.some.inj hd
      subst hd
      exact step i a s e hp) (fun s h => hend s (by rwa [List.length_map] at h))
/-- .. over a range -/
theorem forL_rng {t : Tg} {b : Env → SR} {lo : Int} {n : Nat} (P : Nat → Env → Prop) (Q : SR → Prop) (h0 : P 0 s)
    (step : ∀ i s, i < n → P i s → ∃ s1, tgt t (.int (lo + i)) s = some s1 ∧ TurnOk (P (i + 1)) Q (b s1)) (hend : ∀ s, P n s → Q (.nx s)) : Q (forL t pin b (rngD lo n) s) :=
  forL_by P Q h0 (fun i d s hd hp => by
    unfold rngD at hd
    rw [List.getElem?_map] at hd
    by_cases hi : i < n
    · rw [List.getElem?_range hi] at hd
      have hd : D.int (lo + i) = d := Option.some.inj hd
      subst hd
      exact step i s hi hp
    · rw [List.getElem?_eq_none (by simpa using hi)] at hd
      cases hd) (fun s h => hend s (by simpa [rngD] using h))
theorem forL_rngN {t : Tg} {b : Env → SR} {lo : Int} {n : Nat} (P : Nat → Env → Prop) (h0 : P 0 s)
    (step : ∀ i s, i < n → P i s → ∃ s1, tgt t (.int (lo + i)) s = some s1 ∧ TurnOk (P (i + 1)) (fun _ => False) (b s1)) : ∃ s', forL t pin b (rngD lo n) s = .nx s' ∧ P n s' :=
  forL_rng P (fun r => ∃ s', r = .nx s' ∧ P n s') h0 (fun i s hi hp => by
    obtain ⟨s1, h1, h2⟩ := step i s hi hp
    refine ⟨s1, h1, ?_⟩
    revert h2
    cases b s1 with
    | nx s2 => exact id
    | ct s2 => exact id
    | bk s2 => exact False.elim
    | rt o s2 => exact False.elim
    | ex k f s2 => exact False.elim
    | er => exact False.elim) fun s h => ⟨s, rfl, h⟩
theorem forL_thingsN {α : Type} {t : Tg} {b : Env → SR} {L : List α} (emb : α → D) (P : Nat → Env → Prop) (h0 : P 0 s)
    (step : ∀ i a s, L[i]? = some a → P i s → ∃ s1, tgt t (emb a) s = some s1 ∧ TurnOk (P (i + 1)) (fun _ => False) (b s1)) : ∃ s', forL t pin b (L.map emb) s = .nx s' ∧ P L.length s' :=
  forL_things emb P (fun r => ∃ s', r = .nx s' ∧ P L.length s') h0 (fun i a s hi hp => by
    obtain ⟨s1, h1, h2⟩ := step i a s hi hp
    refine ⟨s1, h1, ?_⟩
    revert h2
    cases b s1 with
    | nx s2 => exact id
    | ct s2 => exact id
    | bk s2 => exact False.elim
    | rt o s2 => exact False.elim
    | ex k f s2 => exact False.elim
    | er => exact False.elim) fun s h => ⟨s, rfl, h⟩
/-- .. with a test -/
theorem cmpR_filter {s0 : Env} {vs : List Nat} {t : Tg} {ts el : E} {l : List D} (p : D → Bool) (f : D → D)
    (step : ∀ d ∈ l, ∃ s1, tgt t d (wipe s vs) = some s1 ∧ ∃ s2, tsR G ts s1 = .ok (p d) s2 ∧ (if p d = true then ∃ s3, elR G el s2 = .ok (f d) s3 ∧ back s0 s3 vs = s else back s0 s2 vs = s)) :
    cmpR G s0 vs t ts el l [] s = .ok ((l.filter p).map f) s := by
  obtain ⟨acc, s', h1, h2, h3⟩ := cmpR_by (G := G) (s0 := s0) (vs := vs) (t := t) (ts := ts) (el := el) (l := l) (s := s) (fun i acc s' => acc = ((l.take i).filter p).map f ∧ s' = s) ⟨rfl, rfl⟩ (by
    rintro i d acc s' hd ⟨rfl, rfl⟩
    obtain ⟨s1, h1, s2, h2, h3⟩ := step d (List.mem_of_getElem? hd)
    refine ⟨s1, h1, ?_⟩
    rw [List.take_add_one, hd]
    cases hp : p d with
    | true =>
      rw [hp] at h2 h3
      obtain ⟨s3, h4, h5⟩ := h3
      exact .inl ⟨s2, f d, s3, h2, h4, by simp [hp], h5⟩
    | false =>
      rw [hp] at h2 h3
      exact .inr ⟨s2, h2, by simp [hp], h3⟩)
  rw [h1, h2, h3, List.take_length]
@[simp] theorem rngD_len (a : Int) (n : Nat) : (rngD a n).length = n := by simp [rngD]
theorem rngD_get {a : Int} {n i : Nat} {d : D} : (rngD a n)[i]? = some d ↔ i < n ∧ d = .int (a + i) := by
  unfold rngD
  rw [List.getElem?_map]
  by_cases h : i < n
  · rw [List.getElem?_range h]
    simp [h, eq_comm]
  · rw [List.getElem?_eq_none (by simpa using h)]
    simp [h]
theorem rngD_mem {a : Int} {n : Nat} {d : D} : d ∈ rngD a n ↔ ∃ i, i < n ∧ d = .int (a + i) := by
  unfold rngD
  simp [eq_comm]
/-- a while that ends -/
theorem whl_by {c : Env → R Bool} {b : Env → SR} (P : Env → Prop) (m : Env → Nat) (Q : SR → Prop)
    (step : ∀ s, P s → match turn c b s with
      | .go s1 => P s1 ∧ m s1 < m s
      | .end_ r => Q r) : ∀ n s, m s ≤ n → P s → Q (whlL (turn c b) s) := by
  intro n
  induction n with
  | zero =>
    intro s hm hp
    have := step s hp
    revert this
    cases e : turn c b s with
    | go s1 => intro h; have := h.2; omega
    | end_ r => intro h; rw [whlL_end e]; exact h
  | succ n ih =>
    intro s hm hp
    have := step s hp
    revert this
    cases e : turn c b s with
    | go s1 => intro h; rw [whlL_go e]; exact ih s1 (by omega) h.1
    | end_ r => intro h; rw [whlL_end e]; exact h
end
end Vm.Rn

namespace Vm
open PySem
/-- plain data of a depth, no row too long -/
def okD : Nat → D → Prop
  | _, .non | _, .bl _ | _, .int _ => True
  | _, .str s => PyData.strOk s = true
  | n + 1, .tup l => l.length ≤ lim ∧ ∀ x ∈ l, okD n x
  | n + 1, .lst l => l.length ≤ lim ∧ ∀ x ∈ l, okD n x
  | _, _ => False
mutual
def toP : D → PyData
  | .non => .none
  | .bl b => .bool b
  | .int i => .int i
  | .str s => .str s
  | .tup l => .tuple (toPs l)
  | .lst l => .list (toPs l)
  | .ins _ _ => .none
  | .scr _ => .none
  | .cls _ => .none
  | .dct _ => .none
def toPs : List D → List PyData
  | [] => []
  | d :: r => toP d :: toPs r
end
theorem toPs_map : ∀ l : List D, toPs l = l.map toP
  | [] => rfl
  | d :: r => by rw [toPs, toPs_map r]; rfl
theorem okD_mono : ∀ {n m : Nat} {d : D}, n ≤ m → okD n d → okD m d
  | _, _, .non, _, _ => by unfold okD; trivial
  | _, _, .bl _, _, _ => by unfold okD; trivial
  | _, _, .int _, _, _ => by unfold okD; trivial
  | n, m, .str s, _, k => by unfold okD at k ⊢; exact k
  | n + 1, m + 1, .tup l, h, k => ⟨k.1, fun x hx => okD_mono (Nat.le_of_succ_le_succ h) (k.2 x hx)⟩
  | n + 1, m + 1, .lst l, h, k => ⟨k.1, fun x hx => okD_mono (Nat.le_of_succ_le_succ h) (k.2 x hx)⟩
  | 0, _, .tup _, _, k => k.elim
  | 0, _, .lst _, _, k => k.elim
  | 0, _, .ins _ _, _, k => k.elim
  | 0, _, .scr _, _, k => k.elim
  | 0, _, .cls _, _, k => k.elim
  | 0, _, .dct _, _, k => k.elim
  | _ + 1, _, .ins _ _, _, k => k.elim
  | _ + 1, _, .scr _, _, k => k.elim
  | _ + 1, _, .cls _, _, k => k.elim
  | _ + 1, _, .dct _, _, k => k.elim
  | _ + 1, 0, .tup _, h, _ => by omega
  | _ + 1, 0, .lst _, h, _ => by omega
theorem toPyL_all : ∀ {l : List D}, (∀ x ∈ l, toPy x = some (toP x)) → toPyL l = some (l.map toP)
  | [], _ => rfl
  | d :: r, h => by
    rw [toPyL, h d (by simp), toPyL_all fun x hx => h x (by simp [hx])]
    rfl
theorem depthAll_le {n : Nat} : ∀ {l : List PyData}, (∀ x ∈ l, x.depth ≤ n) → PyData.depthAll l ≤ n
  | [], _ => Nat.zero_le _
  | d :: r, h => by
    rw [PyData.depthAll]
    exact Nat.max_le.mpr ⟨h d (by simp), depthAll_le fun x hx => h x (by simp [hx])⟩
theorem canLayAll_of : ∀ {l : List PyData}, (∀ x ∈ l, x.canLay0 = true) → PyData.canLayAll0 l = true
  | [], _ => rfl
  | d :: r, h => by
    rw [PyData.canLayAll0, h d (by simp), canLayAll_of fun x hx => h x (by simp [hx])]
    rfl
theorem okD_py : ∀ {n : Nat} {d : D}, okD n d → toPy d = some (toP d) ∧ (toP d).depth ≤ n ∧ (toP d).canLay0 = true
  | _, .non, _ => ⟨by simp [toPy, toP], by simp [toP, PyData.depth], by simp [toP, PyData.canLay0]⟩
  | _, .bl _, _ => ⟨by simp [toPy, toP], by simp [toP, PyData.depth], by simp [toP, PyData.canLay0]⟩
  | _, .int _, _ => ⟨by simp [toPy, toP], by simp [toP, PyData.depth], by simp [toP, PyData.canLay0]⟩
  | n, .str s, k => ⟨by simp [toPy, toP], by simp [toP, PyData.depth], by unfold okD at k; simpa [toP, PyData.canLay0] using k⟩
  | n + 1, .tup l, h => by
    have ih := fun x hx => okD_py (h.2 x hx)
    refine ⟨?_, ?_, ?_⟩
    · simp [toPy, toP, toPs_map, toPyL_all fun x hx => (ih x hx).1]
    · rw [toP, PyData.depth, toPs_map]
      have := depthAll_le (n := n) (l := l.map toP) (by
        intro x hx
        obtain ⟨y, hy, rfl⟩ := List.mem_map.mp hx
        exact (ih y hy).2.1)
      omega
    · rw [toP, PyData.canLay0, toPs_map]
      exact canLayAll_of (by
        intro x hx
        obtain ⟨y, hy, rfl⟩ := List.mem_map.mp hx
        exact (ih y hy).2.2)
  | n + 1, .lst l, h => by
    have ih := fun x hx => okD_py (h.2 x hx)
    refine ⟨?_, ?_, ?_⟩
    · simp [toPy, toP, toPs_map, toPyL_all fun x hx => (ih x hx).1]
    · rw [toP, PyData.depth, toPs_map]
      have := depthAll_le (n := n) (l := l.map toP) (by
        intro x hx
        obtain ⟨y, hy, rfl⟩ := List.mem_map.mp hx
        exact (ih y hy).2.1)
      omega
    · rw [toP, PyData.canLay0, toPs_map]
      exact canLayAll_of (by
        intro x hx
        obtain ⟨y, hy, rfl⟩ := List.mem_map.mp hx
        exact (ih y hy).2.2)
  | 0, .tup _, k => k.elim
  | 0, .lst _, k => k.elim
  | 0, .ins _ _, k => k.elim
  | 0, .scr _, k => k.elim
  | 0, .cls _, k => k.elim
  | 0, .dct _, k => k.elim
  | _ + 1, .ins _ _, k => k.elim
  | _ + 1, .scr _, k => k.elim
  | _ + 1, .cls _, k => k.elim
  | _ + 1, .dct _, k => k.elim
theorem okD_shaped {n : Nat} {d : D} (h : okD n d) (hn : n ≤ 60) : SeqAt.shaped (toP d) = true := by
  obtain ⟨_, h2, h3⟩ := okD_py h
  unfold SeqAt.shaped
  rw [h3, Bool.true_and]
  exact decide_eq_true (by omega)
/-- == of tuples -/
theorem eqQ_tup {n : Nat} {a b : List D} (ha : okD n (.tup a)) (hb : okD n (.tup b)) (hn : n ≤ 60) : eqQ (.tup a) (.tup b) = some (PyData.eqv (toP (.tup a)) (toP (.tup b))) := by
  have sa := okD_shaped ha hn
  have sb := okD_shaped hb hn
  obtain ⟨a1, _, _⟩ := okD_py ha
  obtain ⟨b1, _, _⟩ := okD_py hb
  have fa : toPyL a = some (toPs a) := by
    cases e : toPyL a with
    | none => rw [toPy, e] at a1; cases a1
    | some p => rw [toPy, e] at a1; rw [toP] at a1; injection a1 with a1; injection a1 with a1; rw [a1]
  have fb : toPyL b = some (toPs b) := by
    cases e : toPyL b with
    | none => rw [toPy, e] at b1; cases b1
    | some p => rw [toPy, e] at b1; rw [toP] at b1; injection b1 with b1; injection b1 with b1; rw [b1]
  rw [toP] at sa sb
  simp only [eqQ, fa, fb, toP]
  rw [if_pos ⟨sa, sb⟩]
theorem eqQ_lst {n : Nat} {a b : List D} (ha : okD n (.lst a)) (hb : okD n (.lst b)) (hn : n ≤ 60) : eqQ (.lst a) (.lst b) = some (PyData.eqv (toP (.lst a)) (toP (.lst b))) := by
  have sa := okD_shaped ha hn
  have sb := okD_shaped hb hn
  obtain ⟨a1, _, _⟩ := okD_py ha
  obtain ⟨b1, _, _⟩ := okD_py hb
  have fa : toPyL a = some (toPs a) := by
    cases e : toPyL a with
    | none => rw [toPy, e] at a1; cases a1
    | some p => rw [toPy, e] at a1; rw [toP] at a1; injection a1 with a1; injection a1 with a1; rw [a1]
  have fb : toPyL b = some (toPs b) := by
    cases e : toPyL b with
    | none => rw [toPy, e] at b1; cases b1
    | some p => rw [toPy, e] at b1; rw [toP] at b1; injection b1 with b1; injection b1 with b1; rw [b1]
  rw [toP] at sa sb
  simp only [eqQ, fa, fb, toP]
  rw [if_pos ⟨sa, sb⟩]
/-- <, <= of tuples -/
theorem ordQ_tup {n : Nat} {a b : List D} {f : PyData → PyData → Bool} (ha : okD n (.tup a)) (hb : okD n (.tup b)) (hn : n ≤ 60) (al : W.alike (toP (.tup a)) (toP (.tup b)) = true) : ordQ f (.tup a) (.tup b) = some (f (toP (.tup a)) (toP (.tup b))) := by
  obtain ⟨a1, a2, _⟩ := okD_py ha
  obtain ⟨b1, b2, _⟩ := okD_py hb
  unfold ordQ
  rw [a1, b1]
  dsimp only
  rw [if_pos ⟨al, by rw [toP]; rfl, by omega⟩]
theorem cutD_take (l : List D) (k : Nat) : cutD l none (some (k : Int)) = l.take k := by
  unfold cutD
  rw [HT.sIx_none, HT.sIx_nat]
  rcases Nat.le_total k l.length with h | h
  · rw [Nat.min_eq_left h]
    simp
  · rw [Nat.min_eq_right h, List.take_of_length_le h]
    simp
theorem cutD_drop (l : List D) (k : Nat) : cutD l (some (k : Int)) none = l.drop k := by
  unfold cutD
  rw [HT.sIx_none, HT.sIx_nat]
  rcases Nat.le_total k l.length with h | h
  · rw [Nat.min_eq_left h, List.take_of_length_le (by simp)]
  · rw [Nat.min_eq_right h, List.drop_length, List.drop_of_length_le h]
    simp
theorem alikeAll_map {α β : Type} (f : α → PyData) (g : β → PyData) (h : ∀ a b, W.alike (f a) (g b) = true) : ∀ (l : List α) (m : List β), W.alikeAll (l.map f) (m.map g) = true
  | [], _ => by simp [W.alikeAll]
  | _ :: _, [] => by simp [W.alikeAll]
  | a :: l, b :: m => by simp [W.alikeAll, h, alikeAll_map f g h l m]
end Vm

namespace Law
open PySem PySem.Spec PyProof.Rows L2 Vm
def top (i : Nat) : Stmt := PySem.Challenge.pw_headedlots_k14_whole_sets_that_lots_ente.main.body.getD i (.Pass ⟨0, 0, 0, 0⟩)
def clsS (s : Stmt) (j : Nat) : Stmt := match s with
  | .ClassDef _ _ _ b _ _ _ _ _ _ _ => b.getD j (.Pass ⟨0, 0, 0, 0⟩)
  | _ => s
def law_same_L1 : S :=
  (.seq (.ife (.not (.call 0 (.cons (.idx (.var 0) (.var 2)) (.cons (.idx (.var 1) (.var 2)) .nil))))
    (.seq (.ret (.lit (.bl false)))
  .nop)
    .nop)
  .nop)
/-- _law_same(actual, expected); slots 0 actual, 1 expected, 2 k -/
def b_law_same : S :=
  (.seq (.ife (.isi (.var 1) .bool)
    (.seq (.ret (.and (.isi (.var 0) .bool) (.cmp .Eq (.var 0) (.var 1))))
  .nop)
    .nop)
  (.seq (.ife (.isi (.var 1) .int)
    (.seq (.ret (.and (.call 8 (.cons (.var 0) .nil)) (.cmp .Eq (.var 0) (.var 1))))
  .nop)
    .nop)
  (.seq (.ife (.isi (.var 1) .str)
    (.seq (.ret (.and (.isi (.var 0) .str) (.cmp .Eq (.var 0) (.var 1))))
  .nop)
    .nop)
  (.seq (.ife (.cmp .Is (.var 1) (.lit .non))
    (.seq (.ret (.cmp .Is (.var 0) (.lit .non)))
  .nop)
    .nop)
  (.seq (.ife (.and (.isi (.var 1) .tuple) (.not (.isi (.var 0) .tuple)))
    (.seq (.ret (.lit (.bl false)))
  .nop)
    .nop)
  (.seq (.ife (.and (.isi (.var 1) .list) (.not (.isi (.var 0) .list)))
    (.seq (.ret (.lit (.bl false)))
  .nop)
    .nop)
  (.seq (.ife (.cmp .NotEq (.len (.var 0)) (.len (.var 1)))
    (.seq (.ret (.lit (.bl false)))
  .nop)
    .nop)
  (.seq (.for_ (.nm 2) (.rng (.cons (.len (.var 1)) .nil)) law_same_L1)
  (.seq (.ret (.lit (.bl true)))
  .nop)))))))))
def d_law_same : DfI := ⟨.glo "_law_same", "_law_same", "_law_same", (top 18), ["actual", "expected"], ["actual", "expected", "k"], [], b_law_same⟩
/-- _law_draw(source, limit); slots 0 source, 1 limit, 2 told -/
def b_law_draw : S :=
  (.seq (.ife (.cmp .Eq (.idx (.var 0) (.lit (.int 3))) (.lit (.int 0)))
    (.seq (.ife (.cmp .GtE (.idx (.var 0) (.lit (.int 1))) (.len (.idx (.var 0) (.lit (.int 0)))))
    (.seq (.ret (.lit (.int 0)))
  .nop)
    .nop)
  (.seq (.sub (.var 0) (.lit (.int 2)) (.idx (.idx (.var 0) (.lit (.int 0))) (.idx (.var 0) (.lit (.int 1)))))
  (.seq (.sub (.var 0) (.lit (.int 1)) (.bin .Add (.idx (.var 0) (.lit (.int 1))) (.lit (.int 1))))
  (.seq (.sub (.var 0) (.lit (.int 5)) (.cmp .GtE (.idx (.var 0) (.lit (.int 2))) (.bin .Pow (.lit (.int 10)) (.lit (.int 18)))))
  (.seq (.sub (.var 0) (.lit (.int 3)) (.lit (.int 9)))
  (.seq (.ife (.idx (.var 0) (.lit (.int 5)))
    (.seq (.sub (.var 0) (.lit (.int 3)) (.lit (.int 60)))
  .nop)
    .nop)
  .nop))))))
    .nop)
  (.seq (.sub (.var 0) (.lit (.int 3)) (.bin .Sub (.idx (.var 0) (.lit (.int 3))) (.lit (.int 1))))
  (.seq (.sub (.var 0) (.lit (.int 4)) (.bin .Add (.idx (.var 0) (.lit (.int 4))) (.lit (.int 1))))
  (.seq (.ife (.not (.idx (.var 0) (.lit (.int 5))))
    (.seq (.ret (.bin .Mod (.bi .int (.cons (.call 6 (.cons (.idx (.var 0) (.lit (.int 2))) (.cons (.idx (.var 0) (.lit (.int 4))) .nil))) .nil)) (.var 1)))
  .nop)
    .nop)
  (.seq (.asg 2 (.bin .Mod (.bi .int (.cons (.idx (.var 0) (.lit (.int 2))) .nil)) (.var 1)))
  (.seq (.sub (.var 0) (.lit (.int 2)) (.bin .FloorDiv (.idx (.var 0) (.lit (.int 2))) (.var 1)))
  (.seq (.ife (.cmp .Eq (.idx (.var 0) (.lit (.int 2))) (.lit (.int 0)))
    (.seq (.sub (.var 0) (.lit (.int 3)) (.lit (.int 0)))
  .nop)
    .nop)
  (.seq (.ret (.var 2))
  .nop))))))))
def d_law_draw : DfI := ⟨.glo "_law_draw", "_law_draw", "_law_draw", (top 16), ["source", "limit"], ["source", "limit", "told"], [], b_law_draw⟩
/-- _law_source(script); slots 0 script -/
def b_law_source : S :=
  (.seq (.ret (.lst (.cons (.bi .list (.cons (.var 0) .nil)) (.cons (.lit (.int 0)) (.cons (.lit (.int 0)) (.cons (.lit (.int 0)) (.cons (.lit (.int 0)) (.cons (.lit (.bl false)) .nil))))))))
  .nop)
def d_law_source : DfI := ⟨.glo "_law_source", "_law_source", "_law_source", (top 14), ["script"], ["script"], [], b_law_source⟩
/-- _law_mixed(cell, turn); slots 0 cell, 1 turn, 2 first, 3 second -/
def b_law_mixed : S :=
  (.seq (.asg 2 (.bin .Mod (.bi .int (.cons (.bin .Add (.bin .Add (.bin .Mult (.var 0) (.lit (.int 48271))) (.bin .Mult (.var 1) (.lit (.int 69621)))) (.lit (.int 11))) .nil)) (.lit (.int 2147483647))))
  (.seq (.asg 3 (.bin .Mod (.bi .int (.cons (.bin .Add (.bin .Add (.bin .Mult (.var 2) (.lit (.int 16807))) (.bin .FloorDiv (.var 2) (.lit (.int 3)))) (.bin .Mult (.var 1) (.lit (.int 40692)))) .nil)) (.lit (.int 2147483399))))
  (.seq (.ret (.bin .Mod (.bi .int (.cons (.bin .Add (.bin .Mult (.var 3) (.var 3)) (.var 2)) .nil)) (.lit (.int 2147483629))))
  .nop)))
def d_law_mixed : DfI := ⟨.glo "_law_mixed", "_law_mixed", "_law_mixed", (top 15), ["cell", "turn"], ["cell", "turn", "first", "second"], [], b_law_mixed⟩
/-- _law_number(actual); slots 0 actual -/
def b_law_number : S :=
  (.seq (.ret (.and (.isi (.var 0) .int) (.not (.isi (.var 0) .bool))))
  .nop)
def d_law_number : DfI := ⟨.glo "_law_number", "_law_number", "_law_number", (top 17), ["actual"], ["actual"], [], b_law_number⟩
/-- _law_pick(source, row); slots 0 source, 1 row -/
def b_law_pick : S :=
  (.seq (.ret (.idx (.var 1) (.call 2 (.cons (.var 0) (.cons (.len (.var 1)) .nil)))))
  .nop)
def d_law_pick : DfI := ⟨.glo "_law_pick", "_law_pick", "_law_pick", (top 19), ["source", "row"], ["source", "row"], [], b_law_pick⟩
/-- base + place -/
def law_C1 : E := (.bin .Add (.var 2) (.var 5))
/-- base + place -/
def law_C2 : E := (.bin .Add (.var 2) (.var 5))
/-- base + k -/
def law_C3 : E := (.bin .Add (.var 2) (.var 14))
def law_L3 : S :=
  (.seq (.ife (.not (.call 35 (.cons (.idx (.var 13) (.lit (.int 0))) (.cons (.idx (.var 13) (.lit (.int 1))) (.cons (.var 6) (.cons (.var 4) (.cons (.var 10) (.cons (.var 12) (.cons (.bin .Mod (.bi .int (.cons (.bin .Add (.var 8) (.len (.var 11))) .nil)) (.lit (.int 2))) .nil)))))))))
    (.seq (.ret (.lit (.bl false)))
  .nop)
    .nop)
  .nop)
def law_L2 : S :=
  (.seq (.asg 12 (.call 34 (.cons (.var 11) (.cons (.bin .Mod (.bi .int (.cons (.bin .Add (.var 9) (.len (.var 11))) .nil)) (.lit (.int 2))) .nil))))
  (.seq (.for_ (.nm 13) (.itr (.var 7)) law_L3)
  .nop))
def law_L1 : S :=
  (.seq (.for_ (.nm 11) (.itr (.call 33 (.cons (.comp [14] (.nm 14) (.rng (.cons (.lit (.int 5)) .nil)) .nil law_C3) .nil))) law_L2)
  .nop)
def law_L5 : S :=
  (.seq (.ife (.not (.call 35 (.cons (.idx (.var 13) (.lit (.int 0))) (.cons (.idx (.var 13) (.lit (.int 1))) (.cons (.var 16) (.cons (.idx (.var 15) (.lit (.int 0))) (.cons (.var 10) (.cons (.var 12) (.cons (.var 8) .nil)))))))))
    (.seq (.ret (.lit (.bl false)))
  .nop)
    .nop)
  (.seq (.ife (.not (.call 0 (.cons (.call 37 (.cons (.idx (.var 13) (.lit (.int 0))) (.cons (.var 16) (.cons (.var 10) (.cons (.var 11) .nil))))) (.cons (.call 36 (.cons (.idx (.var 13) (.lit (.int 1))) (.cons (.idx (.var 15) (.lit (.int 0))) (.cons (.var 10) (.cons (.var 11) .nil))))) .nil))))
    (.seq (.ret (.lit (.bl false)))
  .nop)
    .nop)
  .nop))
def law_L4 : S :=
  (.seq (.asg 11 (.call 20 (.cons (.var 1) (.cons (.lit (.int 12)) (.cons (.call 2 (.cons (.var 1) (.cons (.lit (.int 13)) .nil))) .nil)))))
  (.seq (.asg 12 (.call 34 (.cons (.var 11) (.cons (.var 9) .nil))))
  (.seq (.for_ (.nm 13) (.itr (.var 7)) law_L5)
  .nop)))
/-- law(script); slots 0 script, 1 source, 2 base, 3 small, 4 group, 5 place, 6 lot, 7 modes, 8 way, 9 turn, 10 head, 11 places, 12 shown, 13 pair, 14 k, 15 row, 16 wide -/
def b_law : S :=
  (.seq (.asg 1 (.call 5 (.cons (.var 0) .nil)))
  (.seq (.asg 2 (.call 2 (.cons (.var 1) (.cons (.lit (.int 8)) .nil))))
  (.seq (.asg 3 (.call 18 (.cons (.var 1) (.cons (.lit (.int 5)) .nil))))
  (.seq (.asg 4 (.comp [5] (.nm 5) (.itr (.idx (.var 3) (.lit (.int 0)))) .nil law_C1))
  (.seq (.asg 6 (.mk 1 (.cons (.bi .list (.cons (.var 4) .nil)) (.cons (.comp [5] (.nm 5) (.itr (.idx (.var 3) (.lit (.int 1)))) .nil law_C2) (.cons (.idx (.var 3) (.lit (.int 2))) .nil)))))
  (.seq (.asg 7 (.lst (.cons (.tup (.cons (.mk0 3) (.cons (.lit (.str "gather")) .nil))) (.cons (.tup (.cons (.mk0 2) (.cons (.lit (.str "spread")) .nil))) .nil))))
  (.seq (.asg 8 (.call 2 (.cons (.var 1) (.cons (.lit (.int 2)) .nil))))
  (.seq (.asg 9 (.call 2 (.cons (.var 1) (.cons (.lit (.int 2)) .nil))))
  (.seq (.for_ (.nm 10) (.itr (.lst (.cons (.call 10 (.cons (.var 1) (.cons (.var 4) .nil))) (.cons (.call 10 (.cons (.var 1) (.cons (.var 4) .nil))) .nil)))) law_L1)
  (.seq (.asg 15 (.call 18 (.cons (.var 1) (.cons (.lit (.int 12)) .nil))))
  (.seq (.asg 16 (.mk 1 (.cons (.bi .list (.cons (.idx (.var 15) (.lit (.int 0))) .nil)) (.cons (.bi .list (.cons (.idx (.var 15) (.lit (.int 1))) .nil)) (.cons (.idx (.var 15) (.lit (.int 2))) .nil)))))
  (.seq (.asg 10 (.call 10 (.cons (.var 1) (.cons (.idx (.var 15) (.lit (.int 0))) .nil))))
  (.seq (.for_ (.nm 14) (.rng (.cons (.lit (.int 2)) .nil)) law_L4)
  (.seq (.ret (.lit (.bl true)))
  .nop))))))))))))))
def d_law : DfI := ⟨.glo "law", "law", "law", (top 32), ["script"], ["script", "source", "base", "small", "group", "place", "lot", "modes", "way", "turn", "head", "places", "shown", "pair", "k", "row", "wide"], [], b_law⟩
/-- _law_wide(source, bound); slots 0 source, 1 bound, 2 group, 3 menu -/
def b_law_wide : S :=
  (.seq (.asg 2 (.call 20 (.cons (.var 0) (.cons (.var 1) (.cons (.bin .Add (.lit (.int 2)) (.call 2 (.cons (.var 0) (.cons (.bin .Sub (.var 1) (.lit (.int 1))) .nil)))) .nil)))))
  (.seq (.asg 3 (.call 21 (.cons (.var 0) (.cons (.var 2) (.cons (.call 2 (.cons (.var 0) (.cons (.lit (.int 3)) .nil))) .nil)))))
  (.seq (.ret (.tup (.cons (.var 2) (.cons (.var 3) (.cons (.call 22 (.cons (.var 0) .nil)) .nil)))))
  .nop)))
def d_law_wide : DfI := ⟨.glo "_law_wide", "_law_wide", "_law_wide", (top 27), ["source", "bound"], ["source", "bound", "group", "menu"], [], b_law_wide⟩
def law_some_L1 : S :=
  (.seq (.app (.var 4) (.pop (.var 3) (.call 2 (.cons (.var 0) (.cons (.len (.var 3)) .nil)))))
  .nop)
/-- _law_some(source, bound, many); slots 0 source, 1 bound, 2 many, 3 left, 4 out, 5 k -/
def b_law_some : S :=
  (.seq (.asg 3 (.lrg (.var 1)))
  (.seq (.asg 4 (.lst .nil))
  (.seq (.for_ (.nm 5) (.rng (.cons (.var 2) .nil)) law_some_L1)
  (.seq (.ret (.var 4))
  .nop))))
def d_law_some : DfI := ⟨.glo "_law_some", "_law_some", "_law_some", (top 26), ["source", "bound", "many"], ["source", "bound", "many", "left", "out", "k"], [], b_law_some⟩
/-- _law_menu(source, group, kind); slots 0 source, 1 group, 2 kind -/
def b_law_menu : S :=
  (.seq (.ife (.cmp .Eq (.var 2) (.lit (.int 0)))
    (.seq (.ret (.bi .list (.cons (.var 1) .nil)))
  .nop)
    .nop)
  (.seq (.ife (.cmp .Eq (.var 2) (.lit (.int 1)))
    (.seq (.ret (.lst (.cons (.call 10 (.cons (.var 0) (.cons (.var 1) .nil))) .nil)))
  .nop)
    .nop)
  (.seq (.ret (.slc (.call 25 (.cons (.var 0) (.cons (.var 1) .nil))) .nil (.bin .Add (.lit (.int 1)) (.call 2 (.cons (.var 0) (.cons (.len (.var 1)) .nil))))))
  .nop)))
def d_law_menu : DfI := ⟨.glo "_law_menu", "_law_menu", "_law_menu", (top 21), ["source", "group", "kind"], ["source", "group", "kind"], [], b_law_menu⟩
/-- _law_cost(source); slots 0 source, 1 kind -/
def b_law_cost : S :=
  (.seq (.asg 1 (.call 2 (.cons (.var 0) (.cons (.lit (.int 4)) .nil))))
  (.seq (.ife (.cmp .Eq (.var 1) (.lit (.int 0)))
    (.seq (.ret (.lit (.int 0)))
  .nop)
    .nop)
  (.seq (.ife (.cmp .Eq (.var 1) (.lit (.int 1)))
    (.seq (.ret (.bin .Sub (.bin .Pow (.lit (.int 10)) (.lit (.int 9))) (.call 2 (.cons (.var 0) (.cons (.lit (.int 3)) .nil)))))
  .nop)
    .nop)
  (.seq (.ife (.cmp .Eq (.var 1) (.lit (.int 2)))
    (.seq (.ret (.bin .Add (.lit (.int 1)) (.call 2 (.cons (.var 0) (.cons (.lit (.int 5)) .nil)))))
  .nop)
    .nop)
  (.seq (.ret (.call 2 (.cons (.var 0) (.cons (.bin .Add (.bin .Pow (.lit (.int 10)) (.lit (.int 9))) (.lit (.int 1))) .nil))))
  .nop)))))
def d_law_cost : DfI := ⟨.glo "_law_cost", "_law_cost", "_law_cost", (top 22), ["source"], ["source", "kind"], [], b_law_cost⟩
def all_different_L1 : S :=
  (.seq (.ife (.cmp .In (.idx (.var 0) (.var 1)) (.slc (.var 0) .nil (.var 1)))
    (.seq (.ret (.lit (.bl false)))
  .nop)
    .nop)
  .nop)
/-- all_different(places); slots 0 places, 1 index -/
def b_all_different : S :=
  (.seq (.for_ (.nm 1) (.rng (.cons (.len (.var 0)) .nil)) all_different_L1)
  (.seq (.ret (.lit (.bl true)))
  .nop))
def d_all_different : DfI := ⟨.glo "all_different", "all_different", "all_different", (top 11), ["places"], ["places", "index"], [], b_all_different⟩
def law_shuffled_L1 : S :=
  (.seq (.app (.var 3) (.pop (.var 2) (.call 2 (.cons (.var 0) (.cons (.len (.var 2)) .nil)))))
  .nop)
/-- _law_shuffled(source, row); slots 0 source, 1 row, 2 left, 3 out, 4 k -/
def b_law_shuffled : S :=
  (.seq (.asg 2 (.bi .list (.cons (.var 1) .nil)))
  (.seq (.asg 3 (.lst .nil))
  (.seq (.for_ (.nm 4) (.rng (.cons (.len (.var 1)) .nil)) law_shuffled_L1)
  (.seq (.ret (.var 3))
  .nop))))
def d_law_shuffled : DfI := ⟨.glo "_law_shuffled", "_law_shuffled", "_law_shuffled", (top 20), ["source", "row"], ["source", "row", "left", "out", "k"], [], b_law_shuffled⟩
def Lot__init_L1 : S :=
  (.seq (.ife (.not (.chn .LtE .Lt (.lit (.int 0)) (.var 4) (.glb "MOST_PLACES" (.int 12))))
    (.seq (.rse 4 (.cons (.lit (.str "members")) .nil))
  .nop)
    .nop)
  .nop)
def Lot__init_L2 : S :=
  (.seq (.ife (.cmp .NotIn (.var 4) (.var 1))
    (.seq (.rse 4 (.cons (.lit (.str "candidates")) .nil))
  .nop)
    .nop)
  .nop)
/-- Lot.__init__(self, members, candidates, price); slots 0 self, 1 members, 2 candidates, 3 price, 4 place -/
def b_Lot__init : S :=
  (.seq (.ife (.or (.cmp .Lt (.len (.var 1)) (.lit (.int 2))) (.not (.call 23 (.cons (.var 1) .nil))))
    (.seq (.rse 4 (.cons (.lit (.str "members")) .nil))
  .nop)
    .nop)
  (.seq (.for_ (.nm 4) (.itr (.var 1)) Lot__init_L1)
  (.seq (.ife (.cmp .Is (.var 2) (.lit .non))
    (.seq (.asg 2 (.var 1))
  .nop)
    .nop)
  (.seq (.ife (.or (.cmp .Eq (.len (.var 2)) (.lit (.int 0))) (.not (.call 23 (.cons (.var 2) .nil))))
    (.seq (.rse 4 (.cons (.lit (.str "candidates")) .nil))
  .nop)
    .nop)
  (.seq (.for_ (.nm 4) (.itr (.var 2)) Lot__init_L2)
  (.seq (.ife (.not (.chn .LtE .LtE (.lit (.int 0)) (.var 3) (.glb "MOST_PRICE" (.int 1000000000))))
    (.seq (.rse 4 (.cons (.lit (.str "price")) .nil))
  .nop)
    .nop)
  (.seq (.fld (.var 0) 26 (.bi .tuple (.cons (.bi .sorted (.cons (.var 1) .nil)) .nil)))
  (.seq (.fld (.var 0) 25 (.bi .tuple (.cons (.bi .sorted (.cons (.var 2) .nil)) .nil)))
  (.seq (.fld (.var 0) 27 (.var 3))
  .nop)))))))))
def d_Lot__init : DfI := ⟨.met "Lot" "__init__", "__init__", "Lot.__init__", (clsS (top 12) 0), ["self", "members", "candidates", "price"], ["self", "members", "candidates", "price", "place"], [.non, .int 0], b_Lot__init⟩
/-- Lot.__add__(self, place); slots 0 self, 1 place, 2 members -/
def b_Lot__add : S :=
  (.seq (.asg 2 (.bin .Add (.attr (.var 0) 26) (.tup (.cons (.var 1) .nil))))
  (.seq (.ife (.attr (.var 0) 28)
    (.seq (.ret (.mk 1 (.cons (.var 2) (.cons (.var 2) (.cons (.attr (.var 0) 27) .nil)))))
  .nop)
    .nop)
  (.seq (.ret (.mk 1 (.cons (.var 2) (.cons (.attr (.var 0) 25) (.cons (.attr (.var 0) 27) .nil)))))
  .nop)))
def d_Lot__add : DfI := ⟨.met "Lot" "__add__", "__add__", "Lot.__add__", (clsS (top 12) 6), ["self", "place"], ["self", "place", "members"], [], b_Lot__add⟩
/-- Lot.__eq__(self, other); slots 0 self, 1 other -/
def b_Lot__eq : S :=
  (.seq (.ife (.not (.isi (.var 1) (.cls 1)))
    (.seq .nvr
  .nop)
    .nop)
  (.seq (.ret (.cmp .Eq (.tup (.cons (.attr (.var 0) 27) (.cons (.attr (.var 0) 26) (.cons (.attr (.var 0) 25) .nil)))) (.tup (.cons (.attr (.var 1) 27) (.cons (.attr (.var 1) 26) (.cons (.attr (.var 1) 25) .nil))))))
  .nop))
def d_Lot__eq : DfI := ⟨.met "Lot" "__eq__", "__eq__", "Lot.__eq__", (clsS (top 12) 8), ["self", "other"], ["self", "other"], [], b_Lot__eq⟩
/-- Lot.__lt__(self, other); slots 0 self, 1 other -/
def b_Lot__lt : S :=
  (.seq (.ife (.not (.isi (.var 1) (.cls 1)))
    (.seq .nvr
  .nop)
    .nop)
  (.seq (.ret (.cmp .Lt (.tup (.cons (.attr (.var 0) 27) (.cons (.attr (.var 0) 26) (.cons (.attr (.var 0) 25) .nil)))) (.tup (.cons (.attr (.var 1) 27) (.cons (.attr (.var 1) 26) (.cons (.attr (.var 1) 25) .nil))))))
  .nop))
def d_Lot__lt : DfI := ⟨.met "Lot" "__lt__", "__lt__", "Lot.__lt__", (clsS (top 12) 9), ["self", "other"], ["self", "other"], [], b_Lot__lt⟩
/-- Lot.__le__(self, other); slots 0 self, 1 other -/
def b_Lot__le : S :=
  (.seq (.ife (.not (.isi (.var 1) (.cls 1)))
    (.seq .nvr
  .nop)
    .nop)
  (.seq (.ret (.cmp .LtE (.tup (.cons (.attr (.var 0) 27) (.cons (.attr (.var 0) 26) (.cons (.attr (.var 0) 25) .nil)))) (.tup (.cons (.attr (.var 1) 27) (.cons (.attr (.var 1) 26) (.cons (.attr (.var 1) 25) .nil))))))
  .nop))
def d_Lot__le : DfI := ⟨.met "Lot" "__le__", "__le__", "Lot.__le__", (clsS (top 12) 10), ["self", "other"], ["self", "other"], [], b_Lot__le⟩
/-- member -/
def Lot__sub_C1 : E := (.var 3)
/-- member -/
def Lot__sub_C2 : E := (.var 3)
/-- Lot.__sub__(self, place); slots 0 self, 1 place, 2 members, 3 member, 4 candidates -/
def b_Lot__sub : S :=
  (.seq (.ife (.cmp .NotIn (.var 1) (.attr (.var 0) 26))
    (.seq (.rse 4 (.cons (.lit (.str "members")) .nil))
  .nop)
    .nop)
  (.seq (.asg 2 (.comp [3] (.nm 3) (.itr (.attr (.var 0) 26)) (.cmp .NotEq (.var 3) (.var 1)) Lot__sub_C1))
  (.seq (.asg 4 (.comp [3] (.nm 3) (.itr (.attr (.var 0) 25)) (.cmp .NotEq (.var 3) (.var 1)) Lot__sub_C2))
  (.seq (.ret (.mk 1 (.cons (.var 2) (.cons (.var 4) (.cons (.attr (.var 0) 27) .nil)))))
  .nop))))
def d_Lot__sub : DfI := ⟨.met "Lot" "__sub__", "__sub__", "Lot.__sub__", (clsS (top 12) 7), ["self", "place"], ["self", "place", "members", "member", "candidates"], [], b_Lot__sub⟩
/-- Lot.is_free(self); slots 0 self -/
def b_Lot_is_free : S :=
  (.seq (.ret (.bi .bool (.cons (.cmp .Eq (.attr (.var 0) 26) (.attr (.var 0) 25)) .nil)))
  .nop)
def d_Lot_is_free : DfI := ⟨.prp "Lot" "is_free", "is_free", "Lot.is_free", (clsS (top 12) 2), ["self"], ["self"], [], b_Lot_is_free⟩
/-- one + [thing] -/
def law_subsets_C1 : E := (.bin .Add (.var 3) (.lst (.cons (.var 2) .nil)))
def law_subsets_L1 : S :=
  (.seq (.asg 1 (.bin .Add (.var 1) (.comp [3] (.nm 3) (.itr (.var 1)) .nil law_subsets_C1)))
  .nop)
/-- _law_subsets(row); slots 0 row, 1 found, 2 thing, 3 one -/
def b_law_subsets : S :=
  (.seq (.asg 1 (.lst (.cons (.lst .nil) .nil)))
  (.seq (.for_ (.nm 2) (.itr (.var 0)) law_subsets_L1)
  (.seq (.ret (.var 1))
  .nop)))
def d_law_subsets : DfI := ⟨.glo "_law_subsets", "_law_subsets", "_law_subsets", (top 24), ["row"], ["row", "found", "thing", "one"], [], b_law_subsets⟩
/-- _law_turned(places, turn); slots 0 places, 1 turn -/
def b_law_turned : S :=
  (.seq (.ife (.cmp .Eq (.var 1) (.lit (.int 1)))
    (.seq (.ret (.bin .Add (.pf .rev (.var 0)) (.slc (.var 0) .nil (.lit (.int 2)))))
  .nop)
    .nop)
  (.seq (.ret (.var 0))
  .nop))
def d_law_turned : DfI := ⟨.glo "_law_turned", "_law_turned", "_law_turned", (top 31), ["places", "turn"], ["places", "turn"], [], b_law_turned⟩
/-- _law_asked(mode, name, lot, group, head, places, way); slots 0 mode, 1 name, 2 lot, 3 group, 4 head, 5 places, 6 way, 7 passed, 8 told -/
def b_law_asked : S :=
  (.seq (.asg 7 (.call 38 (.cons (.var 5) (.cons (.var 6) .nil))))
  (.seq (.asg 8 (.meth (.var 0) 29 (.cons (.var 2) (.cons (.var 4) (.cons (.var 7) .nil)))))
  (.seq (.ret (.and (.call 0 (.cons (.var 7) (.cons (.call 38 (.cons (.var 5) (.cons (.var 6) .nil))) .nil))) (.call 0 (.cons (.var 8) (.cons (.call 36 (.cons (.var 1) (.cons (.var 3) (.cons (.var 4) (.cons (.var 5) .nil))))) .nil)))))
  .nop)))
def d_law_asked : DfI := ⟨.glo "_law_asked", "_law_asked", "_law_asked", (top 29), ["mode", "name", "lot", "group", "head", "places", "way"], ["mode", "name", "lot", "group", "head", "places", "way", "passed", "told"], [], b_law_asked⟩
def law_due_L2 : S :=
  (.seq (.ife (.and (.cmp .In (.var 4) (.var 3)) (.and (.cmp .NotIn (.var 5) (.var 3)) (.call 39 (.cons (.var 0) (.cons (.var 1) (.cons (.var 2) (.cons (.var 5) (.cons (.var 4) .nil))))))))
    (.seq (.ret (.lit (.bl true)))
  .nop)
    .nop)
  .nop)
def law_due_L1 : S :=
  (.seq (.for_ (.nm 5) (.itr (.var 1)) law_due_L2)
  .nop)
/-- _law_due(name, group, head, places); slots 0 name, 1 group, 2 head, 3 places, 4 receiver, 5 sender -/
def b_law_due : S :=
  (.seq (.for_ (.nm 4) (.itr (.var 1)) law_due_L1)
  (.seq (.ret (.lit (.bl false)))
  .nop))
def d_law_due : DfI := ⟨.glo "_law_due", "_law_due", "_law_due", (top 28), ["name", "group", "head", "places"], ["name", "group", "head", "places", "receiver", "sender"], [], b_law_due⟩
def law_sent_L2 : S :=
  (.seq (.ife (.and (.cmp .In (.var 4) (.var 3)) (.and (.cmp .NotIn (.var 5) (.var 3)) (.meth (.var 0) 30 (.cons (.var 1) (.cons (.var 2) (.cons (.var 5) (.cons (.var 4) .nil)))))))
    (.seq (.ret (.lit (.bl true)))
  .nop)
    .nop)
  .nop)
def law_sent_L1 : S :=
  (.seq (.for_ (.nm 5) (.rng (.cons (.lit (.int 12)) .nil)) law_sent_L2)
  .nop)
/-- _law_sent(mode, lot, head, places); slots 0 mode, 1 lot, 2 head, 3 places, 4 receiver, 5 sender -/
def b_law_sent : S :=
  (.seq (.for_ (.nm 4) (.rng (.cons (.lit (.int 12)) .nil)) law_sent_L1)
  (.seq (.ret (.lit (.bl false)))
  .nop))
def d_law_sent : DfI := ⟨.glo "_law_sent", "_law_sent", "_law_sent", (top 30), ["mode", "lot", "head", "places"], ["mode", "lot", "head", "places", "receiver", "sender"], [], b_law_sent⟩
/-- _law_handed(row, way); slots 0 row, 1 way -/
def b_law_handed : S :=
  (.seq (.ife (.cmp .Eq (.var 1) (.lit (.int 1)))
    (.seq (.ret (.bi .tuple (.cons (.var 0) .nil)))
  .nop)
    .nop)
  (.seq (.ret (.bi .list (.cons (.var 0) .nil)))
  .nop))
def d_law_handed : DfI := ⟨.glo "_law_handed", "_law_handed", "_law_handed", (top 25), ["row", "way"], ["row", "way"], [], b_law_handed⟩
/-- _law_sends(name, group, head, sender, receiver); slots 0 name, 1 group, 2 head, 3 sender, 4 receiver -/
def b_law_sends : S :=
  (.seq (.ife (.or (.cmp .NotIn (.var 3) (.var 1)) (.or (.cmp .NotIn (.var 4) (.var 1)) (.cmp .Eq (.var 3) (.var 4))))
    (.seq (.ret (.lit (.bl false)))
  .nop)
    .nop)
  (.seq (.ife (.cmp .Eq (.var 0) (.lit (.str "gather")))
    (.seq (.ret (.cmp .Eq (.var 4) (.var 2)))
  .nop)
    .nop)
  (.seq (.ret (.cmp .Eq (.var 3) (.var 2)))
  .nop)))
def d_law_sends : DfI := ⟨.glo "_law_sends", "_law_sends", "_law_sends", (top 23), ["name", "group", "head", "sender", "receiver"], ["name", "group", "head", "sender", "receiver"], [], b_law_sends⟩
/-- member in places -/
def Spread_enters_C1 : E := (.cmp .In (.var 4) (.var 3))
/-- Spread.enters(self, lot, head, places); slots 0 self, 1 lot, 2 head, 3 places, 4 member -/
def b_Spread_enters : S :=
  (.seq (.ife (.cmp .In (.var 2) (.var 3))
    (.seq (.ret (.lit (.bl false)))
  .nop)
    .nop)
  (.seq (.ret (.bi .any (.cons (.comp [4] (.nm 4) (.itr (.attr (.var 1) 26)) .nil Spread_enters_C1) .nil)))
  .nop))
def d_Spread_enters : DfI := ⟨.met "Spread" "enters", "enters", "Spread.enters", (clsS (top 4) 3), ["self", "lot", "head", "places"], ["self", "lot", "head", "places", "member"], [], b_Spread_enters⟩
/-- member not in places -/
def Gather_enters_C1 : E := (.cmp .NotIn (.var 4) (.var 3))
/-- Gather.enters(self, lot, head, places); slots 0 self, 1 lot, 2 head, 3 places, 4 member -/
def b_Gather_enters : S :=
  (.seq (.ife (.cmp .NotIn (.var 2) (.var 3))
    (.seq (.ret (.lit (.bl false)))
  .nop)
    .nop)
  (.seq (.ret (.bi .any (.cons (.comp [4] (.nm 4) (.itr (.attr (.var 1) 26)) .nil Gather_enters_C1) .nil)))
  .nop))
def d_Gather_enters : DfI := ⟨.met "Gather" "enters", "enters", "Gather.enters", (clsS (top 3) 3), ["self", "lot", "head", "places"], ["self", "lot", "head", "places", "member"], [], b_Gather_enters⟩
/-- Spread.may_send(self, lot, head, sender, receiver); slots 0 self, 1 lot, 2 head, 3 sender, 4 receiver -/
def b_Spread_may_send : S :=
  (.seq (.ret (.and (.cmp .Eq (.var 3) (.var 2)) (.and (.cmp .NotEq (.var 4) (.var 2)) (.cmp .In (.var 4) (.attr (.var 1) 26)))))
  .nop)
def d_Spread_may_send : DfI := ⟨.met "Spread" "may_send", "may_send", "Spread.may_send", (clsS (top 4) 1), ["self", "lot", "head", "sender", "receiver"], ["self", "lot", "head", "sender", "receiver"], [], b_Spread_may_send⟩
/-- Gather.may_send(self, lot, head, sender, receiver); slots 0 self, 1 lot, 2 head, 3 sender, 4 receiver -/
def b_Gather_may_send : S :=
  (.seq (.ret (.and (.cmp .Eq (.var 4) (.var 2)) (.and (.cmp .NotEq (.var 3) (.var 2)) (.cmp .In (.var 3) (.attr (.var 1) 26)))))
  .nop)
def d_Gather_may_send : DfI := ⟨.met "Gather" "may_send", "may_send", "Gather.may_send", (clsS (top 3) 1), ["self", "lot", "head", "sender", "receiver"], ["self", "lot", "head", "sender", "receiver"], [], b_Gather_may_send⟩
/-- Lot.__len__(self); slots 0 self -/
def b_Lot__len : S :=
  (.seq (.ret (.len (.attr (.var 0) 26)))
  .nop)
def d_Lot__len : DfI := ⟨.met "Lot" "__len__", "__len__", "Lot.__len__", (clsS (top 12) 11), ["self"], ["self"], [], b_Lot__len⟩
def x_InvalidLot : XcI := ⟨"InvalidLot", [31], clsS (top 7) 0, "InvalidLot.__init__"⟩
def tb : Tbl where
  nml := [("__init__" : Str), ("__add__" : Str), ("__sub__" : Str), ("__mul__" : Str), ("__floordiv__" : Str), ("__mod__" : Str), ("__xor__" : Str), ("__and__" : Str), ("__or__" : Str), ("#9" : Str), ("#10" : Str), ("__eq__" : Str), ("__lt__" : Str), ("__le__" : Str), ("__getitem__" : Str), ("__setitem__" : Str), ("__contains__" : Str), ("__call__" : Str), ("__len__" : Str), ("#19" : Str), ("__invert__" : Str), ("steps" : Str), ("start" : Str), ("_many" : Str), ("end" : Str), ("candidates" : Str), ("members" : Str), ("price" : Str), ("is_free" : Str), ("enters" : Str), ("may_send" : Str), ("reason" : Str), ("place" : Str)]
  cls := [(3, "Gather"), (1, "Lot"), (2, "Spread")]
  mth := [(1, 0, 26), (1, 1, 27), (1, 11, 28), (1, 12, 29), (1, 13, 30), (1, 2, 31), (2, 29, 40), (3, 29, 41), (2, 30, 42), (3, 30, 43), (1, 18, 52)]
  prp := [(1, 28, 32)]
  fld := [(1, 25), (1, 26), (1, 27)]
  gi := [("MOST_PLACES", 12), ("MOST_PRICE", 1000000000)]
  dfs := [(0, d_law_same), (2, d_law_draw), (5, d_law_source), (6, d_law_mixed), (8, d_law_number), (10, d_law_pick), (11, d_law), (18, d_law_wide), (20, d_law_some), (21, d_law_menu), (22, d_law_cost), (23, d_all_different), (25, d_law_shuffled), (26, d_Lot__init), (27, d_Lot__add), (28, d_Lot__eq), (29, d_Lot__lt), (30, d_Lot__le), (31, d_Lot__sub), (32, d_Lot_is_free), (33, d_law_subsets), (34, d_law_turned), (35, d_law_asked), (36, d_law_due), (37, d_law_sent), (38, d_law_handed), (39, d_law_sends), (40, d_Spread_enters), (41, d_Gather_enters), (42, d_Spread_may_send), (43, d_Gather_may_send), (52, d_Lot__len)]
  xcs := [(4, x_InvalidLot)]
  xsb := [(4, 4)]
  file := PySem.Challenge.pw_headedlots_k14_whole_sets_that_lots_ente.main.file
  cst := [(3, 0, .non), (2, 0, .non)]
  smt := []
theorem o_law_same : DfOk tb.tt d_law_same := ⟨⟨rfl, rfl, rfl, by decide +kernel, rfl, by decide +kernel, by decide +kernel⟩, by decide +kernel, by decide, fun _ kV doc pm an cdv ct us hl => match us, hl with | [_, _], _ => rfl, fun h => absurd rfl h⟩
theorem o_law_draw : DfOk tb.tt d_law_draw := ⟨⟨rfl, rfl, rfl, by decide +kernel, rfl, by decide +kernel, by decide +kernel⟩, by decide +kernel, by decide, fun _ kV doc pm an cdv ct us hl => match us, hl with | [_, _], _ => rfl, fun h => absurd rfl h⟩
theorem o_law_source : DfOk tb.tt d_law_source := ⟨⟨rfl, rfl, rfl, by decide +kernel, rfl, by decide +kernel, by decide +kernel⟩, by decide +kernel, by decide, fun _ kV doc pm an cdv ct us hl => match us, hl with | [_], _ => rfl, fun h => absurd rfl h⟩
theorem o_law_mixed : DfOk tb.tt d_law_mixed := ⟨⟨rfl, rfl, rfl, by decide +kernel, rfl, by decide +kernel, by decide +kernel⟩, by decide +kernel, by decide, fun _ kV doc pm an cdv ct us hl => match us, hl with | [_, _], _ => rfl, fun h => absurd rfl h⟩
theorem o_law_number : DfOk tb.tt d_law_number := ⟨⟨rfl, rfl, rfl, by decide +kernel, rfl, by decide +kernel, by decide +kernel⟩, by decide +kernel, by decide, fun _ kV doc pm an cdv ct us hl => match us, hl with | [_], _ => rfl, fun h => absurd rfl h⟩
theorem o_law_pick : DfOk tb.tt d_law_pick := ⟨⟨rfl, rfl, rfl, by decide +kernel, rfl, by decide +kernel, by decide +kernel⟩, by decide +kernel, by decide, fun _ kV doc pm an cdv ct us hl => match us, hl with | [_, _], _ => rfl, fun h => absurd rfl h⟩
theorem o_law : DfOk tb.tt d_law := ⟨⟨rfl, rfl, rfl, by decide +kernel, rfl, by decide +kernel, by decide +kernel⟩, by decide +kernel, by decide, fun _ kV doc pm an cdv ct us hl => match us, hl with | [_], _ => rfl, fun h => absurd rfl h⟩
theorem o_law_wide : DfOk tb.tt d_law_wide := ⟨⟨rfl, rfl, rfl, by decide +kernel, rfl, by decide +kernel, by decide +kernel⟩, by decide +kernel, by decide, fun _ kV doc pm an cdv ct us hl => match us, hl with | [_, _], _ => rfl, fun h => absurd rfl h⟩
theorem o_law_some : DfOk tb.tt d_law_some := ⟨⟨rfl, rfl, rfl, by decide +kernel, rfl, by decide +kernel, by decide +kernel⟩, by decide +kernel, by decide, fun _ kV doc pm an cdv ct us hl => match us, hl with | [_, _, _], _ => rfl, fun h => absurd rfl h⟩
theorem o_law_menu : DfOk tb.tt d_law_menu := ⟨⟨rfl, rfl, rfl, by decide +kernel, rfl, by decide +kernel, by decide +kernel⟩, by decide +kernel, by decide, fun _ kV doc pm an cdv ct us hl => match us, hl with | [_, _, _], _ => rfl, fun h => absurd rfl h⟩
theorem o_law_cost : DfOk tb.tt d_law_cost := ⟨⟨rfl, rfl, rfl, by decide +kernel, rfl, by decide +kernel, by decide +kernel⟩, by decide +kernel, by decide, fun _ kV doc pm an cdv ct us hl => match us, hl with | [_], _ => rfl, fun h => absurd rfl h⟩
theorem o_all_different : DfOk tb.tt d_all_different := ⟨⟨rfl, rfl, rfl, by decide +kernel, rfl, by decide +kernel, by decide +kernel⟩, by decide +kernel, by decide, fun _ kV doc pm an cdv ct us hl => match us, hl with | [_], _ => rfl, fun h => absurd rfl h⟩
theorem o_law_shuffled : DfOk tb.tt d_law_shuffled := ⟨⟨rfl, rfl, rfl, by decide +kernel, rfl, by decide +kernel, by decide +kernel⟩, by decide +kernel, by decide, fun _ kV doc pm an cdv ct us hl => match us, hl with | [_, _], _ => rfl, fun h => absurd rfl h⟩
theorem o_Lot__init : DfOk tb.tt d_Lot__init := ⟨⟨rfl, rfl, rfl, by decide +kernel, rfl, by decide +kernel, by decide +kernel⟩, by decide +kernel, by decide, fun h => (nomatch h), fun _ T kV doc pm an cdv ct us its hl h2 => match us, hl, its, h2 with | [_, _, _, _], _, [_, _], _ => ⟨_, rfl, rfl⟩⟩
theorem o_Lot__add : DfOk tb.tt d_Lot__add := ⟨⟨rfl, rfl, rfl, by decide +kernel, rfl, by decide +kernel, by decide +kernel⟩, by decide +kernel, by decide, fun _ kV doc pm an cdv ct us hl => match us, hl with | [_, _], _ => rfl, fun h => absurd rfl h⟩
theorem o_Lot__eq : DfOk tb.tt d_Lot__eq := ⟨⟨rfl, rfl, rfl, by decide +kernel, rfl, by decide +kernel, by decide +kernel⟩, by decide +kernel, by decide, fun _ kV doc pm an cdv ct us hl => match us, hl with | [_, _], _ => rfl, fun h => absurd rfl h⟩
theorem o_Lot__lt : DfOk tb.tt d_Lot__lt := ⟨⟨rfl, rfl, rfl, by decide +kernel, rfl, by decide +kernel, by decide +kernel⟩, by decide +kernel, by decide, fun _ kV doc pm an cdv ct us hl => match us, hl with | [_, _], _ => rfl, fun h => absurd rfl h⟩
theorem o_Lot__le : DfOk tb.tt d_Lot__le := ⟨⟨rfl, rfl, rfl, by decide +kernel, rfl, by decide +kernel, by decide +kernel⟩, by decide +kernel, by decide, fun _ kV doc pm an cdv ct us hl => match us, hl with | [_, _], _ => rfl, fun h => absurd rfl h⟩
theorem o_Lot__sub : DfOk tb.tt d_Lot__sub := ⟨⟨rfl, rfl, rfl, by decide +kernel, rfl, by decide +kernel, by decide +kernel⟩, by decide +kernel, by decide, fun _ kV doc pm an cdv ct us hl => match us, hl with | [_, _], _ => rfl, fun h => absurd rfl h⟩
theorem o_Lot_is_free : DfOk tb.tt d_Lot_is_free := ⟨⟨rfl, rfl, rfl, by decide +kernel, rfl, by decide +kernel, by decide +kernel⟩, by decide +kernel, by decide, fun _ kV doc pm an cdv ct us hl => match us, hl with | [_], _ => rfl, fun h => absurd rfl h⟩
theorem o_law_subsets : DfOk tb.tt d_law_subsets := ⟨⟨rfl, rfl, rfl, by decide +kernel, rfl, by decide +kernel, by decide +kernel⟩, by decide +kernel, by decide, fun _ kV doc pm an cdv ct us hl => match us, hl with | [_], _ => rfl, fun h => absurd rfl h⟩
theorem o_law_turned : DfOk tb.tt d_law_turned := ⟨⟨rfl, rfl, rfl, by decide +kernel, rfl, by decide +kernel, by decide +kernel⟩, by decide +kernel, by decide, fun _ kV doc pm an cdv ct us hl => match us, hl with | [_, _], _ => rfl, fun h => absurd rfl h⟩
theorem o_law_asked : DfOk tb.tt d_law_asked := ⟨⟨rfl, rfl, rfl, by decide +kernel, rfl, by decide +kernel, by decide +kernel⟩, by decide +kernel, by decide, fun _ kV doc pm an cdv ct us hl => match us, hl with | [_, _, _, _, _, _, _], _ => rfl, fun h => absurd rfl h⟩
theorem o_law_due : DfOk tb.tt d_law_due := ⟨⟨rfl, rfl, rfl, by decide +kernel, rfl, by decide +kernel, by decide +kernel⟩, by decide +kernel, by decide, fun _ kV doc pm an cdv ct us hl => match us, hl with | [_, _, _, _], _ => rfl, fun h => absurd rfl h⟩
theorem o_law_sent : DfOk tb.tt d_law_sent := ⟨⟨rfl, rfl, rfl, by decide +kernel, rfl, by decide +kernel, by decide +kernel⟩, by decide +kernel, by decide, fun _ kV doc pm an cdv ct us hl => match us, hl with | [_, _, _, _], _ => rfl, fun h => absurd rfl h⟩
theorem o_law_handed : DfOk tb.tt d_law_handed := ⟨⟨rfl, rfl, rfl, by decide +kernel, rfl, by decide +kernel, by decide +kernel⟩, by decide +kernel, by decide, fun _ kV doc pm an cdv ct us hl => match us, hl with | [_, _], _ => rfl, fun h => absurd rfl h⟩
theorem o_law_sends : DfOk tb.tt d_law_sends := ⟨⟨rfl, rfl, rfl, by decide +kernel, rfl, by decide +kernel, by decide +kernel⟩, by decide +kernel, by decide, fun _ kV doc pm an cdv ct us hl => match us, hl with | [_, _, _, _, _], _ => rfl, fun h => absurd rfl h⟩
theorem o_Spread_enters : DfOk tb.tt d_Spread_enters := ⟨⟨rfl, rfl, rfl, by decide +kernel, rfl, by decide +kernel, by decide +kernel⟩, by decide +kernel, by decide, fun _ kV doc pm an cdv ct us hl => match us, hl with | [_, _, _, _], _ => rfl, fun h => absurd rfl h⟩
theorem o_Gather_enters : DfOk tb.tt d_Gather_enters := ⟨⟨rfl, rfl, rfl, by decide +kernel, rfl, by decide +kernel, by decide +kernel⟩, by decide +kernel, by decide, fun _ kV doc pm an cdv ct us hl => match us, hl with | [_, _, _, _], _ => rfl, fun h => absurd rfl h⟩
theorem o_Spread_may_send : DfOk tb.tt d_Spread_may_send := ⟨⟨rfl, rfl, rfl, by decide +kernel, rfl, by decide +kernel, by decide +kernel⟩, by decide +kernel, by decide, fun _ kV doc pm an cdv ct us hl => match us, hl with | [_, _, _, _, _], _ => rfl, fun h => absurd rfl h⟩
theorem o_Gather_may_send : DfOk tb.tt d_Gather_may_send := ⟨⟨rfl, rfl, rfl, by decide +kernel, rfl, by decide +kernel, by decide +kernel⟩, by decide +kernel, by decide, fun _ kV doc pm an cdv ct us hl => match us, hl with | [_, _, _, _, _], _ => rfl, fun h => absurd rfl h⟩
theorem o_Lot__len : DfOk tb.tt d_Lot__len := ⟨⟨rfl, rfl, rfl, by decide +kernel, rfl, by decide +kernel, by decide +kernel⟩, by decide +kernel, by decide, fun _ kV doc pm an cdv ct us hl => match us, hl with | [_], _ => rfl, fun h => absurd rfl h⟩
theorem o_all : ∀ q ∈ tb.dfs, DfOk tb.tt q.2 := by
  intro q hq
  simp only [tb, List.mem_cons, List.not_mem_nil, or_false] at hq
  rcases hq with rfl | rfl | rfl | rfl | rfl | rfl | rfl | rfl | rfl | rfl | rfl | rfl | rfl | rfl | rfl | rfl | rfl | rfl | rfl | rfl | rfl | rfl | rfl | rfl | rfl | rfl | rfl | rfl | rfl | rfl | rfl | rfl
  · exact o_law_same
  · exact o_law_draw
  · exact o_law_source
  · exact o_law_mixed
  · exact o_law_number
  · exact o_law_pick
  · exact o_law
  · exact o_law_wide
  · exact o_law_some
  · exact o_law_menu
  · exact o_law_cost
  · exact o_all_different
  · exact o_law_shuffled
  · exact o_Lot__init
  · exact o_Lot__add
  · exact o_Lot__eq
  · exact o_Lot__lt
  · exact o_Lot__le
  · exact o_Lot__sub
  · exact o_Lot_is_free
  · exact o_law_subsets
  · exact o_law_turned
  · exact o_law_asked
  · exact o_law_due
  · exact o_law_sent
  · exact o_law_handed
  · exact o_law_sends
  · exact o_Spread_enters
  · exact o_Gather_enters
  · exact o_Spread_may_send
  · exact o_Gather_may_send
  · exact o_Lot__len
theorem xo_InvalidLot : XcOk tb.nm x_InvalidLot := ⟨rfl, rfl, rfl, by decide +kernel, by decide +kernel, by decide +kernel, by decide +kernel, fun kV doc pm an cdv ct cc us hl => match us, hl with | [_, _], _ => rfl, by decide +kernel⟩
@[simp] theorem xf_InvalidLot : tb.xf 4 = some [31] := rfl
@[simp] theorem sb_InvalidLot_InvalidLot : tb.sb 4 4 = true := rfl
theorem x_all : ∀ q ∈ tb.xcs, q.2.fs ≠ [] → XcOk tb.nm q.2 := by
  intro q hq hn
  simp only [tb, List.mem_cons, List.not_mem_nil, or_false] at hq
  rcases hq with rfl
  · exact xo_InvalidLot
theorem h_law_same : tb.ds 0 = some d_law_same.df := rfl
theorem h_law_draw : tb.ds 2 = some d_law_draw.df := rfl
theorem h_law_source : tb.ds 5 = some d_law_source.df := rfl
theorem h_law_mixed : tb.ds 6 = some d_law_mixed.df := rfl
theorem h_law_number : tb.ds 8 = some d_law_number.df := rfl
theorem h_law_pick : tb.ds 10 = some d_law_pick.df := rfl
theorem h_law : tb.ds 11 = some d_law.df := rfl
theorem h_law_wide : tb.ds 18 = some d_law_wide.df := rfl
theorem h_law_some : tb.ds 20 = some d_law_some.df := rfl
theorem h_law_menu : tb.ds 21 = some d_law_menu.df := rfl
theorem h_law_cost : tb.ds 22 = some d_law_cost.df := rfl
theorem h_all_different : tb.ds 23 = some d_all_different.df := rfl
theorem h_law_shuffled : tb.ds 25 = some d_law_shuffled.df := rfl
theorem h_Lot__init : tb.ds 26 = some d_Lot__init.df := rfl
theorem h_Lot__add : tb.ds 27 = some d_Lot__add.df := rfl
theorem h_Lot__eq : tb.ds 28 = some d_Lot__eq.df := rfl
theorem h_Lot__lt : tb.ds 29 = some d_Lot__lt.df := rfl
theorem h_Lot__le : tb.ds 30 = some d_Lot__le.df := rfl
theorem h_Lot__sub : tb.ds 31 = some d_Lot__sub.df := rfl
theorem h_Lot_is_free : tb.ds 32 = some d_Lot_is_free.df := rfl
theorem h_law_subsets : tb.ds 33 = some d_law_subsets.df := rfl
theorem h_law_turned : tb.ds 34 = some d_law_turned.df := rfl
theorem h_law_asked : tb.ds 35 = some d_law_asked.df := rfl
theorem h_law_due : tb.ds 36 = some d_law_due.df := rfl
theorem h_law_sent : tb.ds 37 = some d_law_sent.df := rfl
theorem h_law_handed : tb.ds 38 = some d_law_handed.df := rfl
theorem h_law_sends : tb.ds 39 = some d_law_sends.df := rfl
theorem h_Spread_enters : tb.ds 40 = some d_Spread_enters.df := rfl
theorem h_Gather_enters : tb.ds 41 = some d_Gather_enters.df := rfl
theorem h_Spread_may_send : tb.ds 42 = some d_Spread_may_send.df := rfl
theorem h_Gather_may_send : tb.ds 43 = some d_Gather_may_send.df := rfl
theorem h_Lot__len : tb.ds 52 = some d_Lot__len.df := rfl
@[simp] theorem mt_1_0 : tb.mt 1 0 = some 26 := rfl
@[simp] theorem mt_1_1 : tb.mt 1 1 = some 27 := rfl
@[simp] theorem mt_1_11 : tb.mt 1 11 = some 28 := rfl
@[simp] theorem mt_1_12 : tb.mt 1 12 = some 29 := rfl
@[simp] theorem mt_1_13 : tb.mt 1 13 = some 30 := rfl
@[simp] theorem mt_1_2 : tb.mt 1 2 = some 31 := rfl
@[simp] theorem mt_2_29 : tb.mt 2 29 = some 40 := rfl
@[simp] theorem mt_3_29 : tb.mt 3 29 = some 41 := rfl
@[simp] theorem mt_2_30 : tb.mt 2 30 = some 42 := rfl
@[simp] theorem mt_3_30 : tb.mt 3 30 = some 43 := rfl
@[simp] theorem mt_1_18 : tb.mt 1 18 = some 52 := rfl
@[simp] theorem pp_1_28 : tb.pp 1 28 = some 32 := rfl
@[simp] theorem cs_1_28 : tb.cs2 1 28 = none := rfl
@[simp] theorem cs_3_0 : tb.cs2 3 0 = some (.non) := rfl
@[simp] theorem cs_2_0 : tb.cs2 2 0 = some (.non) := rfl
@[simp] theorem fl_1_25 : tb.fl 1 25 = true := rfl
@[simp] theorem fl_1_26 : tb.fl 1 26 = true := rfl
@[simp] theorem fl_1_27 : tb.fl 1 27 = true := rfl
end Law

namespace Law
open PySem Vm
def mixed (a t : Int) : Int :=
  (((((a * 48271 + t * 69621 + 11) % 2147483647) * 16807 + ((a * 48271 + t * 69621 + 11) % 2147483647) / 3 + t * 40692) % 2147483399) * ((((a * 48271 + t * 69621 + 11) % 2147483647) * 16807 + ((a * 48271 + t * 69621 + 11) % 2147483647) / 3 + t * 40692) % 2147483399) + (a * 48271 + t * 69621 + 11) % 2147483647) % 2147483629
theorem fit_mod (x y m : Int) (h : 0 < m ∧ m < 2 ^ 64) : fitM (x % m) y = true := by
  have := Int.emod_nonneg x (show m ≠ 0 by omega)
  have := Int.emod_lt_of_pos x h.1
  unfold fitM
  simp
  omega
theorem fit_r (x m : Int) (h : -(2 ^ 64) < m ∧ m < 2 ^ 64) : fitM x m = true := by
  unfold fitM
  simp
  omega
theorem mixed_ok (n : Nat) (hn : 1 ≤ n) (a t : Int) : tb.FF n 6 [.sh (.int a), .sh (.int t)] = .ret (.sh (.int (mixed a t))) [none, none] := by
  obtain ⟨k, rfl⟩ : ∃ k, n = k + 1 := ⟨n - 1, by omega⟩
  rw [Rn.run tb h_law_mixed]
  simp [d_law_mixed, b_law_mixed, DfI.df, runD, enter, fit_mod, fit_r, mixed]
/-- the source of draws -/
def src (ns : List Int) (a : Nat) (c l t : Int) (b : Bool) : List D := [.lst (ns.map .int), .int a, .int c, .int l, .int t, .bl b]
def Src (x : List D) : Prop := ∃ ns a c l t b, x = src ns a c l t b
theorem draw_okW (m : Nat) (hm : 2 ≤ m) {x : List D} (hx : Src x) (lim : Int) (h : dvB lim = true) :
    ∃ v y, tb.FF m 2 [.ol x, .sh (.int lim)] = .ret (.sh (.int v)) [some (.ol y), none] ∧ Src y ∧ 0 ≤ v ∧ v < lim := by
  obtain ⟨ns, a, c, l, t, b, rfl⟩ := hx
  obtain ⟨k, rfl⟩ : ∃ k, m = k + 1 := ⟨m - 1, by omega⟩
  have mixed_ok := mixed_ok k (by omega)
  rw [Rn.run tb h_law_draw]
  have hn : 0 < lim := of_decide_eq_true (Bool.and_eq_true_iff.mp h).1
  have hml : ∀ i : Int, 0 ≤ i % lim ∧ i % lim < lim := fun i => ⟨Int.emod_nonneg i (by omega), Int.emod_lt_of_pos i hn⟩
  by_cases hl : l = 0
  · subst hl
    by_cases ha : ns.length ≤ a
    · refine ⟨0, src ns a c 0 t b, ?_, ⟨_, _, _, _, _, _, rfl⟩, by omega, by omega⟩
      simp [d_law_draw, b_law_draw, DfI.df, runD, enter, src, ha]
    · have hna : ns[a]? = some ns[a] := List.getElem?_eq_getElem (by omega)
      generalize ns[a]'(by omega) = n at hna
      by_cases hb : 1000000000000000000 ≤ n
      · by_cases hz : n / lim = 0
        · refine ⟨n % lim, src ns (a + 1) (n / lim) 0 (t + 1) true, ?_, ⟨_, _, _, _, _, _, rfl⟩, hml _⟩
          simp [d_law_draw, b_law_draw, DfI.df, runD, enter, src, ha, Rn.atI_nat, h, hn, mixed_ok, hna, hb, hz]
        · refine ⟨n % lim, src ns (a + 1) (n / lim) 59 (t + 1) true, ?_, ⟨_, _, _, _, _, _, rfl⟩, hml _⟩
          simp [d_law_draw, b_law_draw, DfI.df, runD, enter, src, ha, Rn.atI_nat, h, hn, mixed_ok, hna, hb, hz]
      · refine ⟨mixed n (t + 1) % lim, src ns (a + 1) n 8 (t + 1) false, ?_, ⟨_, _, _, _, _, _, rfl⟩, hml _⟩
        simp [d_law_draw, b_law_draw, DfI.df, runD, enter, src, ha, Rn.atI_nat, h, hn, mixed_ok, hna, hb]
  · cases b with
    | true =>
      by_cases hz : c / lim = 0
      · refine ⟨c % lim, src ns a (c / lim) 0 (t + 1) true, ?_, ⟨_, _, _, _, _, _, rfl⟩, hml _⟩
        simp [d_law_draw, b_law_draw, DfI.df, runD, enter, src, hl, Rn.atI_nat, h, hn, mixed_ok, hz]
      · refine ⟨c % lim, src ns a (c / lim) (l - 1) (t + 1) true, ?_, ⟨_, _, _, _, _, _, rfl⟩, hml _⟩
        simp [d_law_draw, b_law_draw, DfI.df, runD, enter, src, hl, Rn.atI_nat, h, hn, mixed_ok, hz]
    | false =>
      refine ⟨mixed c (t + 1) % lim, src ns a c (l - 1) (t + 1) false, ?_, ⟨_, _, _, _, _, _, rfl⟩, hml _⟩
      simp [d_law_draw, b_law_draw, DfI.df, runD, enter, src, hl, Rn.atI_nat, h, hn, mixed_ok]
theorem draw_ok (m : Nat) (hm : 2 ≤ m) {x : List D} (hx : Src x) (lim : Int) (h : 0 < lim ∧ lim < 1073741824) :
    ∃ v y, tb.FF m 2 [.ol x, .sh (.int lim)] = .ret (.sh (.int v)) [some (.ol y), none] ∧ Src y ∧ 0 ≤ v ∧ v < lim := draw_okW m hm hx lim (Rn.dvB_small h)
/-- a row, as a list or a tuple -/
def Row (o : O) (l : List D) : Prop := o = .sh (.lst l) ∨ o = .sh (.tup l) ∨ o = .ol l
/-- what is given back of an argument -/
def bk (o : O) : Option O := if o.own = true then some o else none
theorem pick_ok (m : Nat) (hm : 3 ≤ m) {x l : List D} {o : O} (hx : Src x) (hr : Row o l) (h0 : 0 < l.length) (h1 : l.length < 1000000) :
    ∃ d y, tb.FF m 10 [.ol x, o] = .ret (.sh d) [some (.ol y), bk o] ∧ Src y ∧ d ∈ l := by
  obtain ⟨k, rfl⟩ : ∃ k, m = k + 1 := ⟨m - 1, by omega⟩
  obtain ⟨v, y, e, hy, v0, v1⟩ := draw_ok k (by omega) hx l.length (by omega)
  obtain ⟨i, rfl⟩ := Int.eq_ofNat_of_zero_le v0
  have hi : i < l.length := by omega
  have hd : l[i]? = some l[i] := List.getElem?_eq_getElem hi
  refine ⟨l[i], y, ?_, hy, List.getElem_mem hi⟩
  rw [Rn.run tb h_law_pick]
  rcases hr with rfl | rfl | rfl <;> simp [d_law_pick, b_law_pick, DfI.df, runD, enter, e, Rn.atI_nat, hd, bk]
end Law

namespace Law
open PySem Vm
theorem num_ok (n : Nat) (hn : 1 ≤ n) (i : Int) : tb.FF n 8 [.sh (.int i)] = .ret (.sh (.bl true)) [none] := by
  obtain ⟨k, rfl⟩ : ∃ k, n = k + 1 := ⟨n - 1, by omega⟩
  rw [Rn.run tb h_law_number]
  simp [d_law_number, b_law_number, DfI.df, runD, enter]
theorem same_ok : ∀ (n : Nat) (d : D) (m : Nat), n + 2 ≤ m → okD n d → tb.FF m 0 [.sh d, .sh d] = .ret (.sh (.bl true)) [none, none] := by
  intro n
  induction n with
  | zero =>
    intro d m hm h
    obtain ⟨k, rfl⟩ : ∃ k, m = k + 1 := ⟨m - 1, by omega⟩
    have num_ok := num_ok k (by omega)
    rw [Rn.run tb h_law_same]
    cases d with
    | non => simp [d_law_same, b_law_same, DfI.df, runD, enter]
    | bl b => simp [d_law_same, b_law_same, DfI.df, runD, enter]
    | int i => simp [d_law_same, b_law_same, DfI.df, runD, enter, num_ok]
    | str x => simp [d_law_same, b_law_same, DfI.df, runD, enter]
    | _ => cases h
  | succ n ih =>
    intro d m hm h
    obtain ⟨k, rfl⟩ : ∃ k, m = k + 1 := ⟨m - 1, by omega⟩
    have num_ok := num_ok k (by omega)
    rw [Rn.run tb h_law_same]
    have row : ∀ (l : List D) (mk : List D → D), (mk = .tup ∨ mk = .lst) → l.length ≤ lim → (∀ x ∈ l, okD n x) →
      ∃ x, forL (.nm 2) [] (evS (tb.ct k) [] law_same_L1) (rngD 0 l.length) [some (O.sh (mk l)), some (O.sh (mk l)), none] = .nx [some (O.sh (mk l)), some (O.sh (mk l)), x] := by
      intro l mk hmk hl hx
      obtain ⟨s', h1, x, h2⟩ := Rn.forL_nx (t := .nm 2) (pin := []) (b := evS (tb.ct k) [] law_same_L1) (l := rngD 0 l.length) (s := [some (O.sh (mk l)), some (O.sh (mk l)), none]) (fun i s => ∃ x, s = [some (O.sh (mk l)), some (O.sh (mk l)), x]) ⟨_, rfl⟩ (by
        rintro i d s hd ⟨x, rfl⟩
        obtain ⟨hi, rfl⟩ := Rn.rngD_get.mp hd
        refine ⟨_, Rn.tgt_nm _ _, ?_⟩
        have e : l[i]? = some l[i] := List.getElem?_eq_getElem hi
        have ih2 := ih l[i] k (by omega) (hx _ (List.getElem_mem hi))
        rcases hmk with rfl | rfl <;> exact ⟨_, by simp [law_same_L1, Rn.atI_nat, e, ih2] <;> rfl, _, rfl⟩)
      exact ⟨x, by rw [h1, h2]⟩
    cases d with
    | non => simp [d_law_same, b_law_same, DfI.df, runD, enter]
    | bl b => simp [d_law_same, b_law_same, DfI.df, runD, enter]
    | int i => simp [d_law_same, b_law_same, DfI.df, runD, enter, num_ok]
    | str x => simp [d_law_same, b_law_same, DfI.df, runD, enter]
    | tup l =>
      obtain ⟨hl, hx⟩ := h
      obtain ⟨x, e⟩ := row l .tup (.inl rfl) hl hx
      simp [d_law_same, b_law_same, DfI.df, runD, enter, e, show -(lim : Int) ≤ l.length by omega, hl]
    | lst l =>
      obtain ⟨hl, hx⟩ := h
      obtain ⟨x, e⟩ := row l .lst (.inr rfl) hl hx
      simp [d_law_same, b_law_same, DfI.df, runD, enter, e, show -(lim : Int) ≤ l.length by omega, hl]
    | _ => cases h
/-- rows of our own, compared with equal ones -/
theorem same_ol (n : Nat) (l : List D) (m : Nat) (hm : n + 3 ≤ m) (h : okD (n + 1) (.lst l)) {o1 o2 : O} (h1 : o1 = .ol l ∨ o1 = .sh (.lst l)) (h2 : o2 = .ol l ∨ o2 = .sh (.lst l)) :
    tb.FF m 0 [o1, o2] = .ret (.sh (.bl true)) [if o1.own = true then some o1 else none, if o2.own = true then some o2 else none] := by
  obtain ⟨k, rfl⟩ : ∃ k, m = k + 1 := ⟨m - 1, by omega⟩
  obtain ⟨hl, hx⟩ := h
  rw [Rn.run tb h_law_same]
  have row : ∀ (pin : List Nat), (∀ i ∈ pin, i < 2) →
      ∃ x, forL (.nm 2) pin (evS (tb.ct k) pin law_same_L1) (rngD 0 l.length) [some o1, some o2, none] = .nx [some o1, some o2, x] := by
    intro pin hp
    obtain ⟨s', e1, x, e2⟩ := Rn.forL_nx (t := .nm 2) (pin := pin) (b := evS (tb.ct k) pin law_same_L1) (l := rngD 0 l.length) (s := [some o1, some o2, none]) (fun i s => ∃ x, s = [some o1, some o2, x]) ⟨_, rfl⟩ (by
      rintro i d s hd ⟨x, rfl⟩
      obtain ⟨hi, rfl⟩ := Rn.rngD_get.mp hd
      refine ⟨_, Rn.tgt_nm _ _, ?_⟩
      have e : l[i]? = some l[i] := List.getElem?_eq_getElem hi
      have ih2 := same_ok n l[i] k (by omega) (hx _ (List.getElem_mem hi))
      rcases h1 with rfl | rfl <;> rcases h2 with rfl | rfl <;> exact ⟨_, by simp [law_same_L1, Rn.atI_nat, e, ih2] <;> rfl, _, rfl⟩)
    exact ⟨x, by rw [e1, e2]⟩
  have l1 : -(lim : Int) ≤ l.length := by omega
  rcases h1 with rfl | rfl <;> rcases h2 with rfl | rfl
  · obtain ⟨x, e⟩ := row [0, 1] (by simp)
    simp [d_law_same, b_law_same, DfI.df, runD, enter, e, l1, hl]
  · obtain ⟨x, e⟩ := row [0] (by simp)
    simp [d_law_same, b_law_same, DfI.df, runD, enter, e, l1, hl]
  · obtain ⟨x, e⟩ := row [1] (by simp)
    simp [d_law_same, b_law_same, DfI.df, runD, enter, e, l1, hl]
  · obtain ⟨x, e⟩ := row [] (by simp)
    simp [d_law_same, b_law_same, DfI.df, runD, enter, e, l1, hl]
end Law

namespace Law
open PySem Vm
theorem perm_erase {α : Type} {l : List α} {i : Nat} {d : α} (h : l[i]? = some d) : (d :: l.eraseIdx i).Perm l := by
  induction l generalizing i with
  | nil => simp at h
  | cons a r ih =>
    cases i with
    | zero =>
      have h : a = d := by simpa using h
      subst h
      exact List.Perm.refl _
    | succ i =>
      have h : r[i]? = some d := by simpa using h
      show (d :: a :: r.eraseIdx i).Perm (a :: r)
      exact (List.Perm.swap a d _).trans (List.Perm.cons a (ih h))
theorem perm_move {α : Type} {left out l : List α} {i : Nat} {d : α} (h : left[i]? = some d) (p : (left ++ out).Perm l) : (left.eraseIdx i ++ (out ++ [d])).Perm l := by
  refine List.Perm.trans ?_ p
  have h1 : (left.eraseIdx i ++ (out ++ [d])).Perm (d :: (left.eraseIdx i ++ out)) := by
    rw [← List.append_assoc]
    exact List.perm_append_singleton _ _
  exact h1.trans (List.Perm.append_right out (perm_erase h))
/-- one turn: a thing of left is moved -/
theorem move_ok (n : Nat) (hn : 2 ≤ n) {x left : List D} (hx : Src x) (h0 : 0 < left.length) (h1 : left.length < 1000000) :
    ∃ (j : Nat) (y : List D) (d : D), tb.FF n 2 [.ol x, .sh (.int left.length)] = .ret (.sh (.int j)) [some (.ol y), none] ∧ Src y ∧ left[j]? = some d ∧ j < left.length := by
  obtain ⟨v, y, e, hy, v0, v1⟩ := draw_ok n hn hx left.length (by omega)
  obtain ⟨j, rfl⟩ := Int.eq_ofNat_of_zero_le v0
  have hj : j < left.length := by omega
  exact ⟨j, y, left[j], e, hy, List.getElem?_eq_getElem hj, hj⟩
theorem shuffled_ok (n : Nat) (hn : 3 ≤ n) {x l : List D} {o : O} (hx : Src x) (hr : Row o l) (hl : l.length ≤ 1000) :
    ∃ q y, tb.FF n 25 [.ol x, o] = .ret (.ol q) [some (.ol y), bk o] ∧ Src y ∧ q.Perm l := by
  obtain ⟨k, rfl⟩ : ∃ k, n = k + 1 := ⟨n - 1, by omega⟩
  rw [Rn.run tb h_law_shuffled]
  have hlim : lim = 100000 := rfl
  have loop : ∀ pin : List Nat, (∀ i ∈ pin, i < 2) → ∃ s', forL (.nm 4) pin (evS (tb.ct k) pin law_shuffled_L1) (rngD 0 l.length) [some (.ol x), some o, some (.ol l), some (.ol []), none] = .nx s' ∧
      ∃ (left out y : List D) (u : Option O), s' = [some (.ol y), some o, some (.ol left), some (.ol out), u] ∧ Src y ∧ (left ++ out).Perm l ∧ left.length + l.length = l.length := by
    intro pin hp
    refine Rn.forL_rngN (fun i s => ∃ (left out y : List D) (u : Option O), s = [some (.ol y), some o, some (.ol left), some (.ol out), u] ∧ Src y ∧ (left ++ out).Perm l ∧ left.length + i = l.length) ⟨l, [], x, none, rfl, hx, by simp, by omega⟩ ?_
    rintro i s hi ⟨left, out, y, u, rfl, hy, hperm, hlen⟩
    refine ⟨_, Rn.tgt_nm _ _, ?_⟩
    obtain ⟨j, z, d, e, hz, hd, hj⟩ := move_ok k (by omega) hy (left := left) (by omega) (by omega)
    have hout : out.length < 100000 := by have := hperm.length_eq; simp at this; omega
    have e4 : evS (tb.ct k) pin law_shuffled_L1 [some (.ol y), some o, some (.ol left), some (.ol out), some (.sh (.int i))] = .nx [some (.ol z), some o, some (.ol (left.eraseIdx j)), some (.ol (out ++ [d])), some (.sh (.int i))] := by
      simp [law_shuffled_L1, e, hd, hlim, hout, show j < 4611686018427387904 by omega]
    simp only [List.set_cons_succ, List.set_cons_zero, Int.zero_add, e4, Rn.TurnOk_nx]
    exact ⟨_, _, z, some (.sh (.int i)), rfl, hz, perm_move hd hperm, by rw [List.length_eraseIdx]; simp [hj]; omega⟩
  rcases hr with rfl | rfl | rfl
  · obtain ⟨s', e, left, out, y, u, rfl, hy, hp, hl2⟩ := loop [0] (by simp)
    have : left = [] := List.length_eq_zero_iff.mp (by omega)
    subst this
    refine ⟨out, y, ?_, hy, hp⟩
    simp [d_law_shuffled, b_law_shuffled, DfI.df, runD, enter, e, bk, hlim, show (l.length : Int) ≤ 100000 by omega, show -100000 ≤ (l.length : Int) by omega]
  · obtain ⟨s', e, left, out, y, u, rfl, hy, hp, hl2⟩ := loop [0] (by simp)
    have : left = [] := List.length_eq_zero_iff.mp (by omega)
    subst this
    refine ⟨out, y, ?_, hy, hp⟩
    simp [d_law_shuffled, b_law_shuffled, DfI.df, runD, enter, e, bk, hlim, show (l.length : Int) ≤ 100000 by omega, show -100000 ≤ (l.length : Int) by omega]
  · obtain ⟨s', e, left, out, y, u, rfl, hy, hp, hl2⟩ := loop [0, 1] (by simp)
    have : left = [] := List.length_eq_zero_iff.mp (by omega)
    subst this
    refine ⟨out, y, ?_, hy, hp⟩
    simp [d_law_shuffled, b_law_shuffled, DfI.df, runD, enter, e, bk, hlim, show (l.length : Int) ≤ 100000 by omega, show -100000 ≤ (l.length : Int) by omega]
/-- ints as data -/
abbrev iD (l : List Int) : List D := l.map D.int
theorem perm_ints {q : List D} {l : List Int} (h : q.Perm (iD l)) : ∃ m : List Int, q = iD m ∧ m.Perm l := by
  have inj : Function.Injective D.int := fun a b e => by injection e
  have : ∀ (q : List D), (∀ x ∈ q, ∃ i : Int, x = .int i) → ∃ m : List Int, q = iD m := by
    intro q
    induction q with
    | nil => exact fun _ => ⟨[], rfl⟩
    | cons a r ih =>
      intro h
      obtain ⟨i, rfl⟩ := h a (by simp)
      obtain ⟨m, rfl⟩ := ih fun x hx => h x (by simp [hx])
      exact ⟨i :: m, rfl⟩
  obtain ⟨m, rfl⟩ := this q fun x hx => by
    have := h.mem_iff.mp hx
    obtain ⟨i, _, rfl⟩ := List.mem_map.mp this
    exact ⟨i, rfl⟩
  refine ⟨m, rfl, ?_⟩
  have := h.map (fun d => match d with | .int i => i | _ => 0)
  simpa [iD, List.map_map, Function.comp_def] using this
/-- places below a bound, each once -/
structure Pl (b : Int) (l : List Int) : Prop where
  nd : l.Nodup
  rg : ∀ x ∈ l, 0 ≤ x ∧ x < b
def rngI (n : Nat) : List Int := (List.range n).map fun i : Nat => (i : Int)
theorem rngD_I (n : Nat) : rngD 0 n = iD (rngI n) := by
  unfold rngD iD rngI
  rw [List.map_map]
  congr 1
  funext i
  simp
theorem rngI_pl (n : Nat) : Pl n (rngI n) := ⟨by
  unfold rngI
  refine List.Pairwise.map _ ?_ List.nodup_range
  intro a b h e
  exact h (by omega), fun x hx => by
  unfold rngI at hx
  obtain ⟨i, hi, rfl⟩ := List.mem_map.mp hx
  have := List.mem_range.mp hi
  omega⟩
theorem some_ok (n : Nat) (hn : 3 ≤ n) {x : List D} (hx : Src x) (b m : Nat) (hb : b ≤ 1000) (hm : m ≤ b) :
    ∃ (q : List Int) (y : List D), tb.FF n 20 [.ol x, .sh (.int b), .sh (.int m)] = .ret (.ol (iD q)) [some (.ol y), none, none] ∧ Src y ∧ Pl b q ∧ q.length = m := by
  obtain ⟨k, rfl⟩ : ∃ k, n = k + 1 := ⟨n - 1, by omega⟩
  rw [Rn.run tb h_law_some]
  have hlim : lim = 100000 := rfl
  obtain ⟨s', e, left, out, y, u, rfl, hy, hperm, hlen⟩ := Rn.forL_rngN (t := .nm 5) (pin := [0]) (b := evS (tb.ct k) [0] law_some_L1) (lo := 0) (n := m) (s := [some (.ol x), some (.sh (.int b)), some (.sh (.int m)), some (.ol (rngD 0 b)), some (.ol []), none])
    (fun i s => ∃ (left out y : List D) (u : Option O), s = [some (.ol y), some (.sh (.int b)), some (.sh (.int m)), some (.ol left), some (.ol out), u] ∧ Src y ∧ (left ++ out).Perm (rngD 0 b) ∧ left.length + i = b)
    ⟨rngD 0 b, [], x, none, rfl, hx, by simp, by simp⟩ (by
    rintro i s hi ⟨left, out, y, u, rfl, hy, hperm, hlen⟩
    refine ⟨_, Rn.tgt_nm _ _, ?_⟩
    obtain ⟨j, z, d, e, hz, hd, hj⟩ := move_ok k (by omega) hy (left := left) (by omega) (by omega)
    have hout : out.length < 100000 := by have := hperm.length_eq; simp at this; omega
    have e4 : evS (tb.ct k) [0] law_some_L1 [some (.ol y), some (.sh (.int b)), some (.sh (.int m)), some (.ol left), some (.ol out), some (.sh (.int i))] = .nx [some (.ol z), some (.sh (.int b)), some (.sh (.int m)), some (.ol (left.eraseIdx j)), some (.ol (out ++ [d])), some (.sh (.int i))] := by
      simp [law_some_L1, e, hd, hlim, hout, show j < 4611686018427387904 by omega]
    simp only [List.set_cons_succ, List.set_cons_zero, Int.zero_add, e4, Rn.TurnOk_nx]
    exact ⟨_, _, z, some (.sh (.int i)), rfl, hz, perm_move hd hperm, by rw [List.length_eraseIdx]; simp [hj]; omega⟩)
  rw [rngD_I] at hperm
  obtain ⟨q', hq', hp'⟩ := perm_ints hperm
  have ho : ∃ q, out = iD q ∧ ∃ r, q' = r ++ q := by
    obtain ⟨r, q, h1, h2, h3⟩ := List.map_eq_append_iff.mp hq'.symm
    exact ⟨q, h3.symm, r, h1⟩
  obtain ⟨q, rfl, r, rfl⟩ := ho
  have pl := rngI_pl b
  refine ⟨q, y, ?_, hy, ⟨(List.nodup_append.mp (hp'.nodup_iff.mpr pl.nd)).2.1, fun z hz => pl.rg z (hp'.mem_iff.mp (by simp [hz]))⟩, ?_⟩
  · simp [d_law_some, b_law_some, DfI.df, runD, enter, e, hlim, show (b : Int) ≤ 100000 by omega, show -100000 ≤ (b : Int) by omega, show (m : Int) ≤ 100000 by omega, show -100000 ≤ (m : Int) by omega]
  · have := hp'.length_eq
    have l2 := hperm.length_eq
    simp [rngI, iD] at this l2
    omega
end Law

namespace Law
open PySem Vm
theorem source_ok (n : Nat) (hn : 1 ≤ n) (ns : List Int) : tb.FF n 5 [.sh (.scr ns)] = .ret (.ol (src ns 0 0 0 0 false)) [none] := by
  obtain ⟨k, rfl⟩ : ∃ k, n = k + 1 := ⟨n - 1, by omega⟩
  rw [Rn.run tb h_law_source]
  simp [d_law_source, b_law_source, DfI.df, runD, enter, src]
theorem src_ok (ns : List Int) : Src (src ns 0 0 0 0 false) := ⟨ns, 0, 0, 0, 0, false, rfl⟩
/-- some of a row, each once -/
structure Sub (m l : List Int) : Prop where
  ne : m ≠ []
  nd : m.Nodup
  sub : ∀ x ∈ m, x ∈ l
theorem nodup_le {α : Type} [DecidableEq α] : ∀ {a b : List α}, a.Nodup → (∀ x ∈ a, x ∈ b) → a.length ≤ b.length
  | [], _, _, _ => Nat.zero_le _
  | x :: a, b, nd, h => by
    obtain ⟨n1, n2⟩ := List.nodup_cons.mp nd
    have hx := h x (by simp)
    have := nodup_le (b := b.erase x) n2 fun y hy => (List.mem_erase_of_ne (fun (e : y = x) => n1 (by rw [← e]; exact hy))).mpr (h y (by simp [hy]))
    rw [List.length_erase_of_mem hx] at this
    have := List.length_pos_of_mem hx
    simp only [List.length_cons]
    omega
theorem Sub.len {m l : List Int} (h : Sub m l) : m.length ≤ l.length := nodup_le h.nd h.sub
theorem menu_ok (n : Nat) (hn : 4 ≤ n) {x : List D} {g : List Int} {o : O} (hx : Src x) (hr : o = .sh (.lst (iD g)) ∨ o = .ol (iD g)) (hg : g.Nodup) (h0 : 0 < g.length) (h1 : g.length ≤ 1000) (kind : Int) (hk : 0 ≤ kind ∧ kind < 3) :
    ∃ (m : List Int) (y : List D), tb.FF n 21 [.ol x, o, .sh (.int kind)] = .ret (.ol (iD m)) [some (.ol y), bk o, none] ∧ Src y ∧ Sub m g := by
  obtain ⟨k, rfl⟩ : ∃ k, n = k + 1 := ⟨n - 1, by omega⟩
  rw [Rn.run tb h_law_menu]
  have row : Row o (iD g) := by rcases hr with rfl | rfl <;> simp [Row]
  have ne : g ≠ [] := fun z => by rw [z] at h0; simp at h0
  by_cases c0 : kind = 0
  · refine ⟨g, x, ?_, hx, ⟨ne, hg, fun _ h => h⟩⟩
    rcases hr with rfl | rfl <;> simp [d_law_menu, b_law_menu, DfI.df, runD, enter, c0, bk]
  by_cases c1 : kind = 1
  · obtain ⟨d, y, e, hy, hd⟩ := pick_ok k (by omega) hx row (by simpa using h0) (by simp; omega)
    obtain ⟨i, hi, rfl⟩ := List.mem_map.mp hd
    refine ⟨[i], y, ?_, hy, ⟨by simp, by simp, by simpa using hi⟩⟩
    rcases hr with rfl | rfl <;> simp [d_law_menu, b_law_menu, DfI.df, runD, enter, c0, c1, bk] at e ⊢ <;> simp [e]
  · obtain ⟨q, y, e, hy, hp⟩ := shuffled_ok k (by omega) hx row (by simpa using h1)
    obtain ⟨m, rfl, hm⟩ := perm_ints hp
    obtain ⟨v, z, e2, hz, v0, v1⟩ := draw_ok k (by omega) hy g.length (by omega)
    obtain ⟨j, rfl⟩ := Int.eq_ofNat_of_zero_le v0
    refine ⟨m.take (1 + j), z, ?_, hz, ⟨?_, (hm.nodup_iff.mpr hg).sublist (List.take_sublist _ _), fun x hx => hm.mem_iff.mp (List.mem_of_mem_take hx)⟩⟩
    · have cut : cutD (iD m) none (some (1 + (j : Int))) = iD (m.take (1 + j)) := by
        rw [show (1 : Int) + (j : Int) = ((1 + j : Nat) : Int) by omega, cutD_take]
        simp [iD, List.map_take]
      rcases hr with rfl | rfl <;> simp [d_law_menu, b_law_menu, DfI.df, runD, enter, c0, c1, bk] at e e2 cut ⊢ <;> simp [e, e2, cut]
    · intro h
      have := hm.length_eq
      rw [List.take_eq_nil_iff] at h
      rcases h with h | h
      · omega
      · rw [h] at this; simp at this; omega
theorem cost_ok (n : Nat) (hn : 3 ≤ n) {x : List D} (hx : Src x) : ∃ (c : Int) (y : List D), tb.FF n 22 [.ol x] = .ret (.sh (.int c)) [some (.ol y)] ∧ Src y ∧ 0 ≤ c ∧ c ≤ 1000000000 := by
  obtain ⟨k, rfl⟩ : ∃ k, n = k + 1 := ⟨n - 1, by omega⟩
  rw [Rn.run tb h_law_cost]
  obtain ⟨kind, y, e, hy, k0, k1⟩ := draw_ok k (by omega) hx 4 (by omega)
  by_cases c0 : kind = 0
  · refine ⟨0, y, ?_, hy, by omega, by omega⟩
    simp [d_law_cost, b_law_cost, DfI.df, runD, enter, e, c0]
  by_cases c1 : kind = 1
  · obtain ⟨v, z, e2, hz, v0, v1⟩ := draw_ok k (by omega) hy 3 (by omega)
    refine ⟨1000000000 - v, z, ?_, hz, by omega, by omega⟩
    simp [d_law_cost, b_law_cost, DfI.df, runD, enter, e, e2, c0, c1]
  by_cases c2 : kind = 2
  · obtain ⟨v, z, e2, hz, v0, v1⟩ := draw_ok k (by omega) hy 5 (by omega)
    refine ⟨1 + v, z, ?_, hz, by omega, by omega⟩
    simp [d_law_cost, b_law_cost, DfI.df, runD, enter, e, e2, c0, c1, c2]
  · obtain ⟨v, z, e2, hz, v0, v1⟩ := draw_ok k (by omega) hy 1000000001 (by omega)
    refine ⟨v, z, ?_, hz, by omega, by omega⟩
    simp [d_law_cost, b_law_cost, DfI.df, runD, enter, e, e2, c0, c1, c2]
/-- a lot's members, candidates, price -/
structure LT where
  mem : List Int
  can : List Int
  pri : Int
structure okL (b : Int) (l : LT) : Prop where
  mp : Pl b l.mem
  ml : 2 ≤ l.mem.length
  cs : Sub l.can l.mem
  pr : 0 ≤ l.pri ∧ l.pri ≤ 1000000000
def rowD (l : LT) : D := .tup [.lst (iD l.mem), .lst (iD l.can), .int l.pri]
theorem Pl.len {b : Nat} {l : List Int} (h : Pl b l) : l.length ≤ b := by
  have : l.length ≤ (rngI b).length := (nodup_le h.nd fun x hx => by
    have := h.rg x hx
    unfold rngI
    exact List.mem_map.mpr ⟨x.toNat, List.mem_range.mpr (by omega), by omega⟩)
  simpa [rngI] using this
theorem wide_ok (n : Nat) (hn : 5 ≤ n) {x : List D} (hx : Src x) (b : Nat) (hb : 2 ≤ b) (hb2 : b ≤ 100) :
    ∃ (l : LT) (y : List D), tb.FF n 18 [.ol x, .sh (.int b)] = .ret (.sh (rowD l)) [some (.ol y), none] ∧ Src y ∧ okL b l := by
  obtain ⟨k, rfl⟩ : ∃ k, n = k + 1 := ⟨n - 1, by omega⟩
  rw [Rn.run tb h_law_wide]
  obtain ⟨v, y1, e1, hy1, v0, v1⟩ := draw_ok k (by omega) hx (b - 1) (by omega)
  obtain ⟨j, rfl⟩ := Int.eq_ofNat_of_zero_le v0
  obtain ⟨g, y2, e2, hy2, hg, hgl⟩ := some_ok k (by omega) hy1 b (2 + j) (by omega) (by omega)
  rw [show (((2 + j : Nat)) : Int) = 2 + (j : Int) by omega] at e2
  obtain ⟨kind, y3, e3, hy3, k0, k1⟩ := draw_ok k (by omega) hy2 3 (by omega)
  obtain ⟨m, y4, e4, hy4, hm⟩ := menu_ok k (by omega) hy3 (g := g) (o := .ol (iD g)) (.inr rfl) hg.nd (by omega) (by omega) kind ⟨k0, k1⟩
  obtain ⟨c, y5, e5, hy5, c0, c1⟩ := cost_ok k (by omega) hy4
  refine ⟨⟨g, m, c⟩, y5, ?_, hy5, ⟨hg, by show 2 ≤ g.length; omega, hm, c0, c1⟩⟩
  simp [bk] at e4
  simp [d_law_wide, b_law_wide, DfI.df, runD, enter, e1, e2, e3, e4, e5, rowD]
end Law

namespace Law
open PySem Vm
theorem inD_int (x : Int) (l : List Int) : inD (.int x) (iD l) = decide (x ∈ l) := by
  unfold inD
  induction l with
  | nil => simp
  | cons a r ih =>
    show (eqD (.int a) (.int x) || (iD r).any fun y => eqD y (.int x)) = _
    rw [ih]
    by_cases h : x = a
    · subst h; simp [eqD]
    · have h2 : ¬ a = x := fun e => h e.symm
      simp [eqD, h, h2]
theorem flat_ints (l : List Int) : (iD l).all flatD = true := by
  induction l with
  | nil => rfl
  | cons a r ih => simp [flatD]
theorem in_lst (x : Int) (l : List Int) : cmpD .In (.int x) (.lst (iD l)) = some (decide (x ∈ l)) := by
  show (if flatD (.int x) = true ∧ (iD l).all flatD = true then some (inD (.int x) (iD l)) else none) = _
  rw [if_pos ⟨rfl, flat_ints l⟩, inD_int]
theorem in_tup (x : Int) (l : List Int) : cmpD .In (.int x) (.tup (iD l)) = some (decide (x ∈ l)) := by
  show (if flatD (.int x) = true ∧ (iD l).all flatD = true then some (inD (.int x) (iD l)) else none) = _
  rw [if_pos ⟨rfl, flat_ints l⟩, inD_int]
theorem nin_lst (x : Int) (l : List Int) : cmpD .NotIn (.int x) (.lst (iD l)) = some (!decide (x ∈ l)) := by
  show (if flatD (.int x) = true ∧ (iD l).all flatD = true then some (!inD (.int x) (iD l)) else none) = _
  rw [if_pos ⟨rfl, flat_ints l⟩, inD_int]
theorem nin_tup (x : Int) (l : List Int) : cmpD .NotIn (.int x) (.tup (iD l)) = some (!decide (x ∈ l)) := by
  show (if flatD (.int x) = true ∧ (iD l).all flatD = true then some (!inD (.int x) (iD l)) else none) = _
  rw [if_pos ⟨rfl, flat_ints l⟩, inD_int]
theorem nodup_not {l : List Int} (h : l.Nodup) {i : Nat} (hi : i < l.length) : ¬ l[i] ∈ l.take i := by
  intro hm
  obtain ⟨j, hj, e⟩ := List.mem_iff_getElem.mp hm
  rw [List.getElem_take] at e
  rw [List.length_take] at hj
  have e2 : l[j]? = l[i]? := by rw [List.getElem?_eq_getElem hi, List.getElem?_eq_getElem (by omega), e]
  have := (List.getElem?_inj (by omega) h).mp e2
  omega
/-- all_different, of places that are -/
theorem diff_ok (n : Nat) (hn : 1 ≤ n) {l : List Int} {o : O} (hr : Row o (iD l)) (hd : l.Nodup) (hl : l.length ≤ 1000) : tb.FF n 23 [o] = .ret (.sh (.bl true)) [bk o] := by
  obtain ⟨k, rfl⟩ : ∃ k, n = k + 1 := ⟨n - 1, by omega⟩
  rw [Rn.run tb h_all_different]
  have hlim : lim = 100000 := rfl
  have loop : ∀ pin : List Nat, (∀ i ∈ pin, i < 1) → ∃ u, forL (.nm 1) pin (evS (tb.ct k) pin all_different_L1) (rngD 0 l.length) [some o, none] = .nx [some o, u] := by
    intro pin hp
    obtain ⟨s', e, u, rfl⟩ := Rn.forL_rngN (t := .nm 1) (pin := pin) (b := evS (tb.ct k) pin all_different_L1) (lo := 0) (n := l.length) (s := [some o, none]) (fun i s => ∃ u, s = [some o, u]) ⟨none, rfl⟩ (by
      rintro i s hi ⟨u, rfl⟩
      refine ⟨_, Rn.tgt_nm _ _, ?_⟩
      have hx : (iD l)[i]? = some (.int l[i]) := by rw [List.getElem?_map, List.getElem?_eq_getElem hi]; rfl
      have hc : cutD (iD l) none (some (i : Int)) = (iD l).take i := cutD_take _ _
      have ht : iD (l.take i) = (iD l).take i := List.map_take
      have nn := nodup_not hd hi
      generalize l[i] = x at hx nn
      have q1 := in_lst x (l.take i)
      have q2 := in_tup x (l.take i)
      rw [decide_eq_false nn, ht] at q1 q2
      rcases hr with rfl | rfl | rfl <;> simp only [List.set_cons_succ, List.set_cons_zero, Int.zero_add] <;> simp [all_different_L1, Rn.atI_nat, -List.getElem?_map, hx, hc, q1, q2])
    exact ⟨u, e⟩
  have l1 : (l.length : Int) ≤ 100000 := by omega
  have l2 : -100000 ≤ (l.length : Int) := by omega
  rcases hr with rfl | rfl | rfl
  · obtain ⟨u, e⟩ := loop [] (by simp)
    simp [d_all_different, b_all_different, DfI.df, runD, enter, hlim, l1, l2, e, bk]
  · obtain ⟨u, e⟩ := loop [] (by simp)
    simp [d_all_different, b_all_different, DfI.df, runD, enter, hlim, l1, l2, e, bk]
  · obtain ⟨u, e⟩ := loop [0] (by simp)
    simp [d_all_different, b_all_different, DfI.df, runD, enter, hlim, l1, l2, e, bk]
/-- the object's fields -/
def lotF (l : LT) : List (Nat × O) := [(26, .sh (.tup (iD (sortI l.mem)))), (25, .sh (.tup (iD (sortI l.can)))), (27, .sh (.int l.pri))]
def lotI (l : LT) : D := .ins 1 [(26, .tup (iD (sortI l.mem))), (25, .tup (iD (sortI l.can))), (27, .int l.pri)]
theorem init_ok (n : Nat) (hn : 2 ≤ n) (l : LT) (h : okL 12 l) :
    tb.FF n 26 [.oo 1 [], .sh (.lst (iD l.mem)), .sh (.lst (iD l.can)), .sh (.int l.pri)] = .ret (.sh .non) [some (.oo 1 (lotF l)), none, none, none] := by
  obtain ⟨k, rfl⟩ : ∃ k, n = k + 1 := ⟨n - 1, by omega⟩
  rw [Rn.run tb h_Lot__init]
  have l1 : l.mem.length ≤ 12 := h.mp.len
  have l2 : l.can.length ≤ 12 := Nat.le_trans h.cs.len l1
  have ml := h.ml
  have d1 := diff_ok k (by omega) (o := .sh (.lst (iD l.mem))) (.inl rfl) h.mp.nd (by omega)
  have d2 := diff_ok k (by omega) (o := .sh (.lst (iD l.can))) (.inl rfl) h.cs.nd (by omega)
  simp only [bk, Rn.own_sh_, Bool.false_eq_true, if_false] at d1 d2
  have cl : l.can ≠ [] := h.cs.ne
  obtain ⟨s1, e1, u, rfl⟩ := Rn.forL_thingsN (t := .nm 4) (pin := [0]) (b := evS (tb.ct k) [0] Lot__init_L1) (L := l.mem) (s := [some (.oo 1 []), some (.sh (.lst (iD l.mem))), some (.sh (.lst (iD l.can))), some (.sh (.int l.pri)), none]) D.int
    (fun i s => ∃ u, s = [some (.oo 1 []), some (.sh (.lst (iD l.mem))), some (.sh (.lst (iD l.can))), some (.sh (.int l.pri)), u]) ⟨none, rfl⟩ (by
    rintro i a s ha ⟨u, rfl⟩
    refine ⟨_, Rn.tgt_nm _ _, ?_⟩
    have := h.mp.rg a (List.mem_of_getElem? ha)
    simp [Lot__init_L1, this.1, this.2])
  obtain ⟨s2, e2, w, rfl⟩ := Rn.forL_thingsN (t := .nm 4) (pin := [0]) (b := evS (tb.ct k) [0] Lot__init_L2) (L := l.can) (s := [some (.oo 1 []), some (.sh (.lst (iD l.mem))), some (.sh (.lst (iD l.can))), some (.sh (.int l.pri)), u]) D.int
    (fun i s => ∃ u, s = [some (.oo 1 []), some (.sh (.lst (iD l.mem))), some (.sh (.lst (iD l.can))), some (.sh (.int l.pri)), u]) ⟨u, rfl⟩ (by
    rintro i a s ha ⟨u, rfl⟩
    refine ⟨_, Rn.tgt_nm _ _, ?_⟩
    have q := nin_lst a l.mem
    rw [decide_eq_true (h.cs.sub a (List.mem_of_getElem? ha))] at q
    simp [Lot__init_L2, q])
  have m2 : ¬ (l.mem.length : Int) < 2 := by omega
  simp [d_Lot__init, b_Lot__init, DfI.df, runD, enter, d1, d2, e1, e2, m2, cl, h.pr.1, h.pr.2, lotF]
theorem frz_lot (l : LT) : frz (.oo 1 (lotF l)) = lotI l := by simp [lotF, lotI]
def keyD (l : LT) : D := .tup [.int l.pri, .tup (iD (sortI l.mem)), .tup (iD (sortI l.can))]
theorem insI_len (x : Int) : ∀ l : List Int, (insI x l).length = l.length + 1
  | [] => rfl
  | y :: r => by unfold insI; split <;> simp [insI_len x r]
theorem sortI_len : ∀ l : List Int, (sortI l).length = l.length
  | [] => rfl
  | x :: r => by unfold sortI; rw [insI_len, sortI_len r]; rfl
theorem iD_ok {l : List Int} (h : l.length ≤ 1000) : okD 1 (.tup (iD l)) := ⟨by simp [lim]; omega, fun x hx => by
  obtain ⟨i, _, rfl⟩ := List.mem_map.mp hx
  trivial⟩
theorem keyD_ok {l : LT} (h : okL 12 l) : okD 2 (keyD l) := by
  have l1 : l.mem.length ≤ 12 := h.mp.len
  have l2 : l.can.length ≤ 12 := Nat.le_trans h.cs.len l1
  refine ⟨by simp [lim], fun x hx => ?_⟩
  simp at hx
  rcases hx with rfl | rfl | rfl
  · trivial
  · exact iD_ok (by rw [sortI_len]; omega)
  · exact iD_ok (by rw [sortI_len]; omega)
theorem alike_ints (a b : List Int) : W.alikeAll (toPs (iD a)) (toPs (iD b)) = true := by
  rw [toPs_map, toPs_map, List.map_map, List.map_map]
  exact alikeAll_map _ _ (fun a b => by simp [toP, W.alike]) a b
theorem alike_key (a b : LT) : W.alike (toP (keyD a)) (toP (keyD b)) = true := by
  simp only [keyD, toP, toPs, W.alike, W.alikeAll, Bool.true_and, Bool.and_true, alike_ints]
def ltK (a b : LT) : Bool := W.dataLt (toP (keyD a)) (toP (keyD b))
def leK (a b : LT) : Bool := !W.dataLt (toP (keyD b)) (toP (keyD a))
def eqK (a b : LT) : Bool := PyData.eqv (toP (keyD a)) (toP (keyD b))
theorem lt_key {a b : LT} (ha : okL 12 a) (hb : okL 12 b) : cmpD .Lt (keyD a) (keyD b) = some (ltK a b) :=
  ordQ_tup (n := 2) (f := W.dataLt) (keyD_ok ha) (keyD_ok hb) (by omega) (alike_key a b)
theorem le_key {a b : LT} (ha : okL 12 a) (hb : okL 12 b) : cmpD .LtE (keyD a) (keyD b) = some (leK a b) :=
  ordQ_tup (n := 2) (f := fun p q => !W.dataLt q p) (keyD_ok ha) (keyD_ok hb) (by omega) (alike_key a b)
theorem eq_key {a b : LT} (ha : okL 12 a) (hb : okL 12 b) : cmpD .Eq (keyD a) (keyD b) = some (eqK a b) :=
  eqQ_tup (n := 2) (keyD_ok ha) (keyD_ok hb) (by omega)
theorem llt_ok (n : Nat) (hn : 1 ≤ n) (a b : LT) (ha : okL 12 a) (hb : okL 12 b) : tb.FF n 29 [.sh (lotI a), .sh (lotI b)] = .ret (.sh (.bl (ltK a b))) [none, none] := by
  obtain ⟨k, rfl⟩ : ∃ k, n = k + 1 := ⟨n - 1, by omega⟩
  rw [Rn.run tb h_Lot__lt]
  have := lt_key ha hb
  unfold keyD at this
  simp [d_Lot__lt, b_Lot__lt, DfI.df, runD, enter, lotI, this]
theorem lle_ok (n : Nat) (hn : 1 ≤ n) (a b : LT) (ha : okL 12 a) (hb : okL 12 b) : tb.FF n 30 [.sh (lotI a), .sh (lotI b)] = .ret (.sh (.bl (leK a b))) [none, none] := by
  obtain ⟨k, rfl⟩ : ∃ k, n = k + 1 := ⟨n - 1, by omega⟩
  rw [Rn.run tb h_Lot__le]
  have := le_key ha hb
  unfold keyD at this
  simp [d_Lot__le, b_Lot__le, DfI.df, runD, enter, lotI, this]
theorem leq_ok (n : Nat) (hn : 1 ≤ n) (a b : LT) (ha : okL 12 a) (hb : okL 12 b) : tb.FF n 28 [.sh (lotI a), .sh (lotI b)] = .ret (.sh (.bl (eqK a b))) [none, none] := by
  obtain ⟨k, rfl⟩ : ∃ k, n = k + 1 := ⟨n - 1, by omega⟩
  rw [Rn.run tb h_Lot__eq]
  have := eq_key ha hb
  unfold keyD at this
  rw [Rn.cmpD_Eq] at this
  simp [d_Lot__eq, b_Lot__eq, DfI.df, runD, enter, lotI, this]
end Law

namespace Law
open PySem Vm
theorem seq_nx {G : Ct} {pin : List Nat} {a b : S} {s s' : Vm.Env} (h : evS G pin a s = .nx s') : evS G pin (.seq a b) s = evS G pin b s' := by rw [Rn.evS_seq, h, Rn.kSeq_nx]
theorem Pl.perm {b : Int} {l m : List Int} (h : Pl b l) (p : m.Perm l) : Pl b m := ⟨p.nodup_iff.mpr h.nd, fun x hx => h.rg x (p.mem_iff.mp hx)⟩
theorem Sub.perm {m l m' l' : List Int} (h : Sub m l) (p : m'.Perm m) (q : l'.Perm l) : Sub m' l' := ⟨fun z => by
  subst z
  exact h.ne (List.nil_perm.mp p), p.nodup_iff.mpr h.nd, fun x hx => q.mem_iff.mpr (h.sub x (p.mem_iff.mp hx))⟩
theorem insI_comm (x y : Int) : ∀ l : List Int, insI x (insI y l) = insI y (insI x l)
  | [] => by
    by_cases h3 : x ≤ y
    · by_cases h4 : y ≤ x
      · have : x = y := by omega
        subst this; rfl
      · simp [insI, h3, h4]
    · simp [insI, h3, show y ≤ x by omega]
  | a :: r => by
    have ih := insI_comm x y r
    by_cases h1 : x ≤ a <;> by_cases h2 : y ≤ a
    · by_cases h3 : x ≤ y
      · by_cases h4 : y ≤ x
        · have : x = y := by omega
          subst this; rfl
        · simp [insI, h1, h2, h3, h4]
      · simp [insI, h1, h2, h3, show y ≤ x by omega]
    · simp [insI, h1, h2, show ¬ y ≤ x by omega]
    · simp [insI, h1, h2, show ¬ x ≤ y by omega]
    · simp [insI, h1, h2, ih]
theorem sortI_congr {a b : List Int} (h : a.Perm b) : sortI a = sortI b := by
  induction h with
  | nil => rfl
  | cons x _ ih => unfold sortI; rw [ih]
  | swap x y l => simp only [sortI]; exact insI_comm _ _ _
  | trans _ _ h1 h2 => rw [h1, h2]
theorem insI_perm (x : Int) : ∀ l : List Int, (insI x l).Perm (x :: l)
  | [] => List.Perm.refl _
  | y :: r => by
    unfold insI
    split
    · exact List.Perm.refl _
    · exact ((insI_perm x r).cons y).trans (List.Perm.swap x y r)
theorem sortI_perm : ∀ l : List Int, (sortI l).Perm l
  | [] => List.Perm.refl _
  | x :: r => (insI_perm x _).trans ((sortI_perm r).cons x)
theorem sortI_sortI (l : List Int) : sortI (sortI l) = sortI l := sortI_congr (sortI_perm l)
theorem take_nd {l : List Int} {i : Nat} (hi : i < l.length) : (l.take (i + 1)).Nodup ↔ (l.take i).Nodup ∧ l[i] ∉ l.take i := by
  rw [List.take_succ_eq_append_getElem hi, List.nodup_append]
  constructor
  · rintro ⟨h1, _, h3⟩
    exact ⟨h1, fun h => h3 _ h l[i] (by simp) rfl⟩
  · rintro ⟨h1, h2⟩
    refine ⟨h1, by simp, fun a ha b hb e => ?_⟩
    simp at hb
    subst hb
    exact h2 (e ▸ ha)
theorem diff_any (n : Nat) (hn : 1 ≤ n) {l : List Int} {o : O} (hr : Row o (iD l)) (hl : l.length ≤ 1000) : tb.FF n 23 [o] = .ret (.sh (.bl (decide l.Nodup))) [bk o] := by
  obtain ⟨k, rfl⟩ : ∃ k, n = k + 1 := ⟨n - 1, by omega⟩
  rw [Rn.run tb h_all_different]
  have hlim : lim = 100000 := rfl
  have loop : ∀ pin : List Nat, (∃ u, forL (.nm 1) pin (evS (tb.ct k) pin all_different_L1) (rngD 0 l.length) [some o, none] = .nx [some o, u] ∧ l.Nodup) ∨ (∃ u, forL (.nm 1) pin (evS (tb.ct k) pin all_different_L1) (rngD 0 l.length) [some o, none] = .rt (.sh (.bl false)) [some o, u] ∧ ¬ l.Nodup) := by
    intro pin
    refine Rn.forL_rng (t := .nm 1) (pin := pin) (b := evS (tb.ct k) pin all_different_L1) (lo := 0) (n := l.length) (s := [some o, none]) (fun i s => (l.take i).Nodup ∧ ∃ u, s = [some o, u])
      (fun r => (∃ u, r = .nx [some o, u] ∧ l.Nodup) ∨ (∃ u, r = .rt (.sh (.bl false)) [some o, u] ∧ ¬ l.Nodup)) ⟨by simp, none, rfl⟩ ?_ ?_
    · rintro i s hi ⟨hnd, u, rfl⟩
      refine ⟨_, Rn.tgt_nm _ _, ?_⟩
      have hx : (iD l)[i]? = some (.int l[i]) := by rw [List.getElem?_map, List.getElem?_eq_getElem hi]; rfl
      have hc : cutD (iD l) none (some (i : Int)) = (iD l).take i := cutD_take _ _
      have ht : iD (l.take i) = (iD l).take i := List.map_take
      have tn := take_nd hi
      generalize l[i] = x at hx tn
      have q1 := in_lst x (l.take i)
      have q2 := in_tup x (l.take i)
      rw [ht] at q1 q2
      by_cases hm : x ∈ l.take i
      · rw [decide_eq_true hm] at q1 q2
        have nn : ¬ l.Nodup := fun z => (tn.mp (z.sublist (List.take_sublist _ _))).2 hm
        rcases hr with rfl | rfl | rfl <;> simp only [List.set_cons_succ, List.set_cons_zero, Int.zero_add] <;> simp [all_different_L1, Rn.atI_nat, -List.getElem?_map, hx, hc, q1, q2, nn]
      · rw [decide_eq_false hm] at q1 q2
        have nn := tn.mpr ⟨hnd, hm⟩
        rcases hr with rfl | rfl | rfl <;> simp only [List.set_cons_succ, List.set_cons_zero, Int.zero_add] <;> simp [all_different_L1, Rn.atI_nat, -List.getElem?_map, hx, hc, q1, q2, nn]
    · rintro s ⟨hnd, u, rfl⟩
      rw [List.take_length] at hnd
      exact .inl ⟨u, rfl, hnd⟩
  have l1 : (l.length : Int) ≤ 100000 := by omega
  have l2 : -100000 ≤ (l.length : Int) := by omega
  rcases hr with rfl | rfl | rfl
  · rcases loop [] with ⟨u, e, hd⟩ | ⟨u, e, hd⟩ <;> simp [d_all_different, b_all_different, DfI.df, runD, enter, hlim, l1, l2, e, bk, hd]
  · rcases loop [] with ⟨u, e, hd⟩ | ⟨u, e, hd⟩ <;> simp [d_all_different, b_all_different, DfI.df, runD, enter, hlim, l1, l2, e, bk, hd]
  · rcases loop [0] with ⟨u, e, hd⟩ | ⟨u, e, hd⟩ <;> simp [d_all_different, b_all_different, DfI.df, runD, enter, hlim, l1, l2, e, bk, hd]
/-- why a lot is refused -/
def whyL (m c : List Int) (p : Int) : Option Str :=
  if m.length < 2 ∨ ¬ m.Nodup then some ("members" : Str) else if ¬ (∀ x ∈ m, 0 ≤ x ∧ x < 12) then some ("members" : Str) else
  if c = [] ∨ ¬ c.Nodup then some ("candidates" : Str) else if ¬ (∀ x ∈ c, x ∈ m) then some ("candidates" : Str) else if 0 ≤ p ∧ p ≤ 1000000000 then none else some ("price" : Str)
theorem take_all {α : Type} {l : List α} {i : Nat} {a : α} (h : l[i]? = some a) {P : α → Prop} : (∀ x ∈ l.take (i + 1), P x) ↔ (∀ x ∈ l.take i, P x) ∧ P a := by
  have hi : i < l.length := (List.getElem?_eq_some_iff.mp h).1
  have e : l[i] = a := (List.getElem?_eq_some_iff.mp h).2
  rw [List.take_succ_eq_append_getElem hi, e]
  constructor
  · exact fun z => ⟨fun x hx => z x (by simp [hx]), z a (by simp)⟩
  · rintro ⟨z1, z2⟩ x hx
    rcases List.mem_append.mp hx with hx | hx
    · exact z1 x hx
    · simp at hx; subst hx; exact z2
end Law

namespace Law
open PySem Vm
/-- what is given back of an argument that was walked -/
def bks (o : O) : Option O := if o.own = true then some (.sh (frz o)) else none
theorem init_loop1 (k : Nat) (m : List Int) (p : Int) (o1 o2 : O) (pin : List Nat) : (∃ u, forL (.nm 4) pin (evS (tb.ct k) pin Lot__init_L1) (iD m) [some (.oo 1 []), some o1, some o2, some (.sh (.int p)), none] = .nx [some (.oo 1 []), some o1, some o2, some (.sh (.int p)), u] ∧ ∀ x ∈ m, 0 ≤ x ∧ x < 12) ∨
      (∃ u, forL (.nm 4) pin (evS (tb.ct k) pin Lot__init_L1) (iD m) [some (.oo 1 []), some o1, some o2, some (.sh (.int p)), none] = .ex 4 [(31, .str "members")] [some (.oo 1 []), some o1, some o2, some (.sh (.int p)), u] ∧ ¬ ∀ x ∈ m, 0 ≤ x ∧ x < 12) := by
  refine Rn.forL_things (t := .nm 4) (pin := pin) (b := evS (tb.ct k) pin Lot__init_L1) (L := m) D.int (fun i s => (∀ x ∈ m.take i, 0 ≤ x ∧ x < 12) ∧ ∃ u, s = [some (.oo 1 []), some o1, some o2, some (.sh (.int p)), u])
    (fun r => (∃ u, r = .nx [some (.oo 1 []), some o1, some o2, some (.sh (.int p)), u] ∧ ∀ x ∈ m, 0 ≤ x ∧ x < 12) ∨ (∃ u, r = .ex 4 [(31, .str "members")] [some (.oo 1 []), some o1, some o2, some (.sh (.int p)), u] ∧ ¬ ∀ x ∈ m, 0 ≤ x ∧ x < 12)) ⟨by simp, none, rfl⟩ ?_ ?_
  · rintro i a s ha ⟨hp, u, rfl⟩
    refine ⟨_, Rn.tgt_nm _ _, ?_⟩
    have ta := take_all ha (P := fun x => 0 ≤ x ∧ x < 12)
    by_cases hr : 0 ≤ a ∧ a < 12
    · have nn := ta.mpr ⟨hp, hr⟩
      simp only [List.set_cons_succ, List.set_cons_zero]
      have e : evS (tb.ct k) pin Lot__init_L1 [some (.oo 1 []), some o1, some o2, some (.sh (.int p)), some (.sh (.int a))] = .nx [some (.oo 1 []), some o1, some o2, some (.sh (.int p)), some (.sh (.int a))] := by
        simp [Lot__init_L1, hr.1, hr.2]
      rw [e]
      exact ⟨nn, _, rfl⟩
    · have nn : ¬ ∀ x ∈ m, 0 ≤ x ∧ x < 12 := fun z => hr (z a (List.mem_of_getElem? ha))
      simp only [List.set_cons_succ, List.set_cons_zero]
      have e : evS (tb.ct k) pin Lot__init_L1 [some (.oo 1 []), some o1, some o2, some (.sh (.int p)), some (.sh (.int a))] = .ex 4 [(31, .str "members")] [some (.oo 1 []), some o1, some o2, some (.sh (.int p)), some (.sh (.int a))] := by
        by_cases h0 : 0 ≤ a
        · have h12 : ¬ a < 12 := fun z => hr ⟨h0, z⟩
          simp [Lot__init_L1, h0, h12]
        · simp [Lot__init_L1, h0]
      rw [e]
      exact .inr ⟨_, rfl, nn⟩
  · rintro s ⟨hp, u, rfl⟩
    rw [List.take_length] at hp
    exact .inl ⟨u, rfl, hp⟩
theorem init_loop2 (k : Nat) (m c : List Int) (p : Int) (o1 o2 : O) (h1 : Row o1 (iD m)) (pin : List Nat) (u0 : Option O) : (∃ u, forL (.nm 4) pin (evS (tb.ct k) pin Lot__init_L2) (iD c) [some (.oo 1 []), some o1, some o2, some (.sh (.int p)), u0] = .nx [some (.oo 1 []), some o1, some o2, some (.sh (.int p)), u] ∧ ∀ x ∈ c, x ∈ m) ∨
      (∃ u, forL (.nm 4) pin (evS (tb.ct k) pin Lot__init_L2) (iD c) [some (.oo 1 []), some o1, some o2, some (.sh (.int p)), u0] = .ex 4 [(31, .str "candidates")] [some (.oo 1 []), some o1, some o2, some (.sh (.int p)), u] ∧ ¬ ∀ x ∈ c, x ∈ m) := by
  refine Rn.forL_things (t := .nm 4) (pin := pin) (b := evS (tb.ct k) pin Lot__init_L2) (L := c) D.int (fun i s => (∀ x ∈ c.take i, x ∈ m) ∧ ∃ u, s = [some (.oo 1 []), some o1, some o2, some (.sh (.int p)), u])
    (fun r => (∃ u, r = .nx [some (.oo 1 []), some o1, some o2, some (.sh (.int p)), u] ∧ ∀ x ∈ c, x ∈ m) ∨ (∃ u, r = .ex 4 [(31, .str "candidates")] [some (.oo 1 []), some o1, some o2, some (.sh (.int p)), u] ∧ ¬ ∀ x ∈ c, x ∈ m)) ⟨by simp, u0, rfl⟩ ?_ ?_
  · rintro i a s ha ⟨hp, u, rfl⟩
    refine ⟨_, Rn.tgt_nm _ _, ?_⟩
    have ta := take_all ha (P := fun x => x ∈ m)
    have q1 := nin_lst a m
    have q2 := nin_tup a m
    simp only [List.set_cons_succ, List.set_cons_zero]
    by_cases hr : a ∈ m
    · have nn := ta.mpr ⟨hp, hr⟩
      rw [decide_eq_true hr] at q1 q2
      have e : evS (tb.ct k) pin Lot__init_L2 [some (.oo 1 []), some o1, some o2, some (.sh (.int p)), some (.sh (.int a))] = .nx [some (.oo 1 []), some o1, some o2, some (.sh (.int p)), some (.sh (.int a))] := by
        rcases h1 with rfl | rfl | rfl <;> simp [Lot__init_L2, q1, q2]
      rw [e]
      exact ⟨nn, _, rfl⟩
    · have nn : ¬ ∀ x ∈ c, x ∈ m := fun z => hr (z a (List.mem_of_getElem? ha))
      rw [decide_eq_false hr] at q1 q2
      have e : evS (tb.ct k) pin Lot__init_L2 [some (.oo 1 []), some o1, some o2, some (.sh (.int p)), some (.sh (.int a))] = .ex 4 [(31, .str "candidates")] [some (.oo 1 []), some o1, some o2, some (.sh (.int p)), some (.sh (.int a))] := by
        rcases h1 with rfl | rfl | rfl <;> simp [Lot__init_L2, q1, q2]
      rw [e]
      exact .inr ⟨_, rfl, nn⟩
  · rintro s ⟨hp, u, rfl⟩
    rw [List.take_length] at hp
    exact .inl ⟨u, rfl, hp⟩
/-- Lot.__init__ with places of any kind -/
theorem init_any (n : Nat) (hn : 2 ≤ n) (m c : List Int) (p : Int) {o1 o2 : O} (h12 : (o1 = .sh (.lst (iD m)) ∧ o2 = .sh (.lst (iD c))) ∨ (o1 = .sh (.tup (iD m)) ∧ o2 = .sh (.tup (iD c))) ∨ (o1 = .ol (iD m) ∧ o2 = .ol (iD c))) (hm : m.length ≤ 1000) (hc : c.length ≤ 1000) :
    ∃ f1 f2, (f1 = bk o1 ∨ f1 = bks o1) ∧ (f2 = bk o2 ∨ f2 = bks o2) ∧ tb.FF n 26 [.oo 1 [], o1, o2, .sh (.int p)] = match whyL m c p with
      | none => .ret (.sh .non) [some (.oo 1 (lotF ⟨m, c, p⟩)), f1, f2, none]
      | some r => .ex 4 [(31, .str r)] [some (.oo 1 []), f1, f2, none] := by
  obtain ⟨k, rfl⟩ : ∃ k, n = k + 1 := ⟨n - 1, by omega⟩
  rw [Rn.run tb h_Lot__init]
  have h1 : Row o1 (iD m) := by rcases h12 with ⟨rfl, _⟩ | ⟨rfl, _⟩ | ⟨rfl, _⟩ <;> simp [Row]
  have h2 : Row o2 (iD c) := by rcases h12 with ⟨_, rfl⟩ | ⟨_, rfl⟩ | ⟨_, rfl⟩ <;> simp [Row]
  have d1 := diff_any k (by omega) h1 hm
  have d2 := diff_any k (by omega) h2 hc
  have L1 := init_loop1 k m p (.sh (frz o1)) o2 (owned [O.oo 1 [], o1, o2, .sh (.int p)] 0)
  have L2 := fun u => init_loop2 k m c p (.sh (frz o1)) (.sh (frz o2)) (by rcases h12 with ⟨rfl, _⟩ | ⟨rfl, _⟩ | ⟨rfl, _⟩ <;> simp [Row]) (owned [O.oo 1 [], o1, o2, .sh (.int p)] 0) u
  by_cases hA : m.length < 2
  · have w : whyL m c p = some ("members" : Str) := by simp [whyL, hA]
    rw [w]
    have hAi : (m.length : Int) < 2 := by omega
    refine ⟨bk o1, bk o2, .inl rfl, .inl rfl, ?_⟩
    rcases h12 with ⟨rfl, rfl⟩ | ⟨rfl, rfl⟩ | ⟨rfl, rfl⟩ <;> simp [d_Lot__init, b_Lot__init, DfI.df, runD, enter, hAi, bk]
  have hA' : ¬ (m.length : Int) < 2 := by omega
  by_cases hB : m.Nodup
  rotate_left
  · have w : whyL m c p = some ("members" : Str) := by simp [whyL, hB]
    rw [w]
    refine ⟨bk o1, bk o2, .inl rfl, .inl rfl, ?_⟩
    rcases h12 with ⟨rfl, rfl⟩ | ⟨rfl, rfl⟩ | ⟨rfl, rfl⟩ <;> simp [bk, hB] at d1 <;> simp [d_Lot__init, b_Lot__init, DfI.df, runD, enter, hA', d1, bk]
  rcases L1 with ⟨u, e1, r1⟩ | ⟨u, e1, r1⟩
  rotate_left
  · have w : whyL m c p = some ("members" : Str) := by
      unfold whyL
      rw [if_neg (by simp [hA, hB]), if_pos r1]
    rw [w]
    refine ⟨bks o1, bk o2, .inr rfl, .inl rfl, ?_⟩
    rcases h12 with ⟨rfl, rfl⟩ | ⟨rfl, rfl⟩ | ⟨rfl, rfl⟩ <;> simp [bk, hB] at d1 <;> simp at e1 <;> simp [d_Lot__init, b_Lot__init, DfI.df, runD, enter, hA', d1, e1, bk, bks]
  by_cases hC : c = []
  · have w : whyL m c p = some ("candidates" : Str) := by
      unfold whyL
      rw [if_neg (by simp [hA, hB]), if_neg (fun z => z r1), if_pos (.inl hC)]
    rw [w]
    refine ⟨bks o1, bk o2, .inr rfl, .inl rfl, ?_⟩
    rcases h12 with ⟨rfl, rfl⟩ | ⟨rfl, rfl⟩ | ⟨rfl, rfl⟩ <;> simp [bk, hB] at d1 <;> simp [hC] at e1 <;> simp [d_Lot__init, b_Lot__init, DfI.df, runD, enter, hA', d1, e1, bk, bks, hC]
  by_cases hD : c.Nodup
  rotate_left
  · have w : whyL m c p = some ("candidates" : Str) := by
      unfold whyL
      rw [if_neg (by simp [hA, hB]), if_neg (fun z => z r1), if_pos (.inr hD)]
    rw [w]
    refine ⟨bks o1, bk o2, .inr rfl, .inl rfl, ?_⟩
    rcases h12 with ⟨rfl, rfl⟩ | ⟨rfl, rfl⟩ | ⟨rfl, rfl⟩ <;> simp [bk, hB] at d1 <;> simp [bk, hD] at d2 <;> simp at e1 <;> simp [d_Lot__init, b_Lot__init, DfI.df, runD, enter, hA', d1, d2, e1, bk, bks, hC]
  rcases L2 u with ⟨u2, e2, r2⟩ | ⟨u2, e2, r2⟩
  rotate_left
  · have w : whyL m c p = some ("candidates" : Str) := by
      unfold whyL
      rw [if_neg (by simp [hA, hB]), if_neg (fun z => z r1), if_neg (by simp [hC, hD]), if_pos r2]
    rw [w]
    refine ⟨bks o1, bks o2, .inr rfl, .inr rfl, ?_⟩
    rcases h12 with ⟨rfl, rfl⟩ | ⟨rfl, rfl⟩ | ⟨rfl, rfl⟩ <;> simp [bk, hB] at d1 <;> simp [bk, hD] at d2 <;> simp at e1 e2 <;> simp [d_Lot__init, b_Lot__init, DfI.df, runD, enter, hA', d1, d2, e1, e2, bk, bks, hC]
  refine ⟨bks o1, bks o2, .inr rfl, .inr rfl, ?_⟩
  by_cases hE : 0 ≤ p ∧ p ≤ 1000000000
  · have w : whyL m c p = none := by
      unfold whyL
      rw [if_neg (by simp [hA, hB]), if_neg (fun z => z r1), if_neg (by simp [hC, hD]), if_neg (fun z => z r2), if_pos hE]
    rw [w]
    rcases h12 with ⟨rfl, rfl⟩ | ⟨rfl, rfl⟩ | ⟨rfl, rfl⟩ <;> simp [bk, hB] at d1 <;> simp [bk, hD] at d2 <;> simp at e1 e2 <;> simp [d_Lot__init, b_Lot__init, DfI.df, runD, enter, hA', d1, d2, e1, e2, bk, bks, hC, hE.1, hE.2, lotF]

  · have w : whyL m c p = some ("price" : Str) := by
      unfold whyL
      rw [if_neg (by simp [hA, hB]), if_neg (fun z => z r1), if_neg (by simp [hC, hD]), if_neg (fun z => z r2), if_neg hE]
    rw [w]
    by_cases h0 : 0 ≤ p
    · have h9 : ¬ p ≤ 1000000000 := fun z => hE ⟨h0, z⟩
      rcases h12 with ⟨rfl, rfl⟩ | ⟨rfl, rfl⟩ | ⟨rfl, rfl⟩ <;> simp [bk, hB] at d1 <;> simp [bk, hD] at d2 <;> simp at e1 e2 <;> simp [d_Lot__init, b_Lot__init, DfI.df, runD, enter, hA', d1, d2, e1, e2, bk, bks, hC, h0, h9]
    · rcases h12 with ⟨rfl, rfl⟩ | ⟨rfl, rfl⟩ | ⟨rfl, rfl⟩ <;> simp [bk, hB] at d1 <;> simp [bk, hD] at d2 <;> simp at e1 e2 <;> simp [d_Lot__init, b_Lot__init, DfI.df, runD, enter, hA', d1, d2, e1, e2, bk, bks, hC, h0]
end Law

namespace Law
open PySem Vm
/-- a loop that gives an answer at the first thing that is so -/
theorem forL_any {α : Type} {t : Tg} {pin : List Nat} {b : Vm.Env → SR} {L : List α} {s : Vm.Env} (emb : α → D) (p : α → Bool) (v : O) (I : Vm.Env → Prop) (h0 : I s)
    (step : ∀ a ∈ L, ∀ s, I s → ∃ s1, tgt t (emb a) s = some s1 ∧ ∃ s2, I s2 ∧ b s1 = if p a = true then .rt v s2 else .nx s2) :
    ∃ s2, I s2 ∧ forL t pin b (L.map emb) s = if L.any p = true then .rt v s2 else .nx s2 := by
  refine Rn.forL_things (t := t) (pin := pin) (b := b) (L := L) (s := s) emb (fun i s => (L.take i).any p = false ∧ I s) (fun r => ∃ s2, I s2 ∧ r = if L.any p = true then .rt v s2 else .nx s2) ⟨by simp, h0⟩ ?_ ?_
  · rintro i a s ha ⟨hp, hi⟩
    have hm := List.mem_of_getElem? ha
    obtain ⟨s1, h1, s2, h2, h3⟩ := step a hm s hi
    refine ⟨s1, h1, ?_⟩
    rw [h3]
    cases hpa : p a with
    | true =>
      have : L.any p = true := List.any_eq_true.mpr ⟨a, hm, hpa⟩
      simp only [if_true, Rn.TurnOk_rt]
      exact ⟨s2, h2, by rw [this]; rfl⟩
    | false =>
      simp only [Bool.false_eq_true, if_false, Rn.TurnOk_nx]
      exact ⟨by rw [List.take_add_one, ha, List.any_append, hp]; simp [hpa], h2⟩
  · rintro s ⟨hp, hi⟩
    rw [List.take_length] at hp
    exact ⟨s, hi, by rw [hp]; rfl⟩
end Law

namespace Law
open PySem Vm
theorem handed_ok (n : Nat) (hn : 1 ≤ n) {o : O} {l : List D} (hr : o = .ol l ∨ o = .sh (.lst l)) (hl : l.length ≤ 1000) (w : Int) :
    tb.FF n 38 [o, .sh (.int w)] = .ret (if w = 1 then .sh (.tup l) else .ol l) [bk o, none] := by
  obtain ⟨k, rfl⟩ : ∃ k, n = k + 1 := ⟨n - 1, by omega⟩
  rw [Rn.run tb h_law_handed]
  have hlim : lim = 100000 := rfl
  by_cases c : w = 1
  · rcases hr with rfl | rfl <;> simp [d_law_handed, b_law_handed, DfI.df, runD, enter, c, bk, hlim, show l.length ≤ 100000 by omega]
  · rcases hr with rfl | rfl <;> simp [d_law_handed, b_law_handed, DfI.df, runD, enter, c, bk, hlim, show l.length ≤ 100000 by omega]
theorem sends_ok (n : Nat) (hn : 1 ≤ n) {g : List Int} {o : O} (hr : Row o (iD g)) (nm : Str) (h s r : Int) :
    tb.FF n 39 [.sh (.str nm), o, .sh (.int h), .sh (.int s), .sh (.int r)] = .ret (.sh (.bl (decide (s ∈ g) && decide (r ∈ g) && !decide (s = r) && (if nm = "gather" then decide (r = h) else decide (s = h))))) [none, bk o, none, none, none] := by
  obtain ⟨k, rfl⟩ : ∃ k, n = k + 1 := ⟨n - 1, by omega⟩
  rw [Rn.run tb h_law_sends]
  have q1 := nin_lst s g
  have q2 := nin_tup s g
  have q3 := nin_lst r g
  have q4 := nin_tup r g
  by_cases c1 : s ∈ g <;> by_cases c2 : r ∈ g <;> simp only [c1, c2, decide_true, decide_false, Bool.not_true, Bool.not_false] at q1 q2 q3 q4 ⊢ <;> by_cases c3 : s = r <;> by_cases c4 : nm = "gather" <;> rcases hr with rfl | rfl | rfl <;> simp [d_law_sends, b_law_sends, DfI.df, runD, enter, bk, q1, q2, q3, q4, c3, c4]
/-- a lot, as a slot holds it -/
def LotO (o : O) (l : LT) : Prop := o = .sh (lotI l) ∨ o = .oo 1 (lotF l)
def entG (m : List Int) (h : Int) (p : List Int) : Bool := decide (h ∈ p) && m.any fun x => !decide (x ∈ p)
def entS (m : List Int) (h : Int) (p : List Int) : Bool := !decide (h ∈ p) && m.any fun x => decide (x ∈ p)
theorem gat_ok (n : Nat) (hn : 1 ≤ n) {l : LT} {o q : O} {p : List Int} (ho : LotO o l) (hl : l.mem.length ≤ 1000) (hq : Row q (iD p)) (h : Int) :
    tb.FF n 41 [.sh (.ins 3 []), o, .sh (.int h), q] = .ret (.sh (.bl (entG (sortI l.mem) h p))) [none, bk o, none, bk q] := by
  obtain ⟨k, rfl⟩ : ∃ k, n = k + 1 := ⟨n - 1, by omega⟩
  rw [Rn.run tb h_Gather_enters]
  have hlim : lim = 100000 := rfl
  have q1 := nin_lst h p
  have q2 := nin_tup h p
  have hs := sortI_len l.mem
  by_cases c : h ∈ p
  · simp only [c, decide_true, Bool.not_true] at q1 q2
    have cm := fun u => Rn.cmpR_maps (G := tb.ct k) (s0 := [some (.sh (.ins 3 [])), some o, some (.sh (.int h)), some q, u]) (vs := [4]) (t := .nm 4) (el := Gather_enters_C1) (L := sortI l.mem) (s := [some (.sh (.ins 3 [])), some o, some (.sh (.int h)), some q, u]) D.int (fun x => D.bl (!decide (x ∈ p))) (by
      intro x hx
      have q3 := nin_lst x p
      have q4 := nin_tup x p
      rcases hq with rfl | rfl | rfl <;> exact ⟨_, _, Rn.tgt_nm _ _, by simp [Gather_enters_C1, wipe, q3, q4] <;> rfl, by simp [back]⟩)
    have bm := Rn.blsOf_map (fun x => !decide (x ∈ p)) (sortI l.mem)
    rcases ho with rfl | rfl <;> rcases hq with rfl | rfl | rfl <;> simp [lotI, lotF] at cm <;> simp [d_Gather_enters, b_Gather_enters, DfI.df, runD, enter, bk, q1, q2, c, lotI, lotF, cm, bm, entG, hlim, hs, freeV, show l.mem.length ≤ 100000 by omega]
  · simp only [c, decide_false, Bool.not_false] at q1 q2
    rcases ho with rfl | rfl <;> rcases hq with rfl | rfl | rfl <;> simp [d_Gather_enters, b_Gather_enters, DfI.df, runD, enter, bk, q1, q2, c, lotI, lotF, entG]
theorem spr_ok (n : Nat) (hn : 1 ≤ n) {l : LT} {o q : O} {p : List Int} (ho : LotO o l) (hl : l.mem.length ≤ 1000) (hq : Row q (iD p)) (h : Int) :
    tb.FF n 40 [.sh (.ins 2 []), o, .sh (.int h), q] = .ret (.sh (.bl (entS (sortI l.mem) h p))) [none, bk o, none, bk q] := by
  obtain ⟨k, rfl⟩ : ∃ k, n = k + 1 := ⟨n - 1, by omega⟩
  rw [Rn.run tb h_Spread_enters]
  have hlim : lim = 100000 := rfl
  have q1 := in_lst h p
  have q2 := in_tup h p
  have hs := sortI_len l.mem
  by_cases c : h ∈ p
  · simp only [c, decide_true] at q1 q2
    rcases ho with rfl | rfl <;> rcases hq with rfl | rfl | rfl <;> simp [d_Spread_enters, b_Spread_enters, DfI.df, runD, enter, bk, q1, q2, c, lotI, lotF, entS]
  · simp only [c, decide_false] at q1 q2
    have cm := fun u => Rn.cmpR_maps (G := tb.ct k) (s0 := [some (.sh (.ins 2 [])), some o, some (.sh (.int h)), some q, u]) (vs := [4]) (t := .nm 4) (el := Spread_enters_C1) (L := sortI l.mem) (s := [some (.sh (.ins 2 [])), some o, some (.sh (.int h)), some q, u]) D.int (fun x => D.bl (decide (x ∈ p))) (by
      intro x hx
      have q3 := in_lst x p
      have q4 := in_tup x p
      rcases hq with rfl | rfl | rfl <;> exact ⟨_, _, Rn.tgt_nm _ _, by simp [Spread_enters_C1, wipe, q3, q4] <;> rfl, by simp [back]⟩)
    have bm := Rn.blsOf_map (fun x => decide (x ∈ p)) (sortI l.mem)
    rcases ho with rfl | rfl <;> rcases hq with rfl | rfl | rfl <;> simp [lotI, lotF] at cm <;> simp [d_Spread_enters, b_Spread_enters, DfI.df, runD, enter, bk, q1, q2, c, lotI, lotF, cm, bm, entS, hlim, hs, freeV, show l.mem.length ≤ 100000 by omega]
theorem gsend_ok (n : Nat) (hn : 1 ≤ n) {l : LT} {o : O} (ho : LotO o l) (h s r : Int) :
    tb.FF n 43 [.sh (.ins 3 []), o, .sh (.int h), .sh (.int s), .sh (.int r)] = .ret (.sh (.bl (decide (r = h) && !decide (s = h) && decide (s ∈ sortI l.mem)))) [none, bk o, none, none, none] := by
  obtain ⟨k, rfl⟩ : ∃ k, n = k + 1 := ⟨n - 1, by omega⟩
  rw [Rn.run tb h_Gather_may_send]
  have q1 := in_tup s (sortI l.mem)
  by_cases c1 : r = h <;> by_cases c2 : s = h <;> by_cases c3 : s ∈ sortI l.mem <;> simp only [c3, decide_true, decide_false] at q1 ⊢ <;> rcases ho with rfl | rfl <;> simp [d_Gather_may_send, b_Gather_may_send, DfI.df, runD, enter, bk, q1, c1, c2, lotI, lotF]
theorem ssend_ok (n : Nat) (hn : 1 ≤ n) {l : LT} {o : O} (ho : LotO o l) (h s r : Int) :
    tb.FF n 42 [.sh (.ins 2 []), o, .sh (.int h), .sh (.int s), .sh (.int r)] = .ret (.sh (.bl (decide (s = h) && !decide (r = h) && decide (r ∈ sortI l.mem)))) [none, bk o, none, none, none] := by
  obtain ⟨k, rfl⟩ : ∃ k, n = k + 1 := ⟨n - 1, by omega⟩
  rw [Rn.run tb h_Spread_may_send]
  have q1 := in_tup r (sortI l.mem)
  by_cases c1 : s = h <;> by_cases c2 : r = h <;> by_cases c3 : r ∈ sortI l.mem <;> simp only [c3, decide_true, decide_false] at q1 ⊢ <;> rcases ho with rfl | rfl <;> simp [d_Spread_may_send, b_Spread_may_send, DfI.df, runD, enter, bk, q1, c1, c2, lotI, lotF]
end Law

namespace Law
open PySem Vm
/-- who is asked: (the class, its name) -/
def modeN (c : Nat) : Str := if c = 3 then "gather" else "spread"
def entM (c : Nat) (m : List Int) (h : Int) (p : List Int) : Bool := if c = 3 then entG m h p else entS m h p
theorem due_plain (g p : List Int) (h : Int) (hg : h ∈ g) (c : Nat) :
    (g.any fun r => g.any fun s => decide (r ∈ p) && (!decide (s ∈ p) && (decide (s ∈ g) && decide (r ∈ g) && !decide (s = r) && (if modeN c = "gather" then decide (r = h) else decide (s = h))))) = entM c g h p := by
  rw [Bool.eq_iff_iff]
  by_cases c3 : c = 3
  · simp only [modeN, entM, c3, if_true, entG, List.any_eq_true, Bool.and_eq_true, Bool.not_eq_true', decide_eq_true_eq, decide_eq_false_iff_not]
    constructor
    · rintro ⟨r, hr, s, hs, h1, h2, _, rfl⟩
      exact ⟨h1, s, hs, h2⟩
    · rintro ⟨h1, s, hs, h2⟩
      exact ⟨h, hg, s, hs, h1, h2, ⟨⟨hs, hg⟩, fun e => h2 (e ▸ h1)⟩, rfl⟩
  · have : ¬ modeN c = "gather" := by unfold modeN; rw [if_neg c3]; decide
    simp only [entM, c3, this, if_false, entS, List.any_eq_true, Bool.and_eq_true, Bool.not_eq_true', decide_eq_true_eq, decide_eq_false_iff_not]
    constructor
    · rintro ⟨r, hr, s, hs, h1, h2, _, rfl⟩
      exact ⟨h2, r, hr, h1⟩
    · rintro ⟨h1, r, hr, h2⟩
      exact ⟨r, hr, h, hg, h2, h1, ⟨⟨hg, hr⟩, fun e => h1 (e ▸ h2)⟩, rfl⟩
theorem due_ok (n : Nat) (hn : 2 ≤ n) {g p : List Int} {o q : O} (ho : o = .ol (iD g) ∨ o = .sh (.lst (iD g))) (hq : q = .ol (iD p) ∨ q = .sh (.lst (iD p))) (c : Nat) (h : Int) (hg : h ∈ g) :
    tb.FF n 36 [.sh (.str (modeN c)), o, .sh (.int h), q] = .ret (.sh (.bl (entM c g h p))) [none, bks o, none, bk q] := by
  obtain ⟨k, rfl⟩ : ∃ k, n = k + 1 := ⟨n - 1, by omega⟩
  rw [Rn.run tb h_law_due]
  have inner : ∀ pin u r, r ∈ g → ∃ s2, (∃ u, s2 = [some (.sh (.str (modeN c))), some (.sh (.lst (iD g))), some (.sh (.int h)), some q, some (.sh (.int r)), u]) ∧
      forL (.nm 5) pin (evS (tb.ct k) pin law_due_L2) (iD g) [some (.sh (.str (modeN c))), some (.sh (.lst (iD g))), some (.sh (.int h)), some q, some (.sh (.int r)), u] =
        if (g.any fun s => decide (r ∈ p) && (!decide (s ∈ p) && (decide (s ∈ g) && decide (r ∈ g) && !decide (s = r) && (if modeN c = "gather" then decide (r = h) else decide (s = h))))) = true then .rt (.sh (.bl true)) s2 else .nx s2 := by
    intro pin u r hr
    refine forL_any D.int _ _ (fun s2 => ∃ u, s2 = [some (.sh (.str (modeN c))), some (.sh (.lst (iD g))), some (.sh (.int h)), some q, some (.sh (.int r)), u]) ⟨u, rfl⟩ ?_
    rintro s hs _ ⟨u, rfl⟩
    refine ⟨_, Rn.tgt_nm _ _, _, ⟨some (.sh (.int s)), rfl⟩, ?_⟩
    have q1 := in_lst r p
    have q2 := nin_lst s p
    have es := sends_ok k (by omega) (o := .sh (.lst (iD g))) (.inl rfl) (modeN c) h s r
    generalize (decide (s ∈ g) && decide (r ∈ g) && !decide (s = r) && (if modeN c = "gather" then decide (r = h) else decide (s = h))) = e at es
    simp only [List.set_cons_succ, List.set_cons_zero]
    by_cases c1 : r ∈ p <;> by_cases c2 : s ∈ p <;> simp only [c1, c2, decide_true, decide_false, Bool.not_true, Bool.not_false] at q1 q2 ⊢ <;> cases e <;> rcases hq with rfl | rfl <;> simp [law_due_L2, q1, q2, es, bk]
  have outer : ∀ pin u v, 5 ∉ pin → ∃ s2, (∃ u v, s2 = [some (.sh (.str (modeN c))), some (.sh (.lst (iD g))), some (.sh (.int h)), some q, u, v]) ∧
      forL (.nm 4) pin (evS (tb.ct k) pin law_due_L1) (iD g) [some (.sh (.str (modeN c))), some (.sh (.lst (iD g))), some (.sh (.int h)), some q, u, v] = if entM c g h p = true then .rt (.sh (.bl true)) s2 else .nx s2 := by
    intro pin u v h5
    rw [← due_plain g p h hg c]
    refine forL_any D.int _ _ (fun s2 => ∃ u v, s2 = [some (.sh (.str (modeN c))), some (.sh (.lst (iD g))), some (.sh (.int h)), some q, u, v]) ⟨u, v, rfl⟩ ?_
    rintro r hr _ ⟨u, v, rfl⟩
    refine ⟨_, Rn.tgt_nm _ _, ?_⟩
    simp only [List.set_cons_succ, List.set_cons_zero]
    obtain ⟨s2, ⟨w, rfl⟩, e⟩ := inner pin v r hr
    refine ⟨_, ⟨some (.sh (.int r)), w, rfl⟩, ?_⟩
    revert e
    cases (g.any fun s => decide (r ∈ p) && (!decide (s ∈ p) && (decide (s ∈ g) && decide (r ∈ g) && !decide (s = r) && (if modeN c = "gather" then decide (r = h) else decide (s = h))))) <;> intro e <;> simp at e <;> simp [law_due_L1, e, h5]
  have ow : bks o = if o.own = true then some (.sh (.lst (iD g))) else none := by rcases ho with rfl | rfl <;> simp [bks]
  rw [ow]
  obtain ⟨s2, ⟨u, v, rfl⟩, e⟩ := outer (owned [.sh (.str (modeN c)), o, .sh (.int h), q] 0) none none (by rcases ho with rfl | rfl <;> rcases hq with rfl | rfl <;> simp [owned, O.own])
  revert e
  cases entM c g h p <;> intro e <;> rcases ho with rfl | rfl <;> rcases hq with rfl | rfl <;> simp at e <;> simp [d_law_due, b_law_due, DfI.df, runD, enter, e, bk]
theorem sent_plain (m p : List Int) (h : Int) (hm : ∀ x ∈ m, 0 ≤ x ∧ x < 12) (hh : 0 ≤ h ∧ h < 12) (c : Nat) :
    ((rngI 12).any fun r => (rngI 12).any fun s => decide (r ∈ p) && (!decide (s ∈ p) && (if c = 3 then decide (r = h) && !decide (s = h) && decide (s ∈ m) else decide (s = h) && !decide (r = h) && decide (r ∈ m)))) = entM c m h p := by
  have ir : ∀ x : Int, 0 ≤ x ∧ x < 12 → x ∈ rngI 12 := fun x hx => List.mem_map.mpr ⟨x.toNat, List.mem_range.mpr (by omega), by omega⟩
  rw [Bool.eq_iff_iff]
  by_cases c3 : c = 3
  · simp only [entM, c3, if_true, entG, List.any_eq_true, Bool.and_eq_true, Bool.not_eq_true', decide_eq_true_eq, decide_eq_false_iff_not]
    constructor
    · rintro ⟨r, hr, s, hs, h1, h2, ⟨rfl, _⟩, h3⟩
      exact ⟨h1, s, h3, h2⟩
    · rintro ⟨h1, s, hs, h2⟩
      exact ⟨h, ir h hh, s, ir s (hm s hs), h1, h2, ⟨rfl, fun e => h2 (e ▸ h1)⟩, hs⟩
  · simp only [entM, c3, if_false, entS, List.any_eq_true, Bool.and_eq_true, Bool.not_eq_true', decide_eq_true_eq, decide_eq_false_iff_not]
    constructor
    · rintro ⟨r, hr, s, hs, h1, h2, ⟨rfl, _⟩, h3⟩
      exact ⟨h2, r, h3, h1⟩
    · rintro ⟨h1, r, hr, h2⟩
      exact ⟨r, ir r (hm r hr), h, ir h hh, h2, h1, ⟨rfl, fun e => h1 (e ▸ h2)⟩, hr⟩
theorem entM_sort (c : Nat) (m p : List Int) (h : Int) : entM c (sortI m) h p = entM c m h p := by
  have : ∀ f : Int → Bool, (sortI m).any f = m.any f := fun f => by
    rw [Bool.eq_iff_iff, List.any_eq_true, List.any_eq_true]
    simp [(sortI_perm m).mem_iff]
  unfold entM entG entS
  rw [this, this]
theorem sent_ok (n : Nat) (hn : 2 ≤ n) {l : LT} {p : List Int} {o q : O} (ho : LotO o l) (hm : ∀ x ∈ l.mem, 0 ≤ x ∧ x < 12) (hq : q = .ol (iD p) ∨ q = .sh (.lst (iD p))) (c : Nat) (hc : c = 2 ∨ c = 3) (h : Int) (hh : 0 ≤ h ∧ h < 12) :
    tb.FF n 37 [.sh (.ins c []), o, .sh (.int h), q] = .ret (.sh (.bl (entM c l.mem h p))) [none, bk o, none, bk q] := by
  obtain ⟨k, rfl⟩ : ∃ k, n = k + 1 := ⟨n - 1, by omega⟩
  rw [Rn.run tb h_law_sent]
  rw [← entM_sort, ← sent_plain (sortI l.mem) p h (fun x hx => hm x ((sortI_perm _).mem_iff.mp hx)) hh c]
  have hlim : lim = 100000 := rfl
  have rg : rngD 0 12 = iD (rngI 12) := rngD_I 12
  have inner : ∀ pin u r, ∃ s2, (∃ u, s2 = [some (.sh (.ins c [])), some o, some (.sh (.int h)), some q, some (.sh (.int r)), u]) ∧
      forL (.nm 5) pin (evS (tb.ct k) pin law_sent_L2) (iD (rngI 12)) [some (.sh (.ins c [])), some o, some (.sh (.int h)), some q, some (.sh (.int r)), u] =
        if ((rngI 12).any fun s => decide (r ∈ p) && (!decide (s ∈ p) && (if c = 3 then decide (r = h) && !decide (s = h) && decide (s ∈ sortI l.mem) else decide (s = h) && !decide (r = h) && decide (r ∈ sortI l.mem)))) = true then .rt (.sh (.bl true)) s2 else .nx s2 := by
    intro pin u r
    refine forL_any D.int _ _ (fun s2 => ∃ u, s2 = [some (.sh (.ins c [])), some o, some (.sh (.int h)), some q, some (.sh (.int r)), u]) ⟨u, rfl⟩ ?_
    rintro s hs _ ⟨u, rfl⟩
    refine ⟨_, Rn.tgt_nm _ _, _, ⟨some (.sh (.int s)), rfl⟩, ?_⟩
    have q1 := in_lst r p
    have q2 := nin_lst s p
    have es : tb.FF k (if c = 3 then 43 else 42) [.sh (.ins c []), o, .sh (.int h), .sh (.int s), .sh (.int r)] = .ret (.sh (.bl (if c = 3 then decide (r = h) && !decide (s = h) && decide (s ∈ sortI l.mem) else decide (s = h) && !decide (r = h) && decide (r ∈ sortI l.mem)))) [none, bk o, none, none, none] := by
      rcases hc with rfl | rfl
      · exact ssend_ok k (by omega) ho h s r
      · exact gsend_ok k (by omega) ho h s r
    generalize (if c = 3 then decide (r = h) && !decide (s = h) && decide (s ∈ sortI l.mem) else decide (s = h) && !decide (r = h) && decide (r ∈ sortI l.mem)) = e at es
    simp only [List.set_cons_succ, List.set_cons_zero]
    by_cases c1 : r ∈ p <;> by_cases c2 : s ∈ p <;> simp only [c1, c2, decide_true, decide_false, Bool.not_true, Bool.not_false] at q1 q2 ⊢ <;> cases e <;> rcases hq with rfl | rfl <;> rcases ho with rfl | rfl <;> rcases hc with rfl | rfl <;> simp [bk, lotI, lotF] at es <;> simp [law_sent_L2, q1, q2, es, bk, lotI, lotF]
  have outer : ∀ pin u v, 5 ∉ pin → ∃ s2, (∃ u v, s2 = [some (.sh (.ins c [])), some o, some (.sh (.int h)), some q, u, v]) ∧
      forL (.nm 4) pin (evS (tb.ct k) pin law_sent_L1) (iD (rngI 12)) [some (.sh (.ins c [])), some o, some (.sh (.int h)), some q, u, v] = if ((rngI 12).any fun r => (rngI 12).any fun s => decide (r ∈ p) && (!decide (s ∈ p) && (if c = 3 then decide (r = h) && !decide (s = h) && decide (s ∈ sortI l.mem) else decide (s = h) && !decide (r = h) && decide (r ∈ sortI l.mem)))) = true then .rt (.sh (.bl true)) s2 else .nx s2 := by
    intro pin u v h5
    refine forL_any D.int _ _ (fun s2 => ∃ u v, s2 = [some (.sh (.ins c [])), some o, some (.sh (.int h)), some q, u, v]) ⟨u, v, rfl⟩ ?_
    rintro r hr _ ⟨u, v, rfl⟩
    refine ⟨_, Rn.tgt_nm _ _, ?_⟩
    simp only [List.set_cons_succ, List.set_cons_zero]
    obtain ⟨s2, ⟨w, rfl⟩, e⟩ := inner pin v r
    refine ⟨_, ⟨some (.sh (.int r)), w, rfl⟩, ?_⟩
    revert e
    cases ((rngI 12).any fun s => decide (r ∈ p) && (!decide (s ∈ p) && (if c = 3 then decide (r = h) && !decide (s = h) && decide (s ∈ sortI l.mem) else decide (s = h) && !decide (r = h) && decide (r ∈ sortI l.mem)))) <;> intro e <;> simp at e <;> simp [law_sent_L1, rg, hlim, e, h5]
  obtain ⟨s2, ⟨u, v, rfl⟩, e⟩ := outer (owned [.sh (.ins c []), o, .sh (.int h), q] 0) none none (by rcases ho with rfl | rfl <;> rcases hq with rfl | rfl <;> simp [owned, O.own])
  revert e
  cases ((rngI 12).any fun r => (rngI 12).any fun s => decide (r ∈ p) && (!decide (s ∈ p) && (if c = 3 then decide (r = h) && !decide (s = h) && decide (s ∈ sortI l.mem) else decide (s = h) && !decide (r = h) && decide (r ∈ sortI l.mem)))) <;> intro e <;> rcases ho with rfl | rfl <;> rcases hq with rfl | rfl <;> simp at e <;> simp [d_law_sent, b_law_sent, DfI.df, runD, enter, rg, hlim, e, bk]
end Law

namespace Law
open PySem Vm
theorem iD_okL {l : List Int} (h : l.length ≤ 1000) : okD 1 (.lst (iD l)) := ⟨by simp [lim]; omega, fun x hx => by
  obtain ⟨i, _, rfl⟩ := List.mem_map.mp hx
  trivial⟩
theorem enters_ok (n : Nat) (hn : 1 ≤ n) {l : LT} {o q : O} {p : List Int} (ho : LotO o l) (hl : l.mem.length ≤ 1000) (hq : Row q (iD p)) (c : Nat) (hc : c = 2 ∨ c = 3) (h : Int) :
    tb.FF n (if c = 3 then 41 else 40) [.sh (.ins c []), o, .sh (.int h), q] = .ret (.sh (.bl (entM c l.mem h p))) [none, bk o, none, bk q] := by
  rw [← entM_sort]
  rcases hc with rfl | rfl
  · exact spr_ok n hn ho hl hq h
  · exact gat_ok n hn ho hl hq h
theorem asked_ok (n : Nat) (hn : 5 ≤ n) {l : LT} {o g q : O} {p : List Int} (ho : LotO o l) (hg : g = .ol (iD l.mem) ∨ g = .sh (.lst (iD l.mem))) (hl : l.mem.length ≤ 1000) (hq : q = .ol (iD p) ∨ q = .sh (.lst (iD p))) (hp : p.length ≤ 1000) (c : Nat) (hc : c = 2 ∨ c = 3) (h : Int) (hh : h ∈ l.mem) (w : Int) :
    tb.FF n 35 [.sh (.ins c []), .sh (.str (modeN c)), o, g, .sh (.int h), q, .sh (.int w)] = .ret (.sh (.bl true)) [none, none, bk o, bks g, none, bk q, none] := by
  obtain ⟨k, rfl⟩ : ∃ k, n = k + 1 := ⟨n - 1, by omega⟩
  rw [Rn.run tb h_law_asked]
  have e1 := handed_ok k (by omega) hq (by simpa using hp) w
  have s1 := same_ok 1 (.tup (iD p)) k (by omega) (iD_ok hp)
  have s2 := same_ol 0 (iD p) k (by omega) (iD_okL hp) (.inl rfl) (.inr rfl)
  have s3 := same_ok 0 (.bl (entM c l.mem h p)) k (by omega) trivial
  have e3 := due_ok k (by omega) hg hq c h hh
  have dd : ∀ r : Row (if w = 1 then O.sh (.tup (iD p)) else O.ol (iD p)) (iD p), True := fun _ => trivial
  by_cases c1 : w = 1
  · have e2 := enters_ok k (by omega) (q := .sh (.tup (iD p))) ho hl (.inr (.inl rfl)) c hc h
    generalize entM c l.mem h p = v at e2 e3 s3
    rcases hq with rfl | rfl <;> rcases hg with rfl | rfl <;> rcases ho with rfl | rfl <;> rcases hc with rfl | rfl <;> simp [bk, bks, c1, lotI, lotF] at e1 e2 e3 s1 <;> simp [d_law_asked, b_law_asked, DfI.df, runD, enter, c1, e1, e2, e3, s1, s3, bk, bks, lotI, lotF]
  · have e2 := enters_ok k (by omega) (q := .ol (iD p)) ho hl (.inr (.inr rfl)) c hc h
    generalize entM c l.mem h p = v at e2 e3 s3
    rcases hq with rfl | rfl <;> rcases hg with rfl | rfl <;> rcases ho with rfl | rfl <;> rcases hc with rfl | rfl <;> simp [bk, bks, c1, lotI, lotF] at e1 e2 e3 s2 <;> simp [d_law_asked, b_law_asked, DfI.df, runD, enter, c1, e1, e2, e3, s2, s3, bk, bks, lotI, lotF]
def lists (ps : List (List Int)) : List D := ps.map fun p => .lst (iD p)
theorem subsets_ok (n : Nat) (hn : 1 ≤ n) (g : List Int) (hg : g.length ≤ 10) :
    ∃ ps : List (List Int), tb.FF n 33 [.sh (.lst (iD g))] = .ret (.ol (lists ps)) [none] ∧ ∀ p ∈ ps, p.length ≤ g.length := by
  obtain ⟨k, rfl⟩ : ∃ k, n = k + 1 := ⟨n - 1, by omega⟩
  rw [Rn.run tb h_law_subsets]
  have hlim : lim = 100000 := rfl
  obtain ⟨s', e, ps, u2, rfl, h1, h2⟩ := Rn.forL_thingsN (t := .nm 2) (pin := []) (b := evS (tb.ct k) [] law_subsets_L1) (L := g) (s := [some (.sh (.lst (iD g))), some (.ol (lists [[]])), none, none]) D.int
    (fun i s => ∃ (ps : List (List Int)) (u2 : Option O), s = [some (.sh (.lst (iD g))), some (.ol (lists ps)), u2, none] ∧ ps.length = 2 ^ i ∧ ∀ p ∈ ps, p.length ≤ i) ⟨[[]], none, rfl, rfl, by simp⟩ (by
    rintro i a s ha ⟨ps, u2, rfl, h1, h2⟩
    refine ⟨_, Rn.tgt_nm _ _, ?_⟩
    have hi : i < g.length := (List.getElem?_eq_some_iff.mp ha).1
    have hpw : 2 ^ i ≤ 2 ^ 9 := Nat.pow_le_pow_right (by omega) (by omega)
    have cm := Rn.cmpR_maps (G := tb.ct k) (s0 := [some (.sh (.lst (iD g))), some (.sh (.lst (lists ps))), some (.sh (.int a)), none]) (vs := [3]) (t := .nm 3) (el := law_subsets_C1) (L := ps) (s := [some (.sh (.lst (iD g))), some (.sh (.lst (lists ps))), some (.sh (.int a)), none]) (fun p => .lst (iD p)) (fun p => .lst (iD (p ++ [a]))) (by
      intro p hp
      have := h2 p hp
      exact ⟨_, _, Rn.tgt_nm _ _, by simp [law_subsets_C1, wipe, hlim, show p.length ≤ 99999 by omega] <;> rfl, by simp [back]⟩)
    have e2 : evS (tb.ct k) [] law_subsets_L1 [some (.sh (.lst (iD g))), some (.ol (lists ps)), some (.sh (.int a)), none] = .nx [some (.sh (.lst (iD g))), some (.ol (lists (ps ++ ps.map fun p => p ++ [a]))), some (.sh (.int a)), none] := by
      simp [lists] at cm
      simp [law_subsets_L1, lists, cm, freeV, hlim, show ps.length ≤ 100000 by omega, show ps.length + ps.length ≤ 100000 by omega]
    simp only [List.set_cons_succ, List.set_cons_zero, e2, Rn.TurnOk_nx]
    refine ⟨_, _, rfl, by simp [h1]; omega, fun p hp => ?_⟩
    rcases List.mem_append.mp hp with hp | hp
    · have := h2 p hp; omega
    · obtain ⟨q, hq, rfl⟩ := List.mem_map.mp hp
      have := h2 q hq
      simp; omega)
  refine ⟨ps, ?_, h2⟩
  simp [lists] at e
  simp [d_law_subsets, b_law_subsets, DfI.df, runD, enter, e, lists]
theorem turned_ok (n : Nat) (hn : 1 ≤ n) {p : List Int} {o : O} (ho : o = .ol (iD p) ∨ o = .sh (.lst (iD p))) (hp : p.length ≤ 100) (t : Int) :
    ∃ (q : List Int) (r f : O), tb.FF n 34 [o, .sh (.int t)] = .ret r [if o.own = true then some f else none, none] ∧ (r = .ol (iD q) ∨ r = .sh (.lst (iD q))) ∧ (f = .ol (iD p) ∨ f = .sh (.lst (iD p))) ∧ q.length ≤ 200 := by
  obtain ⟨k, rfl⟩ : ∃ k, n = k + 1 := ⟨n - 1, by omega⟩
  rw [Rn.run tb h_law_turned]
  have hlim : lim = 100000 := rfl
  by_cases c : t = 1
  · refine ⟨p.reverse ++ p.take 2, .ol (iD (p.reverse ++ p.take 2)), .ol (iD p), ?_, .inl rfl, .inl rfl, by simp; omega⟩
    have cut : cutD (iD p) none (some 2) = iD (p.take 2) := by
      rw [show (2 : Int) = ((2 : Nat) : Int) by rfl, cutD_take]
      simp [iD, List.map_take]
    rcases ho with rfl | rfl <;> simp [d_law_turned, b_law_turned, DfI.df, runD, enter, c, cut, hlim, show p.length + min 2 p.length ≤ 100000 by omega]
  · refine ⟨p, .sh (.lst (iD p)), .sh (.lst (iD p)), ?_, .inr rfl, .inr rfl, by omega⟩
    rcases ho with rfl | rfl <;> simp [d_law_turned, b_law_turned, DfI.df, runD, enter, c]
end Law

namespace Law
open PySem Vm
def pairD (c : Nat) : D := .tup [.ins c [], .str (modeN c)]
def modesD : List D := [3, 2].map pairD
def ModesO (o : O) : Prop := o = .ol modesD ∨ o = .sh (.lst modesD)
theorem why_ok {l : LT} (h : okL 12 l) : whyL l.mem l.can l.pri = none := by
  have ml := h.ml
  unfold whyL
  rw [if_neg (by simp [h.mp.nd]; omega), if_neg (fun z => z h.mp.rg), if_neg (by simp [h.cs.ne, h.cs.nd]), if_neg (fun z => z h.cs.sub), if_pos h.pr]
theorem okL_shift {l : LT} (h : okL 5 l) (b : Int) (hb : 0 ≤ b ∧ b < 8) : okL 12 ⟨l.mem.map (b + ·), l.can.map (b + ·), l.pri⟩ := by
  have inj : Function.Injective (fun x : Int => b + x) := fun x y e => by
    have e : b + x = b + y := e
    omega
  have nd : ∀ {m : List Int}, m.Nodup → (m.map (b + ·)).Nodup := fun hm => List.Pairwise.map _ (fun x y hne e => hne (inj e)) hm
  exact ⟨⟨nd h.mp.nd, fun x hx => by
    obtain ⟨y, hy, rfl⟩ := List.mem_map.mp hx
    have := h.mp.rg y hy
    omega⟩, by simpa using h.ml, ⟨by simpa using h.cs.ne, nd h.cs.nd, fun x hx => by
    obtain ⟨y, hy, rfl⟩ := List.mem_map.mp hx
    exact List.mem_map.mpr ⟨y, h.cs.sub y hy, rfl⟩⟩, h.pr⟩
/-- one set, by both modes -/
theorem L3_ok (k : Nat) (hk : 5 ≤ k) {l : LT} (hl : l.mem.length ≤ 1000) {g q : O} {p : List Int} (pl : List Int) (hpl : pl.length ≤ 1000) (hg : g = .ol (iD l.mem) ∨ g = .sh (.lst (iD l.mem))) (hq : q = .ol (iD p) ∨ q = .sh (.lst (iD p))) (hp : p.length ≤ 1000) (w h : Int) (hh : h ∈ l.mem) (s0 s1 s2 s3 s5 s7 t s13 s14 s15 s16 : Option O) :
    ∃ (g' q' : O) (u : Option O), (g' = .ol (iD l.mem) ∨ g' = .sh (.lst (iD l.mem))) ∧
      forL (.nm 13) [] (evS (tb.ct k) [] law_L3) modesD [s0, s1, s2, s3, some g, s5, some (.oo 1 (lotF l)), s7, some (.sh (.int w)), t, some (.sh (.int h)), some (.sh (.lst (iD pl))), some q, s13, s14, s15, s16] = .nx [s0, s1, s2, s3, some g', s5, some (.oo 1 (lotF l)), s7, some (.sh (.int w)), t, some (.sh (.int h)), some (.sh (.lst (iD pl))), some q, u, s14, s15, s16] := by
  have hlim : lim = 100000 := rfl
  obtain ⟨s', e, g', u, rfl, hg'⟩ := Rn.forL_thingsN (t := .nm 13) (pin := []) (b := evS (tb.ct k) [] law_L3) (L := [3, 2]) (s := [s0, s1, s2, s3, some g, s5, some (.oo 1 (lotF l)), s7, some (.sh (.int w)), t, some (.sh (.int h)), some (.sh (.lst (iD pl))), some q, s13, s14, s15, s16]) pairD
    (fun _ s => ∃ (g' : O) (u : Option O), s = [s0, s1, s2, s3, some g', s5, some (.oo 1 (lotF l)), s7, some (.sh (.int w)), t, some (.sh (.int h)), some (.sh (.lst (iD pl))), some q, u, s14, s15, s16] ∧ (g' = .ol (iD l.mem) ∨ g' = .sh (.lst (iD l.mem)))) ⟨g, s13, rfl, hg⟩ (by
    rintro i c s hc ⟨g', u, rfl, hg'⟩
    refine ⟨_, Rn.tgt_nm _ _, ?_⟩
    have hc : c = 2 ∨ c = 3 := by
      have := List.mem_of_getElem? hc
      simp at this
      omega
    have ea := asked_ok k hk (o := .oo 1 (lotF l)) (g := g') (.inr rfl) hg' hl hq hp c hc h hh ((w + pl.length) % 2)
    simp only [List.set_cons_succ, List.set_cons_zero]
    have e2 : evS (tb.ct k) [] law_L3 [s0, s1, s2, s3, some g', s5, some (.oo 1 (lotF l)), s7, some (.sh (.int w)), t, some (.sh (.int h)), some (.sh (.lst (iD pl))), some q, some (.sh (pairD c)), s14, s15, s16] = .nx [s0, s1, s2, s3, some (.sh (.lst (iD l.mem))), s5, some (.oo 1 (lotF l)), s7, some (.sh (.int w)), t, some (.sh (.int h)), some (.sh (.lst (iD pl))), some q, some (.sh (pairD c)), s14, s15, s16] := by
      rcases hg' with rfl | rfl <;> rcases hq with rfl | rfl <;> simp [bk, bks, lotF] at ea <;> simp [law_L3, pairD, ea, lotF, hlim, show pl.length ≤ 100000 by omega]
    rw [e2]
    exact ⟨_, _, rfl, .inr rfl⟩)
  exact ⟨g', q, u, hg', e⟩
theorem L2_ok (k : Nat) (hk : 5 ≤ k) {l : LT} (hl : l.mem.length ≤ 1000) {g m : O} (pl : List Int) (hpl : pl.length ≤ 100) (hg : g = .ol (iD l.mem) ∨ g = .sh (.lst (iD l.mem))) (hm : ModesO m) (w t h : Int) (hh : h ∈ l.mem) (s0 s1 s2 s3 s5 s12 s13 s14 s15 s16 : Option O) :
    ∃ (g' : O) (u v : Option O), (g' = .ol (iD l.mem) ∨ g' = .sh (.lst (iD l.mem))) ∧
      evS (tb.ct k) [] law_L2 [s0, s1, s2, s3, some g, s5, some (.oo 1 (lotF l)), some m, some (.sh (.int w)), some (.sh (.int t)), some (.sh (.int h)), some (.sh (.lst (iD pl))), s12, s13, s14, s15, s16] = .nx [s0, s1, s2, s3, some g', s5, some (.oo 1 (lotF l)), some (.sh (.lst modesD)), some (.sh (.int w)), some (.sh (.int t)), some (.sh (.int h)), some (.sh (.lst (iD pl))), u, v, s14, s15, s16] := by
  have hlim : lim = 100000 := rfl
  obtain ⟨q, r, f, et, hr, hf, hq⟩ := turned_ok k (by omega) (p := pl) (o := .sh (.lst (iD pl))) (.inr rfl) hpl ((t + pl.length) % 2)
  obtain ⟨g', q', u, hg', e⟩ := L3_ok k hk hl pl (by omega) hg hr (by omega) w h hh s0 s1 s2 s3 s5 (some (.sh (.lst modesD))) (some (.sh (.int t))) s13 s14 s15 s16
  refine ⟨g', some r, u, hg', ?_⟩
  simp at et
  rcases hm with rfl | rfl <;> simp [law_L2, et, e, hlim, show pl.length ≤ 100000 by omega]
theorem L1_ok (k : Nat) (hk : 5 ≤ k) {l : LT} (hl : l.mem.length ≤ 1000) {g m : O} (hg : g = .ol (iD l.mem) ∨ g = .sh (.lst (iD l.mem))) (hm : ModesO m) (b w t h : Int) (hh : h ∈ l.mem) (s0 s1 s3 s5 s11 s12 s13 s15 s16 : Option O) :
    ∃ (g' m' : O) (u v x : Option O), (g' = .ol (iD l.mem) ∨ g' = .sh (.lst (iD l.mem))) ∧ ModesO m' ∧
      evS (tb.ct k) [] law_L1 [s0, s1, some (.sh (.int b)), s3, some g, s5, some (.oo 1 (lotF l)), some m, some (.sh (.int w)), some (.sh (.int t)), some (.sh (.int h)), s11, s12, s13, none, s15, s16] = .nx [s0, s1, some (.sh (.int b)), s3, some g', s5, some (.oo 1 (lotF l)), some m', some (.sh (.int w)), some (.sh (.int t)), some (.sh (.int h)), x, u, v, none, s15, s16] := by
  have hlim : lim = 100000 := rfl
  have rg : rngD 0 5 = iD (rngI 5) := rngD_I 5
  obtain ⟨ps, es, hps⟩ := subsets_ok k (by omega) ((rngI 5).map (b + ·)) (by simp [rngI])
  have cm := Rn.cmpR_maps (G := tb.ct k) (s0 := [s0, s1, some (.sh (.int b)), s3, some g, s5, some (.oo 1 (lotF l)), some m, some (.sh (.int w)), some (.sh (.int t)), some (.sh (.int h)), s11, s12, s13, none, s15, s16]) (vs := [14]) (t := .nm 14) (el := law_C3) (L := rngI 5) (s := [s0, s1, some (.sh (.int b)), s3, some g, s5, some (.oo 1 (lotF l)), some m, some (.sh (.int w)), some (.sh (.int t)), some (.sh (.int h)), s11, s12, s13, none, s15, s16]) D.int (fun x => .int (b + x)) (by
    intro x hx
    exact ⟨_, _, Rn.tgt_nm _ _, by simp [law_C3, wipe] <;> rfl, by simp [back]⟩)
  obtain ⟨s', e, g', m', u, v, x, rfl, hg', hm'⟩ := Rn.forL_thingsN (t := .nm 11) (pin := []) (b := evS (tb.ct k) [] law_L2) (L := ps) (s := [s0, s1, some (.sh (.int b)), s3, some g, s5, some (.oo 1 (lotF l)), some m, some (.sh (.int w)), some (.sh (.int t)), some (.sh (.int h)), s11, s12, s13, none, s15, s16]) (fun p => .lst (iD p))
    (fun _ s => ∃ (g' m' : O) (u v x : Option O), s = [s0, s1, some (.sh (.int b)), s3, some g', s5, some (.oo 1 (lotF l)), some m', some (.sh (.int w)), some (.sh (.int t)), some (.sh (.int h)), x, u, v, none, s15, s16] ∧ (g' = .ol (iD l.mem) ∨ g' = .sh (.lst (iD l.mem))) ∧ ModesO m') ⟨g, m, s12, s13, s11, rfl, hg, hm⟩ (by
    rintro i p s hp ⟨g', m', u, v, x, rfl, hg', hm'⟩
    refine ⟨_, Rn.tgt_nm _ _, ?_⟩
    have lp := hps p (List.mem_of_getElem? hp)
    simp [rngI] at lp
    obtain ⟨g2, u2, v2, hg2, e2⟩ := L2_ok k hk hl p (by omega) hg' hm' w t h hh s0 s1 (some (.sh (.int b))) s3 s5 u v none s15 s16
    simp only [List.set_cons_succ, List.set_cons_zero, e2, Rn.TurnOk_nx]
    exact ⟨g2, _, u2, v2, _, rfl, hg2, .inr rfl⟩)
  refine ⟨g', m', u, v, x, hg', hm', ?_⟩
  have lv : (iD ((rngI 5).map (b + ·))) = (rngI 5).map fun x => D.int (b + x) := by simp [iD, List.map_map, Function.comp_def]
  rw [lv] at es
  have ln : (rngI 5).length = 5 := by simp [rngI]
  simp [lists] at es
  simp [law_L1, rg, cm, hlim, freeV, es, ln, e]
theorem L5_ok (k : Nat) (hk : 5 ≤ k) {l : LT} (hok : okL 12 l) {q r : O} {p pl : List Int} (hr : r = .ol (iD pl) ∨ r = .sh (.lst (iD pl))) (hq : q = .ol (iD p) ∨ q = .sh (.lst (iD p))) (hp : p.length ≤ 1000) (w h : Int) (hh : h ∈ l.mem) (s0 s1 s2 s3 s4 s5 s6 s7 s9 s13 s14 : Option O) :
    ∃ (u : Option O), forL (.nm 13) [] (evS (tb.ct k) [] law_L5) modesD [s0, s1, s2, s3, s4, s5, s6, s7, some (.sh (.int w)), s9, some (.sh (.int h)), some r, some q, s13, s14, some (.sh (rowD l)), some (.oo 1 (lotF l))] = .nx [s0, s1, s2, s3, s4, s5, s6, s7, some (.sh (.int w)), s9, some (.sh (.int h)), some r, some q, u, s14, some (.sh (rowD l)), some (.oo 1 (lotF l))] := by
  have hlim : lim = 100000 := rfl
  have hl : l.mem.length ≤ 12 := hok.mp.len
  obtain ⟨s', e, u, rfl⟩ := Rn.forL_thingsN (t := .nm 13) (pin := []) (b := evS (tb.ct k) [] law_L5) (L := [3, 2]) (s := [s0, s1, s2, s3, s4, s5, s6, s7, some (.sh (.int w)), s9, some (.sh (.int h)), some r, some q, s13, s14, some (.sh (rowD l)), some (.oo 1 (lotF l))]) pairD
    (fun _ s => ∃ (u : Option O), s = [s0, s1, s2, s3, s4, s5, s6, s7, some (.sh (.int w)), s9, some (.sh (.int h)), some r, some q, u, s14, some (.sh (rowD l)), some (.oo 1 (lotF l))]) ⟨s13, rfl⟩ (by
    rintro i c s hc ⟨u, rfl⟩
    refine ⟨_, Rn.tgt_nm _ _, ?_⟩
    have hc : c = 2 ∨ c = 3 := by
      have := List.mem_of_getElem? hc
      simp at this
      omega
    have ea := asked_ok k hk (l := l) (o := .oo 1 (lotF l)) (g := .sh (.lst (iD l.mem))) (.inr rfl) (.inr rfl) (by omega) hq hp c hc h hh w
    have es := sent_ok k (by omega) (l := l) (o := .oo 1 (lotF l)) (.inr rfl) hok.mp.rg hr c hc h (hok.mp.rg h hh)
    have ed := due_ok k (by omega) (g := l.mem) (o := .sh (.lst (iD l.mem))) (.inr rfl) hr c h hh
    have eq := same_ok 0 (.bl (entM c l.mem h pl)) k (by omega) trivial
    simp only [List.set_cons_succ, List.set_cons_zero]
    have e2 : evS (tb.ct k) [] law_L5 [s0, s1, s2, s3, s4, s5, s6, s7, some (.sh (.int w)), s9, some (.sh (.int h)), some r, some q, some (.sh (pairD c)), s14, some (.sh (rowD l)), some (.oo 1 (lotF l))] = .nx [s0, s1, s2, s3, s4, s5, s6, s7, some (.sh (.int w)), s9, some (.sh (.int h)), some r, some q, some (.sh (pairD c)), s14, some (.sh (rowD l)), some (.oo 1 (lotF l))] := by
      generalize entM c l.mem h pl = v at es ed eq
      rcases hr with rfl | rfl <;> rcases hq with rfl | rfl <;> simp [bk, bks, lotF] at ea es ed <;> simp [law_L5, pairD, rowD, ea, es, ed, eq, lotF, hlim]
    rw [e2]
    exact ⟨_, rfl⟩)
  exact ⟨u, e⟩
theorem L4_ok (k : Nat) (hk : 5 ≤ k) {x : List D} (hx : Src x) {l : LT} (hok : okL 12 l) {m : O} (hm : ModesO m) (w t h : Int) (hh : h ∈ l.mem) (s0 s2 s3 s4 s5 s6 s11 s12 s13 s14 : Option O) :
    ∃ (y : List D) (a b c : Option O), Src y ∧ evS (tb.ct k) [] law_L4 [s0, some (.ol x), s2, s3, s4, s5, s6, some m, some (.sh (.int w)), some (.sh (.int t)), some (.sh (.int h)), s11, s12, s13, s14, some (.sh (rowD l)), some (.oo 1 (lotF l))] = .nx [s0, some (.ol y), s2, s3, s4, s5, s6, some (.sh (.lst modesD)), some (.sh (.int w)), some (.sh (.int t)), some (.sh (.int h)), a, b, c, s14, some (.sh (rowD l)), some (.oo 1 (lotF l))] := by
  obtain ⟨v, y1, e1, hy1, v0, v1⟩ := draw_ok k (by omega) hx 13 (by omega)
  obtain ⟨j, rfl⟩ := Int.eq_ofNat_of_zero_le v0
  obtain ⟨g, y2, e2, hy2, hg, hgl⟩ := some_ok k (by omega) hy1 12 j (by omega) (by omega)
  have hgl2 : g.length ≤ 12 := hg.len
  obtain ⟨q, r, f, et, hr, hf, hq⟩ := turned_ok k (by omega) (p := g) (o := .ol (iD g)) (.inl rfl) (by omega) t
  obtain ⟨u, e⟩ := L5_ok k hk hok (pl := g) hf hr (by omega) w h hh s0 (some (.ol y2)) s2 s3 s4 s5 s6 (some (.sh (.lst modesD))) (some (.sh (.int t))) s13 s14
  refine ⟨y2, some f, some r, u, hy2, ?_⟩
  simp at et
  have e2 : tb.FF k 20 [.ol y1, .sh (.int 12), .sh (.int j)] = .ret (.ol (iD g)) [some (.ol y2), none, none] := e2
  rcases hm with rfl | rfl <;> simp [law_L4, e1, e2, et, e]
end Law

namespace Law
open PySem Vm
theorem heads_ok (k : Nat) (hk : 5 ≤ k) {l : LT} (hl : l.mem.length ≤ 1000) (b w t h1 h2 : Int) (hh1 : h1 ∈ l.mem) (hh2 : h2 ∈ l.mem) (s0 s1 s3 : Option O) :
    ∃ (g m : O) (u10 u11 u12 u13 : Option O), ModesO m ∧ forL (.nm 10) [] (evS (tb.ct k) [] law_L1) [.int h1, .int h2] [s0, s1, some (.sh (.int b)), s3, some (.ol (iD l.mem)), none, some (.oo 1 (lotF l)), some (.ol modesD), some (.sh (.int w)), some (.sh (.int t)), none, none, none, none, none, none, none] = .nx [s0, s1, some (.sh (.int b)), s3, some g, none, some (.oo 1 (lotF l)), some m, some (.sh (.int w)), some (.sh (.int t)), u10, u11, u12, u13, none, none, none] := by
  obtain ⟨s', e, g', m', u10, u11, u12, u13, rfl, hg', hm'⟩ := Rn.forL_thingsN (t := .nm 10) (pin := []) (b := evS (tb.ct k) [] law_L1) (L := [h1, h2]) (s := [s0, s1, some (.sh (.int b)), s3, some (.ol (iD l.mem)), none, some (.oo 1 (lotF l)), some (.ol modesD), some (.sh (.int w)), some (.sh (.int t)), none, none, none, none, none, none, none]) D.int
    (fun _ s => ∃ (g' m' : O) (u10 u11 u12 u13 : Option O), s = [s0, s1, some (.sh (.int b)), s3, some g', none, some (.oo 1 (lotF l)), some m', some (.sh (.int w)), some (.sh (.int t)), u10, u11, u12, u13, none, none, none] ∧ (g' = .ol (iD l.mem) ∨ g' = .sh (.lst (iD l.mem))) ∧ ModesO m')
    ⟨.ol (iD l.mem), .ol modesD, none, none, none, none, rfl, .inl rfl, .inl rfl⟩ (by
    rintro i h s hi ⟨g', m', u10, u11, u12, u13, rfl, hg', hm'⟩
    refine ⟨_, Rn.tgt_nm _ _, ?_⟩
    have hh : h ∈ l.mem := by
      have := List.mem_of_getElem? hi
      simp at this
      rcases this with rfl | rfl
      · exact hh1
      · exact hh2
    have z := L1_ok k hk hl hg' hm' b w t h hh s0 s1 s3 none u11 u12 u13 none none
    cases z with | intro g2 z =>
    cases z with | intro m2 z =>
    cases z with | intro u z =>
    cases z with | intro v z =>
    cases z with | intro x z =>
    have hg2 := z.1
    have hm2 := z.2.1
    have e := z.2.2
    simp only [List.set_cons_succ, List.set_cons_zero, e, Rn.TurnOk_nx]
    exact ⟨g2, m2, _, _, _, _, rfl, hg2, hm2⟩)
  exact ⟨g', m', u10, u11, u12, u13, hm', e⟩
end Law

namespace Law
open PySem Vm
theorem twice_ok (k : Nat) (hk : 5 ≤ k) {x : List D} (hx : Src x) {l : LT} (hok : okL 12 l) {m : O} (hm : ModesO m) (w t h : Int) (hh : h ∈ l.mem) (s0 s2 s3 s4 s5 s6 s11 s12 s13 s14 : Option O) :
    ∃ (s' : Vm.Env), forL (.nm 14) [] (evS (tb.ct k) [] law_L4) (rngD 0 2) [s0, some (.ol x), s2, s3, s4, s5, s6, some m, some (.sh (.int w)), some (.sh (.int t)), some (.sh (.int h)), s11, s12, s13, s14, some (.sh (rowD l)), some (.oo 1 (lotF l))] = .nx (s0 :: s') := by
  obtain ⟨s', e, y9, m9, v11, v12, v13, v14, rfl, hy9, hm9⟩ := Rn.forL_rngN (t := .nm 14) (pin := []) (b := evS (tb.ct k) [] law_L4) (lo := 0) (n := 2) (s := [s0, some (.ol x), s2, s3, s4, s5, s6, some m, some (.sh (.int w)), some (.sh (.int t)), some (.sh (.int h)), s11, s12, s13, s14, some (.sh (rowD l)), some (.oo 1 (lotF l))])
    (fun _ s => ∃ (y : List D) (m : O) (v11 v12 v13 v14 : Option O), s = [s0, some (.ol y), s2, s3, s4, s5, s6, some m, some (.sh (.int w)), some (.sh (.int t)), some (.sh (.int h)), v11, v12, v13, v14, some (.sh (rowD l)), some (.oo 1 (lotF l))] ∧ Src y ∧ ModesO m)
    ⟨x, m, s11, s12, s13, s14, rfl, hx, hm⟩ (by
    rintro i s hi ⟨y, m, v11, v12, v13, v14, rfl, hy, hm⟩
    refine ⟨_, Rn.tgt_nm _ _, ?_⟩
    obtain ⟨y', a, bb, c, hy', e⟩ := L4_ok k hk hy hok hm w t h hh s0 s2 s3 s4 s5 s6 v11 v12 v13 (some (.sh (.int (0 + (i : Int)))))
    simp only [List.set_cons_succ, List.set_cons_zero, e, Rn.TurnOk_nx]
    exact ⟨y', _, a, bb, c, _, rfl, hy', .inr rfl⟩)
  exact ⟨_, e⟩
end Law

namespace Law
open PySem Vm
theorem law_okK (K : Nat) (hK : 20 ≤ K) (ns : List Int) : ∃ f, tb.FF (K + 1) 11 [.sh (.scr ns)] = .ret (.sh (.bl true)) f := by
  have hlim : lim = 100000 := rfl
  have sr := source_ok K (by omega) ns
  obtain ⟨b, y1, e1, hy1, b0, b1⟩ := draw_ok K (by omega) (src_ok ns) 8 (by omega)
  obtain ⟨l0, y2, e2, hy2, hl0⟩ := wide_ok K (by omega) hy1 5 (by omega) (by omega)
  have hl := okL_shift hl0 b ⟨b0, b1⟩
  have hlen : (l0.mem.map (b + ·)).length ≤ 12 := hl.mp.len
  obtain ⟨f1, f2, h1, h2, ei⟩ := init_any K (by omega) (l0.mem.map (b + ·)) (l0.can.map (b + ·)) l0.pri (o1 := .sh (.lst (iD (l0.mem.map (b + ·))))) (o2 := .sh (.lst (iD (l0.can.map (b + ·))))) (.inl ⟨rfl, rfl⟩) (by omega) (by have := hl.cs.len; simp at this hlen ⊢; omega)
  rw [why_ok (l := ⟨l0.mem.map (b + ·), l0.can.map (b + ·), l0.pri⟩) hl] at ei
  have hf1 : f1 = none := by rcases h1 with rfl | rfl <;> rfl
  have hf2 : f2 = none := by rcases h2 with rfl | rfl <;> rfl
  subst hf1 hf2
  obtain ⟨w, y3, e3, hy3, _, _⟩ := draw_ok K (by omega) hy2 2 (by omega)
  obtain ⟨t, y4, e4, hy4, _, _⟩ := draw_ok K (by omega) hy3 2 (by omega)
  obtain ⟨L, hL⟩ : ∃ L : LT, L = ⟨l0.mem.map (b + ·), l0.can.map (b + ·), l0.pri⟩ := ⟨_, rfl⟩
  have hm : l0.mem.map (b + ·) = L.mem := by rw [hL]
  have hc : l0.can.map (b + ·) = L.can := by rw [hL]
  have hpr : l0.pri = L.pri := by rw [hL]
  rw [hm, hc, hpr] at hl ei
  rw [hm] at hlen
  have ml : 2 ≤ L.mem.length := hl.ml
  have clen : L.can.length ≤ 12 := Nat.le_trans hl.cs.len hlen
  obtain ⟨d1, y5, e5, hy5, hd1⟩ := pick_ok K (by omega) hy4 (o := .ol (iD L.mem)) (.inr (.inr rfl)) (by simp; omega) (by simp; omega)
  obtain ⟨h1, hh1, rfl⟩ := List.mem_map.mp hd1
  obtain ⟨d2, y6, e6, hy6, hd2⟩ := pick_ok K (by omega) hy5 (o := .ol (iD L.mem)) (.inr (.inr rfl)) (by simp; omega) (by simp; omega)
  obtain ⟨h2, hh2, rfl⟩ := List.mem_map.mp hd2
  have cm1 := Rn.cmpR_maps (G := tb.ct K) (s0 := [some (.sh (.scr ns)), some (.ol y2), some (.sh (.int b)), some (.sh (rowD l0)), none, none, none, none, none, none, none, none, none, none, none, none, none]) (vs := [5]) (t := .nm 5) (el := law_C1) (L := l0.mem) (s := [some (.sh (.scr ns)), some (.ol y2), some (.sh (.int b)), some (.sh (rowD l0)), none, none, none, none, none, none, none, none, none, none, none, none, none]) D.int (fun x => .int (b + x)) (by
    intro x hx
    exact ⟨_, _, Rn.tgt_nm _ _, by simp [law_C1, wipe] <;> rfl, by simp [back]⟩)
  have cm2 := Rn.cmpR_maps (G := tb.ct K) (s0 := [some (.sh (.scr ns)), some (.ol y2), some (.sh (.int b)), some (.sh (rowD l0)), some (.ol (iD L.mem)), none, none, none, none, none, none, none, none, none, none, none, none]) (vs := [5]) (t := .nm 5) (el := law_C2) (L := l0.can) (s := [some (.sh (.scr ns)), some (.ol y2), some (.sh (.int b)), some (.sh (rowD l0)), some (.ol (iD L.mem)), none, none, none, none, none, none, none, none, none, none, none, none]) D.int (fun x => .int (b + x)) (by
    intro x hx
    exact ⟨_, _, Rn.tgt_nm _ _, by simp [law_C2, wipe] <;> rfl, by simp [back]⟩)
  have v1 : (l0.mem.map fun x => D.int (b + x)) = iD L.mem := by rw [← hm]; simp [iD, List.map_map, Function.comp_def]
  have v2 : (l0.can.map fun x => D.int (b + x)) = iD L.can := by rw [← hc]; simp [iD, List.map_map, Function.comp_def]
  rw [v1] at cm1
  rw [v2] at cm2
  have n1 : l0.mem.length ≤ 100000 := by have := congrArg List.length hm; simp at this; omega
  have n2 : l0.can.length ≤ 100000 := by have := congrArg List.length hc; simp at this; have := hl.cs.len; omega
  have n3 : L.mem.length ≤ 100000 := by omega
  obtain ⟨g', m', u10, u11, u12, u13, hm', f1⟩ := heads_ok K (by omega) (l := L) (by omega) b w t h1 h2 hh1 hh2 (some (.sh (.scr ns))) (some (.ol y6)) (some (.sh (rowD l0)))
  -- the wide one
  obtain ⟨l, y7, e7, hy7, hlw⟩ := wide_ok K (by omega) hy6 12 (by omega) (by omega)
  have e7 : tb.FF K 18 [.ol y6, .sh (.int 12)] = .ret (.sh (rowD l)) [some (.ol y7), none] := e7
  have hlwl : l.mem.length ≤ 12 := hlw.mp.len
  have hlwc : l.can.length ≤ 12 := Nat.le_trans hlw.cs.len hlwl
  have mlw := hlw.ml
  have ew := init_ok K (by omega) l hlw
  obtain ⟨d3, y8, e8, hy8, hd3⟩ := pick_ok K (by omega) hy7 (o := .sh (.lst (iD l.mem))) (.inl rfl) (by simp; omega) (by simp; omega)
  obtain ⟨h, hh, rfl⟩ := List.mem_map.mp hd3
  obtain ⟨s2, f2⟩ := twice_ok K (by omega) hy8 hlw hm' w t h hh (some (.sh (.scr ns))) (some (.sh (.int b))) (some (.sh (rowD l0))) (some g') none (some (.oo 1 (lotF L))) u11 u12 u13 none
  refine ⟨[none], ?_⟩
  rw [Rn.run tb h_law]
  have e00 : runD (tb.ct K) d_law.df [.sh (.scr ns)] = outR [] 1 (evS (tb.ct K) [] b_law [some (.sh (.scr ns)), none, none, none, none, none, none, none, none, none, none, none, none, none, none, none, none]) := by
    simp [runD, d_law, DfI.df, enter]
  rw [e00]
  unfold b_law
  have st1 : evS (tb.ct K) [] (.asg 1 (.call 5 (.cons (.var 0) .nil))) [some (.sh (.scr ns)), none, none, none, none, none, none, none, none, none, none, none, none, none, none, none, none] = .nx [some (.sh (.scr ns)), some (.ol (src ns 0 0 0 0 false)), none, none, none, none, none, none, none, none, none, none, none, none, none, none, none] := by
    simp [sr]
  rw [seq_nx st1]
  have st2 : evS (tb.ct K) [] (.asg 2 (.call 2 (.cons (.var 1) (.cons (.lit (.int 8)) .nil)))) [some (.sh (.scr ns)), some (.ol (src ns 0 0 0 0 false)), none, none, none, none, none, none, none, none, none, none, none, none, none, none, none] = .nx [some (.sh (.scr ns)), some (.ol y1), some (.sh (.int b)), none, none, none, none, none, none, none, none, none, none, none, none, none, none] := by
    simp [e1]
  rw [seq_nx st2]
  have e2 : tb.FF K 18 [.ol y1, .sh (.int 5)] = .ret (.sh (rowD l0)) [some (.ol y2), none] := e2
  have st3 : evS (tb.ct K) [] (.asg 3 (.call 18 (.cons (.var 1) (.cons (.lit (.int 5)) .nil)))) [some (.sh (.scr ns)), some (.ol y1), some (.sh (.int b)), none, none, none, none, none, none, none, none, none, none, none, none, none, none] = .nx [some (.sh (.scr ns)), some (.ol y2), some (.sh (.int b)), some (.sh (rowD l0)), none, none, none, none, none, none, none, none, none, none, none, none, none] := by
    simp [e2]
  rw [seq_nx st3]
  have st4 : evS (tb.ct K) [] (.asg 4 (.comp [5] (.nm 5) (.itr (.idx (.var 3) (.lit (.int 0)))) .nil law_C1)) [some (.sh (.scr ns)), some (.ol y2), some (.sh (.int b)), some (.sh (rowD l0)), none, none, none, none, none, none, none, none, none, none, none, none, none] = .nx [some (.sh (.scr ns)), some (.ol y2), some (.sh (.int b)), some (.sh (rowD l0)), some (.ol (iD L.mem)), none, none, none, none, none, none, none, none, none, none, none, none] := by
    simp [rowD] at cm1
    simp [cm1, rowD, freeV, hlim, n1]
  rw [seq_nx st4]
  have st5 : evS (tb.ct K) [] (.asg 6 (.mk 1 (.cons (.bi .list (.cons (.var 4) .nil)) (.cons (.comp [5] (.nm 5) (.itr (.idx (.var 3) (.lit (.int 1)))) .nil law_C2) (.cons (.idx (.var 3) (.lit (.int 2))) .nil))))) [some (.sh (.scr ns)), some (.ol y2), some (.sh (.int b)), some (.sh (rowD l0)), some (.ol (iD L.mem)), none, none, none, none, none, none, none, none, none, none, none, none] = .nx [some (.sh (.scr ns)), some (.ol y2), some (.sh (.int b)), some (.sh (rowD l0)), some (.ol (iD L.mem)), none, some (.oo 1 (lotF L)), none, none, none, none, none, none, none, none, none, none] := by
    simp [rowD, hpr] at cm2
    simp [cm2, rowD, freeV, hlim, n2, n3, ei, hpr]
  rw [seq_nx st5]
  have st6 : evS (tb.ct K) [] (.asg 7 (.lst (.cons (.tup (.cons (.mk0 3) (.cons (.lit (.str "gather")) .nil))) (.cons (.tup (.cons (.mk0 2) (.cons (.lit (.str "spread")) .nil))) .nil)))) [some (.sh (.scr ns)), some (.ol y2), some (.sh (.int b)), some (.sh (rowD l0)), some (.ol (iD L.mem)), none, some (.oo 1 (lotF L)), none, none, none, none, none, none, none, none, none, none] = .nx [some (.sh (.scr ns)), some (.ol y2), some (.sh (.int b)), some (.sh (rowD l0)), some (.ol (iD L.mem)), none, some (.oo 1 (lotF L)), some (.ol modesD), none, none, none, none, none, none, none, none, none] := by
    simp [modesD, pairD, modeN]
  rw [seq_nx st6]
  have st7 : evS (tb.ct K) [] (.asg 8 (.call 2 (.cons (.var 1) (.cons (.lit (.int 2)) .nil)))) [some (.sh (.scr ns)), some (.ol y2), some (.sh (.int b)), some (.sh (rowD l0)), some (.ol (iD L.mem)), none, some (.oo 1 (lotF L)), some (.ol modesD), none, none, none, none, none, none, none, none, none] = .nx [some (.sh (.scr ns)), some (.ol y3), some (.sh (.int b)), some (.sh (rowD l0)), some (.ol (iD L.mem)), none, some (.oo 1 (lotF L)), some (.ol modesD), some (.sh (.int w)), none, none, none, none, none, none, none, none] := by
    simp [e3]
  rw [seq_nx st7]
  have st8 : evS (tb.ct K) [] (.asg 9 (.call 2 (.cons (.var 1) (.cons (.lit (.int 2)) .nil)))) [some (.sh (.scr ns)), some (.ol y3), some (.sh (.int b)), some (.sh (rowD l0)), some (.ol (iD L.mem)), none, some (.oo 1 (lotF L)), some (.ol modesD), some (.sh (.int w)), none, none, none, none, none, none, none, none] = .nx [some (.sh (.scr ns)), some (.ol y4), some (.sh (.int b)), some (.sh (rowD l0)), some (.ol (iD L.mem)), none, some (.oo 1 (lotF L)), some (.ol modesD), some (.sh (.int w)), some (.sh (.int t)), none, none, none, none, none, none, none] := by
    simp [e4]
  rw [seq_nx st8]
  simp [bk] at e5 e6 e8
  have st9 : evS (tb.ct K) [] (.for_ (.nm 10) (.itr (.lst (.cons (.call 10 (.cons (.var 1) (.cons (.var 4) .nil))) (.cons (.call 10 (.cons (.var 1) (.cons (.var 4) .nil))) .nil)))) law_L1) [some (.sh (.scr ns)), some (.ol y4), some (.sh (.int b)), some (.sh (rowD l0)), some (.ol (iD L.mem)), none, some (.oo 1 (lotF L)), some (.ol modesD), some (.sh (.int w)), some (.sh (.int t)), none, none, none, none, none, none, none] = .nx [some (.sh (.scr ns)), some (.ol y6), some (.sh (.int b)), some (.sh (rowD l0)), some g', none, some (.oo 1 (lotF L)), some m', some (.sh (.int w)), some (.sh (.int t)), u10, u11, u12, u13, none, none, none] := by
    generalize law_L1 = LL at f1
    simp [e5, e6, f1]
  rw [seq_nx st9]
  have st10 : evS (tb.ct K) [] (.asg 15 (.call 18 (.cons (.var 1) (.cons (.lit (.int 12)) .nil)))) [some (.sh (.scr ns)), some (.ol y6), some (.sh (.int b)), some (.sh (rowD l0)), some g', none, some (.oo 1 (lotF L)), some m', some (.sh (.int w)), some (.sh (.int t)), u10, u11, u12, u13, none, none, none] = .nx [some (.sh (.scr ns)), some (.ol y7), some (.sh (.int b)), some (.sh (rowD l0)), some g', none, some (.oo 1 (lotF L)), some m', some (.sh (.int w)), some (.sh (.int t)), u10, u11, u12, u13, none, some (.sh (rowD l)), none] := by
    simp [e7]
  rw [seq_nx st10]
  have st11 : evS (tb.ct K) [] (.asg 16 (.mk 1 (.cons (.bi .list (.cons (.idx (.var 15) (.lit (.int 0))) .nil)) (.cons (.bi .list (.cons (.idx (.var 15) (.lit (.int 1))) .nil)) (.cons (.idx (.var 15) (.lit (.int 2))) .nil))))) [some (.sh (.scr ns)), some (.ol y7), some (.sh (.int b)), some (.sh (rowD l0)), some g', none, some (.oo 1 (lotF L)), some m', some (.sh (.int w)), some (.sh (.int t)), u10, u11, u12, u13, none, some (.sh (rowD l)), none] = .nx [some (.sh (.scr ns)), some (.ol y7), some (.sh (.int b)), some (.sh (rowD l0)), some g', none, some (.oo 1 (lotF L)), some m', some (.sh (.int w)), some (.sh (.int t)), u10, u11, u12, u13, none, some (.sh (rowD l)), some (.oo 1 (lotF l))] := by
    simp [rowD, ew, hlim, show l.mem.length ≤ 100000 by omega, show l.can.length ≤ 100000 by omega]
  rw [seq_nx st11]
  have st12 : evS (tb.ct K) [] (.asg 10 (.call 10 (.cons (.var 1) (.cons (.idx (.var 15) (.lit (.int 0))) .nil)))) [some (.sh (.scr ns)), some (.ol y7), some (.sh (.int b)), some (.sh (rowD l0)), some g', none, some (.oo 1 (lotF L)), some m', some (.sh (.int w)), some (.sh (.int t)), u10, u11, u12, u13, none, some (.sh (rowD l)), some (.oo 1 (lotF l))] = .nx [some (.sh (.scr ns)), some (.ol y8), some (.sh (.int b)), some (.sh (rowD l0)), some g', none, some (.oo 1 (lotF L)), some m', some (.sh (.int w)), some (.sh (.int t)), some (.sh (.int h)), u11, u12, u13, none, some (.sh (rowD l)), some (.oo 1 (lotF l))] := by
    simp [rowD, e8]
  rw [seq_nx st12]
  have st13 : evS (tb.ct K) [] (.for_ (.nm 14) (.rng (.cons (.lit (.int 2)) .nil)) law_L4) [some (.sh (.scr ns)), some (.ol y8), some (.sh (.int b)), some (.sh (rowD l0)), some g', none, some (.oo 1 (lotF L)), some m', some (.sh (.int w)), some (.sh (.int t)), some (.sh (.int h)), u11, u12, u13, none, some (.sh (rowD l)), some (.oo 1 (lotF l))] = .nx (some (.sh (.scr ns)) :: s2) := by
    generalize law_L4 = LL at f2
    simp [hlim, f2]
  rw [seq_nx st13]
  simp
theorem law_ok (ns : List Int) (_ : ns.length ≤ 63) : ∃ f, tb.FF 30 11 [.sh (.scr ns)] = .ret (.sh (.bl true)) f := law_okK 29 (by omega) ns
end Law

namespace Law
open PySem PySem.Spec PyProof.Rows L2 Vm
abbrev RR : PySem.W.OpenRow := PySem.W.OpenLaw.row PySem.Challenge.rw_headedlots_k14_whole_sets_that_lots_ente
abbrev hk : PySem.W.Hook := hookV 6 tb
def ob (s : PySem.W.SharedT) : AlV := obsVG 6 tb (HandSHeadRun.getT s)
theorem ob_eq (s : PySem.W.SharedT) : ob s = hk.obs s.abs := obsVG_eq (HandSHeadRun.getT_eq s)
def loose : List Str := (["_wall", "Mode", "Gather", "Spread", "NetworkError", "InvalidLot", "MOST_PLACES", "MOST_PRICE", "all_different", "Lot", "_law_source", "_law_mixed", "_law_draw", "_law_number", "_law_same", "_law_pick", "_law_shuffled", "_law_menu", "_law_cost", "_law_sends", "_law_subsets", "_law_handed", "_law_some", "_law_wide", "_law_due", "_law_asked", "_law_sent", "_law_turned"] : List Str)
theorem run (w : World) : HandSHeadRun.RunEq RR (PySem.W.view RR.prog [32]) hk ob 40000 loose w := by
  intro os
  kernel_rfl
end Law
open PySem PySem.W PySem.Calls PyProof.Rows
set_option maxHeartbeats 0 in
theorem PySem.Challenge.cw_headedlots_k14_whole_sets_that_lots_ente_holds : PySem.Challenge.rw_headedlots_k14_whole_sets_that_lots_ente.Holds := by
  w_on; o_law
  refine HandSHeadRun.head_any (r := OpenLaw.row PySem.Challenge.rw_headedlots_k14_whole_sets_that_lots_ente) (q := view (OpenLaw.row PySem.Challenge.rw_headedlots_k14_whole_sets_that_lots_ente).prog [32]) (H := Law.hk) (ob := Law.ob) (M := 40000) (loose := Law.loose) (d := HandSHeadRun.topDef (OpenLaw.row PySem.Challenge.rw_headedlots_k14_whole_sets_that_lots_ente).prog 32) (kwd := []) Law.ob_eq
    (by kernel_rfl) (fun s => by kernel_rfl) Law.run (by kernel_rfl) (by kernel_rfl) (by kernel_rfl) (by rfl) (by first | assumption | decide +kernel) (by decide +kernel) ⟨rfl, rfl, rfl, rfl, rfl, by decide +kernel⟩ ?hw ?hc
  case hw => w_witness2
  case hc => exact Vm.end_ (b := Law.tb) (n := 63) (k := 30) (gl := 11) (n0 := 6) (x := "script") (li := Law.d_law) (by decide +kernel) Law.o_all Law.x_all (by kernel_rfl) (by kernel_rfl) rfl (by kernel_rfl) rfl rfl rfl (by decide) (by kernel_rfl) ⟨rfl, by decide, by decide⟩ Law.law_ok
