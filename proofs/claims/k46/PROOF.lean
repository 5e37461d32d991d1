import PyProof.Rows.All
import Wide.All
import OpenK.AllK
import Wide.FinOn
import HandS.ForMost
import HandS.Exc
import HandS.WordsExc
import HandS.CallSlots
import HandS.Codes
import HandS.Wide
import HandS.TupAny
import HandS.SortInts
import HandS.IsInst
import HandS.RaiseMore
import HandS.Flow
import PyProof.StrOps2
import HandS.Deep
import HandS.DeepEq
import HandS.SetKeys
import KE.SortData
import KE.KSortedM
import HandS.More
import KE.SortKeyHeap
import KE.GoesEnum
import KE.KDictZip
import PySem.Challenge.RW_eachsome_k46_whole_plain_answers_along_p
set_option Elab.async false
set_option linter.all false
set_option maxRecDepth 100000
/-! E1: the meaning of the Python that the laws use, over plain data: values D, states A, runs M. -/
namespace Ea
open PySem L2

/-- plain data; ref: a thing of the common store; own: the thing that a slot of this frame holds -/
inductive D where
  | non | bl (b : Bool) | int (i : Int) | str (x : Str)
  | tup (xs : List D) | lst (xs : List D)
  /-- a dict: its entries, each a tup of key and value -/
  | dic (es : List D)
  | st (xs : List D)
  | ref (i : Nat) | own (i : Nat)
  deriving Inhabited

/-- what a slot holds: nothing, a value, a thing of its own that may be changed -/
inductive Sl where
  | un | val (d : D) | own (d : D)
  deriving Inhabited
/-- an exception: its class (by a number), its fields -/
structure Xn where
  c : Nat
  fs : List D
inductive Rs (α : Type) where
  | ok (a : α) | ex (x : Xn)
/-- a frame's slots, the common store -/
structure A where
  fr : List Sl
  st : List D
abbrev M (α : Type) := A → Option (Rs α × A)
/-- how a block ends -/
inductive Fl where
  | nx | rt (d : D) | bk | ct

section
variable {α β : Type}
def ret (a : α) : M α := fun s => some (.ok a, s)
def fail : M α := fun _ => none
def raise (x : Xn) : M α := fun s => some (.ex x, s)
def bind (m : M α) (k : α → M β) : M β := fun s => match m s with
  | none => none
  | some (.ok a, s') => k a s'
  | some (.ex x, s') => some (.ex x, s')
def getA : M A := fun s => some (.ok s, s)
def setA (s : A) : M Unit := fun _ => some (.ok (), s)
def opt : Option α → M α
  | some a => ret a
  | none => fail
def need (b : Bool) (m : M α) : M α := if b = true then m else fail
end

/-! ### data -/
def D.key : D → Option Key
  | .int i => some (.inl i)
  | .str x => some (.inr x)
  | _ => none
def keyD : Key → D
  | .inl i => .int i
  | .inr x => .str x
/-- plain data to the depth n -/
def D.pl : Nat → D → Bool
  | _, .non => true
  | _, .bl _ => true
  | _, .int _ => true
  | _, .str x => PyData.strOk x
  | n + 1, .tup xs => xs.all (D.pl n)
  | n + 1, .lst xs => xs.all (D.pl n)
  | _, _ => false
mutual
/-- the library's data of plain data -/
def D.py : D → PyData
  | .bl b => .bool b
  | .int i => .int i
  | .str x => .str x
  | .tup xs => .tuple (D.pys xs)
  | .lst xs => .list (D.pys xs)
  | _ => .none
def D.pys : List D → List PyData
  | [] => []
  | x :: xs => D.py x :: D.pys xs
end
/-- equality as Python has it, of plain data -/
def D.eq (a b : D) : Bool := PyData.eqv a.py b.py
mutual
/-- a bound for the length of a text that shows it -/
def D.wt : D → Nat
  | .bl _ => 5
  | .int i => if i.natAbs.log2 < 1920 then i.natAbs.log2 + 3 else 100000000
  | .str x => 10 * x.length + 2
  | .tup xs => D.wts xs + 3
  | .lst xs => D.wts xs + 2
  | _ => 4
def D.wts : List D → Nat
  | [] => 0
  | x :: xs => D.wt x + 2 + D.wts xs
end

/-! ### reading -/
/-- what stands behind a pointer -/
def deref (d : D) (s : A) : Option D := match d with
  | .own i => match s.fr[i]? with
    | some (.own c) => some c
    | some (.val c) => some c
    | _ => none
  | .ref i => s.st[i]?
  | d => some d
/-- a slot -/
def rd (i : Nat) : M D := fun s => match s.fr[i]? with
  | some (.val d) => some (.ok d, s)
  | some (.own _) => some (.ok (.own i), s)
  | _ => none
/-- from here on it is a value -/
def stl (d : D) : M D := match d with
  | .own i => fun s => match s.fr[i]? with
    | some (.own c) => some (.ok c, ⟨s.fr.set i (.val c), s.st⟩)
    | some (.val d) => some (.ok d, s)
    | _ => none
  | d => ret d
def stls : List D → M (List D)
  | [] => ret []
  | d :: ds => bind (stl d) fun d => bind (stls ds) fun ds => ret (d :: ds)
/-- a pure operation on what stands there -/
def op1 (f : D → Option D) (x : D) : M D := fun s => match deref x s with
  | some a => opt (f a) s
  | none => none
def op2 (f : D → D → Option D) (x y : D) : M D := fun s => match deref x s, deref y s with
  | some a, some b => opt (f a b) s
  | _, _ => none
def bin (f : D → D → Option D) (a b : M D) : M D := bind a fun x => bind b fun y => op2 f x y
def un (f : D → Option D) (a : M D) : M D := bind a fun x => op1 f x
def consM (a : M D) (b : M (List D)) : M (List D) := bind a fun x => bind b fun xs => ret (x :: xs)
def nilM : M (List D) := ret []
/-- a built-in of some arguments -/
def opn (f : List D → Option D) (xs : M (List D)) : M D := bind xs fun ds s => match ds.mapM (deref · s) with
  | some cs => opt (f cs) s
  | none => none
def tupM (xs : M (List D)) : M D := bind xs fun ds => bind (stls ds) fun ds => need (decide (ds.length ≤ 16777216)) (ret (.tup ds))
def lstM (xs : M (List D)) : M D := bind xs fun ds => bind (stls ds) fun ds => need (decide (ds.length ≤ 16777216)) (ret (.lst ds))
def newM (m : M D) : M D := bind m fun d s => some (.ok (.ref s.st.length), ⟨s.fr, s.st ++ [d]⟩)

/-! ### operators -/
def lenOk (n : Nat) : Bool := decide (n ≤ 16777216)
def addD : D → D → Option D
  | .int a, .int b => some (.int (a + b))
  | .str a, .str b => if lenOk (a.length + b.length) = true then some (.str (a ++ b)) else none
  | .tup a, .tup b => if lenOk (a.length + b.length) = true then some (.tup (a ++ b)) else none
  | .lst a, .lst b => if lenOk (a.length + b.length) = true then some (.lst (a ++ b)) else none
  | _, _ => none
def subD : D → D → Option D
  | .int a, .int b => some (.int (a - b))
  | _, _ => none
def small64 (i : Int) : Bool := decide (-(2 ^ 64) < i ∧ i < 2 ^ 64)
def mulOk (i j : Int) : Bool := small64 i || small64 j || decide (i.natAbs.log2 + j.natAbs.log2 < 1000000)
def mulD : D → D → Option D
  | .int a, .int b => if mulOk a b = true then some (.int (a * b)) else none
  | .str a, .int k => if decide (-100000 ≤ k ∧ k ≤ 100000) && lenOk (a.length * k.toNat) then some (.str ⟨(List.replicate k.toNat a.cps.toList).flatten.toArray⟩) else none
  | _, _ => none
def fdivD : D → D → Option D
  | .int a, .int b => if decide (0 < b ∧ b.natAbs.log2 < 9000) = true then some (.int (a / b)) else none
  | _, _ => none
def modD : D → D → Option D
  | .int a, .int b => if decide (0 < b) = true then some (.int (a % b)) else none
  | _, _ => none
def powD : D → D → Option D
  | .int a, .int b => if decide (0 ≤ b ∧ b ≤ 1000000 ∧ a.natAbs < 2 ^ 64) = true then some (.int (a ^ b.toNat)) else none
  | _, _ => none
def negD : D → Option D
  | .int a => some (.int (-a))
  | _ => none
def eqOk (a b : D) : Bool := match a, b with
  | .str _, .str _ => true
  | a, b => D.pl 60 a && D.pl 60 b
def eqD (a b : D) : Option D := if eqOk a b = true then some (.bl (D.eq a b)) else none
def neD (a b : D) : Option D := if eqOk a b = true then some (.bl (!D.eq a b)) else none
def cmpD (f : Int → Int → Bool) : D → D → Option D
  | .int a, .int b => some (.bl (f a b))
  | _, _ => none
def ltD := cmpD fun a b => decide (a < b)
def leD := cmpD fun a b => decide (a ≤ b)
def gtD := cmpD fun a b => decide (b < a)
def geD := cmpD fun a b => decide (b ≤ a)
def isN : D → Bool
  | .non => true
  | _ => false
def isD (a : D) : Option D := some (.bl (isN a))
def isnD (a : D) : Option D := some (.bl (!isN a))
/-- whether a key stands in a dict -/
def lookD (k : Key) : List D → Option D
  | [] => none
  | .tup [a, b] :: es => if a.key = some k then some b else lookD k es
  | _ :: es => lookD k es
def inB (x : D) : D → Option Bool
  | .tup ys => if eqOk x (.lst ys) = true then some (ys.any fun y => D.eq y x) else none
  | .lst ys => if eqOk x (.lst ys) = true then some (ys.any fun y => D.eq y x) else none
  | .dic es => match x.key with
    | some k => some (lookD k es).isSome
    | none => none
  | .str z => match x with
    | .str i => match i.cps.toList with
      | [c] => some (decide (c ∈ z.cps.toList))
      | _ => none
    | _ => none
  | _ => none
def inD (x y : D) : Option D := (inB x y).map .bl
def ninD (x y : D) : Option D := (inB x y).map fun b => .bl (!b)

/-! ### parts -/
def ixD : D → D → Option D
  | .tup xs, .int i => L2.atI xs i
  | .lst xs, .int i => L2.atI xs i
  | .str x, .int i => if lenOk x.length = true then (L2.atI x.cps.toList i).map fun c => .str ⟨#[c]⟩ else none
  | .dic es, k => k.key.bind fun k => lookD k es
  | _, _ => none
def cutD (xs : List D) (lo hi : Option Int) : List D := (xs.drop (HT.sIx xs.length 0 lo)).take (HT.sIx xs.length xs.length hi - HT.sIx xs.length 0 lo)
def slD (d : D) (lo hi : Option Int) : Option D := match d with
  | .tup xs => some (.tup (cutD xs lo hi))
  | .lst xs => some (.lst (cutD xs lo hi))
  | .str x => if lenOk x.length = true then some (.str (cutS x lo hi)) else none
  | _ => none
def intO : Option D → Option (Option Int)
  | none => some none
  | some (.int i) => some (some i)
  | _ => none
def optM (m : Option (M D)) : M (Option D) := match m with
  | none => ret none
  | some m => bind m fun d => ret (some d)
def sl (a : M D) (lo hi : Option (M D)) : M D := bind a fun x => bind (optM lo) fun l => bind (opt (intO l)) fun l => bind (optM hi) fun h => bind (opt (intO h)) fun h => op1 (fun d => slD d l h) x

/-! ### built-ins -/
def intOf : D → Option Int
  | .int i => some i
  | _ => none
def allI (xs : List D) : Option (List Int) := xs.mapM intOf
def boolOf : D → Option Bool
  | .bl i => some i
  | _ => none
def allB (xs : List D) : Option (List Bool) := xs.mapM boolOf
def strOf : D → Option Str
  | .str i => some i
  | _ => none
def allS (xs : List D) : Option (List Str) := xs.mapM strOf
def lenF : List D → Option D
  | [.tup xs] => some (.int xs.length)
  | [.lst xs] => some (.int xs.length)
  | [.dic xs] => some (.int xs.length)
  | [.str x] => if lenOk x.length = true then some (.int x.length) else none
  | _ => none
def absF : List D → Option D
  | [.int i] => some (.int (if i < 0 then -i else i))
  | _ => none
def intF : List D → Option D
  | [.int i] => some (.int i)
  | [.bl k] => some (.int (if k = true then 1 else 0))
  | _ => none
def strF : List D → Option D
  | [.int i] => if decide (i.natAbs.log2 < 1920) = true then some (.str (toString i)) else none
  | [.str x] => some (.str x)
  | _ => none
def tupF : List D → Option D
  | [.tup xs] => some (.tup xs)
  | [.lst xs] => some (.tup xs)
  | _ => none
def lstF : List D → Option D
  | [.tup xs] => some (.lst xs)
  | [.lst xs] => some (.lst xs)
  | _ => none
def seqOf : D → Option (List D)
  | .lst xs => some xs
  | _ => none
def one (f : D → Option D) : List D → Option D
  | [a] => f a
  | _ => none
def sumF : List D → Option D := one fun d => (seqOf d).bind fun xs => (allI xs).map fun ns => .int ns.sum
def maxF : List D → Option D := one fun d => (seqOf d).bind fun xs => (allI xs).bind fun ns => ns.max?.map .int
def minF : List D → Option D := one fun d => (seqOf d).bind fun xs => (allI xs).bind fun ns => ns.min?.map .int
def max2F : List D → Option D
  | [.int i, .int j] => some (.int (if j > i then j else i))
  | _ => none
def min2F : List D → Option D
  | [.int i, .int j] => some (.int (if j < i then j else i))
  | _ => none
def allF : List D → Option D := one fun d => (seqOf d).bind fun xs => (allB xs).map fun bs => .bl (bs.all id)
def anyF : List D → Option D := one fun d => (seqOf d).bind fun xs => (allB xs).map fun bs => .bl (bs.any id)
def sortI (ns : List Int) : List Int := ns.mergeSort fun a b => decide (a ≤ b)
def sortF : List D → Option D := one fun d => (seqOf d).bind fun xs => (allI xs).map fun ns => .lst ((sortI ns).map .int)
def absI (i : Int) : Int := if i < 0 then -i else i
def sortA (ns : List Int) : List Int := ns.mergeSort fun a b => decide (absI a ≤ absI b)
def sortAF : List D → Option D := one fun d => (seqOf d).bind fun xs => (allI xs).map fun ns => .lst ((sortA ns).map .int)
/-- sep.join(texts) -/
def joinD (a b : D) : Option D := match a with
  | .str z => (match b with
    | .lst xs => some xs
    | .tup xs => some xs
    | _ => none).bind fun xs => (allS xs).bind fun ys => if decide ((ys.map fun (y : Str) => y.length).sum + ys.length * z.length ≤ 16777216) = true then some (.str (Txt.join z ys)) else none
  | _ => none
def isS : D → Bool
  | .str _ => true
  | _ => false
/-- a dict's store -/
def putD (es : List D) (k : Key) (v : D) : List D :=
  if (lookD k es).isSome = true then es.map (fun e => match e with
    | .tup [a, b] => if a.key = some k then .tup [a, v] else .tup [a, b]
    | e => e) else es ++ [.tup [keyD k, v]]
def pairK : D → Option (Key × D)
  | .tup [a, b] => a.key.map fun k => (k, b)
  | _ => none
def mergeD (es : List D) : List (Key × D) → List D
  | [] => es
  | (k, v) :: r => mergeD (putD es k v) r
def dicF : List D → Option D := one fun d => match d with
  | .lst xs => (xs.mapM pairK).map fun ps => .dic (mergeD [] ps)
  | .tup xs => (xs.mapM pairK).map fun ps => .dic (mergeD [] ps)
  | _ => none
def reprF : List D → Option D := one fun d => if (D.pl 60 d && decide (d.wt ≤ 16777216)) = true then some (.str d.py.shown) else none

/-! ### tests, choices -/
def asB : D → Option Bool
  | .bl b => some b
  | _ => none
/-- a value that has to be True or False -/
def tst (m : M D) : M Bool := bind m fun d => opt (asB d)
def vB (m : M Bool) : M D := bind m fun b => ret (.bl b)
def notM (m : M Bool) : M Bool := bind m fun b => ret (!b)
def andV (a b : M D) : M D := bind a fun d => bind (opt (asB d)) fun x => if x = true then b else ret (.bl false)
def orV (a b : M D) : M D := bind a fun d => bind (opt (asB d)) fun x => if x = true then ret (.bl true) else b
def notV (a : M D) : M D := bind a fun d => bind (opt (asB d)) fun x => ret (.bl (!x))
def andM (a b : M Bool) : M Bool := bind a fun x => if x = true then b else ret false
def orM (a b : M Bool) : M Bool := bind a fun x => if x = true then ret true else b
def iteM {α : Type} (c : M Bool) (a b : M α) : M α := bind c fun x => if x = true then a else b
def chain (f g : D → D → Option D) (a b c : M D) : M D := bind a fun x => bind b fun y => bind (op2 f x y) fun r => bind (opt (asB r)) fun k => if k = true then bind c fun z => op2 g y z else ret (.bl false)

/-! ### statements -/
def pass : M Fl := ret .nx
def brkM : M Fl := ret .bk
def cntM : M Fl := ret .ct
def seq (a b : M Fl) : M Fl := bind a fun f => match f with
  | .nx => b
  | f => ret f
def wr (i : Nat) (x : Sl) : M Unit := fun s => some (.ok (), ⟨s.fr.set i x, s.st⟩)
def setV (i : Nat) (m : M D) : M Fl := bind m fun d => bind (stl d) fun d => bind (wr i (.val d)) fun _ => ret .nx
def setO (i : Nat) (m : M D) : M Fl := bind m fun d => bind (wr i (.own d)) fun _ => ret .nx
def drp (m : M D) : M Fl := bind m fun _ => ret .nx
def retM (m : M D) : M Fl := bind m fun d => bind (stl d) fun d => ret (.rt d)
def retN : M Fl := ret (.rt .non)
def raiseM (c : Nat) (xs : M (List D)) : M Fl := bind xs fun ds => bind (stls ds) fun ds => raise ⟨c, ds⟩
/-- what a target does with a value -/
abbrev Tg := D → A → Option A
def ofT (t : Tg) (d : D) : M Unit := fun s => match t d s with
  | some s' => some (.ok (), s')
  | none => none
def gN (i : Nat) : Tg := fun d s => some ⟨s.fr.set i (.val d), s.st⟩
/-- a loop over items: g stores the item -/
def forL (g : Tg) (b : M Fl) : List D → M Fl
  | [] => ret .nx
  | x :: xs => bind (ofT g x) fun _ => bind b fun f => match f with
    | .nx => forL g b xs
    | .ct => forL g b xs
    | .bk => ret .nx
    | .rt d => ret (.rt d)
/-- the items are unpacked -/
def gTs : List Tg → List D → A → Option A
  | [], [], s => some s
  | g :: gs, d :: ds, s => (g d s).bind (gTs gs ds)
  | _, _, _ => none
def gT (gs : List Tg) : Tg := fun d s => match d with
  | .tup xs => gTs gs xs s
  | _ => none
def setT (gs : List Tg) (m : M D) : M Fl := bind m fun d => bind (stl d) fun d => bind (ofT (gT gs) d) fun _ => ret .nx
/-- a slot's content -/
def toSl (o : Bool) (d : D) : M Sl := if o = true then ret (.own d) else bind (stl d) fun d => ret (.val d)
def par2 (i : Nat) (oi : Bool) (a : M D) (j : Nat) (oj : Bool) (b : M D) : M Fl := bind a fun x => bind b fun y => bind (toSl oi x) fun x => bind (toSl oj y) fun y => bind (wr i x) fun _ => bind (wr j y) fun _ => ret .nx
def forM (it : M (List D)) (g : Tg) (b : M Fl) : M Fl := bind it fun xs => forL g b xs
/-- the items of a value that stays -/
def itemsD : D → Option (List D)
  | .tup xs => some xs
  | .lst xs => some xs
  | _ => none
def walkM (m : M D) : M (List D) := bind m fun d => bind (stl d) fun d => opt (itemsD d)
def rngD (lo hi : Int) : List D := (List.range (hi - lo).toNat).map fun (k : Nat) => .int (lo + (k : Int))
def in62 (i : Int) : Bool := decide (-(2 ^ 62) ≤ i ∧ i < 2 ^ 62)
def rng1 (m : M (List D)) : M (List D) := bind m fun xs => match xs with
  | [.int n] => need (in62 n) (ret (rngD 0 n))
  | _ => fail
def rng2 (m : M (List D)) : M (List D) := bind m fun xs => match xs with
  | [.int a, .int b] => need (in62 a && in62 b) (ret (rngD a b))
  | _ => fail
/-- how often a loop turns at most -/
def whL (c : M Bool) (b : M Fl) : Nat → M Fl
  | 0 => fail
  | n + 1 => bind c fun k => if k = true then bind b fun f => match f with
    | .nx => whL c b n
    | .ct => whL c b n
    | .bk => ret .nx
    | .rt d => ret (.rt d)
    else ret .nx
def whM (c : M Bool) (b : M Fl) : M Fl := whL c b 100000000000000000000
/-- comprehensions: vs are the names of its own -/
def wipeF (vs : List Nat) (fr : List Sl) : List Sl := fr.mapIdx fun i x => if vs.contains i = true then .un else x
def backF (vs : List Nat) (old fr : List Sl) : List Sl := fr.mapIdx fun i x => if vs.contains i = true then old.getD i .un else x
def noOwn (vs : List Nat) (fr : List Sl) : Bool := vs.all fun i => match fr[i]? with
  | some (.own _) => false
  | _ => true
def wipeA (vs : List Nat) : M (List Sl) := fun s => if noOwn vs s.fr = true then some (.ok s.fr, s) else none
def backA (vs : List Nat) (old : List Sl) : M Unit := fun s => some (.ok (), ⟨backF vs old s.fr, s.st⟩)
def noX {α : Type} (m : M α) : M α := fun s => match m s with
  | some (.ok a, s') => some (.ok a, s')
  | _ => none
def wipeB (vs : List Nat) : M Unit := fun s => some (.ok (), ⟨wipeF vs s.fr, s.st⟩)
def compL (vs : List Nat) (g : Tg) (t : M Bool) (e : M D) (acc : List D) : List D → M (List D)
  | [] => ret acc
  | x :: xs => bind (wipeB vs) fun _ => bind (ofT g x) fun _ => bind t fun k => if k = true then bind e fun d => bind (stl d) fun d => need (decide (acc.length < 16777216)) (compL vs g t e (acc ++ [d]) xs) else compL vs g t e acc xs
def compM (vs : List Nat) (it : M (List D)) (g : Tg) (t : M Bool) (e : M D) : M D := bind it fun xs => bind (wipeA vs) fun old => bind (noX (compL vs g t e [] xs)) fun ys => bind (backA vs old) fun _ => ret (.lst ys)
def tYesM : M Bool := ret true

/-! ### things that are changed -/
/-- the thing behind a pointer gets another content -/
def upC (p c : D) : M Unit := fun s => match p with
  | .own i => match s.fr[i]? with
    | some (.own _) => some (.ok (), ⟨s.fr.set i (.own c), s.st⟩)
    | _ => none
  | .ref i => match s.st[i]? with
    | some _ => some (.ok (), ⟨s.fr, s.st.set i c⟩)
    | none => none
  | _ => none
def isT (f : D → Bool) (p : D) : M Unit := fun s => match deref p s with
  | some c => if f c = true then some (.ok (), s) else none
  | none => none
def isL : D → Bool
  | .lst _ => true
  | _ => false
def isDc : D → Bool
  | .dic _ => true
  | _ => false
/-- what a method of a thing does: its new content, the result -/
def mutA (f : D → List D → Option (D × D)) (p : D) (ds : List D) : M D := fun s => match deref p s with
  | some c => match f c ds with
    | some (c', d) => bind (upC p c') (fun _ => ret d) s
    | none => none
  | none => none
def mutM (ty : D → Bool) (f : D → List D → Option (D × D)) (o : M D) (ms : M (List D)) : M D := bind o fun p => bind (isT ty p) fun _ => bind ms fun ds => bind (stls ds) fun ds => mutA f p ds
def appF : D → List D → Option (D × D)
  | .lst xs, [x] => if decide (xs.length < 16777216) = true then some (.lst (xs ++ [x]), .non) else none
  | _, _ => none
def popF : D → List D → Option (D × D)
  | .lst xs, [] => (xs[xs.length - 1]?).map fun x => (.lst xs.dropLast, x)
  | .lst xs, [.int i] => if decide (0 ≤ i ∧ i < xs.length ∧ i < 1000000000) = true then (xs[i.toNat]?).map fun x => (.lst (xs.eraseIdx i.toNat), x) else none
  | _, _ => none
def insF : D → List D → Option (D × D)
  | .lst xs, [.int i, y] => if decide (xs.length < 16777216 ∧ 0 ≤ i ∧ i < 1000000000) = true then some (.lst (xs.take i.toNat ++ [y] ++ xs.drop i.toNat), .non) else none
  | _, _ => none
def extF : D → List D → Option (D × D)
  | .lst xs, [.lst ys] => if decide (xs.length + ys.length ≤ 16777216) = true then some (.lst (xs ++ ys), .non) else none
  | _, _ => none
/-- a store by a subscript -/
def setF : D → List D → Option (D × D)
  | .lst xs, [.int i, v] => (L2.ixN xs.length i).map fun j => (.lst (xs.set j v), .non)
  | .dic es, [k, v] => k.key.bind fun k => if decide (es.length < 16777216) = true then some (.dic (putD es k v), .non) else none
  | _, _ => none
def setIx (o i m : M D) : M Fl := bind m fun v => bind o fun p => bind i fun k => bind (stl v) fun v => bind (stl k) fun k => bind (mutA setF p [k, v]) fun _ => ret .nx

/-- a method that reads -/
def rdM (ty : D → Bool) (f : D → List D → Option D) (o : M D) (ms : M (List D)) : M D := bind o fun p => bind (isT ty p) fun _ => bind ms fun ds s => match deref p s, ds.mapM (deref · s) with
  | some c, some cs => opt (f c cs) s
  | _, _ => none
def joinF : D → List D → Option D
  | z, [x] => joinD z x
  | _, _ => none
/-- the items with their places -/
def enumL (k : Int) : List D → List D
  | [] => []
  | x :: xs => .tup [.int k, x] :: enumL (k + 1) xs
def enumM (m : M D) : M (List D) := bind m fun d => bind (stl d) fun d => opt ((itemsD d).map (enumL 0))

/-! ### calls -/
/-- a def: how many slots, its body (given the calls that it may make) -/
abbrev CF := Nat → List D → List D → Option (Rs D × List D)
structure Fn where
  n : Nat
  p : Nat
  b : CF → M Fl
/-- a call from a frame -/
def callM (cf : CF) (i : Nat) (xs : M (List D)) : M D := bind xs fun ds => bind (stls ds) fun ds s => match cf i ds s.st with
  | none => none
  | some (r, st) => some (r, ⟨s.fr, st⟩)
/-- the arguments in the parameters' order -/
def permD (pm : List Nat) (ds : List D) : List D := pm.map fun i => ds.getD i .non
def callP (cf : CF) (i : Nat) (pm : List Nat) (xs : M (List D)) (ys : M (List D)) : M D := bind xs fun ds => bind ys fun es => bind (stls (ds ++ es)) fun ds s => match cf i (permD pm ds) s.st with
  | none => none
  | some (r, st) => some (r, ⟨s.fr, st⟩)
def runFn (f : Fn) (cf : CF) (ds st : List D) : Option (Rs D × List D) :=
  if ds.length = f.p then match f.b cf ⟨ds.map .val ++ List.replicate (f.n - ds.length) .un, st⟩ with
    | some (.ok (.rt d), s) => some (.ok d, s.st)
    | some (.ok .nx, s) => some (.ok .non, s.st)
    | some (.ex x, s) => some (.ex x, s.st)
    | _ => none
  else none
def callF (T : Nat → Option Fn) : Nat → CF
  | 0 => fun _ _ _ => none
  | n + 1 => fun i ds st => match T i with
    | some f => runFn f (callF T n) ds st
    | none => none
end Ea

/-! E2: what plain data, a frame and the store mean in a tracked heap; the judgements KE, KF, KA, KS. -/
namespace Ea
open PySem L2

/-- the ghost: frozen things F (values lean on them), foreign things R (kept, not leant on), the store's addresses -/
structure G where
  F : Hp
  R : Hp
  f : List Addr

/-- the written part; whether tuples are known to have no dict of their own -/
structure Kn where
  K : PySem.W.Frag
  nt : Bool
/-- what a new tuple is tracked as -/
def tupO (nt : Bool) (o : Obj) (xs : List V) : HO := if nt = true then .frz o (.tup xs) else .tup xs
/-- the tuple at a -/
def TpAt (K : Kn) (H : Hp) (a : Addr) (xs : List V) : Prop := SqT K.K H a xs ∧ (K.nt = true → (∃ o, o.dict = none ∧ H a = some (.frz o (.tup xs))) ∨
  ∃ (o : Obj) (its : Array Value) (n : Nat), K.K.lookup a = some o ∧ o.cls = .type "tuple" ∧ o.dict = none ∧ o.data = .seq its n ∧ its.size ≤ sizeLine ∧ Vals xs its.toList)

section
variable (K : Kn) (g : G)
mutual
/-- the value v is the data d -/
def RepV : D → V → Prop
  | .non, v => v = .non
  | .bl b, v => v = .bl b
  | .int i, v => v = .int i
  | .str x, v => v = .str x
  | .tup xs, v => ∃ a vs, v = .ref a ∧ TpAt K g.F a vs ∧ RepVs xs vs
  | .lst xs, v => ∃ a vs, v = .ref a ∧ SqL K.K g.F a vs ∧ RepVs xs vs
  | .dic es, v => ∃ a kvs, v = .ref a ∧ Rd g.F a (.dK kvs) ∧ RepEs es kvs
  | .st _, _ => False
  | .ref i, v => ∃ a, g.f[i]? = some a ∧ v = .ref a
  | .own _, _ => False
def RepVs : List D → List V → Prop
  | [], vs => vs = []
  | x :: xs, vs => ∃ v r, vs = v :: r ∧ RepV x v ∧ RepVs xs r
/-- the entries of a dict -/
def RepEs : List D → List (Key × V) → Prop
  | [], kvs => kvs = []
  | e :: es, kvs => ∃ k v r, kvs = (k, v) :: r ∧ RepEn e k v ∧ RepEs es r
def RepEn : D → Key → V → Prop
  | .tup [a, b], k, v => a = keyD k ∧ RepV b v
  | _, _, _ => False
end
/-- the tracked thing o is the changeable data d -/
def ObjR (o : HO) : D → Prop
  | .lst xs => ∃ vs, o = .lst vs ∧ RepVs K g xs vs
  | .dic es => ∃ kvs, o = .dK kvs ∧ RepEs K g es kvs
  | _ => False
end

/-- g' knows all that g does -/
structure G.Le (g g' : G) : Prop where
  F : Same g.F g'.F
  f : g.f <+: g'.f
theorem G.Le.refl (g : G) : G.Le g g := ⟨Same.refl _, List.prefix_refl _⟩
theorem G.Le.trans {g g1 g2 : G} (a : G.Le g g1) (b : G.Le g1 g2) : G.Le g g2 := ⟨a.F.trans b.F, a.f.trans b.f⟩

section
variable {g g' : G}
theorem same_seqT {K : PySem.W.Frag} {H H' : Hp} {a : Addr} {xs : List V} (e : Same H H') (h : SqT K H a xs) : SqT K H' a xs := by
  rcases h with (h | ⟨o, h⟩) | h
  · exact .inl (.inl (e _ _ h))
  · exact .inl (.inr ⟨o, e _ _ h⟩)
  · exact .inr h
theorem same_tp {K : Kn} {H H' : Hp} {a : Addr} {xs : List V} (e : Same H H') (h : TpAt K H a xs) : TpAt K H' a xs :=
  ⟨same_seqT e h.1, fun q => (h.2 q).elim (fun ⟨o, h1, h2⟩ => .inl ⟨o, h1, e _ _ h2⟩) .inr⟩
variable {K : Kn}
theorem same_rd {H H' : Hp} {a : Addr} {u : HO} (e : Same H H') (h : Rd H a u) : Rd H' a u := by
  rcases h with h | ⟨o, h⟩
  · exact .inl (e _ _ h)
  · exact .inr ⟨o, e _ _ h⟩
theorem pre_get {α : Type} {l l' : List α} (h : l <+: l') {i : Nat} {a : α} (e : l[i]? = some a) : l'[i]? = some a := by
  obtain ⟨t, rfl⟩ := h
  rw [List.getElem?_append_left (List.getElem?_eq_some_iff.mp e).1]
  exact e
mutual
theorem RepV.mono (le : G.Le g g') : ∀ {d : D} {v : V}, RepV K g d v → RepV K g' d v
  | .non, _, h => h
  | .bl _, _, h => h
  | .int _, _, h => h
  | .str _, _, h => h
  | .tup xs, v, h => by
    unfold RepV at h ⊢
    obtain ⟨a, vs, e, s, r⟩ := h
    exact ⟨a, vs, e, same_tp le.F s, RepVs.mono le r⟩
  | .lst xs, v, h => by
    unfold RepV at h ⊢
    obtain ⟨a, vs, e, s, r⟩ := h
    exact ⟨a, vs, e, le.F.seq s, RepVs.mono le r⟩
  | .dic es, v, h => by
    unfold RepV at h ⊢
    obtain ⟨a, kvs, e, s, r⟩ := h
    exact ⟨a, kvs, e, same_rd le.F s, RepEs.mono le r⟩
  | .st _, _, h => by unfold RepV at h; exact h.elim
  | .ref i, v, h => by
    unfold RepV at h ⊢
    obtain ⟨a, e, r⟩ := h
    exact ⟨a, pre_get le.f e, r⟩
  | .own _, _, h => by unfold RepV at h; exact h.elim
theorem RepVs.mono (le : G.Le g g') : ∀ {d : List D} {v : List V}, RepVs K g d v → RepVs K g' d v
  | [], _, h => h
  | x :: xs, vs, h => by
    unfold RepVs at h ⊢
    obtain ⟨v, r, e, h1, h2⟩ := h
    exact ⟨v, r, e, RepV.mono le h1, RepVs.mono le h2⟩
theorem RepEs.mono (le : G.Le g g') : ∀ {d : List D} {v : List (Key × V)}, RepEs K g d v → RepEs K g' d v
  | [], _, h => h
  | x :: xs, vs, h => by
    unfold RepEs at h ⊢
    obtain ⟨k, v, r, e, h1, h2⟩ := h
    exact ⟨k, v, r, e, RepEn.mono le h1, RepEs.mono le h2⟩
theorem RepEn.mono (le : G.Le g g') : ∀ {d : D} {k : Key} {v : V}, RepEn K g d k v → RepEn K g' d k v
  | .tup [a, b], k, v, h => by
    unfold RepEn at h ⊢
    exact ⟨h.1, RepV.mono le h.2⟩
  | .tup [], _, _, h => h.elim
  | .tup [_], _, _, h => h.elim
  | .tup (_ :: _ :: _ :: _), _, _, h => h.elim
  | .non, _, _, h => h.elim
  | .bl _, _, _, h => h.elim
  | .int _, _, _, h => h.elim
  | .str _, _, _, h => h.elim
  | .lst _, _, _, h => h.elim
  | .dic _, _, _, h => h.elim
  | .st _, _, _, h => h.elim
  | .ref _, _, _, h => h.elim
  | .own _, _, _, h => h.elim
end
theorem ObjR.mono (le : G.Le g g') {o : HO} {d : D} (h : ObjR K g o d) : ObjR K g' o d := by
  cases d with
  | lst xs =>
    obtain ⟨vs, e, r⟩ := h
    exact ⟨vs, e, r.mono le⟩
  | dic xs =>
    obtain ⟨vs, e, r⟩ := h
    exact ⟨vs, e, r.mono le⟩
  | _ => exact h.elim
end

/-- an address that is neither frozen nor foreign nor the store's -/
structure G.Free (g : G) (a : Addr) : Prop where
  F : g.F a = none
  R : g.R a = none
  f : a ∉ g.f

/-- the frame s.fr at the slots σ, the store s.st, in H -/
structure Rep (K : Kn) (g : G) (s : A) (σ : L2.St) (H : Hp) : Prop where
  fH : Same g.F H
  rH : Same g.R H
  fr : ∀ a o, g.F a = some o → g.R a = none
  len : s.fr.length = σ.length
  val : ∀ (i : Nat) (d : D), s.fr[i]? = some (.val d) → ∃ v, σ[i]? = some (some v) ∧ RepV K g d v
  own : ∀ (i : Nat) (d : D), s.fr[i]? = some (.own d) → ∃ a o, σ[i]? = some (some (.ref a)) ∧ H a = some o ∧ ObjR K g o d ∧ g.Free a
  inj : ∀ (i j : Nat) (d d' : D) (a : Addr), s.fr[i]? = some (.own d) → s.fr[j]? = some (.own d') → σ[i]? = some (some (.ref a)) → σ[j]? = some (some (.ref a)) → i = j
  sl : g.f.length = s.st.length
  st : ∀ (i : Nat) (a : Addr) (d : D), g.f[i]? = some a → s.st[i]? = some d → ∃ o, H a = some o ∧ ObjR K g o d
  sf : ∀ a, a ∈ g.f → g.F a = none ∧ g.R a = none
  sn : g.f.Nodup

/-- a value at hand: data, or a pointer to a slot's thing -/
def RepT (K : Kn) (g : G) (σ : L2.St) (d : D) (v : V) : Prop := match d with
  | .own i => ∃ a, v = .ref a ∧ σ[i]? = some (some (.ref a))
  | d => RepV K g d v
def RepTs (K : Kn) (g : G) (σ : L2.St) : List D → List V → Prop
  | [], vs => vs = []
  | x :: xs, vs => ∃ v r, vs = v :: r ∧ RepT K g σ x v ∧ RepTs K g σ xs r

section
variable {K : Kn} {g g' : G} {s : A} {σ : L2.St} {H : Hp} {a : Addr}
theorem RepT.mono (le : G.Le g g') {d : D} {v : V} (h : RepT K g σ d v) : RepT K g' σ d v := by
  cases d with
  | own i => exact h
  | _ => exact RepV.mono le h
theorem RepTs.mono (le : G.Le g g') : ∀ {d : List D} {v : List V}, RepTs K g σ d v → RepTs K g' σ d v
  | [], _, h => h
  | x :: xs, vs, h => by
    unfold RepTs at h ⊢
    obtain ⟨v, r, e, h1, h2⟩ := h
    exact ⟨v, r, e, RepT.mono le h1, RepTs.mono le h2⟩
/-- a new thing is held apart -/
theorem Rep.apart (r : Rep K g s σ H) {p : Addr} {o : HO} (hp : H p = none) : Rep K ⟨g.F, upd g.R p o, g.f⟩ s σ (upd H p o) ∧ g.R p = none := by
  have nF : ∀ {a u}, g.F a = some u → a ≠ p := fun {a u} e q => by
    have := r.fH a u e
    rw [q, hp] at this; cases this
  have nR : ∀ {a u}, g.R a = some u → a ≠ p := fun {a u} e q => by
    have := r.rH a u e
    rw [q, hp] at this; cases this
  have pR : g.R p = none := by
    cases e : g.R p with
    | none => rfl
    | some u => exact absurd rfl (nR e)
  have le : G.Le g ⟨g.F, upd g.R p o, g.f⟩ := ⟨Same.refl _, List.prefix_refl _⟩
  have nH : ∀ {a u}, H a = some u → a ≠ p := fun {a u} e q => by rw [q, hp] at e; cases e
  refine ⟨⟨fun a u e => ?_, fun a u e => ?_, fun a u e => ?_, r.len, fun i d e => ?_, fun i d e => ?_, r.inj, r.sl, fun i a d e1 e2 => ?_, fun a e => ?_, r.sn⟩, pR⟩ <;> (try dsimp only at *)
  · rw [upd_ne (nF e)]; exact r.fH a u e
  · by_cases h : a = p
    · subst h
      rw [upd_same] at e ⊢; exact e
    · rw [upd_ne h] at e ⊢; exact r.rH a u e
  · rw [upd_ne (nF e)]; exact r.fr a u e
  · obtain ⟨v, h1, h2⟩ := r.val i d e
    exact ⟨v, h1, h2.mono le⟩
  · obtain ⟨a, u, h1, h2, h3, h4⟩ := r.own i d e
    exact ⟨a, u, h1, by rw [upd_ne (nH h2)]; exact h2, h3.mono le, ⟨h4.F, by dsimp only; rw [upd_ne (nH h2)]; exact h4.R, h4.f⟩⟩
  · obtain ⟨u, h1, h2⟩ := r.st i a d e1 e2
    exact ⟨u, by rw [upd_ne (nH h1)]; exact h1, h2.mono le⟩
  · obtain ⟨h1, h2⟩ := r.sf a e
    obtain ⟨i, hi, q⟩ := List.mem_iff_getElem.mp e
    have hi' : i < s.st.length := by rw [← r.sl]; exact hi
    obtain ⟨u, h3, _⟩ := r.st i a (s.st[i]) (by rw [List.getElem?_eq_getElem hi, q]) (List.getElem?_eq_getElem hi')
    exact ⟨h1, by rw [upd_ne (nH h3)]; exact h2⟩
section
variable {p : Addr} {o : HO}
theorem Rep.at_R (r : Rep K ⟨g.F, upd g.R p o, g.f⟩ s σ H) : H p = some o ∧ g.F p = none ∧ p ∉ g.f := by
  refine ⟨r.rH p o upd_same, ?_, fun hp => ?_⟩
  · cases e : g.F p with
    | none => rfl
    | some u =>
      have := r.fr p u e
      dsimp only at this
      rw [upd_same] at this; cases this
  · have := (r.sf p hp).2
    dsimp only at this
    rw [upd_same] at this; cases this
theorem free_ne (h : G.Free ⟨g.F, upd g.R p o, g.f⟩ a) : a ≠ p ∧ G.Free g a := by
  have h2 := h.R
  dsimp only at h2
  have ne : a ≠ p := fun q => by rw [q, upd_same] at h2; cases h2
  rw [upd_ne ne] at h2
  exact ⟨ne, ⟨h.F, h2, h.f⟩⟩
/-- what is held apart is frozen -/
theorem Rep.toF (r : Rep K ⟨g.F, upd g.R p o, g.f⟩ s σ H) (hn : g.R p = none) : Rep K ⟨upd g.F p o, g.R, g.f⟩ s σ H ∧ G.Le g ⟨upd g.F p o, g.R, g.f⟩ := by
  obtain ⟨hH, hF, hf⟩ := r.at_R
  have le : G.Le g ⟨upd g.F p o, g.R, g.f⟩ := ⟨fun a u e => by dsimp only; rw [upd_ne (ne_of_none e hF)]; exact e, List.prefix_refl _⟩
  have le' : G.Le ⟨g.F, upd g.R p o, g.f⟩ ⟨upd g.F p o, g.R, g.f⟩ := ⟨le.F, le.f⟩
  refine ⟨⟨fun a u e => ?_, fun a u e => ?_, fun a u e => ?_, r.len, fun i d e => ?_, fun i d e => ?_, r.inj, r.sl, fun i a d e1 e2 => ?_, fun a e => ?_, r.sn⟩, le⟩ <;> (try dsimp only at *)
  · by_cases h : a = p
    · subst h
      rw [upd_same] at e; rw [← e]; exact hH
    · rw [upd_ne h] at e; exact r.fH a u e
  · exact r.rH a u (by dsimp only; rw [upd_ne (ne_of_none e hn)]; exact e)
  · by_cases h : a = p
    · rw [h]; exact hn
    · rw [upd_ne h] at e
      have := r.fr a u e
      dsimp only at this
      rw [upd_ne h] at this; exact this
  · obtain ⟨v, h1, h2⟩ := r.val i d e
    exact ⟨v, h1, h2.mono le'⟩
  · obtain ⟨a, u, h1, h2, h3, h4⟩ := r.own i d e
    obtain ⟨ne, h5⟩ := free_ne h4
    exact ⟨a, u, h1, h2, h3.mono le', ⟨by dsimp only; rw [upd_ne ne]; exact h5.F, h5.R, h5.f⟩⟩
  · obtain ⟨u, h1, h2⟩ := r.st i a d e1 e2
    exact ⟨u, h1, h2.mono le'⟩
  · obtain ⟨h1, h2⟩ := r.sf a e
    dsimp only at h1 h2
    have ne : a ≠ p := fun q => by rw [q, upd_same] at h2; cases h2
    rw [upd_ne ne] at h2 ⊢
    exact ⟨h1, h2⟩
/-- what is held apart comes into the store -/
theorem Rep.toSt (r : Rep K ⟨g.F, upd g.R p o, g.f⟩ s σ H) (hn : g.R p = none) {d : D} (hd : ObjR K ⟨g.F, upd g.R p o, g.f⟩ o d) : Rep K ⟨g.F, g.R, g.f ++ [p]⟩ ⟨s.fr, s.st ++ [d]⟩ σ H ∧ G.Le g ⟨g.F, g.R, g.f ++ [p]⟩ := by
  obtain ⟨hH, hF, hf⟩ := r.at_R
  have le : G.Le g ⟨g.F, g.R, g.f ++ [p]⟩ := ⟨Same.refl _, ⟨[p], rfl⟩⟩
  have le' : G.Le ⟨g.F, upd g.R p o, g.f⟩ ⟨g.F, g.R, g.f ++ [p]⟩ := ⟨le.F, le.f⟩
  refine ⟨⟨r.fH, fun a u e => ?_, fun a u e => ?_, r.len, fun i d e => ?_, fun i d e => ?_, r.inj, ?_, fun i a d' e1 e2 => ?_, fun a e => ?_, ?_⟩, le⟩ <;> (try dsimp only at *)
  · exact r.rH a u (by dsimp only; rw [upd_ne (ne_of_none e hn)]; exact e)
  · have := r.fr a u e
    dsimp only at this
    rw [upd_ne (ne_of_none e hF)] at this; exact this
  · obtain ⟨v, h1, h2⟩ := r.val i d e
    exact ⟨v, h1, h2.mono le'⟩
  · obtain ⟨a, u, h1, h2, h3, h4⟩ := r.own i d e
    obtain ⟨ne, h5⟩ := free_ne h4
    exact ⟨a, u, h1, h2, h3.mono le', ⟨h5.F, h5.R, fun q => (List.mem_append.mp q).elim h5.f fun q => ne (List.mem_singleton.mp q)⟩⟩
  · have := r.sl
    dsimp only at this
    rw [List.length_append, List.length_append, this]; rfl
  · have hl := r.sl
    dsimp only at hl
    by_cases hi : i < g.f.length
    · rw [List.getElem?_append_left hi] at e1
      rw [List.getElem?_append_left (by rw [← hl]; exact hi)] at e2
      obtain ⟨u, h1, h2⟩ := r.st i a d' e1 e2
      exact ⟨u, h1, h2.mono le'⟩
    · have hi' : g.f.length ≤ i := Nat.le_of_not_lt hi
      rw [List.getElem?_append_right hi'] at e1
      rw [List.getElem?_append_right (by rw [← hl]; exact hi')] at e2
      cases q : i - g.f.length with
      | zero =>
        rw [q] at e1
        rw [← hl, q] at e2
        cases e1; cases e2
        exact ⟨o, hH, hd.mono le'⟩
      | succ n =>
        rw [q] at e1; cases e1
  · rcases List.mem_append.mp e with e | e
    · obtain ⟨h1, h2⟩ := r.sf a e
      dsimp only at h1 h2
      have ne : a ≠ p := fun q => by rw [q, upd_same] at h2; cases h2
      rw [upd_ne ne] at h2
      exact ⟨h1, h2⟩
    · rw [List.mem_singleton.mp e]; exact ⟨hF, hn⟩
  · rw [List.nodup_append]
    refine ⟨r.sn, by simp, fun a h b hb q => ?_⟩
    rw [List.mem_singleton.mp hb] at q
    rw [q] at h
    exact hf h
/-- what is held apart becomes a slot's own -/
theorem Rep.toOwn (r : Rep K ⟨g.F, upd g.R p o, g.f⟩ s σ H) (hn : g.R p = none) {d : D} (hd : ObjR K ⟨g.F, upd g.R p o, g.f⟩ o d) {i : Nat} : Rep K g ⟨s.fr.set i (.own d), s.st⟩ (σ.set i (some (.ref p))) H := by
  obtain ⟨hH, hF, hf⟩ := r.at_R
  have le' : G.Le ⟨g.F, upd g.R p o, g.f⟩ g := ⟨Same.refl _, List.prefix_refl _⟩
  have hl := r.len
  have other : ∀ {j : Nat} {d' : D} {a : Addr}, s.fr[j]? = some (.own d') → σ[j]? = some (some (.ref a)) → a ≠ p := fun {j d' a} e1 e2 => by
    obtain ⟨b, u, h1, _, _, h4⟩ := r.own j d' e1
    rw [h1] at e2; cases e2
    exact (free_ne h4).1
  refine ⟨r.fH, fun a u e => ?_, fun a u e => ?_, ?_, fun j d' e => ?_, fun j d' e => ?_, fun j k d1 d2 a e1 e2 e3 e4 => ?_, r.sl, fun i a d' e1 e2 => ?_, fun a e => ?_, r.sn⟩ <;> (try dsimp only at *)
  · exact r.rH a u (by dsimp only; rw [upd_ne (ne_of_none e hn)]; exact e)
  · have := r.fr a u e
    dsimp only at this
    rw [upd_ne (ne_of_none e hF)] at this; exact this
  · rw [List.length_set, List.length_set]; exact hl
  · rw [List.getElem?_set] at e
    split at e
    · split at e <;> cases e
    · rename_i hij
      obtain ⟨v, h1, h2⟩ := r.val j d' e
      exact ⟨v, by rw [List.getElem?_set, if_neg hij]; exact h1, h2.mono le'⟩
  · rw [List.getElem?_set] at e
    split at e
    · rename_i hij
      subst hij
      split at e
      · rename_i hlt
        cases e
        exact ⟨p, o, by rw [List.getElem?_set, if_pos rfl, if_pos (by rw [← hl]; exact hlt)], hH, hd.mono le', ⟨hF, hn, hf⟩⟩
      · cases e
    · rename_i hij
      obtain ⟨a, u, h1, h2, h3, h4⟩ := r.own j d' e
      exact ⟨a, u, by rw [List.getElem?_set, if_neg hij]; exact h1, h2, h3.mono le', (free_ne h4).2⟩
  · rw [List.getElem?_set] at e1 e2 e3 e4
    by_cases hj : i = j
    · by_cases hk : i = k
      · rw [← hj, ← hk]
      · rw [if_neg hk] at e2 e4
        rw [if_pos hj] at e1 e3
        split at e3
        · cases e3
          exact absurd rfl (other e2 e4)
        · cases e3
    · rw [if_neg hj] at e1 e3
      by_cases hk : i = k
      · rw [if_pos hk] at e2 e4
        split at e4
        · cases e4
          exact absurd rfl (other e1 e3)
        · cases e4
      · rw [if_neg hk] at e2 e4
        exact r.inj j k d1 d2 a e1 e2 e3 e4
  · obtain ⟨u, h1, h2⟩ := r.st i a d' e1 e2
    exact ⟨u, h1, h2.mono le'⟩
  · obtain ⟨h1, h2⟩ := r.sf a e
    dsimp only at h1 h2
    have ne : a ≠ p := fun q => by rw [q, upd_same] at h2; cases h2
    rw [upd_ne ne] at h2
    exact ⟨h1, h2⟩
end
/-- a new thing is frozen -/
theorem Rep.freeze (r : Rep K g s σ H) {p : Addr} {o : HO} (hp : H p = none) : Rep K ⟨upd g.F p o, g.R, g.f⟩ s σ (upd H p o) ∧ G.Le g ⟨upd g.F p o, g.R, g.f⟩ := by
  obtain ⟨h1, h2⟩ := r.apart (o := o) hp
  exact h1.toF h2
/-- a slot is given a value -/
theorem Rep.put (r : Rep K g s σ H) {d : D} {v : V} (h : RepV K g d v) {i : Nat} : Rep K g ⟨s.fr.set i (.val d), s.st⟩ (σ.set i (some v)) H := by
  refine ⟨r.fH, r.rH, r.fr, ?_, fun j d' e => ?_, fun j d' e => ?_, fun j k d1 d2 a e1 e2 e3 e4 => ?_, r.sl, r.st, r.sf, r.sn⟩ <;> (try dsimp only at *)
  · rw [List.length_set, List.length_set]; exact r.len
  · rw [List.getElem?_set] at e
    split at e
    · rename_i hij
      subst hij
      split at e
      · rename_i hlt
        cases e
        exact ⟨v, by rw [List.getElem?_set, if_pos rfl, if_pos (by rw [← r.len]; exact hlt)], h⟩
      · cases e
    · rename_i hij
      rw [List.getElem?_set, if_neg hij]
      exact r.val j d' e
  · rw [List.getElem?_set] at e
    split at e
    · split at e <;> cases e
    · rename_i hij
      rw [List.getElem?_set, if_neg hij]
      exact r.own j d' e
  · rw [List.getElem?_set] at e1 e2 e3 e4
    by_cases hj : i = j
    · rw [if_pos hj] at e1
      split at e1 <;> cases e1
    · by_cases hk : i = k
      · rw [if_pos hk] at e2
        split at e2 <;> cases e2
      · rw [if_neg hj] at e1 e3
        rw [if_neg hk] at e2 e4
        exact r.inj j k d1 d2 a e1 e2 e3 e4
/-- a slot is forgotten -/
theorem Rep.drop (r : Rep K g s σ H) {i : Nat} (x : Option V) : Rep K g ⟨s.fr.set i .un, s.st⟩ (σ.set i x) H := by
  refine ⟨r.fH, r.rH, r.fr, ?_, fun j d' e => ?_, fun j d' e => ?_, fun j k d1 d2 a e1 e2 e3 e4 => ?_, r.sl, r.st, r.sf, r.sn⟩ <;> (try dsimp only at *)
  · rw [List.length_set, List.length_set]; exact r.len
  · rw [List.getElem?_set] at e
    split at e
    · split at e <;> cases e
    · rename_i hij
      rw [List.getElem?_set, if_neg hij]
      exact r.val j d' e
  · rw [List.getElem?_set] at e
    split at e
    · split at e <;> cases e
    · rename_i hij
      rw [List.getElem?_set, if_neg hij]
      exact r.own j d' e
  · rw [List.getElem?_set] at e1 e2 e3 e4
    by_cases hj : i = j
    · rw [if_pos hj] at e1
      split at e1 <;> cases e1
    · by_cases hk : i = k
      · rw [if_pos hk] at e2
        split at e2 <;> cases e2
      · rw [if_neg hj] at e1 e3
        rw [if_neg hk] at e2 e4
        exact r.inj j k d1 d2 a e1 e2 e3 e4
/-- the thing at a (free, or the store's) is changed: what is frozen and foreign stays -/
theorem Rep.off (r : Rep K g s σ H) (hF : g.F a = none) (hR : g.R a = none) (o' : HO) : Same g.F (upd H a o') ∧ Same g.R (upd H a o') :=
  ⟨fun b u e => by rw [upd_ne (ne_of_none e hF)]; exact r.fH b u e, fun b u e => by rw [upd_ne (ne_of_none e hR)]; exact r.rH b u e⟩
/-- a slot's own thing is changed -/
theorem Rep.setOwn (r : Rep K g s σ H) {i : Nat} {d d' : D} {o' : HO} (hi : s.fr[i]? = some (.own d)) (ha : σ[i]? = some (some (.ref a))) (hd : ObjR K g o' d') : Rep K g ⟨s.fr.set i (.own d'), s.st⟩ σ (upd H a o') := by
  obtain ⟨b, o, h1, h2, h3, h4⟩ := r.own i d hi
  rw [h1] at ha; cases ha
  obtain ⟨o1, o2⟩ := r.off h4.F h4.R o'
  refine ⟨o1, o2, r.fr, ?_, fun j d1 e => ?_, fun j d1 e => ?_, fun j k d1 d2 c e1 e2 e3 e4 => ?_, r.sl, fun j c d1 e1 e2 => ?_, r.sf, r.sn⟩ <;> (try dsimp only at *)
  · rw [List.length_set]; exact r.len
  · rw [List.getElem?_set] at e
    split at e
    · split at e <;> cases e
    · exact r.val j d1 e
  · rw [List.getElem?_set] at e
    split at e
    · rename_i hij
      subst hij
      split at e
      · cases e
        exact ⟨a, o', h1, upd_same, hd, h4⟩
      · cases e
    · rename_i hij
      obtain ⟨c, u, k1, k2, k3, k4⟩ := r.own j d1 e
      have ne : c ≠ a := fun q => hij (r.inj i j d d1 a hi e h1 (by rw [← q]; exact k1))
      exact ⟨c, u, k1, by rw [upd_ne ne]; exact k2, k3, k4⟩
  · have fix : ∀ {x : Nat} {dd : D}, (s.fr.set i (.own d'))[x]? = some (.own dd) → ∃ dd', s.fr[x]? = some (.own dd') := fun {x dd} q => by
      rw [List.getElem?_set] at q
      split at q
      · rename_i hx
        exact ⟨d, by rw [← hx]; exact hi⟩
      · exact ⟨dd, q⟩
    obtain ⟨x1, q1⟩ := fix e1
    obtain ⟨x2, q2⟩ := fix e2
    exact r.inj j k x1 x2 c q1 q2 e3 e4
  · obtain ⟨u, k1, k2⟩ := r.st j c d1 e1 e2
    have ne : c ≠ a := fun q => h4.f (by rw [← q]; exact List.mem_of_getElem? e1)
    exact ⟨u, by rw [upd_ne ne]; exact k1, k2⟩
theorem nodup_inj {l : List Addr} (h : l.Nodup) {i j : Nat} {a : Addr} (hi : l[i]? = some a) (hj : l[j]? = some a) : i = j := by
  obtain ⟨h1, e1⟩ := List.getElem?_eq_some_iff.mp hi
  obtain ⟨h2, e2⟩ := List.getElem?_eq_some_iff.mp hj
  have p := List.pairwise_iff_getElem.mp h
  rcases Nat.lt_trichotomy i j with z | z | z
  · exact absurd (e1.trans e2.symm) (p i j h1 h2 z)
  · exact z
  · exact absurd (e2.trans e1.symm) (p j i h2 h1 z)
/-- a thing of the store is changed -/
theorem Rep.setSt (r : Rep K g s σ H) {i : Nat} {d' : D} {o' : HO} (ha : g.f[i]? = some a) (hd : ObjR K g o' d') : Rep K g ⟨s.fr, s.st.set i d'⟩ σ (upd H a o') := by
  obtain ⟨hF, hR⟩ := r.sf a (List.mem_of_getElem? ha)
  obtain ⟨o1, o2⟩ := r.off hF hR o'
  refine ⟨o1, o2, r.fr, r.len, r.val, fun j d1 e => ?_, r.inj, ?_, fun j c d1 e1 e2 => ?_, r.sf, r.sn⟩ <;> (try dsimp only at *)
  · obtain ⟨c, u, k1, k2, k3, k4⟩ := r.own j d1 e
    have ne : c ≠ a := fun q => k4.f (by rw [q]; exact List.mem_of_getElem? ha)
    exact ⟨c, u, k1, by rw [upd_ne ne]; exact k2, k3, k4⟩
  · rw [List.length_set]; exact r.sl
  · rw [List.getElem?_set] at e2
    split at e2
    · rename_i hij
      subst hij
      rw [ha] at e1; cases e1
      split at e2
      · cases e2
        exact ⟨o', upd_same, hd⟩
      · cases e2
    · rename_i hij
      have ne : c ≠ a := fun q => by
        rw [q] at e1
        exact hij (nodup_inj r.sn ha e1)
      obtain ⟨u, k1, k2⟩ := r.st j c d1 e1 e2
      exact ⟨u, by rw [upd_ne ne]; exact k1, k2⟩
/-- what is frozen at b is a value -/
theorem frozen_val {b : Addr} {o : HO} {d : D} {F R : Hp} {f : List Addr} (h : ObjR K ⟨upd F b o, R, f⟩ o d) : RepV K ⟨upd F b o, R, f⟩ d (.ref b) := by
  cases d with
  | lst xs =>
    obtain ⟨vs, rfl, hv⟩ := h
    unfold RepV
    exact ⟨b, vs, rfl, SqL.of upd_same, hv⟩
  | dic xs =>
    obtain ⟨vs, rfl, hv⟩ := h
    unfold RepV
    exact ⟨b, vs, rfl, .inl upd_same, hv⟩
  | _ => exact h.elim
/-- a slot's own thing is frozen: it is a value from now on -/
theorem Rep.settle (r : Rep K g s σ H) {i : Nat} {d : D} (hi : s.fr[i]? = some (.own d)) : ∃ (a : Addr) (g' : G), σ[i]? = some (some (.ref a)) ∧ G.Le g g' ∧ g'.R = g.R ∧ RepV K g' d (.ref a) ∧
    Rep K g' ⟨s.fr.set i (.val d), s.st⟩ σ H := by
  obtain ⟨b, o, h1, h2, h3, h4⟩ := r.own i _ hi
  have le : G.Le g ⟨upd g.F b o, g.R, g.f⟩ := ⟨fun c u e => by dsimp only; rw [upd_ne (ne_of_none e h4.F)]; exact e, List.prefix_refl _⟩
  have rv : RepV K ⟨upd g.F b o, g.R, g.f⟩ d (.ref b) := frozen_val (h3.mono le)
  refine ⟨b, ⟨upd g.F b o, g.R, g.f⟩, h1, le, rfl, rv, fun c u e => ?_, r.rH, fun c u e => ?_, ?_, fun j d1 e => ?_, fun j d1 e => ?_, fun j k d1 d2 c e1 e2 e3 e4 => ?_, r.sl, fun j c d1 e1 e2 => ?_, fun c e => ?_, r.sn⟩ <;> (try dsimp only at *)
  · by_cases h : c = b
    · subst h
      rw [upd_same] at e; rw [← e]; exact h2
    · rw [upd_ne h] at e; exact r.fH c u e
  · by_cases h : c = b
    · rw [h]; exact h4.R
    · rw [upd_ne h] at e; exact r.fr c u e
  · rw [List.length_set]; exact r.len
  · rw [List.getElem?_set] at e
    split at e
    · rename_i hij
      subst hij
      split at e
      · cases e
        exact ⟨.ref b, h1, rv⟩
      · cases e
    · obtain ⟨v, k1, k2⟩ := r.val j d1 e
      exact ⟨v, k1, k2.mono le⟩
  · rw [List.getElem?_set] at e
    split at e
    · split at e <;> cases e
    · rename_i hij
      obtain ⟨c, u, k1, k2, k3, k4⟩ := r.own j d1 e
      have ne : c ≠ b := fun q => hij (r.inj i j _ d1 b hi e h1 (by rw [← q]; exact k1))
      exact ⟨c, u, k1, k2, k3.mono le, ⟨by dsimp only; rw [upd_ne ne]; exact k4.F, k4.R, k4.f⟩⟩
  · rw [List.getElem?_set] at e1 e2
    split at e1
    · split at e1 <;> cases e1
    · split at e2
      · split at e2 <;> cases e2
      · exact r.inj j k d1 d2 c e1 e2 e3 e4
  · obtain ⟨u, k1, k2⟩ := r.st j c d1 e1 e2
    exact ⟨u, k1, k2.mono le⟩
  · obtain ⟨k1, k2⟩ := r.sf c e
    have ne : c ≠ b := fun q => h4.f (by rw [← q]; exact e)
    exact ⟨by rw [upd_ne ne]; exact k1, k2⟩
end

/-! ### the judgements -/
/-- the module's facts: the written part, the classes' addresses, the names of their fields -/
structure En where
  k : Kn
  cl : Nat → Addr
  fn : Nat → Str
abbrev En.K (E : En) : PySem.W.Frag := E.k.K
/-- an exception as data -/
def RepX (E : En) (g : G) (x : Xn) (cls : Value) (dd : Option Addr) (H : Hp) : Prop :=
  cls = .ref (E.cl x.c) ∧ (x.fs = [] ∨ ∃ d v a, x.fs = [d] ∧ dd = some a ∧ H a = some (.xd [(E.fn x.c, v)]) ∧ RepV E.k g d v)
section
variable {α β : Type} (E : En)
/-- what is known behind a run: of its value (P), of the exception (W) -/
def PostE (r : Option (Rs α × A)) (g : G) (σ : L2.St) (W : WX) (P : α → A → G → Hp → Prop) : Prop := match r with
  | none => False
  | some (.ok d, s') => ∀ g' H', G.Le g g' → g'.R = g.R → Rep E.k g' s' σ H' → P d s' g' H'
  | some (.ex x, s') => ∀ cls dd g' H', G.Le g g' → g'.R = g.R → Rep E.k g' s' σ H' → RepX E g' x cls dd H' → W cls dd σ H'
variable {E}
theorem PostE.imp {r : Option (Rs α × A)} {g : G} {σ : L2.St} {W : WX} {P P' : α → A → G → Hp → Prop} (h : PostE E r g σ W P)
    (k : ∀ d s' g' H', r = some (.ok d, s') → G.Le g g' → g'.R = g.R → Rep E.k g' s' σ H' → P d s' g' H' → P' d s' g' H') : PostE E r g σ W P' := by
  unfold PostE at h ⊢
  split
  · exact h
  · exact fun g' H' le e rep => k _ _ g' H' rfl le e rep (h g' H' le e rep)
  · exact h
theorem PostE.le {r : Option (Rs α × A)} {g g' : G} {σ : L2.St} {W : WX} {P : α → A → G → Hp → Prop} (h : PostE E r g σ W P) (le : G.Le g g') (e : g'.R = g.R) : PostE E r g' σ W P := by
  unfold PostE at h ⊢
  split
  · exact h
  · exact fun g2 H2 le2 e2 rep => h g2 H2 (le.trans le2) (e2.trans e) rep
  · exact fun cls dd g2 H2 le2 e2 rep => h cls dd g2 H2 (le.trans le2) (e2.trans e) rep
theorem PostE.bind {m : M α} {k : α → M β} {s : A} {g : G} {σ : L2.St} {W : WX} {P : β → A → G → Hp → Prop} (h : PostE E (bind m k s) g σ W P) :
    PostE E (m s) g σ W fun a s1 g1 _ => PostE E (k a s1) g1 σ W P := by
  unfold Ea.bind at h
  unfold PostE
  cases e : m s with
  | none => rw [e] at h; exact h
  | some p =>
    rw [e] at h
    obtain ⟨r, s1⟩ := p
    cases r with
    | ok a => exact fun g' H' le eR rep => PostE.le h le eR
    | ex x => exact h
/-- an expression's reading: a value -/
def TE (E : En) (m : M D) (W : WX) : L2.TE := fun σ H Q => ∃ g s, Rep E.k g s σ H ∧ PostE E (m s) g σ W fun d _ g' H' => ∀ v, RepT E.k g' σ d v → Q v H'
/-- an argument list's -/
def TAs (E : En) (m : M (List D)) (W : WX) : L2.TA := fun σ H Q => ∃ g s, Rep E.k g s σ H ∧ PostE E (m s) g σ W fun d _ g' H' => ∀ v, RepTs E.k g' σ d v → Q v H'
/-- a test's -/
def TT (E : En) (m : M Bool) (W : WX) : L2.TT := fun σ H Q => ∃ g s, Rep E.k g s σ H ∧ PostE E (m s) g σ W fun b _ _ H' => Q b H'
/-- a new thing of the data d is yielded, held apart -/
def Yf (E : En) (g : G) (s : A) (σ : L2.St) (d : D) (Q : VK) : Prop := ∀ a o g' H', G.Le g g' → g'.R = upd g.R a o → g.R a = none → Rep E.k g' s σ H' → ObjR E.k g' o d → Q (.ref a) H'
def PostF (E : En) (r : Option (Rs D × A)) (g : G) (σ : L2.St) (W : WX) (Q : VK) : Prop := match r with
  | none => False
  | some (.ok d, s') => Yf E g s' σ d Q
  | some (.ex x, s') => ∀ cls dd g' H', G.Le g g' → g'.R = g.R → Rep E.k g' s' σ H' → RepX E g' x cls dd H' → W cls dd σ H'
theorem PostF.le {r : Option (Rs D × A)} {g g' : G} {σ : L2.St} {W : WX} {Q : VK} (h : PostF E r g σ W Q) (le : G.Le g g') (e : g'.R = g.R) : PostF E r g' σ W Q := by
  unfold PostF at h ⊢
  split
  · exact h
  · exact fun a o g2 H2 le2 e2 hn rep => h a o g2 H2 (le.trans le2) (by rw [e2, e]) (by rw [← e]; exact hn) rep
  · exact fun cls dd g2 H2 le2 e2 rep => h cls dd g2 H2 (le.trans le2) (e2.trans e) rep
theorem PostF.bind {m : M α} {k : α → M D} {s : A} {g : G} {σ : L2.St} {W : WX} {Q : VK} (h : PostF E (bind m k s) g σ W Q) :
    PostE E (m s) g σ W fun a s1 g1 _ => PostF E (k a s1) g1 σ W Q := by
  unfold Ea.bind at h
  unfold PostE
  cases e : m s with
  | none => rw [e] at h; exact h
  | some p =>
    rw [e] at h
    obtain ⟨r, s1⟩ := p
    cases r with
    | ok a => exact fun g' H' le eR rep => PostF.le h le eR
    | ex x => exact h
/-- a maker's -/
def TF (E : En) (m : M D) (W : WX) : L2.TE := fun σ H Q => ∃ g s, Rep E.k g s σ H ∧ PostF E (m s) g σ W Q
def PostS (E : En) (r : Option (Rs Fl × A)) (g : G) (W : WX) (D : Ends) : Prop := match r with
  | none => False
  | some (.ok .nx, s') => ∀ g' σ' H', G.Le g g' → g'.R = g.R → Rep E.k g' s' σ' H' → D.nx σ' H'
  | some (.ok .bk, s') => ∀ g' σ' H', G.Le g g' → g'.R = g.R → Rep E.k g' s' σ' H' → D.bk σ' H'
  | some (.ok .ct, s') => ∀ g' σ' H', G.Le g g' → g'.R = g.R → Rep E.k g' s' σ' H' → D.ct σ' H'
  | some (.ok (.rt d), s') => ∀ g' σ' H' v, G.Le g g' → g'.R = g.R → Rep E.k g' s' σ' H' → RepV E.k g' d v → D.rt v H'
  | some (.ex x, s') => ∀ cls dd g' σ' H', G.Le g g' → g'.R = g.R → Rep E.k g' s' σ' H' → RepX E g' x cls dd H' → W cls dd σ' H'
theorem PostS.le {r : Option (Rs Fl × A)} {g g' : G} {W : WX} {D : Ends} (h : PostS E r g W D) (le : G.Le g g') (e : g'.R = g.R) : PostS E r g' W D := by
  unfold PostS at h ⊢
  split
  · exact h
  · exact fun g2 σ H2 le2 e2 rep => h g2 σ H2 (le.trans le2) (e2.trans e) rep
  · exact fun g2 σ H2 le2 e2 rep => h g2 σ H2 (le.trans le2) (e2.trans e) rep
  · exact fun g2 σ H2 le2 e2 rep => h g2 σ H2 (le.trans le2) (e2.trans e) rep
  · exact fun g2 σ H2 v le2 e2 rep => h g2 σ H2 v (le.trans le2) (e2.trans e) rep
  · exact fun cls dd g2 σ H2 le2 e2 rep => h cls dd g2 σ H2 (le.trans le2) (e2.trans e) rep
/-- an exception is wished for with the slots as they stand -/
theorem PostS.bind {m : M α} {k : α → M Fl} {s : A} {g : G} {σ : L2.St} {W : WX} {D : Ends} (h : PostS E (bind m k s) g W D) :
    PostE E (m s) g σ W fun a s1 g1 _ => PostS E (k a s1) g1 W D := by
  unfold Ea.bind at h
  unfold PostE
  cases e : m s with
  | none => rw [e] at h; exact h
  | some p =>
    rw [e] at h
    obtain ⟨r, s1⟩ := p
    cases r with
    | ok a => exact fun g' H' le eR rep => PostS.le h le eR
    | ex x => exact fun cls dd g' H' le eR rep rx => h cls dd g' σ H' le eR rep rx
/-- a statement's -/
def TS (E : En) (m : M Fl) (W : WX) : L2.TS := fun D σ H => ∃ g s, Rep E.k g s σ H ∧ PostS E (m s) g W D
structure Kx (E : En) (X : Cx) : Prop where
  K : X.K = E.K
  calm : X.calm = true
  nd : X.N.Nodup
  gu : X.A.guards = some []
  un : X.A.units + 200 < cLine
  po : PassesOwn (model X.prog X.w) X.A X.env X.xe
def KE (E : En) (X : Cx) (e : Expr) (m : M D) : Prop := ∀ W, Takes X W → PE X e (TE E m W)
def KF (E : En) (X : Cx) (e : Expr) (m : M D) : Prop := ∀ W, Takes X W → PE X e (TF E m W)
def KA (E : En) (X : Cx) (e : List Expr) (m : M (List D)) : Prop := ∀ W, Takes X W → PA X e (TAs E m W)
def KT (E : En) (X : Cx) (e : Expr) (m : M Bool) : Prop := ∀ W, Takes X W → PT X e (TT E m W)
def KW (E : En) (X : Cx) (e : Expr) (m : M Bool) : Prop := ∀ W, Takes X W → PW X e (TT E m W)
def KS (E : En) (X : Cx) (e : Stmt) (m : M Fl) : Prop := ∀ W, Takes X W → PS X e (TS E m W)
def KB (E : En) (X : Cx) (e : List Stmt) (m : M Fl) : Prop := ∀ W, Takes X W → PSs X e (TS E m W)

theorem pe_mono {X : Cx} {e : Expr} {t t' : L2.TE} (h : PE X e t) (k : ∀ σ H Q, t' σ H Q → t σ H Q) : PE X e t' := ⟨fun pins s σ H Q I q => h.run pins s σ H Q I (k σ H Q q)⟩
theorem pa_mono {X : Cx} {e : List Expr} {t t' : L2.TA} (h : PA X e t) (k : ∀ σ H Q, t' σ H Q → t σ H Q) : PA X e t' := ⟨fun pos pins s σ H Q I q => h.run pos pins s σ H Q I (k σ H Q q)⟩
theorem pt_mono {X : Cx} {e : Expr} {t t' : L2.TT} (h : PT X e t) (k : ∀ σ H Q, t' σ H Q → t σ H Q) : PT X e t' := ⟨fun pins s σ H Q I q => h.run pins s σ H Q I (k σ H Q q)⟩
theorem pw_mono {X : Cx} {e : Expr} {t t' : L2.TT} (h : PW X e t) (k : ∀ σ H Q, t' σ H Q → t σ H Q) : PW X e t' := ⟨fun wh pins s σ H Q I q => h.run wh pins s σ H Q I (k σ H Q q)⟩
theorem ps_mono {X : Cx} {e : Stmt} {t t' : L2.TS} (h : PS X e t) (k : ∀ D σ H, t' D σ H → t D σ H) : PS X e t' := ⟨fun pins s σ H D I q => h.run pins s σ H D I (k D σ H q)⟩
theorem pss_mono {X : Cx} {e : List Stmt} {t t' : L2.TS} (h : PSs X e t) (k : ∀ D σ H, t' D σ H → t D σ H) : PSs X e t' := ⟨fun pins s σ H D I q => h.run pins s σ H D I (k D σ H q)⟩
end
end Ea

/-! E3: the rules: expressions, tests, statements, loops, comprehensions, calls. -/
namespace Ea
open PySem L2

section
variable {E : En} {X : Cx} {g g' : G} {s : A} {σ : L2.St} {H H' : Hp} {W : WX} {Q : VK} {a b c d : D} {v x y : V} {e e1 e2 : Expr} {ma mb mc : M D} {pos : Pos}

/-! ### reading -/
/-- what a value reads as, in H -/
def RdC (E : En) (g : G) (H : Hp) : D → V → Prop
  | .lst xs, v => ∃ a vs, v = .ref a ∧ SqL E.K H a vs ∧ RepVs E.k g xs vs
  | .dic es, v => ∃ a kvs, v = .ref a ∧ Rd H a (.dK kvs) ∧ RepEs E.k g es kvs
  | d, v => RepV E.k g d v
theorem RepV.rdc (rep : Rep E.k g s σ H) (h : RepV E.k g d v) : RdC E g H d v := by
  cases d with
  | lst xs =>
    unfold RepV at h
    obtain ⟨a, vs, e, q, r⟩ := h
    exact ⟨a, vs, e, rep.fH.seq q, r⟩
  | dic xs =>
    unfold RepV at h
    obtain ⟨a, vs, e, q, r⟩ := h
    exact ⟨a, vs, e, same_rd rep.fH q, r⟩
  | _ => exact h
theorem ObjR.rdc {p : Addr} {o : HO} (ho : H p = some o) (h : ObjR E.k g o d) : RdC E g H d (.ref p) := by
  cases d with
  | lst xs =>
    obtain ⟨vs, rfl, hv⟩ := h
    exact ⟨p, vs, rfl, SqL.of ho, hv⟩
  | dic xs =>
    obtain ⟨vs, rfl, hv⟩ := h
    exact ⟨p, vs, rfl, .inl ho, hv⟩
  | _ => exact h.elim
theorem RepV.t (h : RepV E.k g d v) : RepT E.k g σ d v := by
  cases d with
  | own i => unfold RepV at h; exact h.elim
  | _ => exact h
theorem deref_ok (rep : Rep E.k g s σ H) (rt : RepT E.k g σ d v) (h : deref d s = some c) : RdC E g H c v := by
  cases d with
  | own i =>
    obtain ⟨p, rfl, hp⟩ := rt
    unfold deref at h
    dsimp only at h
    split at h
    · rename_i c' hc
      cases h
      obtain ⟨p', o, h1, h2, h3, _⟩ := rep.own i _ hc
      rw [hp] at h1; cases h1
      exact ObjR.rdc h2 h3
    · rename_i c' hc
      cases h
      obtain ⟨v', h1, h2⟩ := rep.val i _ hc
      rw [hp] at h1; cases h1
      exact h2.rdc rep
    · cases h
  | ref i =>
    have rt' : RepV E.k g (.ref i) v := rt
    unfold RepV at rt'
    obtain ⟨p, h1, rfl⟩ := rt'
    have h' : s.st[i]? = some c := h
    obtain ⟨o, h2, h3⟩ := rep.st i p c h1 h'
    exact ObjR.rdc h2 h3
  | _ =>
    cases h
    exact RepV.rdc rep rt

/-! ### yielding -/
def Yd (E : En) (g : G) (s : A) (σ : L2.St) (d : D) (Q : VK) : Prop := ∀ g' H', G.Le g g' → g'.R = g.R → Rep E.k g' s σ H' → ∀ v, RepT E.k g' σ d v → Q v H'
theorem Yd.here (q : Yd E g s σ d Q) (rep : Rep E.k g s σ H) (h : RepV E.k g d v) : Q v H := q g H (G.Le.refl g) rfl rep v h.t
theorem Yd.new (q : Yd E g s σ d Q) (rep : Rep E.k g s σ H) {o : HO} (hd : ∀ g' : G, G.Le g g' → ∀ p, g'.F p = some o → RepV E.k g' d (.ref p)) : ∀ p, H p = none → Q (.ref p) (upd H p o) := fun p hp => by
  obtain ⟨r, le⟩ := rep.freeze (o := o) hp
  exact q _ _ le rfl r _ (hd _ le p upd_same).t
/-- a new tuple -/
def NewT (nt : Bool) (H : Hp) (vs : List V) (Q : VK) : Prop := ∀ (p : Addr) (o : Obj), o.dict = none → H p = none → Q (.ref p) (upd H p (tupO nt o vs))
theorem Yd.tup {xs : List D} {vs : List V} (q : Yd E g s σ (.tup xs) Q) (rep : Rep E.k g s σ H) (h : RepVs E.k g xs vs) : NewT E.k.nt H vs Q := fun p o ho hp =>
  q.new rep (fun g' le p hp => by
    unfold RepV
    refine ⟨p, vs, rfl, ⟨?_, fun z => ?_⟩, h.mono le⟩
    · unfold tupO at hp
      split at hp
      · exact .inl (.inr ⟨_, hp⟩)
      · exact SqT.of hp
    · unfold tupO at hp
      rw [if_pos z] at hp
      exact .inl ⟨_, ho, hp⟩) p hp
theorem tup_ok {P : Program} {w : World} {nt : Bool} {h : Heap} {p : Addr} {vs : List V} {its : List Value} {o : Obj} (r : Vals vs its) (hz : vs.length ≤ sizeLine) (ho : h.get? p = some o) (hc : o.cls = .type "tuple") {n : Nat} (hd : o.data = .seq its.toArray n) : ObjOk P w H h p (tupO nt o vs) := by
  have b : ObjOk P w H h p (.tup vs) := ⟨hz, its, r, o, ho, hc, n, hd⟩
  unfold tupO
  split
  · exact ⟨ho, b⟩
  · exact b
theorem Inv.tnew {nt : Bool} {pins : List (Addr × Obj)} {s : Shared} {vs : List V} {its : List Value} (I : Inv X pins σ H s) (r : Vals vs its) (hz : vs.length ≤ sizeLine) (q : NewT nt H vs Q) :
    EP X pins σ Q (.ref s.heap.objs.size) { s with heap := s.heap.push { cls := .type "tuple", data := .seq its.toArray } } :=
  ⟨.ref s.heap.objs.size, _, I.laid (t' := s.toks) (o := tupO nt { cls := .type "tuple", data := .seq its.toArray } vs) (fun b ob q => Heap.get?_push_of_some _ q) (Nat.le_refl _) (tup_ok r hz (Heap.get?_push_size _ rfl) rfl rfl), rfl, q _ _ rfl (I.hok.fresh (Nat.le_refl _))⟩
theorem Yd.lst {xs : List D} {vs : List V} (q : Yd E g s σ (.lst xs) Q) (rep : Rep E.k g s σ H) (h : RepVs E.k g xs vs) : ∀ p, H p = none → Q (.ref p) (upd H p (.lst vs)) :=
  q.new rep fun g' le p hp => by
    unfold RepV
    exact ⟨p, vs, rfl, SqL.of hp, h.mono le⟩
theorem Yd.dic {xs : List D} {vs : List (Key × V)} (q : Yd E g s σ (.dic xs) Q) (rep : Rep E.k g s σ H) (h : RepEs E.k g xs vs) : ∀ p, H p = none → Q (.ref p) (upd H p (.dK vs)) :=
  q.new rep fun g' le p hp => by
    unfold RepV
    exact ⟨p, vs, rfl, .inl hp, h.mono le⟩

theorem rdc_tup {xs : List D} (rep : Rep E.k g s σ H) (h : RdC E g H (.tup xs) v) : ∃ p vs, v = .ref p ∧ SqT E.K H p vs ∧ RepVs E.k g xs vs ∧ RepV E.k g (.tup xs) (.ref p) := by
  have h' : RepV E.k g (.tup xs) v := h
  have h2 := h'
  unfold RepV at h'
  obtain ⟨p, vs, rfl, q, r⟩ := h'
  exact ⟨p, vs, rfl, same_seqT rep.fH q.1, r, h2⟩
theorem rvs_len : ∀ {xs : List D} {vs : List V}, RepVs E.k g xs vs → vs.length = xs.length
  | [], _, h => by unfold RepVs at h; rw [h]; rfl
  | x :: xs, _, h => by
    unfold RepVs at h
    obtain ⟨v, r, rfl, _, h⟩ := h
    simp [rvs_len h]
theorem rts_len : ∀ {xs : List D} {vs : List V}, RepTs E.k g σ xs vs → vs.length = xs.length
  | [], _, h => by unfold RepTs at h; rw [h]; rfl
  | x :: xs, _, h => by
    unfold RepTs at h
    obtain ⟨v, r, rfl, _, h⟩ := h
    simp [rts_len h]
theorem rvs_app : ∀ {xs ys : List D} {vs ws : List V}, RepVs E.k g xs vs → RepVs E.k g ys ws → RepVs E.k g (xs ++ ys) (vs ++ ws)
  | [], _, _, _, h, k => by unfold RepVs at h; rw [h]; exact k
  | x :: xs, _, _, _, h, k => by
    unfold RepVs at h
    obtain ⟨v, r, rfl, h1, h⟩ := h
    show RepVs E.k g (x :: (xs ++ _)) _
    unfold RepVs
    exact ⟨v, _, rfl, h1, rvs_app h k⟩
theorem rvs_get : ∀ {xs : List D} {vs : List V} {i : Nat} {d : D}, RepVs E.k g xs vs → xs[i]? = some d → ∃ v, vs[i]? = some v ∧ RepV E.k g d v
  | [], _, _, _, _, e => by simp at e
  | x :: xs, _, 0, d, h, e => by
    unfold RepVs at h
    obtain ⟨v, r, rfl, h1, h⟩ := h
    simp at e; subst e
    exact ⟨v, rfl, h1⟩
  | x :: xs, _, i + 1, d, h, e => by
    unfold RepVs at h
    obtain ⟨v, r, rfl, h1, h⟩ := h
    exact rvs_get (i := i) h (by simpa using e)
theorem rvs_get' : ∀ {xs : List D} {vs : List V} {i : Nat} {v : V}, RepVs E.k g xs vs → vs[i]? = some v → ∃ d, xs[i]? = some d ∧ RepV E.k g d v := fun {xs vs i v} h e => by
  have hi : i < xs.length := by rw [← rvs_len h]; exact (List.getElem?_eq_some_iff.mp e).1
  obtain ⟨v', h1, h2⟩ := rvs_get h (List.getElem?_eq_getElem hi)
  rw [e] at h1; cases h1
  exact ⟨_, List.getElem?_eq_getElem hi, h2⟩
theorem rvs_take : ∀ {xs : List D} {vs : List V} (n : Nat), RepVs E.k g xs vs → RepVs E.k g (xs.take n) (vs.take n)
  | _, _, 0, _ => by simp [RepVs]
  | [], _, _ + 1, h => by unfold RepVs at h; rw [h]; simp [RepVs]
  | x :: xs, _, n + 1, h => by
    unfold RepVs at h
    obtain ⟨v, r, rfl, h1, h⟩ := h
    show RepVs E.k g (x :: xs.take n) (v :: r.take n)
    unfold RepVs
    exact ⟨v, _, rfl, h1, rvs_take n h⟩
theorem rvs_drop : ∀ {xs : List D} {vs : List V} (n : Nat), RepVs E.k g xs vs → RepVs E.k g (xs.drop n) (vs.drop n)
  | _, _, 0, h => by simpa using h
  | [], _, _ + 1, h => by unfold RepVs at h; rw [h]; simp [RepVs]
  | x :: xs, _, n + 1, h => by
    unfold RepVs at h
    obtain ⟨v, r, rfl, h1, h⟩ := h
    exact rvs_drop n h
theorem rvs_set : ∀ {xs : List D} {vs : List V} {d : D} {v : V} (i : Nat), RepV E.k g d v → RepVs E.k g xs vs → RepVs E.k g (xs.set i d) (vs.set i v)
  | [], _, _, _, _, _, h => by unfold RepVs at h; rw [h]; simp [RepVs]
  | x :: xs, _, _, _, 0, r, h => by
    unfold RepVs at h
    obtain ⟨w, rr, rfl, h1, h⟩ := h
    show RepVs E.k g (_ :: xs) (_ :: rr)
    unfold RepVs
    exact ⟨_, _, rfl, r, h⟩
  | x :: xs, _, _, _, i + 1, r, h => by
    unfold RepVs at h
    obtain ⟨w, rr, rfl, h1, h⟩ := h
    show RepVs E.k g (x :: xs.set i _) (w :: rr.set i _)
    unfold RepVs
    exact ⟨_, _, rfl, h1, rvs_set i r h⟩
theorem rvs_nil : RepVs E.k g [] [] := by simp [RepVs]
theorem rvs_one (h : RepV E.k g d v) : RepVs E.k g [d] [v] := by
  unfold RepVs
  exact ⟨v, [], rfl, h, rvs_nil⟩
theorem rvs_cons {xs : List D} {vs : List V} (h : RepV E.k g d v) (k : RepVs E.k g xs vs) : RepVs E.k g (d :: xs) (v :: vs) := by
  unfold RepVs
  exact ⟨v, _, rfl, h, k⟩

/-! ### small expressions -/
theorem k_c {m : D} {v : V} (hp : PE X e (tC v)) (h : ∀ g, RepV E.k g m v) : KE E X e (ret m) := fun W _ =>
  pe_mono hp fun σ H Q ⟨g, s, rep, post⟩ => post g H (G.Le.refl g) rfl rep v (h g).t
theorem k_int {i : Int} {j pos} : KE E X (.Constant (.int i) j pos) (ret (.int i)) := k_c pe_int fun _ => rfl
theorem k_bl {i : Bool} {j pos} : KE E X (.Constant (.bool i) j pos) (ret (.bl i)) := k_c pe_bl fun _ => rfl
theorem k_non {j pos} : KE E X (.Constant .none j pos) (ret .non) := k_c pe_non fun _ => rfl
theorem k_str {i : Str} {j pos} : KE E X (.Constant (.str i) j pos) (ret (.str i)) := k_c pe_str fun _ => rfl
theorem k_gint {x : Str} {i : Int} {u : Value} (hg : Gl X x) (hm : X.mg x = some u) (r : RelV (.int i) u) (hd : (x == ("__debug__" : Str)) = false := by decide) : KE E X (.Name x pos) (ret (.int i)) := k_c (pe_glob hg hm r hd) fun _ => rfl
theorem k_var {x : Str} (i : Nat) (hN : X.N[i]? = some x := by rfl) (hv : Vis X.env.scope x := by first | exact Or.inl rfl | exact Or.inr (Or.inl rfl) | exact Or.inr (Or.inr rfl)) (hd : (x == ("__debug__" : Str)) = false := by decide)
    (hcd : (x == ("__classdict__" : Str)) = false := by decide) : KE E X (.Name x pos) (rd i) := fun W _ =>
  pe_mono (pe_var hN hv hd hcd) fun σ H Q ⟨g, s, rep, post⟩ => by
    unfold rd PostE at post
    cases h : s.fr[i]? with
    | none => rw [h] at post; exact post.elim
    | some z =>
      rw [h] at post
      cases z with
      | un => exact post.elim
      | val d =>
        obtain ⟨v, h1, h2⟩ := rep.val i d h
        exact ⟨v, h1, post g H (G.Le.refl g) rfl rep v h2.t⟩
      | own d =>
        obtain ⟨p, o, h1, _⟩ := rep.own i d h
        exact ⟨.ref p, h1, post g H (G.Le.refl g) rfl rep _ ⟨p, rfl, h1⟩⟩

/-! ### from a new thing to a value, to the store -/
theorem tf_of_te (h : TE E ma W σ H Q) : TF E ma W σ H Q := by
  obtain ⟨g, s, rep, post⟩ := h
  refine ⟨g, s, rep, ?_⟩
  unfold PostE at post
  unfold PostF
  split
  · rename_i hn; rw [hn] at post; exact post
  · rename_i d s' hn
    rw [hn] at post
    intro p o g' H' le eR hn' rep' hd
    obtain ⟨F', R', f'⟩ := g'
    dsimp only at eR
    subst eR
    obtain ⟨r, le2⟩ := Rep.toF (g := ⟨F', g.R, f'⟩) rep' hn'
    have le3 : G.Le g ⟨upd F' p o, g.R, f'⟩ := ⟨le.F.trans le2.F, List.IsPrefix.trans le.f le2.f⟩
    exact post _ H' le3 rfl r _ (frozen_val (ObjR.mono (g := ⟨F', upd g.R p o, f'⟩) ⟨le2.F, le2.f⟩ hd)).t
  · rename_i x s' hn
    rw [hn] at post
    exact post
theorem k_frz (h : KF E X e ma) : KE E X e ma := fun W tk => pe_mono (h W tk) fun σ H Q h => tf_of_te h
theorem k_new (h : KF E X e ma) : KE E X e (newM ma) := fun W tk =>
  pe_mono (h W tk) fun σ H Q ⟨g, s, rep, post⟩ => by
    refine ⟨g, s, rep, ?_⟩
    unfold newM Ea.bind at post
    unfold PostF
    split
    · rename_i hn; rw [hn] at post; exact post
    · rename_i d s' hn
      rw [hn] at post
      intro p o g' H' le eR hn' rep' hd
      obtain ⟨F', R', f'⟩ := g'
      dsimp only at eR
      subst eR
      obtain ⟨r, le2⟩ := Rep.toSt (g := ⟨F', g.R, f'⟩) rep' hn' hd
      have le3 : G.Le g ⟨F', g.R, f' ++ [p]⟩ := ⟨le.F.trans le2.F, List.IsPrefix.trans le.f le2.f⟩
      have post' : ∀ g' H', G.Le g g' → g'.R = g.R → Rep E.k g' ⟨s'.fr, s'.st ++ [d]⟩ σ H' → ∀ v, RepT E.k g' σ (.ref s'.st.length) v → Q v H' := post
      refine post' _ H' le3 rfl r _ (RepV.t ?_)
      unfold RepV
      have hl := rep'.sl
      dsimp only at hl
      exact ⟨p, by rw [← hl]; simp, rfl⟩
    · rename_i x s' hn
      rw [hn] at post
      exact post

/-! ### operators -/
theorem op2_post {f : D → D → Option D} {p q : D} {P : D → A → G → Hp → Prop} (h : PostE E (op2 f p q s) g σ W P) : ∃ a b c, deref p s = some a ∧ deref q s = some b ∧ f a b = some c ∧
    ∀ g' H', G.Le g g' → g'.R = g.R → Rep E.k g' s σ H' → P c s g' H' := by
  unfold op2 at h
  split at h
  · rename_i a b h1 h2
    cases h3 : f a b with
    | none => rw [h3] at h; exact h.elim
    | some c => rw [h3] at h; exact ⟨a, b, c, h1, h2, h3, h⟩
  · exact h.elim
theorem op1_post {f : D → Option D} {p : D} {P : D → A → G → Hp → Prop} (h : PostE E (op1 f p s) g σ W P) : ∃ a c, deref p s = some a ∧ f a = some c ∧
    ∀ g' H', G.Le g g' → g'.R = g.R → Rep E.k g' s σ H' → P c s g' H' := by
  unfold op1 at h
  split at h
  · rename_i a h1
    cases h3 : f a with
    | none => rw [h3] at h; exact h.elim
    | some c => rw [h3] at h; exact ⟨a, c, h1, h3, h⟩
  · exact h.elim
/-- an operation on data, as one on values -/
def Sop (E : En) (f : D → D → Option D) (r : R2) : Prop := ∀ (g : G) (s : A) (σ : L2.St) (H : Hp) (a b : D) (x y : V) (c : D) (Q : VK), Rep E.k g s σ H → RdC E g H a x → RdC E g H b y → f a b = some c → Yd E g s σ c Q → r x y H Q
def Sop1 (E : En) (f : D → Option D) (r : V → Hp → VK → Prop) : Prop := ∀ (g : G) (s : A) (σ : L2.St) (H : Hp) (a : D) (x : V) (c : D) (Q : VK), Rep E.k g s σ H → RdC E g H a x → f a = some c → Yd E g s σ c Q → r x H Q
theorem te2 {f : D → D → Option D} {r : R2} (hs : Sop E f r) {m1 m2 : M D} (h : TE E (bin f m1 m2) W σ H Q) : TE E m1 W σ H fun x H1 => TE E m2 W σ H1 fun y H2 => r x y H2 Q := by
  obtain ⟨g, s, rep, post⟩ := h
  refine ⟨g, s, rep, (PostE.bind post).imp fun d s1 g1 H1 _ le1 eR1 rep1 post1 v rt => ?_⟩
  refine ⟨g1, s1, rep1, (PostE.bind post1).imp fun d2 s2 g2 H2 _ le2 eR2 rep2 post2 v2 rt2 => ?_⟩
  obtain ⟨a, b, c, h1, h2, h3, h4⟩ := op2_post post2
  exact hs g2 s2 σ H2 a b v v2 c Q rep2 (deref_ok rep2 (rt.mono le2) h1) (deref_ok rep2 rt2 h2) h3 h4
theorem k_bin {o : Operator} {f : D → D → Option D} {r : R2} (ho : OpR X (binaryOp o) r) (hs : Sop E f r) (ha : KE E X e1 ma) (hb : KE E X e2 mb) : KE E X (.BinOp e1 o e2 pos) (bin f ma mb) := fun W tk =>
  pe_mono (pe_op ho (ha W tk) (hb W tk)) fun _ _ _ h => te2 hs h
theorem k_cmp {o : CmpOp} {f : D → D → Option D} {r : R2} (ho : OpR X (compareOp o) r) (hs : Sop E f r) (ha : KE E X e1 ma) (hb : KE E X e2 mb) (hm : behindInMarks o e2 = false) : KE E X (.Compare e1 [o] [e2] pos) (bin f ma mb) := fun W tk =>
  pe_mono (pe_cmpR ho (ha W tk) (hb W tk) hm) fun _ _ _ h => te2 hs h
theorem k_un {o : UnaryOp} {f : D → Option D} {r : V → Hp → VK → Prop} (ho : UnR X (unaryOp o) r) (hs : Sop1 E f r) (ha : KE E X e1 ma) : KE E X (.UnaryOp o e1 pos) (un f ma) := fun W tk =>
  pe_mono (pe_un ho (ha W tk)) fun σ H Q ⟨g, s, rep, post⟩ => by
    refine ⟨g, s, rep, (PostE.bind post).imp fun d s1 g1 H1 _ le1 eR1 rep1 post1 v rt => ?_⟩
    obtain ⟨a, c, h1, h3, h4⟩ := op1_post post1
    exact hs g1 s1 σ H1 a v c Q rep1 (deref_ok rep1 rt h1) h3 h4

theorem rdc_int {i : Int} (h : RdC E g H (.int i) v) : v = .int i := h
theorem rdc_str {i : Str} (h : RdC E g H (.str i) v) : v = .str i := h
theorem line : sizeLine = 16777216 := by decide
theorem lenOk_le {n : Nat} (h : lenOk n = true) : n ≤ sizeLine := by rw [line]; exact of_decide_eq_true h

/-- list + list, of any lists that are read -/
def rCatL (K : PySem.W.Frag) : R2 := fun x y H Q => ∃ l b xs zs, x = .ref l ∧ y = .ref b ∧ SqL K H l xs ∧ SqL K H b zs ∧ xs.length + zs.length ≤ sizeLine ∧ ∀ p, H p = none → Q (.ref p) (upd H p (.lst (xs ++ zs)))
theorem op_catL : OpR X (binaryOp .Add) (rCatL X.K) := by
  intro pins s σ H x y v u Q I rx ry h
  obtain ⟨l, b, xs, zs, rfl, rfl, h1, h2, hz, q⟩ := h
  obtain rfl : v = Value.ref l := rx
  obtain rfl : u = Value.ref b := ry
  obtain ⟨its, r1, ⟨⟨c1, d1, dt1, sl1⟩, n1, e1, hc1, hd1, hs1⟩, _⟩ := I.list h1
  obtain ⟨its2, r2, ⟨⟨c2, d2, dt2, sl2⟩, n2, e2, hc2, hd2, hs2⟩, _⟩ := I.list h2
  dsimp only at hc1 hd1 hs1 hc2 hd2 hs2
  subst hc1 hd1 hs1 hc2 hd2 hs2
  have l1 := r1.length
  have l2 := r2.length
  refine concat_meets ⟨_, e1, rfl⟩ ⟨_, e2, rfl⟩ noFill_list_add seq_list_add PySem.F.slot_list_add PySem.F.entry_list_add (PySem.F.args_list_add_2 _ _)
    (PyProof.Rows.list_addW l b its.toArray its2.toArray n1 n2 none none sl1 sl2 (by rw [List.size_toArray, List.size_toArray]; omega)) ⟨e1, e2, ?_⟩
  have ea : its.toArray ++ its2.toArray = (its ++ its2).toArray := by simp
  rw [ea]
  exact ⟨.ref _, _, I.lnew (t' := s.toks) (r1.append r2) (by rw [List.length_append]; omega), rfl, q _ I.fresh⟩
/-- t + u -/
def rCatN (K : PySem.W.Frag) (nt : Bool) : R2 := fun x y H Q => ∃ a b xs ys, x = .ref a ∧ y = .ref b ∧ SqT K H a xs ∧ SqT K H b ys ∧ xs.length + ys.length ≤ sizeLine ∧
  (xs = [] → Q (.ref b) H) ∧ (xs ≠ [] → ys = [] → Q (.ref a) H) ∧ (xs ≠ [] → ys ≠ [] → NewT nt H (xs ++ ys) Q)
theorem op_catN {nt : Bool} : OpR X (binaryOp .Add) (rCatN X.K nt) := by
  intro pins s σ H x y v u Q I rx ry h
  obtain ⟨a, b, xs, ys, rfl, rfl, ha, hb, hz, q0, q1, q2⟩ := h
  cases rx
  cases ry
  obtain ⟨its, r1, p1, _⟩ := I.tuple ha
  obtain ⟨its2, r2, p2, _⟩ := I.tuple hb
  by_cases hx : xs = []
  · subst hx
    cases r1
    exact cat_tup0 p1 p2 ⟨.ref b, H, I, rfl, q0 rfl⟩
  · refine HT.cat_tup p1 p2 (fun z => hx (r1.nil_iff.mp z)) (fun z => ⟨.ref a, H, I, rfl, q1 hx (r2.nil_iff.mp z)⟩) (fun z => ?_) (by rw [← r1.length, ← r2.length]; exact hz)
    exact Inv.tnew I (r1.append r2) (by rw [List.length_append]; exact hz) (q2 hx fun w => z (r2.nil_iff.mpr w))
def rAdd (K : PySem.W.Frag) (nt : Bool) : R2 := fun x y H Q => (rI0 fun i j => V.int (i + j)) x y H Q ∨ (fun x y H Q => ∃ i j, x = V.str i ∧ y = V.str j ∧ i.length + j.length ≤ sizeLine ∧ Q (V.str (i ++ j)) H) x y H Q ∨ rCatN K nt x y H Q ∨ rCatL K x y H Q
theorem op_addA {nt : Bool} : OpR X (binaryOp .Add) (rAdd X.K nt) := op_add.or (op_add_str.or (op_catN.or op_catL))
theorem sop_add : Sop E addD (rAdd E.K E.k.nt) := fun g s σ H a b x y c Q rep ra rb h q => by
  unfold addD at h
  split at h
  · cases h
    obtain rfl := rdc_int ra
    obtain rfl := rdc_int rb
    exact .inl ⟨_, _, rfl, rfl, q.here rep rfl⟩
  · split at h
    · rename_i hz
      cases h
      obtain rfl := rdc_str ra
      obtain rfl := rdc_str rb
      exact .inr (.inl ⟨_, _, rfl, rfl, lenOk_le hz, q.here rep rfl⟩)
    · cases h
  · split at h
    · rename_i xs ys hz
      cases h
      obtain ⟨p, vs, rfl, h1, h2, h5⟩ := rdc_tup rep ra
      obtain ⟨p', ws, rfl, h3, h4, h6⟩ := rdc_tup rep rb
      refine .inr (.inr (.inl ⟨p, p', vs, ws, rfl, rfl, h1, h3, by rw [rvs_len h2, rvs_len h4]; exact lenOk_le hz, fun e => ?_, fun _ e => ?_, fun _ _ => q.tup rep (rvs_app h2 h4)⟩))
      · have hx : xs = [] := List.length_eq_zero_iff.mp (by rw [← rvs_len h2, e]; rfl)
        subst hx
        exact q.here rep h6
      · have hx : ys = [] := List.length_eq_zero_iff.mp (by rw [← rvs_len h4, e]; rfl)
        subst hx
        rw [List.append_nil] at q
        exact q.here rep h5
    · cases h
  · split at h
    · rename_i hz
      cases h
      obtain ⟨p, vs, rfl, h1, h2⟩ := ra
      obtain ⟨p', ws, rfl, h3, h4⟩ := rb
      exact .inr (.inr (.inr ⟨p, p', vs, ws, rfl, rfl, h1, h3, by rw [rvs_len h2, rvs_len h4]; exact lenOk_le hz, q.lst rep (rvs_app h2 h4)⟩))
    · cases h
  · cases h
end
end Ea

/-! E4: more operators, parts, displays, tests, choices. -/
namespace Ea
open PySem L2

section
variable {E : En} {X : Cx} {g g' : G} {s : A} {σ : L2.St} {H H' : Hp} {W : WX} {Q : VK} {a b c d : D} {v x y : V} {e e1 e2 e3 : Expr} {ma mb mc : M D} {pos : Pos}

theorem sop_sub : Sop E subD (rI0 fun i j => .int (i - j)) := fun g s σ H a b x y c Q rep ra rb h q => by
  unfold subD at h
  split at h
  · cases h
    obtain rfl := rdc_int ra
    obtain rfl := rdc_int rb
    exact ⟨_, _, rfl, rfl, q.here rep rfl⟩
  · cases h
theorem k_sub (ha : KE E X e1 ma) (hb : KE E X e2 mb) : KE E X (.BinOp e1 .Sub e2 pos) (bin subD ma mb) := k_bin op_sub sop_sub ha hb
theorem k_add (hK : Kx E X) (ha : KE E X e1 ma) (hb : KE E X e2 mb) : KE E X (.BinOp e1 .Add e2 pos) (bin addD ma mb) := k_bin op_addA (by rw [hK.K]; exact sop_add) ha hb

/-! ### * -/
theorem rep_foldl (n : Nat) (t : Array Nat) (z : Array Nat) : (List.replicate n t).foldl (· ++ ·) z = z ++ ((List.replicate n t.toList).flatten).toArray := by
  induction n generalizing z with
  | zero => simp
  | succ n ih =>
    rw [List.replicate_succ, List.foldl_cons, ih, List.replicate_succ, List.flatten_cons]
    rw [Array.append_assoc]
    congr 1
    apply Array.ext'
    simp
def rMulS : R2 := fun x y H Q => ∃ (z : Str) (k : Int), x = .str z ∧ y = .int k ∧ -100000 ≤ k ∧ k ≤ 100000 ∧ z.length * k.toNat ≤ sizeLine ∧ Q (.str ⟨(List.replicate k.toNat z.cps.toList).flatten.toArray⟩) H
theorem op_mulS : OpR X (binaryOp .Mult) rMulS := by
  intro pins s σ H x y v u Q I rx ry h
  obtain ⟨z, k, rfl, rfl, h1, h2, hz, q⟩ := h
  obtain ⟨t, rfl⟩ := rx
  obtain ⟨t2, rfl⟩ := ry
  have hl : sizeLine = 16777216 := by decide
  by_cases hk : k < 1
  · refine PySem.P.mul_str_none hk (by omega) ⟨.str Str.empty, H, I.tok _, ⟨_, rfl⟩, ?_⟩
    have e : k.toNat = 0 := by omega
    rw [e] at q
    exact q
  · refine PySem.P.mul_str (by rw [decide_eq_false (by omega), decide_eq_false (by omega)]; rfl) (fun _ h0 => ?_) (fun _ h0 => ?_) ?_
    · have hzk : (z.length : Int) * k ≤ 16777216 := by
        have : ((z.length * k.toNat : Nat) : Int) ≤ 16777216 := by omega
        rw [Int.natCast_mul, Int.toNat_of_nonneg (by omega)] at this
        exact this
      have hk0 : 0 < k := by omega
      intro hgt
      have h5 : (2 ^ 63 - 1 : Int) < (z.length : Int) * k + k := by
        have := Int.lt_ediv_add_one_mul_self (2 ^ 63 - 1) hk0
        have h6 : ((2 ^ 63 - 1) / k + 1) * k ≤ ((z.length : Int) + 1) * k := Int.mul_le_mul_of_nonneg_right (by omega) (by omega)
        rw [Int.add_mul (z.length : Int), Int.one_mul] at h6
        omega
      omega
    · show decide _ = false
      exact decide_eq_false (by rw [hl] at hz; show ¬ _; omega)
    · rw [if_neg hk]
      split
      · rename_i h0
        rw [Bool.or_eq_true] at h0
        refine ⟨.str z, H, I, ⟨_, rfl⟩, ?_⟩
        rcases h0 with h0 | h0
        · have e : k = 1 := by simpa using h0
          subst e
          have : (⟨(List.replicate (1 : Int).toNat z.cps.toList).flatten.toArray⟩ : Str) = z := by
            cases z; simp
          rw [this] at q
          exact q
        · have e : z.cps = #[] := by
            have : z.cps.size = 0 := by
              have h7 : z.length = 0 := by simpa using h0
              exact h7
            exact Array.eq_empty_of_size_eq_zero this
          have : (⟨(List.replicate k.toNat z.cps.toList).flatten.toArray⟩ : Str) = z := by
            cases z
            dsimp only at e ⊢
            subst e
            simp
          rw [this] at q
          exact q
      · rw [rep_foldl]
        refine ⟨?_, ⟨.str _, H, I.tok _, ⟨_, rfl⟩, ?_⟩⟩
        · show (_ : Array Nat).size ≤ sizeLine
          simp
          rw [Nat.mul_comm]
          exact hz
        · simpa using q

def rRepL (K : PySem.W.Frag) : R2 := fun x y H Q => rRep x y H Q
def rMul (K : PySem.W.Frag) : R2 := fun x y H Q => (rI CMul fun i j => V.int (i * j)) x y H Q ∨ (rI CMulW fun i j => V.int (i * j)) x y H Q ∨ rMulS x y H Q
theorem op_mulA : OpR X (binaryOp .Mult) (rMul X.K) := op_mul.or (op_mulW.or op_mulS)
theorem sop_mul : Sop E mulD (rMul E.K) := fun g s σ H a b x y c Q rep ra rb h q => by
  unfold mulD at h
  split at h
  · split at h
    · rename_i hm
      cases h
      obtain rfl := rdc_int ra
      obtain rfl := rdc_int rb
      unfold mulOk at hm
      rw [Bool.or_eq_true, Bool.or_eq_true] at hm
      rcases hm with (hm | hm) | hm
      · exact .inl ⟨_, _, rfl, rfl, .inl (of_decide_eq_true hm), q.here rep rfl⟩
      · exact .inl ⟨_, _, rfl, rfl, .inr (of_decide_eq_true hm), q.here rep rfl⟩
      · exact .inr (.inl ⟨_, _, rfl, rfl, by unfold CMulW; exact of_decide_eq_true hm, q.here rep rfl⟩)
    · cases h
  · split at h
    · rename_i hm
      cases h
      obtain rfl := rdc_str ra
      obtain rfl := rdc_int rb
      rw [Bool.and_eq_true] at hm
      have h1 := of_decide_eq_true hm.1
      exact .inr (.inr ⟨_, _, rfl, rfl, h1.1, h1.2, lenOk_le hm.2, q.here rep rfl⟩)
    · cases h
  · cases h
theorem k_mul (hK : Kx E X) (ha : KE E X e1 ma) (hb : KE E X e2 mb) : KE E X (.BinOp e1 .Mult e2 pos) (bin mulD ma mb) := k_bin op_mulA (by rw [hK.K]; exact sop_mul) ha hb
theorem sop_fdiv : Sop E fdivD (rI CDivW fun i j => .int (i / j)) := fun g s σ H a b x y c Q rep ra rb h q => by
  unfold fdivD at h
  split at h
  · split at h
    · rename_i hm
      cases h
      obtain rfl := rdc_int ra
      obtain rfl := rdc_int rb
      exact ⟨_, _, rfl, rfl, by first | exact of_decide_eq_true hm | (unfold CDivW; exact of_decide_eq_true hm) | (unfold CPow; exact of_decide_eq_true hm), q.here rep rfl⟩
    · cases h
  · cases h
theorem k_fdiv (ha : KE E X e1 ma) (hb : KE E X e2 mb) : KE E X (.BinOp e1 .FloorDiv e2 pos) (bin fdivD ma mb) := k_bin op_fdivW sop_fdiv ha hb
theorem sop_mod : Sop E modD (rI (fun _ j => 0 < j) fun i j => .int (i % j)) := fun g s σ H a b x y c Q rep ra rb h q => by
  unfold modD at h
  split at h
  · split at h
    · rename_i hm
      cases h
      obtain rfl := rdc_int ra
      obtain rfl := rdc_int rb
      exact ⟨_, _, rfl, rfl, by first | exact of_decide_eq_true hm | (unfold CDivW; exact of_decide_eq_true hm) | (unfold CPow; exact of_decide_eq_true hm), q.here rep rfl⟩
    · cases h
  · cases h
theorem k_mod (ha : KE E X e1 ma) (hb : KE E X e2 mb) : KE E X (.BinOp e1 .Mod e2 pos) (bin modD ma mb) := k_bin op_mod sop_mod ha hb
theorem sop_pow : Sop E powD (rI CPow fun i j => .int (i ^ j.toNat)) := fun g s σ H a b x y c Q rep ra rb h q => by
  unfold powD at h
  split at h
  · split at h
    · rename_i hm
      cases h
      obtain rfl := rdc_int ra
      obtain rfl := rdc_int rb
      exact ⟨_, _, rfl, rfl, by first | exact of_decide_eq_true hm | (unfold CDivW; exact of_decide_eq_true hm) | (unfold CPow; exact of_decide_eq_true hm), q.here rep rfl⟩
    · cases h
  · cases h
theorem k_pow (ha : KE E X e1 ma) (hb : KE E X e2 mb) : KE E X (.BinOp e1 .Pow e2 pos) (bin powD ma mb) := k_bin op_pow sop_pow ha hb
theorem sop_neg : Sop1 E negD (rU fun i => .int (-i)) := fun g s σ H a x c Q rep ra h q => by
  unfold negD at h
  split at h
  · cases h
    obtain rfl := rdc_int ra
    exact ⟨_, rfl, q.here rep rfl⟩
  · cases h
theorem k_neg (ha : KE E X e1 ma) : KE E X (.UnaryOp .USub e1 pos) (un negD ma) := k_un un_neg sop_neg ha

/-! ### comparisons -/
theorem sop_cmp {f : Int → Int → Bool} : Sop E (cmpD f) (rI0 fun i j => .bl (f i j)) := fun g s σ H a b x y c Q rep ra rb h q => by
  unfold cmpD at h
  split at h
  · cases h
    obtain rfl := rdc_int ra
    obtain rfl := rdc_int rb
    exact ⟨_, _, rfl, rfl, q.here rep rfl⟩
  · cases h
theorem k_lt (ha : KE E X e1 ma) (hb : KE E X e2 mb) : KE E X (.Compare e1 [.Lt] [e2] pos) (bin ltD ma mb) := k_cmp op_lt sop_cmp ha hb (nomark _)
theorem k_le (ha : KE E X e1 ma) (hb : KE E X e2 mb) : KE E X (.Compare e1 [.LtE] [e2] pos) (bin leD ma mb) := k_cmp op_le sop_cmp ha hb (nomark _)
theorem k_gt (ha : KE E X e1 ma) (hb : KE E X e2 mb) : KE E X (.Compare e1 [.Gt] [e2] pos) (bin gtD ma mb) := k_cmp op_gt sop_cmp ha hb (nomark _)
theorem k_ge (ha : KE E X e1 ma) (hb : KE E X e2 mb) : KE E X (.Compare e1 [.GtE] [e2] pos) (bin geD ma mb) := k_cmp op_ge sop_cmp ha hb (nomark _)

/-! plain data in a heap -/
mutual
theorem rep_dp {n : Nat} (rep : Rep E.k g s σ H) : ∀ {d : D} {v : V}, D.pl n d = true → RepV E.k g d v → Dp E.K H v d.py
  | .non, _, _, h => by obtain rfl := h; exact .non
  | .bl _, _, _, h => by obtain rfl := h; exact .bl _
  | .int _, _, _, h => by obtain rfl := h; exact .int _
  | .str _, _, _, h => by obtain rfl := h; exact .str _
  | .tup xs, v, p, h => by
    obtain ⟨a, vs, rfl, h1, h2, _⟩ := rdc_tup rep h
    cases n with
    | zero => simp [D.pl] at p
    | succ n => exact .tup h1 (rep_dps rep (by simpa [D.pl] using p) h2)
  | .lst xs, v, p, h => by
    unfold RepV at h
    obtain ⟨a, vs, rfl, h1, h2⟩ := h
    cases n with
    | zero => simp [D.pl] at p
    | succ n => exact .lst (rep.fH.seq h1) (rep_dps rep (by simpa [D.pl] using p) h2)
  | .dic _, _, p, _ => by cases n <;> simp [D.pl] at p
  | .st _, _, p, _ => by cases n <;> simp [D.pl] at p
  | .ref _, _, p, _ => by cases n <;> simp [D.pl] at p
  | .own _, _, p, _ => by cases n <;> simp [D.pl] at p
theorem rep_dps {n : Nat} (rep : Rep E.k g s σ H) : ∀ {d : List D} {v : List V}, (∀ z ∈ d, D.pl n z = true) → RepVs E.k g d v → DpAll E.K H v (D.pys d)
  | [], _, _, h => by
    unfold RepVs at h
    rw [h]; exact .nil
  | x :: xs, _, p, h => by
    unfold RepVs at h
    obtain ⟨w, r, rfl, h1, h2⟩ := h
    exact .cons (rep_dp rep (p x (by simp)) h1) (rep_dps rep (fun z hz => p z (List.mem_cons_of_mem _ hz)) h2)
end
theorem rdc_dp {n : Nat} (rep : Rep E.k g s σ H) (p : D.pl n d = true) (h : RdC E g H d v) : Dp E.K H v d.py := by
  cases d with
  | lst xs =>
    obtain ⟨a, vs, rfl, h1, h2⟩ := h
    cases n with
    | zero => simp [D.pl] at p
    | succ n => exact .lst h1 (rep_dps rep (by simpa [D.pl] using p) h2)
  | dic xs => cases n <;> simp [D.pl] at p
  | _ => exact rep_dp rep p h
mutual
theorem pl_lay : ∀ {n : Nat} {d : D}, D.pl n d = true → d.py.canLay0 = true ∧ d.py.depth ≤ n
  | _, .non, _ => ⟨rfl, Nat.zero_le _⟩
  | _, .bl _, _ => ⟨rfl, Nat.zero_le _⟩
  | _, .int _, _ => ⟨rfl, Nat.zero_le _⟩
  | _, .str _, p => by
    refine ⟨?_, Nat.zero_le _⟩
    unfold D.pl at p
    exact p
  | 0, .tup xs, p => by simp [D.pl] at p
  | 0, .lst xs, p => by simp [D.pl] at p
  | n + 1, .tup xs, p => by
    obtain ⟨h1, h2⟩ := pls_lay (n := n) (d := xs) (by simpa [D.pl] using p)
    exact ⟨h1, Nat.succ_le_succ h2⟩
  | n + 1, .lst xs, p => by
    obtain ⟨h1, h2⟩ := pls_lay (n := n) (d := xs) (by simpa [D.pl] using p)
    exact ⟨h1, Nat.succ_le_succ h2⟩
  | n, .dic _, p => by cases n <;> simp [D.pl] at p
  | n, .st _, p => by cases n <;> simp [D.pl] at p
  | n, .ref _, p => by cases n <;> simp [D.pl] at p
  | n, .own _, p => by cases n <;> simp [D.pl] at p
theorem pls_lay : ∀ {n : Nat} {d : List D}, (∀ z ∈ d, D.pl n z = true) → PyData.canLayAll0 (D.pys d) = true ∧ PyData.depthAll (D.pys d) ≤ n
  | _, [], _ => ⟨rfl, Nat.zero_le _⟩
  | n, x :: xs, p => by
    obtain ⟨h1, h2⟩ := pl_lay (p x (by simp))
    obtain ⟨h3, h4⟩ := pls_lay (n := n) (d := xs) fun z hz => p z (List.mem_cons_of_mem _ hz)
    refine ⟨?_, ?_⟩
    · show (_ && _) = true
      rw [h1, h3]; rfl
    · show max _ _ ≤ n
      omega
end
theorem pl_shaped (p : D.pl 60 d = true) : SeqAt.shaped d.py = true := by
  obtain ⟨h1, h2⟩ := pl_lay p
  unfold SeqAt.shaped
  rw [h1, decide_eq_true (by omega)]; rfl
end
end Ea

/-! E5: equality, membership, parts, displays, tests, choices. -/
namespace Ea
open PySem L2

section
variable {E : En} {X : Cx} {g g' : G} {s : A} {σ : L2.St} {H H' : Hp} {W : WX} {Q : VK} {a b c d : D} {v x y : V} {e e1 e2 e3 : Expr} {ma mb mc : M D} {pos : Pos}

/-! ### == -/
theorem eqOk_two (h : eqOk a b = true) : (∃ i j, a = .str i ∧ b = .str j) ∨ (D.pl 60 a = true ∧ D.pl 60 b = true) := by
  unfold eqOk at h
  split at h
  · exact .inl ⟨_, _, rfl, rfl⟩
  · rw [Bool.and_eq_true] at h; exact .inr h
def rEqA (K : PySem.W.Frag) : R2 := fun x y H Q => rEq x y H Q ∨ rEqD K x y H Q
def rNeA (K : PySem.W.Frag) : R2 := fun x y H Q => rNe x y H Q ∨ rNeD K x y H Q
theorem op_eqA (hu : X.A.units + 64 < cLine) : OpR X (compareOp .Eq) (rEqA X.K) := op_eq.or (op_eqD hu)
theorem op_neA (hu : X.A.units + 64 < cLine) : OpR X (compareOp .NotEq) (rNeA X.K) := op_ne.or (op_neD hu)
theorem str_eq {i j : Str} : D.eq (.str i) (.str j) = decide (V.str i = V.str j) := by
  show (i == j) = _
  by_cases h : i = j
  · subst h; simp
  · rw [decide_eq_false (fun q => h (V.str.inj q))]; exact beq_eq_false_iff_ne.mpr h
theorem sop_eq : Sop E eqD (rEqA E.K) := fun g s σ H a b x y c Q rep ra rb h q => by
  unfold eqD at h
  split at h
  · rename_i ok
    cases h
    rcases eqOk_two ok with ⟨i, j, rfl, rfl⟩ | ⟨p1, p2⟩
    · obtain rfl := rdc_str ra
      obtain rfl := rdc_str rb
      refine .inl ⟨rfl, ?_⟩
      rw [str_eq] at q
      exact q.here rep rfl
    · exact .inr ⟨_, _, rdc_dp rep p1 ra, rdc_dp rep p2 rb, pl_shaped p1, pl_shaped p2, q.here rep rfl⟩
  · cases h
theorem sop_ne : Sop E neD (rNeA E.K) := fun g s σ H a b x y c Q rep ra rb h q => by
  unfold neD at h
  split at h
  · rename_i ok
    cases h
    rcases eqOk_two ok with ⟨i, j, rfl, rfl⟩ | ⟨p1, p2⟩
    · obtain rfl := rdc_str ra
      obtain rfl := rdc_str rb
      refine .inl ⟨rfl, ?_⟩
      rw [str_eq] at q
      exact q.here rep rfl
    · exact .inr ⟨_, _, rdc_dp rep p1 ra, rdc_dp rep p2 rb, pl_shaped p1, pl_shaped p2, q.here rep rfl⟩
  · cases h
theorem k_eq (hK : Kx E X) (hu : X.A.units + 64 < cLine) (ha : KE E X e1 ma) (hb : KE E X e2 mb) : KE E X (.Compare e1 [.Eq] [e2] pos) (bin eqD ma mb) := k_cmp (op_eqA hu) (by rw [hK.K]; exact sop_eq) ha hb (nomark _)
theorem k_ne (hK : Kx E X) (hu : X.A.units + 64 < cLine) (ha : KE E X e1 ma) (hb : KE E X e2 mb) : KE E X (.Compare e1 [.NotEq] [e2] pos) (bin neD ma mb) := k_cmp (op_neA hu) (by rw [hK.K]; exact sop_ne) ha hb (nomark _)

/-! ### is None -/
theorem rdc_non (h : RdC E g H d v) (hn : d ≠ .own 0) : decide (v = .non) = isN d := by
  cases d with
  | non => obtain rfl := h; rfl
  | lst xs => obtain ⟨a, vs, rfl, _⟩ := h; rfl
  | dic xs => obtain ⟨a, vs, rfl, _⟩ := h; rfl
  | bl b => obtain rfl := h; rfl
  | int b => obtain rfl := h; rfl
  | str b => obtain rfl := h; rfl
  | tup xs =>
    have h' : RepV E.k g (.tup xs) v := h
    unfold RepV at h'
    obtain ⟨a, vs, rfl, _⟩ := h'
    rfl
  | st xs =>
    have h' : RepV E.k g (.st xs) v := h
    unfold RepV at h'
    exact h'.elim
  | ref i =>
    have h' : RepV E.k g (.ref i) v := h
    unfold RepV at h'
    obtain ⟨a, _, rfl⟩ := h'
    rfl
  | own i =>
    have h' : RepV E.k g (.own i) v := h
    unfold RepV at h'
    exact h'.elim
theorem rdc_non' (h : RdC E g H d v) : decide (v = .non) = isN d := by
  by_cases hn : d = .own 0
  · subst hn
    have h' : RepV E.k g (.own 0) v := h
    unfold RepV at h'
    exact h'.elim
  · exact rdc_non h hn
theorem k_is (ha : KE E X e1 ma) {p2 : Pos} {j} : KE E X (.Compare e1 [.Is] [.Constant .none j p2] pos) (un isD ma) := fun W tk =>
  pe_mono (pe_cmpR op_isN (ha W tk) pe_non (nomark _)) fun σ H Q ⟨g, s, rep, post⟩ => by
    refine ⟨g, s, rep, (PostE.bind post).imp fun d s1 g1 H1 _ le1 eR1 rep1 post1 v rt => ?_⟩
    obtain ⟨a, c, h1, h3, h4⟩ := op1_post post1
    cases h3
    refine ⟨rfl, ?_⟩
    rw [rdc_non' (deref_ok rep1 rt h1)]
    exact h4 g1 H1 (G.Le.refl _) rfl rep1 _ (RepV.t (d := .bl _) rfl)
theorem k_isn (ha : KE E X e1 ma) {p2 : Pos} {j} : KE E X (.Compare e1 [.IsNot] [.Constant .none j p2] pos) (un isnD ma) := fun W tk =>
  pe_mono (pe_cmpR op_notN (ha W tk) pe_non (nomark _)) fun σ H Q ⟨g, s, rep, post⟩ => by
    refine ⟨g, s, rep, (PostE.bind post).imp fun d s1 g1 H1 _ le1 eR1 rep1 post1 v rt => ?_⟩
    obtain ⟨a, c, h1, h3, h4⟩ := op1_post post1
    cases h3
    refine ⟨rfl, ?_⟩
    rw [rdc_non' (deref_ok rep1 rt h1)]
    exact h4 g1 H1 (G.Le.refl _) rfl rep1 _ (RepV.t (d := .bl _) rfl)

/-! ### a[b] -/
theorem atI_rvs {xs : List D} {vs : List V} {i : Int} (h : RepVs E.k g xs vs) (e : atI xs i = some d) : ∃ v, atI vs i = some v ∧ RepV E.k g d v := by
  unfold atI at e ⊢
  rw [rvs_len h]
  cases q : ixN xs.length i with
  | none => rw [q] at e; cases e
  | some j =>
    rw [q] at e
    exact rvs_get h e
/-- a subscript by values -/
def rIxD : R2 := fun x y H Q => ∃ a v, x = .ref a ∧ DGet H a y (some v) ∧ Q v H
theorem ix_dict (hu : X.A.units + 1 < cLine) : IxR X rIxD := by
  intro value slice pins s σ H x y v u Q I rx ry h hs
  obtain ⟨a, w, rfl, g, q⟩ := h
  obtain rfl : v = Value.ref a := rx
  exact PyProof.Rows.tail_any (dict_typeIs I g) PySem.F.slot_dict_getitem.lookup (d_getItem hu I g ry fun w' s3 I3 rw' => ⟨w, H, I3, rw', q⟩) hs
def rIxA (K : PySem.W.Frag) : R2 := fun x y H Q => rIx K x y H Q ∨ rIxD x y H Q
theorem ix_all (hu : X.A.units + 1 < cLine) : IxR X (rIxA X.K) := fun value slice pins s σ H x y v u Q I rx ry h hs => by
  rcases h with h | h
  · exact ix_seq value slice pins s σ H x y v u Q I rx ry h hs
  · exact ix_dict hu value slice pins s σ H x y v u Q I rx ry h hs
theorem key_of {d : D} {k : Key} (h : d.key = some k) : d = keyD k := by
  unfold D.key at h
  split at h
  · cases h; rfl
  · cases h; rfl
  · cases h
theorem rep_key {k : Key} (h : RepV E.k g (keyD k) v) : v = kV k := by
  cases k with
  | inl i => exact h
  | inr x => exact h
theorem keyD_inj {k k' : Key} : (keyD k).key = some k' ↔ k = k' := by
  cases k with
  | inl i => cases k' <;> simp [keyD, D.key]
  | inr i => cases k' <;> simp [keyD, D.key]
theorem ren_of {e : D} {k : Key} (h : RepEn E.k g e k v) : ∃ b, e = .tup [keyD k, b] ∧ RepV E.k g b v := by
  match e, h with
  | .tup [a, b], h =>
    unfold RepEn at h
    exact ⟨b, by rw [h.1], h.2⟩
theorem look_rep {k : Key} : ∀ {es : List D} {kvs : List (Key × V)}, RepEs E.k g es kvs → (∀ d, lookD k es = some d → ∃ v, valV kvs k = some v ∧ RepV E.k g d v) ∧ (lookD k es = none → valV kvs k = none)
  | [], _, h => by
    unfold RepEs at h
    subst h
    exact ⟨fun d q => (nomatch q), fun _ => rfl⟩
  | e :: es, _, h => by
    unfold RepEs at h
    obtain ⟨k1, v, r, rfl, h1, h2⟩ := h
    obtain ⟨i1, i2⟩ := look_rep h2
    obtain ⟨b, rfl, hb⟩ := ren_of h1
    · have ev : valV ((k1, v) :: r) k = if k1 = k then some v else valV r k := by
        unfold valV
        rw [List.find?_cons]
        by_cases hk : k1 = k
        · simp [hk]
        · simp [hk]
      have el : lookD k (.tup [keyD k1, b] :: es) = if k1 = k then some b else lookD k es := by
        show (if (keyD k1).key = some k then some b else lookD k es) = _
        by_cases hk : k1 = k
        · rw [if_pos hk, if_pos (keyD_inj.mpr hk)]
        · rw [if_neg hk, if_neg (fun q => hk (keyD_inj.mp q))]
      rw [ev, el]
      by_cases hk : k1 = k
      · rw [if_pos hk, if_pos hk]
        exact ⟨fun d q => ⟨v, rfl, by cases q; exact hb⟩, fun q => (nomatch q)⟩
      · rw [if_neg hk, if_neg hk]
        exact ⟨i1, i2⟩
theorem sop_ix : Sop E ixD (rIxA E.K) := fun g s σ H a b x y c Q rep ra rb h q => by
  unfold ixD at h
  split at h
  · obtain ⟨p, vs, rfl, h1, h2, _⟩ := rdc_tup rep ra
    obtain rfl := rdc_int rb
    obtain ⟨w, h3, h4⟩ := atI_rvs h2 h
    exact .inl (.inr (.inl ⟨p, vs, _, w, rfl, rfl, h1, h3, q.here rep h4⟩))
  · obtain ⟨p, vs, rfl, h1, h2⟩ := ra
    obtain rfl := rdc_int rb
    obtain ⟨w, h3, h4⟩ := atI_rvs h2 h
    exact .inl (.inl ⟨p, vs, _, w, rfl, rfl, h1, h3, q.here rep h4⟩)
  · split at h
    · rename_i hz
      obtain rfl := rdc_str ra
      obtain rfl := rdc_int rb
      cases e : atI (_ : List Nat) _ with
      | none => rw [e] at h; cases h
      | some cc =>
        rw [e] at h; cases h
        exact .inl (.inr (.inr ⟨_, _, cc, rfl, rfl, lenOk_le hz, e, q.here rep rfl⟩))
    · cases h
  · rename_i es hh
    obtain ⟨p, kvs, rfl, h1, h2⟩ := ra
    cases e : b.key with
    | none => rw [e] at h; cases h
    | some k =>
      rw [e] at h
      have eb := key_of e
      subst eb
      have rb' : RepV E.k g (keyD k) y := by cases k <;> exact rb
      obtain rfl := rep_key rb'
      obtain ⟨w, h3, h4⟩ := (look_rep h2).1 c h
      exact .inr ⟨p, w, rfl, .inl ⟨kvs, k, h1, rfl, h3.symm⟩, q.here rep h4⟩
  · cases h
theorem k_ix (hK : Kx E X) (hu : X.A.units + 1 < cLine) (ha : KE E X e1 ma) (hb : KE E X e2 mb) (hs : PlainIx e2 := by intro _ _; rfl) : KE E X (.Subscript e1 e2 pos) (bin ixD ma mb) := fun W tk =>
  pe_mono (pe_ix (ix_all hu) (ha W tk) (hb W tk) hs) fun _ _ _ h => te2 (by rw [hK.K]; exact sop_ix) h
end
end Ea

/-! E6: membership, slices, displays, tests, choices, arguments. -/
namespace Ea
open PySem L2

section
variable {E : En} {X : Cx} {g g' : G} {s : A} {σ : L2.St} {H H' : Hp} {W : WX} {Q : VK} {a b c d : D} {v x y : V} {e e1 e2 e3 : Expr} {ma mb mc : M D} {pos : Pos}

/-! ### in -/
def rInX (K : PySem.W.Frag) (neg : Bool) : R2 := fun x y H Q => ∃ d ds t, Dp K H x d ∧ Dp K H y t ∧ (t = .list ds ∨ t = .tuple ds) ∧ SeqAt.shaped d = true ∧ SeqAt.shaped t = true ∧ Q (.bl (if neg = true then !ds.any fun z => PyData.eqv z d else ds.any fun z => PyData.eqv z d)) H
theorem op_inX (hu : X.A.units + 65 < cLine) : OpR X (compareOp .In) (rInX X.K false) := by
  intro pins s σ H x y v u Q I rx ry h
  obtain ⟨d, ds, t, hd, he, ht, sd, se, q⟩ := h
  obtain ⟨as, r1⟩ := Dp.reads I d x v hd rx
  obtain ⟨bs, r2⟩ := Dp.reads I t y u he ry
  rcases ht with rfl | rfl
  · exact SeqAt.in_list_reads r2 r1 (SeqAt.canLay_of_shaped se) (SeqAt.canLay_of_shaped sd) (PyProof.Rows.room_in_shaped sd hu) ⟨.bl _, H, I, rfl, q⟩
  · exact SeqAt.in_tuple_reads r2 r1 (SeqAt.canLay_of_shaped se) (SeqAt.canLay_of_shaped sd) (PyProof.Rows.room_in_shaped sd hu) ⟨.bl _, H, I, rfl, q⟩
theorem op_ninX (hu : X.A.units + 65 < cLine) : OpR X (compareOp .NotIn) (rInX X.K true) := by
  intro pins s σ H x y v u Q I rx ry h
  obtain ⟨d, ds, t, hd, he, ht, sd, se, q⟩ := h
  obtain ⟨as, r1⟩ := Dp.reads I d x v hd rx
  obtain ⟨bs, r2⟩ := Dp.reads I t y u he ry
  rcases ht with rfl | rfl
  · exact SeqAt.notIn_list_reads r2 r1 (SeqAt.canLay_of_shaped se) (SeqAt.canLay_of_shaped sd) (PyProof.Rows.room_in_shaped sd hu) ⟨.bl _, H, I, rfl, q⟩
  · exact SeqAt.notIn_tuple_reads r2 r1 (SeqAt.canLay_of_shaped se) (SeqAt.canLay_of_shaped sd) (PyProof.Rows.room_in_shaped sd hu) ⟨.bl _, H, I, rfl, q⟩
def rInDic (neg : Bool) : R2 := fun x y H Q => ∃ a o, y = .ref a ∧ DGet H a x o ∧ Q (.bl (if neg = true then !o.isSome else o.isSome)) H
theorem op_inDic (hu : X.A.units + 1 < cLine) : OpR X (compareOp .In) (rInDic false) := by
  intro pins s σ H x y v u Q I rx ry h
  obtain ⟨a, o, rfl, hg, q⟩ := h
  obtain rfl : u = Value.ref a := ry
  exact d_in hu I hg rx fun s3 I3 => ⟨.bl o.isSome, H, I3, rfl, q⟩
theorem op_ninDic (hu : X.A.units + 1 < cLine) : OpR X (compareOp .NotIn) (rInDic true) := by
  intro pins s σ H x y v u Q I rx ry h
  obtain ⟨a, o, rfl, hg, q⟩ := h
  obtain rfl : u = Value.ref a := ry
  exact d_notIn hu I hg rx fun s3 I3 => ⟨.bl (!o.isSome), H, I3, rfl, q⟩
def rInSg (neg : Bool) : R2 := fun x y H Q => ∃ (c : Nat) (z : Str), x = .str ⟨#[c]⟩ ∧ y = .str z ∧ Q (.bl (if neg = true then !decide (c ∈ z.cps.toList) else decide (c ∈ z.cps.toList))) H
theorem op_inSg : OpR X (compareOp .In) (rInSg false) := fun pins s σ H x y v u Q I rx ry h => op_in_sign pins s σ H x y v u Q I rx ry h
theorem op_ninSg : OpR X (compareOp .NotIn) (rInSg true) := fun pins s σ H x y v u Q I rx ry h => op_notIn_sign pins s σ H x y v u Q I rx ry h
def rInAll (K : PySem.W.Frag) (neg : Bool) : R2 := fun x y H Q => rInX K neg x y H Q ∨ rInDic neg x y H Q ∨ rInSg neg x y H Q
theorem any_py {q : PyData → Bool} : ∀ xs : List D, (D.pys xs).any q = xs.any fun x => q x.py
  | [] => rfl
  | x :: xs => by
    show (q x.py || (D.pys xs).any q) = _
    rw [any_py xs]; rfl
theorem inB_ok {neg : Bool} {r : Bool} (rep : Rep E.k g s σ H) (ra : RdC E g H a x) (rb : RdC E g H b y) (h : inB a b = some r) (q : Yd E g s σ (.bl (if neg = true then !r else r)) Q) : rInAll E.K neg x y H Q := by
  unfold inB at h
  split at h
  · rename_i ys
    split at h
    · rename_i ok
      cases h
      rcases eqOk_two ok with ⟨i, j, _, hj⟩ | ⟨p1, p2⟩
      · cases hj
      · have p2' : D.pl 60 (.tup ys) = true := p2
        refine .inl ⟨a.py, D.pys ys, .tuple (D.pys ys), rdc_dp rep p1 ra, rdc_dp (d := .tup ys) rep p2' rb, .inr rfl, pl_shaped p1, pl_shaped (d := .tup ys) p2', ?_⟩
        rw [any_py]
        exact q.here rep rfl
    · cases h
  · rename_i ys
    split at h
    · rename_i ok
      cases h
      rcases eqOk_two ok with ⟨i, j, _, hj⟩ | ⟨p1, p2⟩
      · cases hj
      · refine .inl ⟨a.py, D.pys ys, .list (D.pys ys), rdc_dp rep p1 ra, rdc_dp (d := .lst ys) rep p2 rb, .inl rfl, pl_shaped p1, pl_shaped (d := .lst ys) p2, ?_⟩
        rw [any_py]
        exact q.here rep rfl
    · cases h
  · rename_i es
    split at h
    · rename_i k hk
      cases h
      have ek := key_of hk
      subst ek
      have ra' : RepV E.k g (keyD k) x := by cases k <;> exact ra
      obtain rfl := rep_key ra'
      obtain ⟨p, kvs, rfl, h1, h2⟩ := rb
      obtain ⟨i1, i2⟩ := look_rep (k := k) h2
      refine .inr (.inl ⟨p, valV kvs k, rfl, .inl ⟨kvs, k, h1, rfl, rfl⟩, ?_⟩)
      have e : (valV kvs k).isSome = (lookD k es).isSome := by
        cases z : lookD k es with
        | none => rw [i2 z]; rfl
        | some d =>
          obtain ⟨w, h3, _⟩ := i1 d z
          rw [h3]; rfl
      rw [e]
      exact q.here rep rfl
    · cases h
  · split at h
    · rename_i z _ i
      split at h
      · rename_i cc hc
        cases h
        obtain rfl := rdc_str ra
        obtain rfl := rdc_str rb
        have ei : i = ⟨#[cc]⟩ := by
          cases i
          congr 1
          apply Array.ext'
          simpa using hc
        subst ei
        exact .inr (.inr ⟨cc, z, rfl, rfl, q.here rep rfl⟩)
      · cases h
    · cases h
  · cases h
theorem sop_in : Sop E inD (rInAll E.K false) := fun g s σ H a b x y c Q rep ra rb h q => by
  unfold inD at h
  cases e : inB a b with
  | none => rw [e] at h; cases h
  | some r =>
    rw [e] at h; cases h
    exact inB_ok rep ra rb e q
theorem sop_nin : Sop E ninD (rInAll E.K true) := fun g s σ H a b x y c Q rep ra rb h q => by
  unfold ninD at h
  cases e : inB a b with
  | none => rw [e] at h; cases h
  | some r =>
    rw [e] at h; cases h
    exact inB_ok rep ra rb e q
theorem k_in (hK : Kx E X) (hu : X.A.units + 65 < cLine) (ha : KE E X e1 ma) (hb : KE E X e2 mb) (hm : behindInMarks .In e2 = false := by rfl) : KE E X (.Compare e1 [.In] [e2] pos) (bin inD ma mb) :=
  k_cmp ((op_inX hu).or ((op_inDic (by omega)).or op_inSg)) (by rw [hK.K]; exact sop_in) ha hb hm
theorem k_nin (hK : Kx E X) (hu : X.A.units + 65 < cLine) (ha : KE E X e1 ma) (hb : KE E X e2 mb) (hm : behindInMarks .NotIn e2 = false := by rfl) : KE E X (.Compare e1 [.NotIn] [e2] pos) (bin ninD ma mb) :=
  k_cmp ((op_ninX hu).or ((op_ninDic (by omega)).or op_ninSg)) (by rw [hK.K]; exact sop_nin) ha hb hm

/-! ### tests -/
theorem asB_some {d : D} {k : Bool} (h : asB d = some k) : d = .bl k := by
  unfold asB at h
  split at h
  · cases h; rfl
  · cases h
theorem post_asB {α : Type} {d : D} {k : Bool → M α} {P : α → A → G → Hp → Prop} (h : PostE E (bind (opt (asB d)) k s) g σ W P) : ∃ b, d = .bl b ∧ PostE E (k b s) g σ W P := by
  cases e : asB d with
  | none => rw [e] at h; exact h.elim
  | some b => rw [e] at h; exact ⟨b, asB_some e, h⟩
theorem rept_bl {k : Bool} (h : RepT E.k g σ (.bl k) v) : v = .bl k := h
theorem k_tst (h : KE E X e ma) (he : ∀ whole, isTrue e X.env whole = (do let v ← whole; standAt e.pos; holding [v] (truthy v)) := by intro _; rfl) : KT E X e (tst ma) := fun W tk =>
  pt_mono (pt_val (h W tk) he) fun σ H Q ⟨g, s, rep, post⟩ => by
    refine ⟨g, s, rep, (PostE.bind post).imp fun d s1 g1 H1 _ le1 eR1 rep1 post1 v rt => ?_⟩
    cases e2 : asB d with
    | none => rw [e2] at post1; exact post1.elim
    | some b =>
      rw [e2] at post1
      have := asB_some e2
      subst this
      exact ⟨b, rept_bl rt, post1 g1 H1 (G.Le.refl _) rfl rep1⟩
theorem k_notT {m : M Bool} (h : KT E X e m) : KT E X (.UnaryOp .Not e pos) (notM m) := fun W tk =>
  pt_mono (pt_not (h W tk)) fun σ H Q ⟨g, s, rep, post⟩ =>
    ⟨g, s, rep, (PostE.bind post).imp fun b s1 g1 H1 _ le1 eR1 rep1 post1 => post1 g1 H1 (G.Le.refl _) rfl rep1⟩
theorem kw_and1 {m : M Bool} (h : KT E X e m) : KW E X (.BoolOp .And [e] pos) m := fun W tk => pw_and1 (h W tk)
theorem kw_or1 {m : M Bool} (h : KT E X e m) : KW E X (.BoolOp .Or [e] pos) m := fun W tk => pw_or1 (h W tk)
theorem kw_and {m n : M Bool} {es : List Expr} (h : KT E X e m) (k : KW E X (.BoolOp .And (e2 :: es) pos) n) : KW E X (.BoolOp .And (e :: e2 :: es) pos) (andM m n) := fun W tk =>
  pw_mono (pw_and (h W tk) (k W tk)) fun σ H Q ⟨g, s, rep, post⟩ => by
    refine ⟨g, s, rep, (PostE.bind post).imp fun b s1 g1 H1 _ le1 eR1 rep1 post1 => ?_⟩
    cases b with
    | true => exact ⟨g1, s1, rep1, post1⟩
    | false => exact post1 g1 H1 (G.Le.refl _) rfl rep1
theorem kw_or {m n : M Bool} {es : List Expr} (h : KT E X e m) (k : KW E X (.BoolOp .Or (e2 :: es) pos) n) : KW E X (.BoolOp .Or (e :: e2 :: es) pos) (orM m n) := fun W tk =>
  pw_mono (pw_or (h W tk) (k W tk)) fun σ H Q ⟨g, s, rep, post⟩ => by
    refine ⟨g, s, rep, (PostE.bind post).imp fun b s1 g1 H1 _ le1 eR1 rep1 post1 => ?_⟩
    cases b with
    | true => exact post1 g1 H1 (G.Le.refl _) rfl rep1
    | false => exact ⟨g1, s1, rep1, post1⟩
theorem k_wT {m : M Bool} (h : KW E X e m) : KT E X e m := fun W tk => (h W tk).pt
theorem k_one {o : BoolOp} (h : KE E X e ma) : KE E X (.BoolOp o [e] pos) ma := fun W tk => pe_one (h W tk)
theorem k_andV {es : List Expr} (h : KE E X e ma) (k : KE E X (.BoolOp .And (e2 :: es) pos) mb) : KE E X (.BoolOp .And (e :: e2 :: es) pos) (andV ma mb) := fun W tk =>
  pe_mono (pe_and (h W tk) (k W tk)) fun σ H Q ⟨g, s, rep, post⟩ => by
    refine ⟨g, s, rep, (PostE.bind post).imp fun d s1 g1 H1 _ le1 eR1 rep1 post1 v rt => ?_⟩
    obtain ⟨b, rfl, post2⟩ := post_asB post1
    refine ⟨b, rept_bl rt, ?_⟩
    cases b with
    | true => exact ⟨g1, s1, rep1, post2⟩
    | false => exact post2 g1 H1 (G.Le.refl _) rfl rep1 _ (RepV.t (d := .bl _) rfl)
theorem k_orV {es : List Expr} (h : KE E X e ma) (k : KE E X (.BoolOp .Or (e2 :: es) pos) mb) : KE E X (.BoolOp .Or (e :: e2 :: es) pos) (orV ma mb) := fun W tk =>
  pe_mono (pe_or (h W tk) (k W tk)) fun σ H Q ⟨g, s, rep, post⟩ => by
    refine ⟨g, s, rep, (PostE.bind post).imp fun d s1 g1 H1 _ le1 eR1 rep1 post1 v rt => ?_⟩
    obtain ⟨b, rfl, post2⟩ := post_asB post1
    refine ⟨b, rept_bl rt, ?_⟩
    cases b with
    | true => exact post2 g1 H1 (G.Le.refl _) rfl rep1 _ (RepV.t (d := .bl _) rfl)
    | false => exact ⟨g1, s1, rep1, post2⟩
theorem k_notV (h : KE E X e ma) : KE E X (.UnaryOp .Not e pos) (notV ma) := fun W tk =>
  pe_mono (pe_not (h W tk)) fun σ H Q ⟨g, s, rep, post⟩ => by
    refine ⟨g, s, rep, (PostE.bind post).imp fun d s1 g1 H1 _ le1 eR1 rep1 post1 v rt => ?_⟩
    obtain ⟨b, rfl, post2⟩ := post_asB post1
    exact ⟨b, rept_bl rt, post2 g1 H1 (G.Le.refl _) rfl rep1 _ (RepV.t (d := .bl _) rfl)⟩
theorem k_ite {m : M Bool} (hc : KT E X e m) (ha : KE E X e1 ma) (hb : KE E X e2 mb) : KE E X (.IfExp e e1 e2 pos) (iteM m ma mb) := fun W tk =>
  pe_mono (pe_ifExp (hc W tk) (ha W tk) (hb W tk)) fun σ H Q ⟨g, s, rep, post⟩ => by
    refine ⟨g, s, rep, (PostE.bind post).imp fun b s1 g1 H1 _ le1 eR1 rep1 post1 => ?_⟩
    cases b with
    | true => exact ⟨g1, s1, rep1, post1⟩
    | false => exact ⟨g1, s1, rep1, post1⟩

/-! ### arguments -/
theorem ka_nil : KA E X [] nilM := fun W tk => pa_mono pa_nil fun σ H Q ⟨g, s, rep, post⟩ => post g H (G.Le.refl g) rfl rep [] (by simp [RepTs])
theorem ka_cons {es : List Expr} {ms : M (List D)} (ha : KE E X e ma) (hb : KA E X es ms) (he : starEach (e :: es) X.env = (false, eval e X.env) :: starEach es X.env := by rfl) : KA E X (e :: es) (consM ma ms) := fun W tk =>
  pa_mono (pa_cons (ha W tk) (hb W tk) he) fun σ H Q ⟨g, s, rep, post⟩ => by
    refine ⟨g, s, rep, (PostE.bind post).imp fun d s1 g1 H1 _ le1 eR1 rep1 post1 v rt => ?_⟩
    refine ⟨g1, s1, rep1, (PostE.bind post1).imp fun d2 s2 g2 H2 _ le2 eR2 rep2 post2 v2 rt2 => ?_⟩
    refine post2 g2 H2 (G.Le.refl _) rfl rep2 _ ?_
    unfold RepTs
    exact ⟨v, v2, rfl, rt.mono le2, rt2⟩
end
end Ea

/-! E7: values that stay, displays, slices, built-ins. -/
namespace Ea
open PySem L2

section
variable {E : En} {X : Cx} {g g' : G} {s : A} {σ : L2.St} {H H' : Hp} {W : WX} {Q : VK} {a b c d : D} {v x y : V} {e e1 e2 e3 : Expr} {ma mb mc : M D} {pos : Pos}

theorem stl_ok (rep : Rep E.k g s σ H) (rt : RepT E.k g σ d v) : stl d s = none ∨ ∃ d1 s1 g1, stl d s = some (.ok d1, s1) ∧ G.Le g g1 ∧ g1.R = g.R ∧ Rep E.k g1 s1 σ H ∧ RepV E.k g1 d1 v ∧ s1.st = s.st := by
  cases d with
  | own i =>
    obtain ⟨p, rfl, hp⟩ := rt
    unfold stl
    dsimp only
    split
    · rename_i c hc
      obtain ⟨p', g1, h1, h2, h3, h4, h5⟩ := rep.settle hc
      rw [hp] at h1; cases h1
      exact .inr ⟨_, _, g1, rfl, h2, h3, h5, h4, rfl⟩
    · rename_i c hc
      obtain ⟨v', h1, h2⟩ := rep.val i _ hc
      rw [hp] at h1; cases h1
      exact .inr ⟨_, _, g, rfl, G.Le.refl g, rfl, rep, h2, rfl⟩
    · exact .inl rfl
  | _ => exact .inr ⟨_, s, g, rfl, G.Le.refl g, rfl, rep, rt, rfl⟩
theorem stls_ok : ∀ {ds : List D} {vs : List V} {g : G} {s : A}, Rep E.k g s σ H → RepTs E.k g σ ds vs → stls ds s = none ∨ ∃ d1 s1 g1, stls ds s = some (.ok d1, s1) ∧ G.Le g g1 ∧ g1.R = g.R ∧ Rep E.k g1 s1 σ H ∧ RepVs E.k g1 d1 vs ∧ s1.st = s.st
  | [], vs, g, s, rep, h => by
    unfold RepTs at h
    subst h
    exact .inr ⟨[], s, g, rfl, G.Le.refl g, rfl, rep, rvs_nil, rfl⟩
  | d :: ds, vs, g, s, rep, h => by
    unfold RepTs at h
    obtain ⟨v, r, rfl, h1, h2⟩ := h
    unfold stls Ea.bind
    rcases stl_ok rep h1 with q | ⟨d1, s1, g1, q, le, eR, rep1, r1, es⟩
    · rw [q]; exact .inl rfl
    · rw [q]
      dsimp only
      rcases stls_ok rep1 (h2.mono le) with q2 | ⟨d2, s2, g2, q2, le2, eR2, rep2, r2, es2⟩
      · rw [q2]; exact .inl rfl
      · rw [q2]
        exact .inr ⟨_, s2, g2, rfl, le.trans le2, eR2.trans eR, rep2, rvs_cons (r1.mono le2) r2, es2.trans es⟩
theorem post_stls {α : Type} {ds : List D} {vs : List V} {k : List D → M α} {P : α → A → G → Hp → Prop} (rep : Rep E.k g s σ H) (rt : RepTs E.k g σ ds vs) (h : PostE E (bind (stls ds) k s) g σ W P) :
    ∃ d1 s1 g1, G.Le g g1 ∧ g1.R = g.R ∧ Rep E.k g1 s1 σ H ∧ RepVs E.k g1 d1 vs ∧ PostE E (k d1 s1) g1 σ W P := by
  rcases stls_ok rep rt with q | ⟨d1, s1, g1, q, le, eR, rep1, r1, _⟩
  · unfold Ea.bind at h
    rw [q] at h; exact h.elim
  · unfold Ea.bind at h
    rw [q] at h
    exact ⟨d1, s1, g1, le, eR, rep1, r1, PostE.le h le eR⟩
theorem postF_stls {ds : List D} {vs : List V} {k : List D → M D} (rep : Rep E.k g s σ H) (rt : RepTs E.k g σ ds vs) (h : PostF E (bind (stls ds) k s) g σ W Q) :
    ∃ d1 s1 g1, G.Le g g1 ∧ g1.R = g.R ∧ Rep E.k g1 s1 σ H ∧ RepVs E.k g1 d1 vs ∧ PostF E (k d1 s1) g1 σ W Q := by
  rcases stls_ok rep rt with q | ⟨d1, s1, g1, q, le, eR, rep1, r1, _⟩
  · unfold Ea.bind at h
    rw [q] at h; exact h.elim
  · unfold Ea.bind at h
    rw [q] at h
    exact ⟨d1, s1, g1, le, eR, rep1, r1, PostF.le h le eR⟩
theorem post_need {α : Type} {b : Bool} {m : M α} {P : α → A → G → Hp → Prop} (h : PostE E (need b m s) g σ W P) : b = true ∧ PostE E (m s) g σ W P := by
  unfold need at h
  split at h
  · rename_i hb; exact ⟨hb, h⟩
  · exact h.elim
theorem postF_need {b : Bool} {m : M D} (h : PostF E (need b m s) g σ W Q) : b = true ∧ PostF E (m s) g σ W Q := by
  unfold need at h
  split at h
  · rename_i hb; exact ⟨hb, h⟩
  · exact h.elim
theorem Yf.new (q : Yf E g s σ d Q) (rep : Rep E.k g s σ H) {o : HO} (hd : ObjR E.k g o d) : ∀ p, H p = none → Q (.ref p) (upd H p o) := fun p hp => by
  obtain ⟨r, hn⟩ := rep.apart (o := o) hp
  have le : G.Le g ⟨g.F, upd g.R p o, g.f⟩ := ⟨Same.refl _, List.prefix_refl _⟩
  exact q p o _ _ le rfl hn r (hd.mono le)

/-! ### displays -/
def tTupN (nt : Bool) (t : L2.TA) : L2.TE := fun σ H Q => t σ H fun xs H1 => xs.length ≤ sizeLine ∧ NewT nt H1 xs Q
theorem pe_tupN {nt : Bool} {x1} {t : L2.TA} (h : PA X es t) : PE X (.Tuple es x1 pos) (tTupN nt t) := by
  refine ⟨fun pins s σ H Q I hq => ?_⟩
  refine wpAny_Tuple_spliced (thn (h.run pos pins s σ H _ I hq) fun us s1 ⟨xs, H1, I1, r, z, q⟩ => ⟨by rw [← r.length]; exact z, ?_⟩)
  exact Inv.tnew I1 r z q
theorem k_tup {es : List Expr} {ms : M (List D)} {j} (h : KA E X es ms) : KE E X (.Tuple es j pos) (tupM ms) := fun W tk =>
  pe_mono (pe_tupN (nt := E.k.nt) (h W tk)) fun σ H Q ⟨g, s, rep, post⟩ => by
    refine ⟨g, s, rep, (PostE.bind post).imp fun ds s1 g1 H1 _ le1 eR1 rep1 post1 vs rt => ?_⟩
    obtain ⟨d1, s2, g2, le2, eR2, rep2, rv, post2⟩ := post_stls rep1 rt post1
    obtain ⟨hb, post3⟩ := post_need post2
    exact ⟨by rw [rvs_len rv, line]; exact of_decide_eq_true hb, Yd.tup post3 rep2 rv⟩
theorem kf_lst {es : List Expr} {ms : M (List D)} (h : KA E X es ms) : KF E X (.List es pos) (lstM ms) := fun W tk =>
  pe_mono (pe_lst (h W tk)) fun σ H Q ⟨g, s, rep, post⟩ => by
    refine ⟨g, s, rep, (PostF.bind post).imp fun ds s1 g1 H1 _ le1 eR1 rep1 post1 vs rt => ?_⟩
    obtain ⟨d1, s2, g2, le2, eR2, rep2, rv, post2⟩ := postF_stls rep1 rt post1
    obtain ⟨hb, post3⟩ := postF_need post2
    exact ⟨by rw [rvs_len rv, line]; exact of_decide_eq_true hb, Yf.new post3 rep2 ⟨_, rfl, rv⟩⟩

/-! ### slices -/
def rSlN (K : PySem.W.Frag) (nt : Bool) : V → Option Int → Option Int → Hp → VK → Prop := fun x lo hi H Q => ∃ a xs, x = .ref a ∧ SqT K H a xs ∧
  (HT.sIx xs.length 0 lo = 0 ∧ HT.sIx xs.length xs.length hi = xs.length → Q (.ref a) H) ∧ (¬ (HT.sIx xs.length 0 lo = 0 ∧ HT.sIx xs.length xs.length hi = xs.length) → NewT nt H (cutV xs lo hi) Q)
theorem sl_tupN {nt : Bool} : SlR X (rSlN X.K nt) := by
  intro pins s σ H x v vl vu lo hi sl Q I rx hs pl pu h
  obtain ⟨a, xs, rfl, hx, q1, q2⟩ := h
  cases rx
  obtain ⟨its, r, ht, hz⟩ := I.tuple hx
  have hlen : its.toArray.size = xs.length := by rw [List.size_toArray]; exact r.length.symm
  refine ⟨"tuple", _, PyProof.Rows.slot_tuple_getitem.lookup, ht.typeIs, ?_⟩
  by_cases hw : HT.sIx xs.length 0 lo = 0 ∧ HT.sIx xs.length xs.length hi = xs.length
  · exact getItem_tuple_whole ht hs pl pu (by rw [hlen]; exact hw) ⟨.ref a, H, I, rfl, q1 hw⟩
  · refine HT.getItem_tuple_cut ht hs pl pu (by rw [hlen]; exact hw) ?_ (by rw [hlen]; exact hz)
    rw [hlen]
    exact Inv.tnew I ((r.drop (HT.sIx xs.length 0 lo)).take (HT.sIx xs.length xs.length hi - HT.sIx xs.length 0 lo)) (Nat.le_trans (cutV_length xs lo hi) hz) (q2 hw)
def rSlAll (K : PySem.W.Frag) (nt : Bool) : V → Option Int → Option Int → Hp → VK → Prop := fun x lo hi H Q => rSlN K nt x lo hi H Q ∨ rSlL K x lo hi H Q ∨ rSlS x lo hi H Q
theorem sl_all {nt : Bool} : SlR X (rSlAll X.K nt) := sl_tupN.or (sl_list.or sl_str)
theorem cut_rvs {xs : List D} {vs : List V} {lo hi : Option Int} (h : RepVs E.k g xs vs) : RepVs E.k g (cutD xs lo hi) (cutV vs lo hi) := by
  unfold cutD cutV
  rw [rvs_len h]
  exact rvs_take _ (rvs_drop _ h)
theorem cut_whole {xs : List D} {lo hi : Option Int} (h : HT.sIx xs.length 0 lo = 0 ∧ HT.sIx xs.length xs.length hi = xs.length) : cutD xs lo hi = xs := by
  unfold cutD
  rw [h.1, h.2]
  simp
theorem sl_ok {lo hi : Option Int} (rep : Rep E.k g s σ H) (ra : RdC E g H a x) (h : slD a lo hi = some c) (q : Yd E g s σ c Q) : rSlAll E.K E.k.nt x lo hi H Q := by
  unfold slD at h
  split at h
  · cases h
    obtain ⟨p, vs, rfl, h1, h2, h3⟩ := rdc_tup rep ra
    refine .inl ⟨p, vs, rfl, h1, fun hw => ?_, fun _ => q.tup rep (cut_rvs h2)⟩
    rw [rvs_len h2] at hw
    rw [cut_whole hw] at q
    exact q.here rep h3
  · cases h
    obtain ⟨p, vs, rfl, h1, h2⟩ := ra
    exact .inr (.inl ⟨p, vs, rfl, h1, q.lst rep (cut_rvs h2)⟩)
  · split at h
    · rename_i hz
      cases h
      obtain rfl := rdc_str ra
      exact .inr (.inr ⟨_, rfl, lenOk_le hz, q.here rep rfl⟩)
    · cases h
  · cases h
/-- a slice's part -/
def KO (E : En) (X : Cx) (e : Option Expr) (m : Option (M D)) : Prop := ∀ W, Takes X W → ∃ t, PO X e t ∧ ∀ (g : G) (s : A) (σ : L2.St) (H : Hp) (Q : Option Int → Hp → Prop), Rep E.k g s σ H →
  PostE E (optM m s) g σ W (fun o _ g' H' => ∃ i, intO o = some i ∧ Q i H') → t σ H Q
theorem ko_none : KO E X none none := fun W tk => ⟨_, po_none, fun g s σ H Q rep h => by
  obtain ⟨i, h1, h2⟩ := h g H (G.Le.refl g) rfl rep
  cases h1
  exact h2⟩
theorem ko_some (h : KE E X e ma) : KO E X (some e) (some ma) := fun W tk => ⟨_, po_some (h W tk), fun g s σ H Q rep h => by
  refine ⟨g, s, rep, (PostE.bind h).imp fun d s1 g1 H1 _ le1 eR1 rep1 post1 v rt => ?_⟩
  obtain ⟨i, h1, h2⟩ := post1 g1 H1 (G.Le.refl _) rfl rep1
  unfold intO at h1
  split at h1
  · rename_i hh; cases hh
  · rename_i j hh
    cases hh
    cases h1
    have rt' : RepV E.k g1 (.int j) v := rt
    obtain rfl := rt'
    exact ⟨j, rfl, h2⟩
  · cases h1⟩
theorem k_sl {lo hi : Option Expr} {ml mh : Option (M D)} {p2 : Pos} (hK : Kx E X) (ha : KE E X e ma) (hl : KO E X lo ml) (hh : KO E X hi mh) : KE E X (.Subscript e (.Slice lo hi none p2) pos) (sl ma ml mh) := fun W tk => by
  obtain ⟨tl, pl, kl⟩ := hl W tk
  obtain ⟨th, ph, kh⟩ := hh W tk
  refine pe_mono (pe_slice (sl_all (nt := E.k.nt)) (ha W tk) pl ph) fun σ H Q ⟨g, s, rep, post⟩ => ?_
  refine ⟨g, s, rep, (PostE.bind post).imp fun d s1 g1 H1 _ le1 eR1 rep1 post1 v rt => ?_⟩
  refine kl g1 s1 σ H1 _ rep1 ((PostE.bind post1).imp fun o s2 g2 H2 _ le2 eR2 rep2 post2 => ?_)
  cases e1 : intO o with
  | none => rw [e1] at post2; exact post2.elim
  | some l =>
    rw [e1] at post2
    have post2' : PostE E (bind (optM mh) (fun h => bind (opt (intO h)) fun h => op1 (fun d => slD d l h) d) s2) g2 σ W fun d _ g' H' => ∀ v, RepT E.k g' σ d v → Q v H' := post2
    refine ⟨l, rfl, kh g2 s2 σ H2 _ rep2 ((PostE.bind post2').imp fun o2 s3 g3 H3 _ le3 eR3 rep3 post3 => ?_)⟩
    cases e3 : intO o2 with
    | none => rw [e3] at post3; exact post3.elim
    | some h =>
      rw [e3] at post3
      have post3' : PostE E (op1 (fun d => slD d l h) d s3) g3 σ W fun d _ g' H' => ∀ v, RepT E.k g' σ d v → Q v H' := post3
      obtain ⟨a, c, h1, h3, h4⟩ := op1_post post3'
      refine ⟨h, rfl, ?_⟩
      rw [hK.K]
      exact sl_ok rep3 (deref_ok rep3 ((rt.mono le2).mono le3) h1) h3 h4
end
end Ea

/-! E8: built-ins. -/
namespace Ea
open PySem L2

section
variable {E : En} {X : Cx} {g g' : G} {s : A} {σ : L2.St} {H H' : Hp} {W : WX} {Q : VK} {a b c d : D} {v x y : V} {e e1 e2 e3 : Expr} {es : List Expr} {ma mb mc : M D} {ms : M (List D)} {pos p : Pos}

def RdCs (E : En) (g : G) (H : Hp) : List D → List V → Prop
  | [], vs => vs = []
  | d :: ds, vs => ∃ v r, vs = v :: r ∧ RdC E g H d v ∧ RdCs E g H ds r
theorem derefs_ok (rep : Rep E.k g s σ H) : ∀ {ds cs : List D} {vs : List V}, RepTs E.k g σ ds vs → ds.mapM (deref · s) = some cs → RdCs E g H cs vs
  | [], cs, vs, h, e => by
    unfold RepTs at h
    subst h
    cases e
    rfl
  | d :: ds, cs, vs, h, e => by
    unfold RepTs at h
    obtain ⟨v, r, rfl, h1, h2⟩ := h
    rw [List.mapM_cons] at e
    cases q : deref d s with
    | none => rw [q] at e; cases e
    | some c =>
      rw [q] at e
      cases q2 : ds.mapM (deref · s) with
      | none => rw [q2] at e; cases e
      | some r2 =>
        rw [q2] at e
        cases e
        exact ⟨v, r, rfl, deref_ok rep h1 q, derefs_ok rep h2 q2⟩
theorem rdcs1 {vs : List V} (h : RdCs E g H [a] vs) : ∃ v, vs = [v] ∧ RdC E g H a v := by
  obtain ⟨v, r, rfl, h1, rfl⟩ := h
  exact ⟨v, rfl, h1⟩
theorem rdcs2 {vs : List V} (h : RdCs E g H [a, b] vs) : ∃ v w, vs = [v, w] ∧ RdC E g H a v ∧ RdC E g H b w := by
  obtain ⟨v, r, rfl, h1, w, r2, rfl, h2, rfl⟩ := h
  exact ⟨v, w, rfl, h1, h2⟩
def Sopn (E : En) (f : List D → Option D) (r : List V → Hp → VK → Prop) : Prop := ∀ (g : G) (s : A) (σ : L2.St) (H : Hp) (cs : List D) (xs : List V) (c : D) (Q : VK), Rep E.k g s σ H → RdCs E g H cs xs → f cs = some c → Yd E g s σ c Q → r xs H Q
def Sopf (E : En) (f : List D → Option D) (r : List V → Hp → VK → Prop) : Prop := ∀ (g : G) (s : A) (σ : L2.St) (H : Hp) (cs : List D) (xs : List V) (c : D) (Q : VK), Rep E.k g s σ H → RdCs E g H cs xs → f cs = some c → Yf E g s σ c Q → r xs H Q
theorem ta_n {f : List D → Option D} {r : List V → Hp → VK → Prop} (hs : Sopn E f r) (h : TE E (opn f ms) W σ H Q) : TAs E ms W σ H fun vs H1 => r vs H1 Q := by
  obtain ⟨g, s, rep, post⟩ := h
  refine ⟨g, s, rep, (PostE.bind post).imp fun ds s1 g1 H1 _ le1 eR1 rep1 post1 vs rt => ?_⟩
  try dsimp only at post1
  cases e1 : ds.mapM (deref · s1) with
  | none => rw [e1] at post1; exact post1.elim
  | some cs =>
    rw [e1] at post1
    dsimp only at post1
    cases e2 : f cs with
    | none => rw [e2] at post1; exact post1.elim
    | some c =>
      rw [e2] at post1
      exact hs g1 s1 σ H1 cs vs c Q rep1 (derefs_ok rep1 rt e1) e2 post1
theorem tf_n {f : List D → Option D} {r : List V → Hp → VK → Prop} (hs : Sopf E f r) (h : TF E (opn f ms) W σ H Q) : TAs E ms W σ H fun vs H1 => r vs H1 Q := by
  obtain ⟨g, s, rep, post⟩ := h
  refine ⟨g, s, rep, (PostF.bind post).imp fun ds s1 g1 H1 _ le1 eR1 rep1 post1 vs rt => ?_⟩
  try dsimp only at post1
  cases e1 : ds.mapM (deref · s1) with
  | none => rw [e1] at post1; exact post1.elim
  | some cs =>
    rw [e1] at post1
    dsimp only at post1
    cases e2 : f cs with
    | none => rw [e2] at post1; exact post1.elim
    | some c =>
      rw [e2] at post1
      exact hs g1 s1 σ H1 cs vs c Q rep1 (derefs_ok rep1 rt e1) e2 post1
section
variable {nm : Str} {id T : String} {f : List D → Option D} {r : List V → Hp → VK → Prop}
theorem k_bi (hc : CallR X (.builtin id) r) (hs : Sopn E f r) (hg : Gl X nm) (hm : X.mg nm = none) (hv : bootBuiltins nm = some (.builtin id)) (ha : KA E X (e :: es) ms) (hn : nm ≠ "__name__" := by decide) (hdb : (nm == ("__debug__" : Str)) = false := by decide)
    (he : starEach (e :: es) X.env = (false, eval e X.env) :: starEach es X.env := by rfl) (hpl : (backTo pos (starEach es X.env)).any (·.1) = false := by rfl) : KE E X (.Call (.Name nm p) (e :: es) [] pos) (opn f ms) := fun W tk =>
  pe_mono (pe_callB hc hg hm hv (ha W tk) hn hdb he hpl) fun _ _ _ h => ta_n hs h
theorem k_ty (hc : CallR X (.type T) r) (hs : Sopn E f r) (hg : Gl X nm) (hm : X.mg nm = none) (hv : bootBuiltins nm = some (.type T)) (ha : KA E X (e :: es) ms) (hn : nm ≠ "__name__" := by decide) (hdb : (nm == ("__debug__" : Str)) = false := by decide)
    (he : starEach (e :: es) X.env = (false, eval e X.env) :: starEach es X.env := by rfl) (hpl : (backTo pos (starEach es X.env)).any (·.1) = false := by rfl) : KE E X (.Call (.Name nm p) (e :: es) [] pos) (opn f ms) := fun W tk =>
  pe_mono (pe_callTy hc hg hm hv (ha W tk) hn hdb he hpl) fun _ _ _ h => ta_n hs h
theorem kf_bi (hc : CallR X (.builtin id) r) (hs : Sopf E f r) (hg : Gl X nm) (hm : X.mg nm = none) (hv : bootBuiltins nm = some (.builtin id)) (ha : KA E X (e :: es) ms) (hn : nm ≠ "__name__" := by decide) (hdb : (nm == ("__debug__" : Str)) = false := by decide)
    (he : starEach (e :: es) X.env = (false, eval e X.env) :: starEach es X.env := by rfl) (hpl : (backTo pos (starEach es X.env)).any (·.1) = false := by rfl) : KF E X (.Call (.Name nm p) (e :: es) [] pos) (opn f ms) := fun W tk =>
  pe_mono (pe_callB hc hg hm hv (ha W tk) hn hdb he hpl) fun _ _ _ h => tf_n hs h
theorem kf_ty (hc : CallR X (.type T) r) (hs : Sopf E f r) (hg : Gl X nm) (hm : X.mg nm = none) (hv : bootBuiltins nm = some (.type T)) (ha : KA E X (e :: es) ms) (hn : nm ≠ "__name__" := by decide) (hdb : (nm == ("__debug__" : Str)) = false := by decide)
    (he : starEach (e :: es) X.env = (false, eval e X.env) :: starEach es X.env := by rfl) (hpl : (backTo pos (starEach es X.env)).any (·.1) = false := by rfl) : KF E X (.Call (.Name nm p) (e :: es) [] pos) (opn f ms) := fun W tk =>
  pe_mono (pe_callTy hc hg hm hv (ha W tk) hn hdb he hpl) fun _ _ _ h => tf_n hs h
end

/-! ### len, abs, int, str -/
def rLenA (K : PySem.W.Frag) : List V → Hp → VK → Prop := fun xs H Q => (∃ x n, xs = [x] ∧ LenV K x H n ∧ Q (.int n) H) ∨ ∃ a kvs, xs = [V.ref a] ∧ Rd H a (.dK kvs) ∧ Q (.int kvs.length) H
theorem call_lenA : CallR X (.builtin "len") (rLenA X.K) := by
  intro pins s σ H xs us Q I r h
  rcases h with h | ⟨a, kvs, rfl, ha, q⟩
  · exact call_len pins s σ H xs us Q I r h
  · obtain ⟨u, rfl, ru⟩ := vals1 r
    obtain rfl : u = Value.ref a := ru
    exact d_len I ha fun t s' I' => ⟨.int kvs.length, H, I', ⟨t, rfl⟩, q⟩
theorem res_len : ∀ {es : List D} {kvs : List (Key × V)}, RepEs E.k g es kvs → kvs.length = es.length
  | [], _, h => by unfold RepEs at h; rw [h]; rfl
  | x :: xs, _, h => by
    unfold RepEs at h
    obtain ⟨k, v, r, rfl, _, h⟩ := h
    simp [res_len h]
theorem sop_len : Sopn E lenF (rLenA E.K) := fun g s σ H cs xs c Q rep rs h q => by
  unfold lenF at h
  split at h
  · cases h
    obtain ⟨v, rfl, h1⟩ := rdcs1 rs
    obtain ⟨p, vs, rfl, h2, h3, _⟩ := rdc_tup rep h1
    exact .inl ⟨_, _, rfl, .inr ⟨vs, h2, rfl⟩, by rw [rvs_len h3]; exact q.here rep rfl⟩
  · cases h
    obtain ⟨v, rfl, p, vs, rfl, h2, h3⟩ := rdcs1 rs
    exact .inl ⟨_, _, rfl, .inl ⟨vs, h2, rfl⟩, by rw [rvs_len h3]; exact q.here rep rfl⟩
  · cases h
    obtain ⟨v, rfl, p, vs, rfl, h2, h3⟩ := rdcs1 rs
    exact .inr ⟨_, _, rfl, h2, by rw [res_len h3]; exact q.here rep rfl⟩
  · split at h
    · rename_i hz
      cases h
      obtain ⟨v, rfl, h1⟩ := rdcs1 rs
      obtain rfl := rdc_str h1
      exact .inl ⟨_, _, rfl, ⟨lenOk_le hz, rfl⟩, q.here rep rfl⟩
    · cases h
  · cases h
theorem sop_abs : Sopn E absF (fun xs H Q => ∃ i, xs = [.int i] ∧ Q (.int (if i < 0 then -i else i)) H) := fun g s σ H cs xs c Q rep rs h q => by
  unfold absF at h
  split at h
  · cases h
    obtain ⟨v, rfl, h1⟩ := rdcs1 rs
    obtain rfl := rdc_int h1
    exact ⟨_, rfl, q.here rep rfl⟩
  · cases h
theorem sop_int : Sopn E intF (fun xs H Q => (∃ i, xs = [.int i] ∧ Q (.int i) H) ∨ ∃ k, xs = [.bl k] ∧ Q (.int (if k then 1 else 0)) H) := fun g s σ H cs xs c Q rep rs h q => by
  unfold intF at h
  split at h
  · cases h
    obtain ⟨v, rfl, h1⟩ := rdcs1 rs
    obtain rfl := rdc_int h1
    exact .inl ⟨_, rfl, q.here rep rfl⟩
  · cases h
    obtain ⟨v, rfl, h1⟩ := rdcs1 rs
    obtain rfl : v = .bl _ := h1
    exact .inr ⟨_, rfl, q.here rep rfl⟩
  · cases h
theorem call_or {fv : Value} {r r' : List V → Hp → VK → Prop} (h : CallR X fv r) (h' : CallR X fv r') : CallR X fv fun xs H Q => r xs H Q ∨ r' xs H Q := fun pins s σ H xs us Q I rs q => q.elim (h pins s σ H xs us Q I rs) (h' pins s σ H xs us Q I rs)
theorem sop_str : Sopn E strF (fun xs H Q => (∃ i, xs = [.int i] ∧ i.natAbs.log2 < 1920 ∧ Q (.str (toString i)) H) ∨ ∃ a, xs = [.str a] ∧ Q (.str a) H) := fun g s σ H cs xs c Q rep rs h q => by
  unfold strF at h
  split at h
  · split at h
    · rename_i hz
      cases h
      obtain ⟨v, rfl, h1⟩ := rdcs1 rs
      obtain rfl := rdc_int h1
      exact .inl ⟨_, rfl, of_decide_eq_true hz, q.here rep rfl⟩
    · cases h
  · cases h
    obtain ⟨v, rfl, h1⟩ := rdcs1 rs
    obtain rfl := rdc_str h1
    exact .inr ⟨_, rfl, q.here rep rfl⟩
  · cases h

/-! ### tuple, list -/
def rTupN (K : PySem.W.Frag) (nt : Bool) : List V → Hp → VK → Prop := fun xs H Q => ∃ p ys, xs = [.ref p] ∧ ((SqL K H p ys ∧ NewT nt H ys Q) ∨ (SqT K H p ys ∧ Q (.ref p) H))
theorem call_tupleN {nt : Bool} : CallR X (.type "tuple") (rTupN X.K nt) := by
  intro pins s σ H xs us Q I r h
  obtain ⟨p, ys, rfl, h⟩ := h
  obtain ⟨u, rfl, rx⟩ := vals1 r
  cases rx
  rcases h with ⟨hq, q⟩ | ⟨hq, q⟩
  · obtain ⟨its, r', pl, hz⟩ := I.list hq
    have hlen := r'.length
    refine call_tuple_list pl.isList (fun h' kp => ?_) (by simp only [List.size_toArray] <;> omega)
    have I1 : Inv X pins σ H { s with heap := h' } := I.kept (t' := s.toks) kp
    exact Inv.tnew I1 r' hz q
  · obtain ⟨its, r', pl, hz⟩ := I.tuple hq
    exact call_tuple_same pl ⟨.ref p, H, I, rfl, q⟩
theorem sop_tup : Sopn E tupF (rTupN E.K E.k.nt) := fun g s σ H cs xs c Q rep rs h q => by
  unfold tupF at h
  split at h
  · cases h
    obtain ⟨v, rfl, h1⟩ := rdcs1 rs
    obtain ⟨p, vs, rfl, h2, h3, h4⟩ := rdc_tup rep h1
    exact ⟨p, vs, rfl, .inr ⟨h2, q.here rep h4⟩⟩
  · cases h
    obtain ⟨v, rfl, p, vs, rfl, h2, h3⟩ := rdcs1 rs
    exact ⟨p, vs, rfl, .inl ⟨h2, q.tup rep h3⟩⟩
  · cases h
theorem sop_lst : Sopf E lstF (fun xs H Q => ∃ p ys, xs = [.ref p] ∧ (SqL E.K H p ys ∨ SqT E.K H p ys) ∧ ∀ l, H l = none → Q (.ref l) (upd H l (.lst ys))) := fun g s σ H cs xs c Q rep rs h q => by
  unfold lstF at h
  split at h
  · cases h
    obtain ⟨v, rfl, h1⟩ := rdcs1 rs
    obtain ⟨p, vs, rfl, h2, h3, h4⟩ := rdc_tup rep h1
    exact ⟨p, vs, rfl, .inr h2, q.new rep ⟨_, rfl, h3⟩⟩
  · cases h
    obtain ⟨v, rfl, p, vs, rfl, h2, h3⟩ := rdcs1 rs
    exact ⟨p, vs, rfl, .inl h2, q.new rep ⟨_, rfl, h3⟩⟩
  · cases h

/-! ### of lists of ints, of truth values -/
theorem rvs_ints : ∀ {xs : List D} {vs : List V} {ns : List Int}, RepVs E.k g xs vs → allI xs = some ns → vs = ns.map V.int ∧ xs = ns.map D.int
  | [], vs, ns, h, e => by
    unfold RepVs at h
    subst h
    cases e
    exact ⟨rfl, rfl⟩
  | x :: xs, vs, ns, h, e => by
    unfold RepVs at h
    obtain ⟨v, r, rfl, h1, h2⟩ := h
    unfold allI at e
    rw [List.mapM_cons] at e
    cases q : intOf x with
    | none => rw [q] at e; cases e
    | some i =>
      rw [q] at e
      cases q2 : xs.mapM intOf with
      | none => rw [q2] at e; cases e
      | some r2 =>
        rw [q2] at e
        cases e
        obtain ⟨i1, i2⟩ := rvs_ints h2 q2
        unfold intOf at q
        split at q
        · cases q
          obtain rfl : v = .int _ := h1
          exact ⟨by rw [i1]; rfl, by rw [i2]; rfl⟩
        · cases q
theorem rvs_bools : ∀ {xs : List D} {vs : List V} {ns : List Bool}, RepVs E.k g xs vs → allB xs = some ns → vs = ns.map V.bl ∧ xs = ns.map D.bl
  | [], vs, ns, h, e => by
    unfold RepVs at h
    subst h
    cases e
    exact ⟨rfl, rfl⟩
  | x :: xs, vs, ns, h, e => by
    unfold RepVs at h
    obtain ⟨v, r, rfl, h1, h2⟩ := h
    unfold allB at e
    rw [List.mapM_cons] at e
    cases q : boolOf x with
    | none => rw [q] at e; cases e
    | some i =>
      rw [q] at e
      cases q2 : xs.mapM boolOf with
      | none => rw [q2] at e; cases e
      | some r2 =>
        rw [q2] at e
        cases e
        obtain ⟨i1, i2⟩ := rvs_bools h2 q2
        unfold boolOf at q
        split at q
        · cases q
          obtain rfl : v = .bl _ := h1
          exact ⟨by rw [i1]; rfl, by rw [i2]; rfl⟩
        · cases q
theorem one_some {f : D → Option D} {cs : List D} (h : one f cs = some c) : ∃ d, cs = [d] ∧ f d = some c := by
  unfold one at h
  split at h
  · exact ⟨_, rfl, h⟩
  · cases h
theorem seqOf_some {xs : List D} (h : seqOf d = some xs) : d = .lst xs := by
  unfold seqOf at h
  split at h
  · cases h; rfl
  · cases h
/-- the argument: a list of ints -/
theorem int_arg {γ : Type} {k : List Int → Option γ} {z : γ} {vs : List V} {cs : List D} (rs : RdCs E g H cs vs) (hd : cs = [d]) (h : ((seqOf d).bind fun xs => (allI xs).bind k) = some z) : ∃ p ns, vs = [V.ref p] ∧ SqL E.K H p (ns.map V.int) ∧ k ns = some z := by
  subst hd
  obtain ⟨v, rfl, h1⟩ := rdcs1 rs
  cases e : seqOf d with
  | none => rw [e] at h; cases h
  | some xs =>
    rw [e] at h
    have ed := seqOf_some e
    subst ed
    obtain ⟨p, ws, rfl, h2, h3⟩ := h1
    cases e2 : allI xs with
    | none =>
      have h' : ((allI xs).bind k) = some z := h
      rw [e2] at h'; cases h'
    | some ns =>
      have h' : ((allI xs).bind k) = some z := h
      rw [e2] at h'
      obtain ⟨i1, _⟩ := rvs_ints h3 e2
      exact ⟨p, ns, rfl, by rw [← i1]; exact h2, h'⟩
theorem bool_arg {γ : Type} {k : List Bool → Option γ} {z : γ} {vs : List V} {cs : List D} (rs : RdCs E g H cs vs) (hd : cs = [d]) (h : ((seqOf d).bind fun xs => (allB xs).bind k) = some z) : ∃ p ns, vs = [V.ref p] ∧ SqL E.K H p (ns.map V.bl) ∧ k ns = some z := by
  subst hd
  obtain ⟨v, rfl, h1⟩ := rdcs1 rs
  cases e : seqOf d with
  | none => rw [e] at h; cases h
  | some xs =>
    rw [e] at h
    have ed := seqOf_some e
    subst ed
    obtain ⟨p, ws, rfl, h2, h3⟩ := h1
    cases e2 : allB xs with
    | none =>
      have h' : ((allB xs).bind k) = some z := h
      rw [e2] at h'; cases h'
    | some ns =>
      have h' : ((allB xs).bind k) = some z := h
      rw [e2] at h'
      obtain ⟨i1, _⟩ := rvs_bools h3 e2
      exact ⟨p, ns, rfl, by rw [← i1]; exact h2, h'⟩
theorem sop_sum : Sopn E sumF (rSum E.K) := fun g s σ H cs xs c Q rep rs h q => by
  obtain ⟨d, hd, h⟩ := one_some h
  obtain ⟨p, ns, rfl, h2, h3⟩ := int_arg (k := fun ns => some (D.int ns.sum)) rs hd (by simpa [Option.map_eq_bind, Function.comp_def] using h)
  cases h3
  exact ⟨p, ns, rfl, h2, q.here rep rfl⟩
theorem sop_max : Sopn E maxF (rMax E.K) := fun g s σ H cs xs c Q rep rs h q => by
  obtain ⟨d, hd, h⟩ := one_some h
  obtain ⟨p, ns, rfl, h2, h3⟩ := int_arg rs hd h
  cases e : ns.max? with
  | none => rw [e] at h3; cases h3
  | some m =>
    rw [e] at h3; cases h3
    obtain ⟨m1, m2⟩ := List.max?_eq_some_iff.mp e
    refine ⟨p, ns, rfl, h2, List.length_pos_of_mem m1, fun k hk hle => ?_⟩
    have : k = m := Int.le_antisymm (m2 k hk) (hle m m1)
    rw [this]
    exact q.here rep rfl
theorem sop_min : Sopn E minF (rMin E.K) := fun g s σ H cs xs c Q rep rs h q => by
  obtain ⟨d, hd, h⟩ := one_some h
  obtain ⟨p, ns, rfl, h2, h3⟩ := int_arg rs hd h
  cases e : ns.min? with
  | none => rw [e] at h3; cases h3
  | some m =>
    rw [e] at h3; cases h3
    obtain ⟨m1, m2⟩ := List.min?_eq_some_iff.mp e
    refine ⟨p, ns, rfl, h2, List.length_pos_of_mem m1, fun k hk hle => ?_⟩
    have : k = m := Int.le_antisymm (hle m m1) (m2 k hk)
    rw [this]
    exact q.here rep rfl
theorem sop_all : Sopn E allF (rAll E.K) := fun g s σ H cs xs c Q rep rs h q => by
  obtain ⟨d, hd, h⟩ := one_some h
  obtain ⟨p, ns, rfl, h2, h3⟩ := bool_arg (k := fun ns => some (D.bl (ns.all id))) rs hd (by simpa [Option.map_eq_bind, Function.comp_def] using h)
  cases h3
  exact ⟨p, ns, rfl, h2, q.here rep rfl⟩
theorem sop_any : Sopn E anyF (rAny E.K) := fun g s σ H cs xs c Q rep rs h q => by
  obtain ⟨d, hd, h⟩ := one_some h
  obtain ⟨p, ns, rfl, h2, h3⟩ := bool_arg (k := fun ns => some (D.bl (ns.any id))) rs hd (by simpa [Option.map_eq_bind, Function.comp_def] using h)
  cases h3
  exact ⟨p, ns, rfl, h2, q.here rep rfl⟩
theorem sop_max2 : Sopn E max2F (fun xs H Q => ∃ i j, xs = [.int i, .int j] ∧ Q (.int (if j > i then j else i)) H) := fun g s σ H cs xs c Q rep rs h q => by
  unfold max2F at h
  split at h
  · cases h
    obtain ⟨v, w, rfl, h1, h2⟩ := rdcs2 rs
    obtain rfl := rdc_int h1
    obtain rfl := rdc_int h2
    exact ⟨_, _, rfl, q.here rep rfl⟩
  · cases h
theorem sop_min2 : Sopn E min2F (fun xs H Q => ∃ i j, xs = [.int i, .int j] ∧ Q (.int (if j < i then j else i)) H) := fun g s σ H cs xs c Q rep rs h q => by
  unfold min2F at h
  split at h
  · cases h
    obtain ⟨v, w, rfl, h1, h2⟩ := rdcs2 rs
    obtain rfl := rdc_int h1
    obtain rfl := rdc_int h2
    exact ⟨_, _, rfl, q.here rep rfl⟩
  · cases h
theorem rvs_of_ints : ∀ ns : List Int, RepVs E.k g (ns.map D.int) (ns.map V.int)
  | [] => rvs_nil
  | n :: ns => rvs_cons rfl (rvs_of_ints ns)
theorem sortI_pw (ns : List Int) : (sortI ns).Pairwise (· ≤ ·) := by
  have h := List.pairwise_mergeSort (le := fun a b : Int => decide (a ≤ b)) (fun a b c h1 h2 => by simp only [decide_eq_true_eq] at *; omega) (fun a b => by simp only [Bool.or_eq_true, decide_eq_true_eq]; omega) ns
  exact h.imp fun h => of_decide_eq_true h
theorem sop_sort : Sopf E sortF (rSortedI E.K) := fun g s σ H cs xs c Q rep rs h q => by
  obtain ⟨d, hd, h⟩ := one_some h
  obtain ⟨p, ns, rfl, h2, h3⟩ := int_arg (k := fun ns => some (D.lst ((sortI ns).map D.int))) rs hd (by simpa [Option.map_eq_bind, Function.comp_def] using h)
  cases h3
  refine ⟨p, ns, rfl, h2, fun ns' l hp hs hl => ?_⟩
  have : ns' = sortI ns := PySem.W.ksm_same (hp.trans (List.mergeSort_perm ns _).symm) hs (sortI_pw ns)
  rw [this]
  exact q.new rep ⟨_, rfl, rvs_of_ints _⟩ l hl
end
end Ea

/-! E9: statements, targets, loops. -/
namespace Ea
open PySem L2

section
variable {E : En} {X : Cx} {g g' : G} {s : A} {σ : L2.St} {H H' : Hp} {W : WX} {Q : VK} {D₀ : Ends} {a b c d : D} {v x y : V} {e e1 e2 e3 : Expr} {es : List Expr} {st : Stmt} {sts sts2 : List Stmt} {ma mb mc : M D} {m n : M Fl} {ms : M (List D)} {pos p p2 : Pos}

theorem post_stl {α : Type} {k : D → M α} {P : α → A → G → Hp → Prop} (rep : Rep E.k g s σ H) (rt : RepT E.k g σ d v) (h : PostE E (bind (stl d) k s) g σ W P) :
    ∃ d1 s1 g1, G.Le g g1 ∧ g1.R = g.R ∧ Rep E.k g1 s1 σ H ∧ RepV E.k g1 d1 v ∧ PostE E (k d1 s1) g1 σ W P := by
  rcases stl_ok rep rt with q | ⟨d1, s1, g1, q, le, eR, rep1, r1, _⟩
  · unfold Ea.bind at h
    rw [q] at h; exact h.elim
  · unfold Ea.bind at h
    rw [q] at h
    exact ⟨d1, s1, g1, le, eR, rep1, r1, PostE.le h le eR⟩
theorem posts_stl {k : D → M Fl} (rep : Rep E.k g s σ H) (rt : RepT E.k g σ d v) (h : PostS E (bind (stl d) k s) g W D₀) :
    ∃ d1 s1 g1, G.Le g g1 ∧ g1.R = g.R ∧ Rep E.k g1 s1 σ H ∧ RepV E.k g1 d1 v ∧ PostS E (k d1 s1) g1 W D₀ := by
  rcases stl_ok rep rt with q | ⟨d1, s1, g1, q, le, eR, rep1, r1, _⟩
  · unfold Ea.bind at h
    rw [q] at h; exact h.elim
  · unfold Ea.bind at h
    rw [q] at h
    exact ⟨d1, s1, g1, le, eR, rep1, r1, PostS.le h le eR⟩

/-! ### blocks -/
theorem kb_one (h : KS E X st m) : KB E X [st] m := fun W tk => pss_one (h W tk)
theorem kb_nil : KB E X [] pass := fun W tk => pss_mono pss_nil fun D σ H ⟨g, s, rep, post⟩ => post g σ H (G.Le.refl g) rfl rep
theorem kb_cons (h : KS E X st m) (k : KB E X sts n) : KB E X (st :: sts) (seq m n) := fun W tk =>
  pss_mono (pss_cons (h W tk) (k W tk)) fun D σ H ⟨g, s, rep, post⟩ => by
    refine ⟨g, s, rep, ?_⟩
    unfold seq Ea.bind at post
    cases e : m s with
    | none => rw [e] at post; exact post
    | some q =>
      obtain ⟨r, s1⟩ := q
      rw [e] at post
      cases r with
      | ex x => exact post
      | ok f =>
        cases f with
        | nx => exact fun g' σ' H' le eR rep' => ⟨g', s1, rep', PostS.le post le eR⟩
        | bk => exact post
        | ct => exact post
        | rt d => exact post

/-! ### small statements -/
theorem k_pass : KS E X (.Pass pos) pass := fun W tk => ps_mono ps_pass fun D σ H ⟨g, s, rep, post⟩ => post g σ H (G.Le.refl g) rfl rep
theorem k_brk : KS E X (.Break pos) brkM := fun W tk => ps_mono ps_break fun D σ H ⟨g, s, rep, post⟩ => post g σ H (G.Le.refl g) rfl rep
theorem k_cnt : KS E X (.Continue pos) cntM := fun W tk => ps_mono ps_continue fun D σ H ⟨g, s, rep, post⟩ => post g σ H (G.Le.refl g) rfl rep
theorem k_drp (h : KE E X e ma) (hs : swapsWith e none pos.line X.env = pure false := by rfl) : KS E X (.Expr e pos) (drp ma) := fun W tk =>
  ps_mono (ps_expr (h W tk) hs) fun D σ H ⟨g, s, rep, post⟩ =>
    ⟨g, s, rep, (PostS.bind post).imp fun d s1 g1 H1 _ le1 eR1 rep1 post1 v rt => post1 g1 σ H1 (G.Le.refl _) rfl rep1⟩
theorem k_ret (h : KE E X e ma) : KS E X (.Return (some e) pos) (retM ma) := fun W tk =>
  ps_mono (ps_ret (h W tk)) fun D σ H ⟨g, s, rep, post⟩ => by
    refine ⟨g, s, rep, (PostS.bind post).imp fun d s1 g1 H1 _ le1 eR1 rep1 post1 v rt => ?_⟩
    obtain ⟨d1, s2, g2, le2, eR2, rep2, rv, post2⟩ := posts_stl rep1 rt post1
    exact post2 g2 σ H1 v (G.Le.refl _) rfl rep2 rv
theorem k_retN : KS E X (.Return none pos) retN := fun W tk => ps_mono ps_retN fun D σ H ⟨g, s, rep, post⟩ => post g σ H .non (G.Le.refl g) rfl rep rfl
theorem k_if {mt : M Bool} (hc : KT E X e mt) (ha : KB E X sts m) (hb : KB E X sts2 n) : KS E X (.If e sts sts2 pos) (iteM mt m n) := fun W tk =>
  ps_mono (ps_if (hc W tk) (ha W tk) (hb W tk)) fun D σ H ⟨g, s, rep, post⟩ => by
    refine ⟨g, s, rep, (PostS.bind post).imp fun b s1 g1 H1 _ le1 eR1 rep1 post1 => ?_⟩
    cases b with
    | true => exact ⟨g1, s1, rep1, post1⟩
    | false => exact ⟨g1, s1, rep1, post1⟩

/-! ### names are given values -/
section
variable {nm : Str} {i : Nat}
theorem ts_setV {i : Nat} (h : TS E (setV i ma) W D₀ σ H) : TE E ma W σ H fun x H1 => gName i x σ H1 D₀.nx := by
  obtain ⟨g, s, rep, post⟩ := h
  refine ⟨g, s, rep, (PostS.bind post).imp fun d s1 g1 H1 _ le1 eR1 rep1 post1 v rt => ?_⟩
  obtain ⟨d1, s2, g2, le2, eR2, rep2, rv, post2⟩ := posts_stl rep1 rt post1
  exact post2 g2 _ H1 (G.Le.refl _) rfl (rep2.put rv)
theorem ts_setO {i : Nat} (h : TS E (setO i ma) W D₀ σ H) : TF E ma W σ H fun x H1 => gName i x σ H1 D₀.nx := by
  obtain ⟨g, s, rep, post⟩ := h
  refine ⟨g, s, rep, ?_⟩
  unfold setO Ea.bind at post
  unfold PostF
  split
  · rename_i hn; rw [hn] at post; exact post
  · rename_i d s' hn
    rw [hn] at post
    intro q o g' H' le eR hn' rep' hd
    obtain ⟨F', R', f'⟩ := g'
    dsimp only at eR
    subst eR
    have r := Rep.toOwn (g := ⟨F', g.R, f'⟩) (i := i) rep' hn' hd
    have post' : ∀ g' σ' H', G.Le g g' → g'.R = g.R → Rep E.k g' ⟨s'.fr.set i (.own d), s'.st⟩ σ' H' → D₀.nx σ' H' := post
    exact post' ⟨F', g.R, f'⟩ _ H' ⟨le.F, le.f⟩ rfl r
  · rename_i x s' hn
    rw [hn] at post
    exact fun cls dd g' H' le eR rep' rx => post cls dd g' σ H' le eR rep' rx
theorem k_setV (hK : Kx E X) (h : KE E X e ma) (i : Nat) (hi : X.N[i]? = some nm := by rfl) (hx : Loc X.env.scope nm := by first | exact Or.inl rfl | exact Or.inr rfl) (hs : swapsWith e (some (.Name nm p)) pos.line X.env = pure false := by rfl)
    (hf : X.fn nm = true ∨ X.env.scope.names.lookup nm = some .local := by first | exact .inl rfl | exact .inr rfl | assumption) : KS E X (.Assign [.Name nm p] e pos) (setV i ma) := fun W tk =>
  ps_mono (ps_set hK.nd hi hx (h W tk) hs hf) fun D σ H h => ts_setV h
theorem k_setO (hK : Kx E X) (h : KF E X e ma) (i : Nat) (hi : X.N[i]? = some nm := by rfl) (hx : Loc X.env.scope nm := by first | exact Or.inl rfl | exact Or.inr rfl) (hs : swapsWith e (some (.Name nm p)) pos.line X.env = pure false := by rfl)
    (hf : X.fn nm = true ∨ X.env.scope.names.lookup nm = some .local := by first | exact .inl rfl | exact .inr rfl | assumption) : KS E X (.Assign [.Name nm p] e pos) (setO i ma) := fun W tk =>
  ps_mono (ps_set hK.nd hi hx (h W tk) hs hf) fun D σ H h => ts_setO h
end

/-! ### targets -/
theorem wipe_get {σ : L2.St} {i : Nat} : ∀ {vs : List Nat}, i ∉ vs → (wipe σ vs)[i]? = σ[i]?
  | [], _ => rfl
  | v :: vs, h => by
    unfold wipe
    rw [List.getElem?_set, if_neg (fun q => h (by rw [q]; simp)), wipe_get fun q => h (List.mem_cons_of_mem _ q)]
theorem wipe_in {σ : L2.St} {i : Nat} : ∀ {vs : List Nat}, i ∈ vs → (wipe σ vs)[i]? = if i < σ.length then some none else none
  | v :: vs, h => by
    unfold wipe
    rw [List.getElem?_set]
    by_cases hv : v = i
    · rw [if_pos hv, wipe_length, hv]
    · rw [if_neg hv, wipe_in ((List.mem_cons.mp h).resolve_left fun q => hv q.symm)]
theorem wipe_set {σ : L2.St} {i : Nat} {x : Option V} {vs : List Nat} (h : i ∈ vs) : wipe (σ.set i x) vs = wipe σ vs := by
  apply List.ext_getElem?
  intro j
  by_cases hj : j ∈ vs
  · rw [wipe_in hj, wipe_in hj, List.length_set]
  · rw [wipe_get hj, wipe_get hj, List.getElem?_set, if_neg (fun q => hj (by rw [← q]; exact h))]
/-- the slots ks are given values -/
def TGm (E : En) (ks : List Nat) (gm : Tg) : L2.TG := fun v σ H Q => ∃ g s d s', Rep E.k g s σ H ∧ RepV E.k g d v ∧ gm d s = some s' ∧ ∀ σ', Rep E.k g s' σ' H → (∀ vs : List Nat, (∀ i ∈ ks, i ∈ vs) → wipe σ' vs = wipe σ vs) → Q σ' H
def TGl (E : En) (ks : List Nat) (gs : List Tg) : L2.TGs := fun v σ H Q => ∃ g s d s', Rep E.k g s σ H ∧ RepVs E.k g d v ∧ gTs gs d s = some s' ∧ ∀ σ', Rep E.k g s' σ' H → (∀ vs : List Nat, (∀ i ∈ ks, i ∈ vs) → wipe σ' vs = wipe σ vs) → Q σ' H
theorem pg_mono {tg : Expr} {t t' : L2.TG} (h : PG X tg t) (k : ∀ v σ H Q, t' v σ H Q → t v σ H Q) : PG X tg t' := ⟨fun pins s σ H v u Q I r q => h.run pins s σ H v u Q I r (k v σ H Q q)⟩
theorem pgs_mono {tg : List Expr} {t t' : L2.TGs} (h : PGs X tg t) (k : ∀ v σ H Q, t' v σ H Q → t v σ H Q) : PGs X tg t' := ⟨fun pins s σ H v u Q I r q => h.run pins s σ H v u Q I r (k v σ H Q q)⟩
/-- a target: what it does with a value -/
def KG (E : En) (X : Cx) (tg : Expr) (ks : List Nat) (gm : Tg) : Prop := PG X tg (TGm E ks gm)
def KGs (E : En) (X : Cx) (tg : List Expr) (ks : List Nat) (gs : List Tg) : Prop := PGs X tg (TGl E ks gs)
theorem kg_name {nm : Str} (hK : Kx E X) (i : Nat) (hi : X.N[i]? = some nm := by rfl) (hx : Loc X.env.scope nm := by first | exact Or.inl rfl | exact Or.inr rfl)
    (hf : X.fn nm = true ∨ X.env.scope.names.lookup nm = some .local := by first | exact .inl rfl | exact .inr rfl | assumption) : KG E X (.Name nm p) [i] (gN i) :=
  pg_mono (pg_name hK.nd hi hx hf) fun v σ H Q ⟨g, s, d, s', rep, rv, h, k⟩ => by
    cases h
    exact k _ (rep.put rv) fun vs hv => wipe_set (hv i (by simp))
theorem kgs_nil : KGs E X [] [] [] := pgs_mono pgs_nil fun v σ H Q ⟨g, s, d, s', rep, rv, h, k⟩ => by
  cases d with
  | nil =>
    unfold RepVs at rv
    cases h
    exact ⟨rv, k σ rep fun _ _ => rfl⟩
  | cons x xs => cases h
theorem kgs_cons {gm : Tg} {gs : List Tg} {ks ls : List Nat} (h1 : KG E X e ks gm) (h2 : KGs E X es ls gs) (hs : (assignEach (e :: es) X.env).map (·.2) = assign e X.env :: (assignEach es X.env).map (·.2) := by rfl) : KGs E X (e :: es) (ks ++ ls) (gm :: gs) :=
  pgs_mono (pgs_cons h1 h2 hs) fun v σ H Q ⟨g, s, d, s', rep, rv, h, k⟩ => by
    cases d with
    | nil => cases h
    | cons x xs =>
      unfold RepVs at rv
      obtain ⟨w, r, rfl, r1, r2⟩ := rv
      unfold gTs at h
      cases q : gm x s with
      | none => rw [q] at h; cases h
      | some s1 =>
        rw [q] at h
        exact ⟨w, r, rfl, g, s, x, s1, rep, r1, q, fun σ1 rep1 w1 => ⟨g, s1, xs, s', rep1, r2, h, fun σ2 rep2 w2 => k σ2 rep2 fun vs hv =>
          (w2 vs fun i hi => hv i (List.mem_append_right _ hi)).trans (w1 vs fun i hi => hv i (List.mem_append_left _ hi))⟩⟩
theorem gTs_len : ∀ {gs : List Tg} {xs : List D} {s s' : A}, gTs gs xs s = some s' → xs.length = gs.length
  | [], [], _, _, _ => rfl
  | [], _ :: _, _, _, h => nomatch h
  | _ :: _, [], _, _, h => nomatch h
  | gm :: gs, x :: xs, s, s', h => by
    unfold gTs at h
    cases q : gm x s with
    | none => rw [q] at h; cases h
    | some s1 =>
      rw [q] at h
      simp [gTs_len (gs := gs) (xs := xs) h]
theorem kg_tup {gs : List Tg} {k : Nat} {ks : List Nat} (hK : Kx E X) (h : KGs E X es ks gs) (hn : (assignEach es X.env).length = gs.length := by rfl) (hst : (assignEach es X.env).findIdx? (·.1) = none := by rfl) : KG E X (.Tuple es k p) ks (gT gs) :=
  pg_mono (pg_tup hK.calm h hn hst) fun v σ H Q ⟨g, s, d, s', rep, rv, h, kk⟩ => by
    cases d with
    | tup xs =>
      have rv' := rv
      unfold RepV at rv'
      obtain ⟨q, vs, rfl, h1, h2⟩ := rv'
      rw [hK.K]
      exact ⟨q, vs, rfl, same_seqT rep.fH h1.1, by rw [rvs_len h2]; exact gTs_len h, g, s, xs, s', rep, h2, h, kk⟩
    | _ => cases h
theorem post_ofT {α : Type} {t : Tg} {k : Unit → M α} {P : α → A → G → Hp → Prop} (h : PostE E (bind (ofT t d) k s) g σ W P) : ∃ s1, t d s = some s1 ∧ PostE E (k () s1) g σ W P := by
  unfold Ea.bind ofT at h
  cases q : t d s with
  | none => rw [q] at h; exact h.elim
  | some s1 => rw [q] at h; exact ⟨s1, rfl, h⟩
theorem posts_ofT {t : Tg} {k : Unit → M Fl} (h : PostS E (bind (ofT t d) k s) g W D₀) : ∃ s1, t d s = some s1 ∧ PostS E (k () s1) g W D₀ := by
  unfold Ea.bind ofT at h
  cases q : t d s with
  | none => rw [q] at h; exact h.elim
  | some s1 => rw [q] at h; exact ⟨s1, rfl, h⟩
theorem k_setT {tg : Expr} {gs : List Tg} {ks : List Nat} (h : KE E X e ma) (hg : KG E X tg ks (gT gs)) (hs : swapsWithSole [tg] e pos.line X.env = pure false := by rfl) (hw : swappedStores [tg] e X.env = pure none := by rfl)
    (h1 : (assignEach [tg] X.env).map (·.2) = [assign tg X.env] := by rfl) : KS E X (.Assign [tg] e pos) (setT gs ma) := fun W tk => by
  refine ps_mono (ps_asg (h W tk) hg hs hw h1) fun D σ H ⟨g, s, rep, post⟩ => ?_
  refine ⟨g, s, rep, (PostS.bind post).imp fun d s1 g1 H1 _ le1 eR1 rep1 post1 v rt => ?_⟩
  obtain ⟨d1, s2, g2, le2, eR2, rep2, rv, post2⟩ := posts_stl rep1 rt post1
  obtain ⟨s3, h3, post3⟩ := posts_ofT post2
  exact ⟨g2, s2, d1, s3, rep2, rv, h3, fun σ' rep' _ => post3 g2 σ' H1 (G.Le.refl _) rfl rep'⟩

/-! ### for, while -/
/-- the walked thing J yields the data xs -/
def WalkOk (E : En) (J : It) (g : G) (xs : List D) : Prop := ∀ g' s' σ' H', G.Le g g' → Rep E.k g' s' σ' H' → ∀ i : Nat,
  (∀ d, xs[i]? = some d → J.go i H' ∧ ∀ x H'', J.yld i H' x H'' → ∃ g'', G.Le g' g'' ∧ g''.R = g'.R ∧ Rep E.k g'' s' σ' H'' ∧ RepV E.k g'' d x) ∧ (xs[i]? = none → J.stop i H')
def TI (E : En) (m : M (List D)) (W : WX) : L2.TI := fun σ H R => ∃ g s, Rep E.k g s σ H ∧ PostE E (m s) g σ W fun xs _ g' H' => ∀ J, WalkOk E J g' xs → R J H'
def KI (E : En) (X : Cx) (tg e : Expr) (m : M (List D)) : Prop := ∀ W, Takes X W → PI X tg e (TI E m W)
theorem WalkOk.le {J : It} {xs : List D} (h : WalkOk E J g xs) (le : G.Le g g') : WalkOk E J g' xs := fun g2 s' σ' H' le2 rep => h g2 s' σ' H' (le.trans le2) rep
theorem pi_mono {tg e : Expr} {t t' : L2.TI} (h : PI X tg e t) (k : ∀ σ H R, t' σ H R → t σ H R) : PI X tg e t' := ⟨fun pins s σ H R I q => h.run pins s σ H R I (k σ H R q)⟩
theorem drop_get {α : Type} {xs : List α} {i : Nat} {x : α} {r : List α} (h : xs.drop i = x :: r) : xs[i]? = some x ∧ xs.drop (i + 1) = r := by
  have h1 : xs[i]? = (xs.drop i)[0]? := by rw [List.getElem?_drop]; simp
  rw [h] at h1
  refine ⟨h1, ?_⟩
  have : xs.drop (i + 1) = (xs.drop i).drop 1 := by rw [List.drop_drop]
  rw [this, h]
  rfl
theorem k_for {tg : Expr} {mi : M (List D)} {gm : Tg} {ks : List Nat} (hK : Kx E X) (hi : KI E X tg e mi) (hg : KG E X tg ks gm) (hb : KB E X sts m) (hs : ∀ x, foldedSetIterable e X.env x = pure x := by intro _; rfl) : KS E X (.For tg e sts [] pos) (forM mi gm m) := fun W tk => by
  refine ps_mono (ps_for hK.po hK.calm (hi W tk) hg (hb W tk) hs) fun D σ H ⟨g, s, rep, post⟩ => ?_
  refine ⟨g, s, rep, (PostS.bind post).imp fun xs s1 g1 H1 _ le1 eR1 rep1 post1 J hJ => ?_⟩
  refine ⟨fun i n σ' H' => n = (xs.drop i).length ∧ ∃ g' s', G.Le g1 g' ∧ g'.R = g1.R ∧ Rep E.k g' s' σ' H' ∧ PostS E (forL gm m (xs.drop i) s') g' W D, ⟨_, rfl, g1, s1, G.Le.refl _, rfl, rep1, post1⟩, ?_⟩
  rintro i n σ' H' ⟨rfl, g', s', le', eR', rep', post'⟩
  obtain ⟨w1, w2⟩ := hJ g' s' σ' H' le' rep' i
  cases hd : xs.drop i with
  | nil =>
    rw [hd] at post'
    have hn : xs[i]? = none := by
      have : xs.length - i = 0 := by rw [← List.length_drop, hd]; rfl
      exact List.getElem?_eq_none_iff.mpr (by omega)
    exact .inl ⟨w2 hn, post' g' σ' H' (G.Le.refl _) rfl rep'⟩
  | cons x r =>
    obtain ⟨hx, hr⟩ := drop_get hd
    rw [hd] at post'
    obtain ⟨w3, w4⟩ := w1 x hx
    refine .inr ⟨w3, fun σ2 H2 => ∃ g2 s2, G.Le g1 g2 ∧ g2.R = g1.R ∧ Rep E.k g2 s2 σ2 H2 ∧ PostS E (forL gm m r s2) g2 W D, fun σ2 H2 q => ⟨r.length, by simp, by rw [hr], by rw [hr]; exact q⟩, fun y H2 hy => ?_⟩
    obtain ⟨g2, le2, eR2, rep2, rv⟩ := w4 y H2 hy
    unfold forL at post'
    obtain ⟨s3, h3, post3⟩ := posts_ofT (PostS.le post' le2 eR2)
    refine ⟨g2, s', x, s3, rep2, rv, h3, fun σ3 rep3 _ => ?_⟩
    refine ⟨g2, s3, rep3, ?_⟩
    unfold Ea.bind at post3
    cases q : m s3 with
    | none => rw [q] at post3; exact post3
    | some z =>
      obtain ⟨rr, s4⟩ := z
      rw [q] at post3
      cases rr with
      | ex x => exact post3
      | ok f =>
        cases f with
        | nx => exact fun g4 σ4 H4 le4 eR4 rep4 => ⟨g4, s4, (le'.trans le2).trans le4, eR4.trans (eR2.trans eR'), rep4, PostS.le post3 le4 eR4⟩
        | ct => exact fun g4 σ4 H4 le4 eR4 rep4 => ⟨g4, s4, (le'.trans le2).trans le4, eR4.trans (eR2.trans eR'), rep4, PostS.le post3 le4 eR4⟩
        | bk => exact post3
        | rt d => exact post3
theorem k_while {mc : M Bool} (hK : Kx E X) (hc : KT E X e mc) (hb : KB E X sts m) : KS E X (.While e sts [] pos) (whM mc m) := fun W tk =>
  ps_mono (ps_while hK.po (hc W tk) (hb W tk)) fun D σ H ⟨g, s, rep, post⟩ => by
    refine ⟨fun n σ' H' => ∃ g' s', Rep E.k g' s' σ' H' ∧ PostS E (whL mc m n s') g' W D, ⟨_, g, s, rep, post⟩, ?_⟩
    rintro n σ' H' ⟨g', s', rep', post'⟩
    cases n with
    | zero => exact post'.elim
    | succ n =>
      unfold whL at post'
      refine ⟨g', s', rep', (PostS.bind post').imp fun b s1 g1 H1 _ le1 eR1 rep1 post1 => ?_⟩
      cases b with
      | false => exact post1 g1 σ' H1 (G.Le.refl _) rfl rep1
      | true =>
        refine ⟨fun σ2 H2 => ∃ g2 s2, Rep E.k g2 s2 σ2 H2 ∧ PostS E (whL mc m n s2) g2 W D, fun σ2 H2 q => ⟨n, by omega, q⟩, g1, s1, rep1, ?_⟩
        have post2 : PostS E (bind m (fun f => match f with
          | .nx => whL mc m n
          | .ct => whL mc m n
          | .bk => ret .nx
          | .rt d => ret (.rt d)) s1) g1 W D := post1
        unfold Ea.bind at post2
        cases q : m s1 with
        | none => rw [q] at post2; exact post2
        | some z =>
          obtain ⟨rr, s4⟩ := z
          rw [q] at post2
          cases rr with
          | ex x => exact post2
          | ok f =>
            cases f with
            | nx => exact fun g4 σ4 H4 le4 eR4 rep4 => ⟨g4, s4, rep4, PostS.le post2 le4 eR4⟩
            | ct => exact fun g4 σ4 H4 le4 eR4 rep4 => ⟨g4, s4, rep4, PostS.le post2 le4 eR4⟩
            | bk => exact post2
            | rt d => exact post2
end
end Ea

/-! E10: what is walked, things that are changed. -/
namespace Ea
open PySem L2

section
variable {E : En} {X : Cx} {g g' : G} {s : A} {σ : L2.St} {H H' : Hp} {W : WX} {Q : VK} {D₀ : Ends} {a b c d : D} {v x y : V} {e e1 e2 e3 tg : Expr} {es : List Expr} {st : Stmt} {sts sts2 : List Stmt} {ma mb mc : M D} {m n : M Fl} {ms : M (List D)} {pos p p2 : Pos}

/-! ### walks -/
/-- a list or a tuple that stays -/
def iSeq (K : PySem.W.Frag) (tl : L2.TE) : L2.TI := fun σ H R => tl σ H fun x H1 => ∃ a, x = .ref a ∧ (((∃ xs, SqL K H1 a xs) ∧ R (Itl K a) H1) ∨ ((∃ xs, SqT K H1 a xs) ∧ R (Itt K a) H1))
theorem pi_seq {l : Expr} {tl : L2.TE} (hl : PE X l tl) : PI X tg l (iSeq X.K tl) := by
  refine ⟨fun pins s σ H R I h => ?_⟩
  refine thn (hl.run pins s σ H _ I h) fun v s1 ⟨x, H1, I1, r1, q1⟩ => ?_
  obtain ⟨q, rfl, q1⟩ := q1
  obtain rfl : v = Value.ref q := r1
  rcases q1 with ⟨⟨xs, hq⟩, q1⟩ | ⟨⟨xs, hq⟩, q1⟩
  · obtain ⟨its, rv, pl, hz⟩ := I1.list hq
    refine wpAny_pyIter_list pl.isList ⟨s1.heap.objs.size, [s1.heap.objs.size], _, _, H1, rfl, I1.kept (t' := s1.toks) fun b o e => Heap.get?_push_of_some _ e, turn_list q _, ⟨_, Heap.get?_push_size _ rfl, rfl, rfl⟩, fun b hb => ?_, q1⟩
    obtain rfl : b = s1.heap.objs.size := by simpa using hb
    exact I1.fpOk (Nat.le_refl _) (I1.hok.fresh (Nat.le_refl _))
  · obtain ⟨its, rv, pl, hz⟩ := I1.tuple hq
    refine wpAny_pyIter_tuple (show s1.heap.IsTuple q its.toArray from pl) ⟨s1.heap.objs.size, [s1.heap.objs.size], _, _, H1, rfl, I1.kept (t' := s1.toks) fun b o e => Heap.get?_push_of_some _ e, turn_tuple q _, ⟨_, Heap.get?_push_size _ rfl, rfl, rfl⟩, fun b hb => ?_, q1⟩
    obtain rfl : b = s1.heap.objs.size := by simpa using hb
    exact I1.fpOk (Nat.le_refl _) (I1.hok.fresh (Nat.le_refl _))
theorem rvs_none {xs : List D} {vs : List V} {i : Nat} (h : RepVs E.k g xs vs) (e : xs[i]? = none) : vs.length ≤ i := by
  rw [rvs_len h]
  exact List.getElem?_eq_none_iff.mp e
theorem walk_lst {xs : List D} {vs : List V} {q : Addr} (h1 : SqL E.K g.F q vs) (h2 : RepVs E.k g xs vs) : WalkOk E (Itl E.K q) g xs := fun g' s' σ' H' le rep i => by
  have hq : SqL E.K H' q vs := rep.fH.seq (le.F.seq h1)
  refine ⟨fun d hd => ?_, fun hn => ⟨vs, hq, rvs_none h2 hn⟩⟩
  obtain ⟨v, e1, e2⟩ := rvs_get h2 hd
  refine ⟨⟨vs, v, hq, e1⟩, fun x H'' hy => ?_⟩
  obtain ⟨rfl, hx⟩ := hy
  have ex := hx vs hq
  rw [e1] at ex
  cases ex
  exact ⟨g', G.Le.refl _, rfl, rep, e2.mono le⟩
theorem walk_tup {xs : List D} {vs : List V} {q : Addr} (h1 : SqT E.K g.F q vs) (h2 : RepVs E.k g xs vs) : WalkOk E (Itt E.K q) g xs := fun g' s' σ' H' le rep i => by
  have hq : SqT E.K H' q vs := same_seqT rep.fH (same_seqT le.F h1)
  refine ⟨fun d hd => ?_, fun hn => ⟨vs, hq, rvs_none h2 hn⟩⟩
  obtain ⟨v, e1, e2⟩ := rvs_get h2 hd
  refine ⟨⟨vs, v, hq, e1⟩, fun x H'' hy => ?_⟩
  obtain ⟨rfl, hx⟩ := hy
  have ex := hx vs hq
  rw [e1] at ex
  cases ex
  exact ⟨g', G.Le.refl _, rfl, rep, e2.mono le⟩
theorem post_opt {α β : Type} {o : Option α} {k : α → M β} {P : β → A → G → Hp → Prop} (h : PostE E (bind (opt o) k s) g σ W P) : ∃ z, o = some z ∧ PostE E (k z s) g σ W P := by
  cases o with
  | none => exact h.elim
  | some z => exact ⟨z, rfl, h⟩
theorem post_opt1 {α : Type} {o : Option α} {P : α → A → G → Hp → Prop} (h : PostE E (opt o s) g σ W P) : ∃ z, o = some z ∧ PostE E (ret z s) g σ W P := by
  cases o with
  | none => exact h.elim
  | some z => exact ⟨z, rfl, h⟩
theorem ki_seq (hK : Kx E X) (h : KE E X e ma) : KI E X tg e (walkM ma) := fun W tk =>
  pi_mono (pi_seq (h W tk)) fun σ H R ⟨g, s, rep, post⟩ => by
    refine ⟨g, s, rep, (PostE.bind post).imp fun d s1 g1 H1 _ le1 eR1 rep1 post1 v rt => ?_⟩
    obtain ⟨d1, s2, g2, le2, eR2, rep2, rv, post2⟩ := post_stl rep1 rt post1
    obtain ⟨xs, hx, post3⟩ := post_opt1 post2
    rw [hK.K]
    unfold itemsD at hx
    split at hx
    · cases hx
      obtain ⟨q, vs, rfl, h1, h2, _⟩ := rdc_tup rep2 (RepV.rdc rep2 rv)
      unfold RepV at rv
      obtain ⟨q', vs', e', h1', h2'⟩ := rv
      cases e'
      exact ⟨q, rfl, .inr ⟨⟨vs, h1⟩, post3 g2 H1 (G.Le.refl _) rfl rep2 _ (walk_tup h1'.1 h2')⟩⟩
    · cases hx
      unfold RepV at rv
      obtain ⟨q', vs', rfl, h1', h2'⟩ := rv
      exact ⟨q', rfl, .inl ⟨⟨vs', rep2.fH.seq h1'⟩, post3 g2 H1 (G.Le.refl _) rfl rep2 _ (walk_lst h1' h2')⟩⟩
    · cases hx
theorem rng_get {lo hi : Int} {i : Nat} : (rngD lo hi)[i]? = if i < (hi - lo).toNat then some (.int (lo + (i : Int))) else none := by
  unfold rngD
  rw [List.getElem?_map]
  by_cases h : i < (hi - lo).toNat
  · rw [if_pos h, List.getElem?_range h]; rfl
  · rw [if_neg h, List.getElem?_eq_none (by simpa using h)]; rfl
theorem walk_rng {lo hi : Int} : WalkOk E (Itr lo (hi - lo).toNat) g (rngD lo hi) := fun g' s' σ' H' le rep i => by
  rw [rng_get]
  refine ⟨fun d hd => ?_, fun hn => ?_⟩
  · split at hd
    · rename_i hi'
      cases hd
      refine ⟨hi', fun x H'' hy => ?_⟩
      obtain ⟨rfl, rfl⟩ := hy
      exact ⟨g', G.Le.refl _, rfl, rep, rfl⟩
    · cases hd
  · split at hn
    · cases hn
    · rename_i hi'
      exact Nat.le_of_not_lt hi'
theorem ki_rng1 (hg : Gl X "range") (hm : X.mg "range" = none) (h : KA E X [e] ms) (hs : starEach [e] X.env = [(false, eval e X.env)] := by rfl) : KI E X tg (.Call (.Name "range" p) [e] [] pos) (rng1 ms) := fun W tk =>
  pi_mono (pi_range1 hg hm (h W tk) hs) fun σ H R ⟨g, s, rep, post⟩ => by
    refine ⟨g, s, rep, (PostE.bind post).imp fun ds s1 g1 H1 _ le1 eR1 rep1 post1 vs rt => ?_⟩
    split at post1
    · rename_i k _
      obtain ⟨hb, post2⟩ := post_need post1
      have hb' := of_decide_eq_true hb
      unfold RepTs at rt
      obtain ⟨w, r, rfl, h1, h2⟩ := rt
      unfold RepTs at h2
      subst h2
      have h1' : RepV E.k g1 (.int k) w := h1
      obtain rfl := h1'
      refine ⟨k, rfl, hb'.1, hb'.2, ?_⟩
      have ek : k.toNat = (k - 0).toNat := by rw [Int.sub_zero]
      rw [ek]
      exact post2 g1 H1 (G.Le.refl _) rfl rep1 _ walk_rng
    · exact post1.elim
theorem ki_rng2 (hg : Gl X "range") (hm : X.mg "range" = none) (h : KA E X [e, e2] ms) (hs : starEach [e, e2] X.env = [(false, eval e X.env), (false, eval e2 X.env)] := by rfl) (hs2 : starEach [e2] X.env = [(false, eval e2 X.env)] := by rfl) :
    KI E X tg (.Call (.Name "range" p) [e, e2] [] pos) (rng2 ms) := fun W tk =>
  pi_mono (pi_range2 hg hm (h W tk) hs hs2) fun σ H R ⟨g, s, rep, post⟩ => by
    refine ⟨g, s, rep, (PostE.bind post).imp fun ds s1 g1 H1 _ le1 eR1 rep1 post1 vs rt => ?_⟩
    split at post1
    · rename_i k l _
      obtain ⟨hb, post2⟩ := post_need post1
      rw [Bool.and_eq_true] at hb
      have hb1 := of_decide_eq_true hb.1
      have hb2 := of_decide_eq_true hb.2
      unfold RepTs at rt
      obtain ⟨w, r, rfl, h1, h2⟩ := rt
      unfold RepTs at h2
      obtain ⟨w2, r2, rfl, h3, h4⟩ := h2
      unfold RepTs at h4
      subst h4
      have h1' : RepV E.k g1 (.int k) w := h1
      obtain rfl := h1'
      have h3' : RepV E.k g1 (.int l) w2 := h3
      obtain rfl := h3'
      exact ⟨k, l, rfl, ⟨hb1.1, hb1.2, hb2.1, hb2.2⟩, post2 g1 H1 (G.Le.refl _) rfl rep1 _ walk_rng⟩
    · exact post1.elim

/-! ### things that are changed -/
theorem at_ptr (rep : Rep E.k g s σ H) (rt : RepT E.k g σ d v) (hd : deref d s = some c) {c' : D} {s' : A} (hu : upC d c' s = some (.ok (), s')) : ∃ q o, v = .ref q ∧ H q = some o ∧ ObjR E.k g o c ∧ ∀ o', ObjR E.k g o' c' → Rep E.k g s' σ (upd H q o') := by
  cases d with
  | own i =>
    obtain ⟨q, rfl, hq⟩ := rt
    unfold upC at hu
    dsimp only at hu
    unfold deref at hd
    dsimp only at hd
    split at hu
    · rename_i c0 hc
      cases hu
      rw [hc] at hd
      cases hd
      obtain ⟨q', o, h1, h2, h3, _⟩ := rep.own i _ hc
      rw [hq] at h1; cases h1
      exact ⟨q, o, rfl, h2, h3, fun o' ho' => rep.setOwn hc hq ho'⟩
    · cases hu
  | ref i =>
    have rt' : RepV E.k g (.ref i) v := rt
    unfold RepV at rt'
    obtain ⟨q, h1, rfl⟩ := rt'
    unfold upC at hu
    dsimp only at hu
    split at hu
    · rename_i c0 hc
      cases hu
      have hd' : s.st[i]? = some c := hd
      obtain ⟨o, h2, h3⟩ := rep.st i q c h1 hd'
      exact ⟨q, o, rfl, h2, h3, fun o' ho' => rep.setSt h1 ho'⟩
    · cases hu
  | _ => cases hu
/-- a method's rule by data -/
def Sopm (E : En) (f : D → List D → Option (D × D)) (r : V → List V → Hp → VK → Prop) : Prop := ∀ (g : G) (H : Hp) (q : Addr) (o : HO) (c c' d : D) (args : List D) (vs : List V) (Q : VK), H q = some o → ObjR E.k g o c → RepVs E.k g args vs → f c args = some (c', d) →
  (∀ o' v, ObjR E.k g o' c' → RepV E.k g d v → Q v (upd H q o')) → r (.ref q) vs H Q
theorem post_mutA {f : D → List D → Option (D × D)} {ds : List D} {vs : List V} {α : Type} {k : D → M α} {P : α → A → G → Hp → Prop} (rep : Rep E.k g s σ H) (rt : RepT E.k g σ d v) (rs : RepVs E.k g ds vs) (h : PostE E (bind (mutA f d ds) k s) g σ W P) :
    ∃ q o c c' z s', v = .ref q ∧ H q = some o ∧ ObjR E.k g o c ∧ f c ds = some (c', z) ∧ PostE E (k z s') g σ W P ∧ ∀ o', ObjR E.k g o' c' → Rep E.k g s' σ (upd H q o') := by
  unfold Ea.bind mutA at h
  cases e1 : deref d s with
  | none => rw [e1] at h; exact h.elim
  | some c =>
    rw [e1] at h
    dsimp only at h
    cases e2 : f c ds with
    | none => rw [e2] at h; exact h.elim
    | some z =>
      obtain ⟨c', z⟩ := z
      rw [e2] at h
      dsimp only at h
      unfold Ea.bind at h
      cases e3 : upC d c' s with
      | none => rw [e3] at h; exact h.elim
      | some w =>
        obtain ⟨rr, s'⟩ := w
        rw [e3] at h
        cases rr with
        | ok u =>
          obtain ⟨q, o, h1, h2, h3, h4⟩ := at_ptr rep rt e1 (s' := s') e3
          exact ⟨q, o, c, c', z, s', h1, h2, h3, e2, h, h4⟩
        | ex x =>
          exfalso
          unfold upC at e3
          split at e3
          · split at e3 <;> cases e3
          · split at e3 <;> cases e3
          · cases e3
theorem post_isT {α : Type} {ty : D → Bool} {k : Unit → M α} {P : α → A → G → Hp → Prop} (h : PostE E (bind (isT ty d) k s) g σ W P) : ∃ c, deref d s = some c ∧ ty c = true ∧ PostE E (k () s) g σ W P := by
  unfold Ea.bind isT at h
  cases e1 : deref d s with
  | none => rw [e1] at h; exact h.elim
  | some c =>
    rw [e1] at h
    dsimp only at h
    by_cases hb : ty c = true
    · rw [if_pos hb] at h; exact ⟨c, rfl, hb, h⟩
    · rw [if_neg hb] at h; exact h.elim
/-- what the model asks of the type -/
def Tyk (E : En) (ty : D → Bool) (T : String) : Prop := ∀ (g : G) (H : Hp) (c : D) (v : V), ty c = true → RdC E g H c v → tyV E.K T v H
theorem tyk_l : Tyk E isL "list" := fun g H c v h r => by
  unfold isL at h
  split at h
  · obtain ⟨q, vs, rfl, h1, _⟩ := r
    exact .inl ⟨rfl, vs, h1⟩
  · cases h
section
variable {nm : Str} {T id : String} {ty : D → Bool} {f : D → List D → Option (D × D)} {r : V → List V → Hp → VK → Prop}
theorem k_mut (hK : Kx E X) (pa : PlainAttrs T) (slot : Slot T nm id) (hty : typeOf (.builtin id) = pure (.type "method_descriptor")) (hm : MtR X id r) (hs : Sopm E f r) (hT : Tyk E ty T) (ho : KE E X e1 ma) (ha : KA E X (e :: es) ms)
    (hbase : attributeBase e1 nm X.env (eval e1 X.env) = eval e1 X.env := by rfl)
    (hfew : ((backTo pos (starEach (e :: es) X.env)).all (fun x => !x.1) && (backToKw pos (keywordEach [] X.env)).all (fun x => x.1.isSome)
      && decide ((e :: es).length + ([] : List Keyword).length + (if ([] : List Keyword).isEmpty then 0 else 1) < 30)) = true := by rfl)
    (hline : (p.endLine == pos.line) = true := by rfl) (hst : starEach (e :: es) X.env = (false, eval e X.env) :: starEach es X.env := by rfl) (hplain : (backTo pos (starEach es X.env)).any (·.1) = false := by rfl) :
    KE E X (.Call (.Attribute e1 nm p) (e :: es) [] pos) (mutM ty f ma ms) := fun W tk =>
  pe_mono (pe_bm pa slot hty hm (ho W tk) (ha W tk) hbase hfew hline hst hplain) fun σ H Q ⟨g, s, rep, post⟩ => by
    refine ⟨g, s, rep, (PostE.bind post).imp fun d s1 g1 H1 _ le1 eR1 rep1 post1 v rt => ?_⟩
    obtain ⟨c0, hc0, hty0, post2⟩ := post_isT post1
    refine ⟨by rw [hK.K]; exact hT g1 H1 c0 v hty0 (deref_ok rep1 rt hc0), ?_⟩
    refine ⟨g1, s1, rep1, (PostE.bind post2).imp fun ds s2 g2 H2 _ le2 eR2 rep2 post3 vs rts => ?_⟩
    obtain ⟨d1, s3, g3, le3, eR3, rep3, rv, post4⟩ := post_stls rep2 rts post3
    have post5 : PostE E (bind (mutA f d d1) ret s3) g3 σ W (fun d _ g' H' => ∀ v, RepT E.k g' σ d v → Q v H') := by
      have e0 : bind (mutA f d d1) ret s3 = mutA f d d1 s3 := by
        unfold Ea.bind
        cases mutA f d d1 s3 with
        | none => rfl
        | some z =>
          obtain ⟨rr, s'⟩ := z
          cases rr <;> rfl
      rw [e0]
      exact post4
    obtain ⟨q, o, c, c', z, s', rfl, h2, h3, h4, post6, h5⟩ := post_mutA rep3 ((rt.mono le2).mono le3) rv post5
    exact hs g3 H2 q o c c' z d1 vs Q h2 h3 rv h4 fun o' w ho' hw => post6 g3 _ (G.Le.refl _) rfl (h5 o' ho') w hw.t
theorem k_mut0 (hK : Kx E X) (pa : PlainAttrs T) (slot : Slot T nm id) (hty : typeOf (.builtin id) = pure (.type "method_descriptor")) (hm : MtR X id r) (hs : Sopm E f r) (hT : Tyk E ty T) (ho : KE E X e1 ma)
    (hbase : attributeBase e1 nm X.env (eval e1 X.env) = eval e1 X.env := by rfl) (hline : (p.endLine == pos.line) = true := by rfl) :
    KE E X (.Call (.Attribute e1 nm p) [] [] pos) (mutM ty f ma nilM) := fun W tk =>
  pe_mono (pe_bm0 pa slot hty hm (ho W tk) hbase hline) fun σ H Q ⟨g, s, rep, post⟩ => by
    refine ⟨g, s, rep, (PostE.bind post).imp fun d s1 g1 H1 _ le1 eR1 rep1 post1 v rt => ?_⟩
    obtain ⟨c0, hc0, hty0, post2⟩ := post_isT post1
    refine ⟨by rw [hK.K]; exact hT g1 H1 c0 v hty0 (deref_ok rep1 rt hc0), ?_⟩
    have post5 : PostE E (bind (mutA f d []) ret s1) g1 σ W (fun d _ g' H' => ∀ v, RepT E.k g' σ d v → Q v H') := by
      have e0 : bind (mutA f d []) ret s1 = mutA f d [] s1 := by
        unfold Ea.bind
        cases mutA f d [] s1 with
        | none => rfl
        | some z =>
          obtain ⟨rr, s'⟩ := z
          cases rr <;> rfl
      rw [e0]
      exact post2
    obtain ⟨q, o, c, c', z, s', rfl, h2, h3, h4, post6, h5⟩ := post_mutA rep1 rt (vs := []) rvs_nil post5
    exact hs g1 H1 q o c c' z [] [] Q h2 h3 rvs_nil h4 fun o' w ho' hw => post6 g1 _ (G.Le.refl _) rfl (h5 o' ho') w hw.t
end
end
end Ea

/-! E11: the methods of lists, stores, two names at once, comprehensions. -/
namespace Ea
open PySem L2

section
variable {E : En} {X : Cx} {g g' : G} {s : A} {σ : L2.St} {H H' : Hp} {W : WX} {Q : VK} {D₀ : Ends} {a b c d : D} {v x y : V} {e e1 e2 e3 tg : Expr} {es : List Expr} {st : Stmt} {sts sts2 : List Stmt} {ma mb mc : M D} {m n : M Fl} {ms : M (List D)} {pos p p2 : Pos}

theorem rvs_inv1 {vs : List V} (h : RepVs E.k g [a] vs) : ∃ v, vs = [v] ∧ RepV E.k g a v := by
  unfold RepVs at h
  obtain ⟨v, r, rfl, h1, h2⟩ := h
  unfold RepVs at h2
  subst h2
  exact ⟨v, rfl, h1⟩
theorem rvs_inv0 {vs : List V} (h : RepVs E.k g [] vs) : vs = [] := by
  unfold RepVs at h
  exact h
theorem rvs_inv2 {vs : List V} (h : RepVs E.k g [a, b] vs) : ∃ v w, vs = [v, w] ∧ RepV E.k g a v ∧ RepV E.k g b w := by
  unfold RepVs at h
  obtain ⟨v, r, rfl, h1, h2⟩ := h
  obtain ⟨w, rfl, h3⟩ := rvs_inv1 h2
  exact ⟨v, w, rfl, h1, h3⟩
theorem sopm_app : Sopm E appF rAppend := fun g H q o c c' d args vs Q ho hd rv h k => by
  unfold appF at h
  split at h
  · split at h
    · rename_i hz
      cases h
      obtain ⟨ws, rfl, hw⟩ := hd
      obtain ⟨v, rfl, hv⟩ := rvs_inv1 rv
      exact ⟨q, ws, v, rfl, rfl, ho, by rw [rvs_len hw, line]; exact of_decide_eq_true hz, k _ _ ⟨_, rfl, rvs_app hw (rvs_one hv)⟩ rfl⟩
    · cases h
  · cases h
theorem rvs_dropLast {xs : List D} {vs : List V} (h : RepVs E.k g xs vs) : RepVs E.k g xs.dropLast vs.dropLast := by
  rw [List.dropLast_eq_take, List.dropLast_eq_take, rvs_len h]
  exact rvs_take _ h
theorem rvs_erase : ∀ {xs : List D} {vs : List V} (i : Nat), RepVs E.k g xs vs → RepVs E.k g (xs.eraseIdx i) (vs.eraseIdx i)
  | [], _, _, h => by rw [rvs_inv0 h]; exact rvs_nil
  | x :: xs, _, 0, h => by
    unfold RepVs at h
    obtain ⟨v, r, rfl, h1, h2⟩ := h
    exact h2
  | x :: xs, _, i + 1, h => by
    unfold RepVs at h
    obtain ⟨v, r, rfl, h1, h2⟩ := h
    exact rvs_cons h1 (rvs_erase i h2)
theorem sopm_pop : Sopm E popF (fun x vs H Q => rPop x vs H Q ∨ rPopAt x vs H Q) := fun g H q o c c' d args vs Q ho hd rv h k => by
  unfold popF at h
  split at h
  · rename_i xs
    obtain ⟨ws, rfl, hw⟩ := hd
    obtain rfl := rvs_inv0 rv
    cases e : xs[xs.length - 1]? with
    | none => rw [e] at h; cases h
    | some x =>
      rw [e] at h; cases h
      obtain ⟨v, h1, h2⟩ := rvs_get hw e
      exact .inl ⟨q, ws, v, rfl, rfl, ho, by rw [rvs_len hw]; exact h1, k _ _ ⟨_, rfl, rvs_dropLast hw⟩ h2⟩
  · rename_i xs i
    split at h
    · rename_i hz
      have hz' := of_decide_eq_true hz
      obtain ⟨ws, rfl, hw⟩ := hd
      obtain ⟨vi, rfl, hv⟩ := rvs_inv1 rv
      obtain rfl : vi = .int _ := hv
      cases e : xs[i.toNat]? with
      | none => rw [e] at h; cases h
      | some x =>
        rw [e] at h; cases h
        obtain ⟨v, h1, h2⟩ := rvs_get hw e
        refine .inr ⟨q, ws, i, i.toNat, v, rfl, rfl, ho, by omega, by omega, ?_, h1, k _ _ ⟨_, rfl, rvs_erase _ hw⟩ h2⟩
        have := (ixN_seq (n := ws.length) (i := i) (j := i.toNat) (by
          unfold ixN
          rw [if_pos hz'.1, if_pos (by rw [rvs_len hw]; exact hz'.2.1)])).1
        exact this
    · cases h
  · cases h
theorem sopm_ins : Sopm E insF (fun x vs H Q => ∃ (l : Addr) (xs : List V) (i : Int) (y : V), x = .ref l ∧ vs = [.int i, y] ∧ H l = some (.lst xs) ∧ xs.length < sizeLine ∧ 0 ≤ i ∧ i < 2 ^ 63 ∧ Q .non (upd H l (.lst (xs.take i.toNat ++ [y] ++ xs.drop i.toNat)))) :=
  fun g H q o c c' d args vs Q ho hd rv h k => by
  unfold insF at h
  split at h
  · split at h
    · rename_i hz
      have hz' := of_decide_eq_true hz
      cases h
      obtain ⟨ws, rfl, hw⟩ := hd
      obtain ⟨vi, vy, rfl, hi, hy⟩ := rvs_inv2 rv
      obtain rfl : vi = .int _ := hi
      exact ⟨q, ws, _, vy, rfl, rfl, ho, by rw [rvs_len hw, line]; exact hz'.1, hz'.2.1, by omega, k _ _ ⟨_, rfl, rvs_app (rvs_app (rvs_take _ hw) (rvs_one hy)) (rvs_drop _ hw)⟩ rfl⟩
    · cases h
  · cases h
section
variable {f : D → List D → Option (D × D)}
theorem k_app (hK : Kx E X) (ho : KE E X e1 ma) (ha : KA E X [e] ms) (hbase : attributeBase e1 "append" X.env (eval e1 X.env) = eval e1 X.env := by rfl)
    (hfew : ((backTo pos (starEach [e] X.env)).all (fun x => !x.1) && (backToKw pos (keywordEach [] X.env)).all (fun x => x.1.isSome)
      && decide (([e] : List Expr).length + ([] : List Keyword).length + (if ([] : List Keyword).isEmpty then 0 else 1) < 30)) = true := by rfl)
    (hline : (p.endLine == pos.line) = true := by rfl) (hst : starEach [e] X.env = (false, eval e X.env) :: starEach [] X.env := by rfl) (hplain : (backTo pos (starEach [] X.env)).any (·.1) = false := by rfl) :
    KE E X (.Call (.Attribute e1 "append" p) [e] [] pos) (mutM isL appF ma ms) :=
  k_mut hK PySem.F.plainAttrs_list PySem.F.slot_list_append PySem.F.type_list_append mt_append sopm_app tyk_l ho ha hbase hfew hline hst hplain
theorem k_popAt (hK : Kx E X) (ho : KE E X e1 ma) (ha : KA E X [e] ms) (hbase : attributeBase e1 "pop" X.env (eval e1 X.env) = eval e1 X.env := by rfl)
    (hfew : ((backTo pos (starEach [e] X.env)).all (fun x => !x.1) && (backToKw pos (keywordEach [] X.env)).all (fun x => x.1.isSome)
      && decide (([e] : List Expr).length + ([] : List Keyword).length + (if ([] : List Keyword).isEmpty then 0 else 1) < 30)) = true := by rfl)
    (hline : (p.endLine == pos.line) = true := by rfl) (hst : starEach [e] X.env = (false, eval e X.env) :: starEach [] X.env := by rfl) (hplain : (backTo pos (starEach [] X.env)).any (·.1) = false := by rfl) :
    KE E X (.Call (.Attribute e1 "pop" p) [e] [] pos) (mutM isL popF ma ms) :=
  k_mut hK PySem.F.plainAttrs_list PySem.F.slot_list_pop PySem.F.type_list_pop (MtR.or mt_pop mt_popAt) sopm_pop tyk_l ho ha hbase hfew hline hst hplain
theorem k_pop (hK : Kx E X) (ho : KE E X e1 ma) (hbase : attributeBase e1 "pop" X.env (eval e1 X.env) = eval e1 X.env := by rfl) (hline : (p.endLine == pos.line) = true := by rfl) :
    KE E X (.Call (.Attribute e1 "pop" p) [] [] pos) (mutM isL popF ma nilM) :=
  k_mut0 hK PySem.F.plainAttrs_list PySem.F.slot_list_pop PySem.F.type_list_pop (MtR.or mt_pop mt_popAt) sopm_pop tyk_l ho hbase hline
theorem k_ins (hK : Kx E X) (ho : KE E X e1 ma) (ha : KA E X (e :: es) ms) (hbase : attributeBase e1 "insert" X.env (eval e1 X.env) = eval e1 X.env := by rfl)
    (hfew : ((backTo pos (starEach (e :: es) X.env)).all (fun x => !x.1) && (backToKw pos (keywordEach [] X.env)).all (fun x => x.1.isSome)
      && decide ((e :: es).length + ([] : List Keyword).length + (if ([] : List Keyword).isEmpty then 0 else 1) < 30)) = true := by rfl)
    (hline : (p.endLine == pos.line) = true := by rfl) (hst : starEach (e :: es) X.env = (false, eval e X.env) :: starEach es X.env := by rfl) (hplain : (backTo pos (starEach es X.env)).any (·.1) = false := by rfl) :
    KE E X (.Call (.Attribute e1 "insert" p) (e :: es) [] pos) (mutM isL insF ma ms) :=
  k_mut hK PySem.F.plainAttrs_list PySem.F.slot_list_insert PySem.F.type_list_insert mt_insert sopm_ins tyk_l ho ha hbase hfew hline hst hplain
end

/-! ### a[b] = c -/
def rSetD : V → V → V → Hp → (Hp → Prop) → Prop := fun o i v H Q => ∃ a H', o = .ref a ∧ DPut H a i v H' ∧ Q H'
theorem set_dict (hu : X.A.units + 1 < cLine) : PSet X rSetD := by
  intro pins s σ H o i v ov iv u Q I ro ri rv h
  obtain ⟨a, H', rfl, hp, q⟩ := h
  obtain rfl : ov = Value.ref a := ro
  exact d_setItem hu I hp ri rv fun s3 I3 => ⟨H', I3, q⟩
def rSetA : V → V → V → Hp → (Hp → Prop) → Prop := fun o i v H Q => rSetL o i v H Q ∨ rSetD o i v H Q
theorem set_any (hu : X.A.units + 1 < cLine) : PSet X rSetA := by
  intro pins s σ H o i v ov iv u Q I ro ri rv h
  rcases h with h | h
  · exact set_list pins s σ H o i v ov iv u Q I ro ri rv h
  · exact set_dict hu pins s σ H o i v ov iv u Q I ro ri rv h
theorem any_look {k : Key} {es : List D} {kvs : List (Key × V)} (h : RepEs E.k g es kvs) : (kvs.any fun kv => decide (kv.1 = k)) = (lookD k es).isSome := by
  induction es generalizing kvs with
  | nil =>
    unfold RepEs at h
    subst h
    rfl
  | cons e es ih =>
    unfold RepEs at h
    obtain ⟨k1, v, r, rfl, h1, h2⟩ := h
    obtain ⟨b, rfl, hb⟩ := ren_of h1
    rw [List.any_cons, ih h2]
    have el : lookD k (.tup [keyD k1, b] :: es) = if k1 = k then some b else lookD k es := by
      show (if (keyD k1).key = some k then some b else lookD k es) = _
      by_cases hk : k1 = k
      · rw [if_pos hk, if_pos (keyD_inj.mpr hk)]
      · rw [if_neg hk, if_neg (fun q => hk (keyD_inj.mp q))]
    rw [el]
    by_cases hk : k1 = k
    · simp [hk]
    · simp [hk]
theorem put_rep {k : Key} (hd : RepV E.k g d v) {es : List D} {kvs : List (Key × V)} (h : RepEs E.k g es kvs) : RepEs E.k g (putD es k d) (putK kvs k v) := by
  unfold putD putK
  rw [any_look h]
  split
  · rename_i hz
    clear hz
    induction es generalizing kvs with
    | nil =>
      unfold RepEs at h
      subst h
      simp [RepEs]
    | cons e es ih =>
      unfold RepEs at h
      obtain ⟨k1, w, r, rfl, h1, h2⟩ := h
      obtain ⟨b, rfl, hb⟩ := ren_of h1
      rw [List.map_cons, List.map_cons]
      unfold RepEs
      dsimp only
      by_cases hk : k1 = k
      · rw [if_pos (keyD_inj.mpr hk), if_pos hk]
        exact ⟨k1, v, _, rfl, by unfold RepEn; exact ⟨rfl, hd⟩, ih h2⟩
      · rw [if_neg (fun q => hk (keyD_inj.mp q)), if_neg hk]
        exact ⟨k1, w, _, rfl, by unfold RepEn; exact ⟨rfl, hb⟩, ih h2⟩
  · rename_i hz
    clear hz
    induction es generalizing kvs with
    | nil =>
      unfold RepEs at h
      subst h
      show RepEs E.k g [D.tup [keyD k, d]] [(k, v)]
      unfold RepEs
      exact ⟨k, v, [], rfl, by unfold RepEn; exact ⟨rfl, hd⟩, by simp [RepEs]⟩
    | cons e es ih =>
      unfold RepEs at h
      obtain ⟨k1, w, r, rfl, h1, h2⟩ := h
      show RepEs E.k g (e :: (es ++ _)) ((k1, w) :: (r ++ _))
      unfold RepEs
      exact ⟨k1, w, _, rfl, h1, ih h2⟩
theorem k_setIx (hK : Kx E X) (hu : X.A.units + 1 < cLine) (hv : KE E X e ma) (ho : KE E X e1 mb) (hi : KE E X e2 mc) (hs : swapsWithSole [.Subscript e1 e2 p] e pos.line X.env = pure false := by rfl) (hw : swappedStores [.Subscript e1 e2 p] e X.env = pure none := by rfl)
    (h1 : (assignEach [.Subscript e1 e2 p] X.env).map (·.2) = [assign (.Subscript e1 e2 p) X.env] := by rfl)
    (ha : ∀ v, assign (.Subscript e1 e2 p) X.env v = (do
      let ov ← holding [v] (eval e1 X.env)
      let iv ← holding [v, ov] (eval e2 X.env)
      standAt p
      holding [v, ov, iv] (setItem ov iv v)
      release [v, ov, iv] []) := by intro _; rfl) : KS E X (.Assign [.Subscript e1 e2 p] e pos) (setIx mb mc ma) := fun W tk =>
  ps_mono (ps_asg (hv W tk) (pg_sub (ho W tk) (hi W tk) (set_any hu) ha) hs hw h1) fun D σ H ⟨g, s, rep, post⟩ => by
    refine ⟨g, s, rep, (PostS.bind post).imp fun d s1 g1 H1 _ le1 eR1 rep1 post1 v rt => ?_⟩
    refine ⟨g1, s1, rep1, (PostS.bind post1).imp fun d2 s2 g2 H2 _ le2 eR2 rep2 post2 v2 rt2 => ?_⟩
    refine ⟨g2, s2, rep2, (PostS.bind post2).imp fun d3 s3 g3 H3 _ le3 eR3 rep3 post3 v3 rt3 => ?_⟩
    obtain ⟨d4, s4, g4, le4, eR4, rep4, rv4, post4⟩ := posts_stl rep3 ((rt.mono le2).mono le3) post3
    obtain ⟨d5, s5, g5, le5, eR5, rep5, rv5, post5⟩ := posts_stl rep4 (rt3.mono le4) post4
    obtain ⟨q, o, c, c', z, s', rfl, h2, h3, h4, post6, h5⟩ := post_mutA rep5 (((rt2.mono le3).mono le4).mono le5) (rvs_cons rv5 (rvs_one (rv4.mono le5))) (k := fun z => ret z) (P := fun z s' g' H' => D.nx σ H') (g := g5) (W := W) (by
      have h6 := PostS.bind (σ := σ) post5
      unfold PostE at h6
      unfold Ea.bind
      cases e6 : mutA setF d2 [d5, d4] s5 with
      | none => rw [e6] at h6; exact h6
      | some w =>
        obtain ⟨rr, s6⟩ := w
        rw [e6] at h6
        cases rr with
        | ok z => exact fun g' H' le eR rep' => h6 g' H' le eR rep' g' σ H' (G.Le.refl _) rfl rep'
        | ex x => exact h6)
    unfold setF at h4
    split at h4
    · rename_i xs i w hh
      cases hh
      cases ej : ixN xs.length i with
      | none => rw [ej] at h4; cases h4
      | some j =>
        rw [ej] at h4; cases h4
        obtain ⟨ws, rfl, hw'⟩ := h3
        obtain rfl : v3 = .int i := rv5
        exact .inl ⟨q, ws, i, j, rfl, rfl, h2, by rw [rvs_len hw']; exact ej, post6 g5 _ (G.Le.refl _) rfl (h5 _ ⟨_, rfl, rvs_set j (rv4.mono le5) hw'⟩)⟩
    · rename_i es k w hh
      cases hh
      cases ek : Ea.D.key d5 with
      | none => rw [ek] at h4; cases h4
      | some kk =>
        rw [ek] at h4
        have h4' : (if decide (es.length < 16777216) = true then some (Ea.D.dic (putD es kk d4), Ea.D.non) else none) = some (c', z) := h4
        split at h4'
        · rename_i hz
          cases h4'
          obtain ⟨kvs, rfl, hw'⟩ := h3
          have ed := key_of ek
          subst ed
          obtain rfl := rep_key rv5
          exact .inr ⟨q, _, rfl, .inl ⟨kvs, kk, h2, rfl, by rw [res_len hw', line]; exact of_decide_eq_true hz, rfl⟩, post6 g5 _ (G.Le.refl _) rfl (h5 _ ⟨_, rfl, put_rep (rv4.mono le5) hw'⟩)⟩
        · cases h4'
    · cases h4
end
end Ea

/-! E12: two names at once, comprehensions. -/
namespace Ea
open PySem L2

section
variable {E : En} {X : Cx} {g g' : G} {s : A} {σ σ' : L2.St} {H H' : Hp} {W : WX} {Q : VK} {D₀ : Ends} {a b c d : D} {v x y : V} {e e1 e2 e3 tg : Expr} {es : List Expr} {st : Stmt} {sts sts2 : List Stmt} {ma mb mc : M D} {m n : M Fl} {ms : M (List D)} {pos p p2 : Pos}

theorem wipeF_get {vs : List Nat} {fr : List Sl} {i : Nat} : (wipeF vs fr)[i]? = (fr[i]?).map fun x => if vs.contains i = true then .un else x := by
  unfold wipeF
  rw [List.getElem?_mapIdx]
theorem backF_get {vs : List Nat} {old fr : List Sl} {i : Nat} : (backF vs old fr)[i]? = (fr[i]?).map fun x => if vs.contains i = true then old.getD i .un else x := by
  unfold backF
  rw [List.getElem?_mapIdx]
theorem wipeF_some {vs : List Nat} {fr : List Sl} {i : Nat} {x : Sl} (h : (wipeF vs fr)[i]? = some x) (hx : x ≠ .un) : i ∉ vs ∧ fr[i]? = some x := by
  rw [wipeF_get] at h
  cases e : fr[i]? with
  | none => rw [e] at h; cases h
  | some z =>
    rw [e] at h
    have h' : (if vs.contains i = true then Sl.un else z) = x := Option.some.inj h
    split at h'
    · exact absurd h'.symm hx
    · rename_i hv
      subst h'
      exact ⟨fun q => hv (by simpa using q), rfl⟩
/-- the own names are forgotten -/
theorem Rep.wiped {vs : List Nat} (r : Rep E.k g s σ H) : Rep E.k g ⟨wipeF vs s.fr, s.st⟩ (wipe σ vs) H := by
  refine ⟨r.fH, r.rH, r.fr, ?_, fun i d h => ?_, fun i d h => ?_, fun i j d d' a h1 h2 h3 h4 => ?_, r.sl, r.st, r.sf, r.sn⟩ <;> (try dsimp only at *)
  · unfold wipeF
    rw [List.length_mapIdx, wipe_length]
    exact r.len
  · obtain ⟨h1, h2⟩ := wipeF_some h (by intro q; cases q)
    rw [wipe_get h1]
    exact r.val i d h2
  · obtain ⟨h1, h2⟩ := wipeF_some h (by intro q; cases q)
    rw [wipe_get h1]
    exact r.own i d h2
  · obtain ⟨k1, k2⟩ := wipeF_some h1 (by intro q; cases q)
    obtain ⟨k3, k4⟩ := wipeF_some h2 (by intro q; cases q)
    rw [wipe_get k1] at h3
    rw [wipe_get k3] at h4
    exact r.inj i j d d' a k2 k4 h3 h4
/-- the own names are as they were -/
theorem Rep.back {vs : List Nat} {g0 : G} {s0 : A} {H0 : Hp} (r0 : Rep E.k g0 s0 σ H0) (no : noOwn vs s0.fr = true) (le : G.Le g0 g) (r : Rep E.k g s (wipe σ vs) H) : Rep E.k g ⟨backF vs s0.fr s.fr, s.st⟩ σ H := by
  have hl : s.fr.length = σ.length := by
    have := r.len
    rw [wipe_length] at this
    exact this
  have low : ∀ {i : Nat} {z : Sl}, (backF vs s0.fr s.fr)[i]? = some z → z ≠ .un → (i ∈ vs ∧ s0.fr[i]? = some z) ∨ (i ∉ vs ∧ s.fr[i]? = some z) := fun {i z} h hz => by
    rw [backF_get] at h
    cases e : s.fr[i]? with
    | none => rw [e] at h; cases h
    | some y =>
      rw [e] at h
      have h' : (if vs.contains i = true then s0.fr.getD i .un else y) = z := Option.some.inj h
      split at h'
      · rename_i hv
        refine .inl ⟨by simpa using hv, ?_⟩
        rw [List.getD_eq_getElem?_getD] at h'
        cases e2 : s0.fr[i]? with
        | none => rw [e2] at h'; exact absurd h'.symm hz
        | some w => rw [e2] at h'; rw [← h']; rfl
      · rename_i hv
        exact .inr ⟨fun q => hv (by simpa using q), by rw [h']⟩
  have nown : ∀ {i : Nat} {d : D}, (backF vs s0.fr s.fr)[i]? = some (.own d) → i ∉ vs ∧ s.fr[i]? = some (.own d) := fun {i d} h => by
    rcases low h (by intro q; cases q) with ⟨h1, h2⟩ | h
    · exfalso
      have := List.all_eq_true.mp no i h1
      rw [h2] at this
      cases this
    · exact h
  refine ⟨r.fH, r.rH, r.fr, ?_, fun i d h => ?_, fun i d h => ?_, fun i j d d' a h1 h2 h3 h4 => ?_, r.sl, r.st, r.sf, r.sn⟩ <;> (try dsimp only at *)
  · unfold backF
    rw [List.length_mapIdx]
    exact hl
  · rcases low h (by intro q; cases q) with ⟨h1, h2⟩ | ⟨h1, h2⟩
    · obtain ⟨v, k1, k2⟩ := r0.val i d h2
      exact ⟨v, k1, k2.mono le⟩
    · obtain ⟨v, k1, k2⟩ := r.val i d h2
      rw [wipe_get h1] at k1
      exact ⟨v, k1, k2⟩
  · obtain ⟨h1, h2⟩ := nown h
    obtain ⟨a, o, k1, k2⟩ := r.own i d h2
    rw [wipe_get h1] at k1
    exact ⟨a, o, k1, k2⟩
  · obtain ⟨k1, k2⟩ := nown h1
    obtain ⟨k3, k4⟩ := nown h2
    exact r.inj i j d d' a k2 k4 (by rw [wipe_get k1]; exact h3) (by rw [wipe_get k3]; exact h4)
/-- what is held apart is changed -/
theorem Rep.reR {F R : Hp} {f : List Addr} {q : Addr} {o o' : HO} (r : Rep E.k ⟨F, upd R q o, f⟩ s σ H) : Rep E.k ⟨F, upd R q o', f⟩ s σ (upd H q o') := by
  obtain ⟨hH, hF, hf⟩ := Rep.at_R (g := ⟨F, R, f⟩) r
  dsimp only at hF hf
  have le : G.Le ⟨F, upd R q o, f⟩ ⟨F, upd R q o', f⟩ := ⟨Same.refl _, List.prefix_refl _⟩
  refine ⟨fun a u h => ?_, fun a u h => ?_, fun a u h => ?_, r.len, fun i d h => ?_, fun i d h => ?_, r.inj, r.sl, fun i a d h1 h2 => ?_, fun a h => ?_, r.sn⟩ <;> (try dsimp only at *)
  · rw [upd_ne (ne_of_none h hF)]; exact r.fH a u h
  · by_cases ha : a = q
    · subst ha
      rw [upd_same] at h ⊢; exact h
    · rw [upd_ne ha] at h ⊢
      exact r.rH a u (by dsimp only; rw [upd_ne ha]; exact h)
  · have ha : a ≠ q := ne_of_none h hF
    rw [upd_ne ha]
    have := r.fr a u h
    dsimp only at this
    rw [upd_ne ha] at this; exact this
  · obtain ⟨v, k1, k2⟩ := r.val i d h
    exact ⟨v, k1, k2.mono le⟩
  · obtain ⟨a, u, k1, k2, k3, k4⟩ := r.own i d h
    have ha : a ≠ q := (free_ne (g := ⟨F, R, f⟩) k4).1
    exact ⟨a, u, k1, by rw [upd_ne ha]; exact k2, k3.mono le, ⟨k4.F, by dsimp only; rw [upd_ne ha]; exact (free_ne (g := ⟨F, R, f⟩) k4).2.R, k4.f⟩⟩
  · obtain ⟨u, k1, k2⟩ := r.st i a d h1 h2
    have ha : a ≠ q := fun z => hf (by rw [← z]; exact List.mem_of_getElem? h1)
    exact ⟨u, by rw [upd_ne ha]; exact k1, k2.mono le⟩
  · obtain ⟨k1, k2⟩ := r.sf a h
    dsimp only at k1 k2
    have ha : a ≠ q := fun z => hf (by rw [← z]; exact h)
    rw [upd_ne ha] at k2 ⊢
    exact ⟨k1, k2⟩

theorem Kx.blk (hK : Kx E X) {s0 : Shared} {H0 : Hp} {sc : Scope} {ce : Env} {fp : List Addr} : Kx E (X.blk s0 H0 sc ce fp) := ⟨hK.K, hK.calm, hK.nd, hK.gu, hK.un, PassesOwn.never⟩
abbrev W0 : WX := fun _ _ _ _ => False
/-- in a comprehension's block -/
def Blk (E : En) (X : Cx) (sc : Scope) (P : Cx → Prop) : Prop := ∀ (s : Shared) (H : Hp) (C : Addr) (cl : List (Str × Addr)) (fp : List Addr), Kx E (X.blk s H sc (compEnvC sc cl C X.env) fp) → P (X.blk s H sc (compEnvC sc cl C X.env) fp)
def KTs (E : En) (X : Cx) (ifs : List Expr) (m : M Bool) : Prop := PTs X ifs (TT E m W0)
theorem kts_nil : KTs E X [] tYesM := ⟨fun pins s σ H Q I h => pts_nil.run pins s σ H Q I (by
  obtain ⟨g, s', rep, post⟩ := h
  exact post g H (G.Le.refl _) rfl rep)⟩
theorem kts_one {m : M Bool} (h : KT E X e m) : KTs E X [e] m := pts_one (h W0 takes0)
theorem comp_t {vs : List Nat} {mi : M (List D)} {gm : Tg} {ks : List Nat} {mt : M Bool} (hks' : ∀ i ∈ ks, i ∈ vs) (h : TF E (compM vs mi gm mt ma) W σ H Q) : tLc (TI E mi W) (TGm E ks gm) (TT E mt W0) (TE E ma W0) vs σ H Q := by
  obtain ⟨g, s, rep, post⟩ := h
  refine ⟨g, s, rep, (PostF.bind post).imp fun xs s1 g1 H1 _ le1 eR1 rep1 post1 J hJ q hq => ?_⟩
  -- what is known ahead of the loop
  unfold Ea.bind wipeA at post1
  by_cases no : noOwn vs s1.fr = true
  case neg => rw [if_neg no] at post1; exact post1.elim
  rw [if_pos no] at post1
  dsimp only at post1
  unfold noX at post1
  obtain ⟨rep2, hn2⟩ := rep1.apart (o := .lst []) hq
  -- the loop, told by its end
  have fin : ∃ ys s9, compL vs gm mt ma [] xs s1 = some (.ok ys, s9) ∧ Yf E g1 ⟨backF vs s1.fr s9.fr, s9.st⟩ σ (.lst ys) Q := by
    cases e9 : compL vs gm mt ma [] xs s1 with
    | none => rw [e9] at post1; exact post1.elim
    | some z =>
      obtain ⟨rr, s9⟩ := z
      rw [e9] at post1
      cases rr with
      | ok ys => exact ⟨ys, s9, rfl, post1⟩
      | ex x => exact post1.elim
  obtain ⟨ys, s9, e9, post9⟩ := fin
  refine ⟨fun i n H' => n = (xs.drop i).length ∧ ∃ F' f' s' σ' acc av, G.Le g1 ⟨F', upd g1.R q (.lst av), f'⟩ ∧ Rep E.k ⟨F', upd g1.R q (.lst av), f'⟩ s' σ' H' ∧ wipe σ' vs = wipe σ vs ∧ RepVs E.k ⟨F', upd g1.R q (.lst av), f'⟩ acc av ∧ compL vs gm mt ma acc (xs.drop i) s' = some (.ok ys, s9),
    ⟨_, rfl, g1.F, g1.f, s1, σ, [], [], ⟨Same.refl _, List.prefix_refl _⟩, rep2, rfl, rvs_nil, e9⟩, ?_⟩
  rintro i n H' ⟨rfl, F', f', s', σ', acc, av, le', rep', hw, ra, ec⟩
  cases hd : xs.drop i with
  | nil =>
    rw [hd] at ec
    have hn : xs[i]? = none := by
      have : xs.length - i = 0 := by rw [← List.length_drop, hd]; rfl
      exact List.getElem?_eq_none_iff.mpr (by omega)
    cases ec
    have rep3 := Rep.wiped (vs := vs) rep'
    rw [hw] at rep3
    refine .inl ⟨((hJ _ _ _ _ ⟨le'.F, le'.f⟩ rep' i).2 hn), ?_⟩
    have rep4 : Rep E.k ⟨F', upd g1.R q (.lst av), f'⟩ ⟨backF vs s1.fr s9.fr, s9.st⟩ σ H' := by
      have r5 := Rep.back (s := ⟨wipeF vs s9.fr, s9.st⟩) rep1 no ⟨le'.F, le'.f⟩ rep3
      have e5 : backF vs s1.fr (wipeF vs s9.fr) = backF vs s1.fr s9.fr := by
        apply List.ext_getElem?
        intro j
        rw [backF_get, backF_get, wipeF_get, Option.map_map]
        congr 1
        funext z
        dsimp only [Function.comp_def]
        split <;> rfl
      dsimp only at r5
      rw [e5] at r5
      exact r5
    exact post9 q (.lst av) _ H' ⟨le'.F, le'.f⟩ rfl hn2 rep4 ⟨av, rfl, ra⟩
  | cons z r =>
    obtain ⟨hx, hr⟩ := drop_get hd
    rw [hd] at ec
    obtain ⟨w3, w4⟩ := (hJ _ _ _ _ ⟨le'.F, le'.f⟩ rep' i).1 z hx
    refine .inr ⟨w3, fun H2 => ∃ F2 f2 s2 σ2 acc2 av2, G.Le g1 ⟨F2, upd g1.R q (.lst av2), f2⟩ ∧ Rep E.k ⟨F2, upd g1.R q (.lst av2), f2⟩ s2 σ2 H2 ∧ wipe σ2 vs = wipe σ vs ∧ RepVs E.k ⟨F2, upd g1.R q (.lst av2), f2⟩ acc2 av2 ∧ compL vs gm mt ma acc2 r s2 = some (.ok ys, s9),
      fun H2 h2 => ⟨r.length, by simp, by rw [hr], by rw [hr]; exact h2⟩, fun xv H2 hy => ?_⟩
    obtain ⟨g2, le2, eR2, rep2', rv⟩ := w4 xv H2 hy
    obtain ⟨F2, R2, f2⟩ := g2
    dsimp only at eR2
    subst eR2
    unfold compL Ea.bind wipeB ofT at ec
    dsimp only at ec
    cases eg : gm z ⟨wipeF vs s'.fr, s'.st⟩ with
    | none => rw [eg] at ec; cases ec
    | some s3 =>
      rw [eg] at ec
      dsimp only at ec
      have rep3 := Rep.wiped (vs := vs) rep2'
      rw [hw] at rep3
      refine ⟨_, _, z, s3, rep3, rv, eg, fun σ3 rep4 w5 => ⟨?_, ?_⟩⟩
      · have := w5 vs hks'
        rw [this]
        apply List.ext_getElem?
        intro j
        by_cases hj : j ∈ vs
        · rw [wipe_in hj, wipe_in hj, wipe_length]
        · rw [wipe_get hj]
      · have hw3 : wipe σ3 vs = wipe σ vs := by
          rw [w5 vs hks']
          apply List.ext_getElem?
          intro j
          by_cases hj : j ∈ vs
          · rw [wipe_in hj, wipe_in hj, wipe_length]
          · rw [wipe_get hj]
        refine ⟨_, s3, rep4, ?_⟩
        unfold PostE
        cases et : mt s3 with
        | none => rw [et] at ec; cases ec
        | some zt =>
          obtain ⟨rr, s4⟩ := zt
          rw [et] at ec
          cases rr with
          | ex x => cases ec
          | ok b =>
            dsimp only at ec
            intro g4 H4 le4 eR4 rep5
            obtain ⟨F4, R4, f4⟩ := g4
            dsimp only at eR4
            subst eR4
            have le14 : G.Le g1 ⟨F4, upd g1.R q (.lst av), f4⟩ := ⟨(le'.F.trans le2.F).trans le4.F, List.IsPrefix.trans (List.IsPrefix.trans le'.f le2.f) le4.f⟩
            have ra4 : RepVs E.k ⟨F4, upd g1.R q (.lst av), f4⟩ acc av := (ra.mono le2).mono le4
            cases b with
            | false =>
              rw [if_neg Bool.false_ne_true] at ec
              exact ⟨F4, f4, s4, σ3, acc, av, le14, rep5, hw3, ra4, ec⟩
            | true =>
              rw [if_pos rfl] at ec
              refine ⟨_, s4, rep5, ?_⟩
              unfold PostE
              cases em : ma s4 with
              | none => rw [em] at ec; cases ec
              | some zm =>
                obtain ⟨rr, s5⟩ := zm
                rw [em] at ec
                cases rr with
                | ex x => cases ec
                | ok dd =>
                  dsimp only at ec
                  intro g6 H6 le6 eR6 rep6 yv rt
                  obtain ⟨F6, R6, f6⟩ := g6
                  dsimp only at eR6
                  subst eR6
                  rcases stl_ok rep6 rt with qn | ⟨d7, s7, g7, q7, le7, eR7, rep7, rv7, _⟩
                  · rw [qn] at ec; cases ec
                  · rw [q7] at ec
                    dsimp only at ec
                    unfold need at ec
                    by_cases hz : decide (acc.length < 16777216) = true
                    case neg => rw [if_neg hz] at ec; cases ec
                    rw [if_pos hz] at ec
                    obtain ⟨F7, R7, f7⟩ := g7
                    dsimp only at eR7
                    subst eR7
                    have ra7 : RepVs E.k ⟨F7, upd g1.R q (.lst av), f7⟩ acc av := (ra4.mono le6).mono le7
                    refine ⟨av, rep7.rH q _ upd_same, by rw [rvs_len ra7, line]; exact of_decide_eq_true hz, F7, f7, s7, σ3, acc ++ [d7], av ++ [yv], ?_, Rep.reR rep7, hw3, ?_, ec⟩
                    · exact ⟨(le14.F.trans le6.F).trans le7.F, List.IsPrefix.trans (List.IsPrefix.trans le14.f le6.f) le7.f⟩
                    · exact RepVs.mono (g := ⟨F7, upd g1.R q (.lst av), f7⟩) (g' := ⟨F7, upd g1.R q (.lst (av ++ [yv])), f7⟩) ⟨Same.refl F7, List.prefix_refl f7⟩ (rvs_app ra7 (rvs_one rv7))
theorem kf_comp {sc : Scope} {own : List (Str × Nat)} {mi : M (List D)} {gm : Tg} {ks : List Nat} {mt : M Bool} {ifs : List Expr} (hK : Kx E X) (hi : KI E X tg e1 mi) (ok : BlkOk X.N X.env.scope sc own)
    (hg : Blk E X sc fun X => KG E X tg ks gm) (ht : Blk E X sc fun X => KTs E X ifs mt) (he : Blk E X sc fun X => KE E X e ma) (hks : ks.all (fun i => (own.map (·.2)).contains i) = true := by rfl)
    (hs : ∀ x, foldedSetIterable e1 X.env x = pure x := by intro _; rfl) : KF E X (.ListComp e [⟨tg, e1, ifs, 0⟩] sc pos) (compM (own.map (·.2)) mi gm mt ma) := fun W tk => by
  have hks' : ∀ i ∈ ks, i ∈ own.map (·.2) := fun i hi => by simpa using List.all_eq_true.mp hks i hi
  have pe := pe_lc (te := TE E ma W0) (tt := TT E mt W0) (g := TGm E ks gm) (pos := pos) hK.calm hK.nd (hi W tk) ok (fun s H C cl fp => hg s H C cl fp hK.blk) (fun s H C cl fp => ht s H C cl fp hK.blk) (fun s H C cl fp => he s H C cl fp hK.blk W0 takes0) hs
  exact pe_mono pe fun σ H Q h => comp_t hks' h
/-- name = [..] -/
theorem k_setLcO {nm : Str} {sc : Scope} {own : List (Str × Nat)} {mi : M (List D)} {gm : Tg} {ks : List Nat} {mt : M Bool} {ifs : List Expr} {pn ps : Pos} (hK : Kx E X) (i : Nat) (hi : KI E X tg e1 mi) (ok : BlkOk X.N X.env.scope sc own)
    (hg : Blk E X sc fun X => KG E X tg ks gm) (ht : Blk E X sc fun X => KTs E X ifs mt) (he : Blk E X sc fun X => KE E X e ma) (hy : X.N[i]? = some nm := by rfl) (hyl : X.env.scope.names.lookup nm = some .local := by rfl)
    (hsw : swapsWith (.ListComp e [⟨tg, e1, ifs, 0⟩] sc pos) (some (.Name nm pn)) ps.line X.env = pure true := by rfl) (hks : ks.all (fun i => (own.map (·.2)).contains i) = true := by rfl)
    (hs : ∀ x, foldedSetIterable e1 X.env x = pure x := by intro _; rfl) : KS E X (.Assign [.Name nm pn] (.ListComp e [⟨tg, e1, ifs, 0⟩] sc pos) ps) (setO i (compM (own.map (·.2)) mi gm mt ma)) := fun W tk => by
  have hks' : ∀ i ∈ ks, i ∈ own.map (·.2) := fun i hi => by simpa using List.all_eq_true.mp hks i hi
  have pe := ps_setLc (te := TE E ma W0) (tt := TT E mt W0) (g := TGm E ks gm) hK.calm hK.nd hy hyl hsw (hi W tk) ok (fun s H C cl fp => hg s H C cl fp hK.blk) (fun s H C cl fp => ht s H C cl fp hK.blk) (fun s H C cl fp => he s H C cl fp hK.blk W0 takes0) hs
  exact ps_mono pe fun D σ H h => comp_t hks' (ts_setO h)
theorem k_setLcV {nm : Str} {sc : Scope} {own : List (Str × Nat)} {mi : M (List D)} {gm : Tg} {ks : List Nat} {mt : M Bool} {ifs : List Expr} {pn ps : Pos} (hK : Kx E X) (i : Nat) (hi : KI E X tg e1 mi) (ok : BlkOk X.N X.env.scope sc own)
    (hg : Blk E X sc fun X => KG E X tg ks gm) (ht : Blk E X sc fun X => KTs E X ifs mt) (he : Blk E X sc fun X => KE E X e ma) (hy : X.N[i]? = some nm := by rfl) (hyl : X.env.scope.names.lookup nm = some .local := by rfl)
    (hsw : swapsWith (.ListComp e [⟨tg, e1, ifs, 0⟩] sc pos) (some (.Name nm pn)) ps.line X.env = pure true := by rfl) (hks : ks.all (fun i => (own.map (·.2)).contains i) = true := by rfl)
    (hs : ∀ x, foldedSetIterable e1 X.env x = pure x := by intro _; rfl) : KS E X (.Assign [.Name nm pn] (.ListComp e [⟨tg, e1, ifs, 0⟩] sc pos) ps) (setV i (compM (own.map (·.2)) mi gm mt ma)) := fun W tk => by
  have hks' : ∀ i ∈ ks, i ∈ own.map (·.2) := fun i hi => by simpa using List.all_eq_true.mp hks i hi
  have pe := ps_setLc (te := TE E ma W0) (tt := TT E mt W0) (g := TGm E ks gm) hK.calm hK.nd hy hyl hsw (hi W tk) ok (fun s H C cl fp => hg s H C cl fp hK.blk) (fun s H C cl fp => ht s H C cl fp hK.blk) (fun s H C cl fp => he s H C cl fp hK.blk W0 takes0) hs
  exact ps_mono pe fun D σ H h => comp_t hks' (tf_of_te (ts_setV h))
end
end Ea

/-! E13: defs and their calls. -/
namespace Ea
open PySem L2

/-- what a def promises, where no text is being shown around -/
structure FnG (P : Program) (w : World) (K : PySem.W.Frag) (mg : Str → Option Value) (base : Heap) (k : Nat) (f : Addr) (fd : FuncData) (ps : List Str) (sp : Sp) : Prop where
  len : ∀ vs H Q E, sp vs H Q E → vs.length = ps.length
  run : ∀ (A : Around) (outer : List Env) (s : Shared) (H : Hp) (args : Args) (us : List Value) (vs : List V) (Q : VK) (E : XK), A.guards = some [] → Room k A → Env0 P w K mg base A outer s H → BindsTo s fd args (ps.zip us) → Vals vs us → sp vs H Q E →
    codeAny (model P w) A (.call (.ref f) args) (CR (L2.CX P w) outer P w H s Q E) s

/-- a def's promise, by its run on data -/
def SpF (E : En) (cf : CF) (np i : Nat) : Sp := fun vs H Q Ex => vs.length = np ∧ ∃ g st ds, Rep E.k g ⟨[], st⟩ [] H ∧ RepVs E.k g ds vs ∧ match cf i ds st with
  | none => False
  | some (.ok d, st') => ∀ g' H' v, G.Le g g' → g'.R = g.R → Rep E.k g' ⟨[], st'⟩ [] H' → RepV E.k g' d v → Q v H'
  | some (.ex x, st') => ∀ cls dd g' H', G.Le g g' → g'.R = g.R → Rep E.k g' ⟨[], st'⟩ [] H' → RepX E g' x cls dd H' → Ex cls dd H'

section
variable {E : En} {X : Cx} {g g' : G} {s : A} {σ σ' : L2.St} {H H' : Hp} {W : WX} {Q : VK} {D₀ : Ends} {a b c d : D} {v x y : V} {e e1 e2 e3 tg : Expr} {es : List Expr} {st : Stmt} {sts sts2 : List Stmt} {ma mb mc : M D} {m n : M Fl} {ms : M (List D)} {pos p p2 : Pos}

/-! ### a frame is left alone -/
def OwnP (s : A) (σ : L2.St) (a : Addr) : Prop := ∃ (i : Nat) (d : D), s.fr[i]? = some (.own d) ∧ σ[i]? = some (some (.ref a))
open Classical in
noncomputable def outR (g : G) (s : A) (σ : L2.St) (H : Hp) : Hp := fun a => if OwnP s σ a then H a else g.R a
theorem Rep.ownFree (r : Rep E.k g s σ H) {q : Addr} (h : OwnP s σ q) : g.Free q := by
  obtain ⟨i, d, h1, h2⟩ := h
  obtain ⟨a', o, k1, k2, k3, k4⟩ := r.own i d h1
  rw [h2] at k1; cases k1
  exact k4
theorem Rep.out (r : Rep E.k g s σ H) : Rep E.k ⟨g.F, outR g s σ H, g.f⟩ ⟨[], s.st⟩ [] H := by
  have le : G.Le g ⟨g.F, outR g s σ H, g.f⟩ := ⟨Same.refl _, List.prefix_refl _⟩
  refine ⟨r.fH, fun a u h => ?_, fun a u h => ?_, rfl, fun i d h => by simp at h, fun i d h => by simp at h, fun i j d d' a h => by simp at h, r.sl, fun i a d h1 h2 => ?_, fun a h => ?_, r.sn⟩ <;> (try dsimp only at *)
  · unfold outR at h
    split at h
    · exact h
    · exact r.rH a u h
  · unfold outR
    split
    · rename_i hp
      have := (r.ownFree hp).F
      rw [h] at this; cases this
    · exact r.fr a u h
  · obtain ⟨u, k1, k2⟩ := r.st i a d h1 h2
    exact ⟨u, k1, k2.mono le⟩
  · obtain ⟨k1, k2⟩ := r.sf a h
    refine ⟨k1, ?_⟩
    unfold outR
    split
    · rename_i hp
      exact absurd h (r.ownFree hp).f
    · exact k2
theorem Rep.back_in {st' : List D} (r : Rep E.k g s σ H) (le : G.Le ⟨g.F, outR g s σ H, g.f⟩ g') (eR : g'.R = outR g s σ H) (r' : Rep E.k g' ⟨[], st'⟩ [] H') : Rep E.k ⟨g'.F, g.R, g'.f⟩ ⟨s.fr, st'⟩ σ H' ∧ G.Le g ⟨g'.F, g.R, g'.f⟩ := by
  have le1 : G.Le g ⟨g'.F, g.R, g'.f⟩ := ⟨le.F, le.f⟩
  have le2 : G.Le g' ⟨g'.F, g.R, g'.f⟩ := ⟨Same.refl _, List.prefix_refl _⟩
  have sub : ∀ a u, g.R a = some u → g'.R a = some u := fun a u h => by
    rw [eR]
    unfold outR
    split
    · rename_i hp
      have := (r.ownFree hp).R
      rw [h] at this; cases this
    · exact h
  have none_of : ∀ a, g'.R a = none → g.R a = none := fun a h => by
    cases e : g.R a with
    | none => rfl
    | some u => rw [sub a u e] at h; cases h
  refine ⟨⟨r'.fH, fun a u h => r'.rH a u (sub a u h), fun a u h => none_of a (r'.fr a u h), r.len, fun i d h => ?_, fun i d h => ?_, r.inj, r'.sl, fun i a d h1 h2 => ?_, fun a h => ⟨(r'.sf a h).1, none_of a (r'.sf a h).2⟩, r'.sn⟩, le1⟩ <;> (try dsimp only at *)
  · obtain ⟨v, k1, k2⟩ := r.val i d h
    exact ⟨v, k1, k2.mono le1⟩
  · obtain ⟨a, o, k1, k2, k3, k4⟩ := r.own i d h
    have hp : OwnP s σ a := ⟨i, d, h, k1⟩
    have hR : g'.R a = some o := by
      rw [eR]
      unfold outR
      rw [if_pos hp]
      exact k2
    refine ⟨a, o, k1, r'.rH a o hR, k3.mono le1, ⟨?_, k4.R, fun hf => ?_⟩⟩
    · cases e : g'.F a with
      | none => rfl
      | some u =>
        have := r'.fr a u e
        rw [hR] at this; cases this
    · have := (r'.sf a hf).2
      rw [hR] at this; cases this
  · obtain ⟨u, k1, k2⟩ := r'.st i a d h1 h2
    exact ⟨u, k1, k2.mono le2⟩

/-! ### a call -/
/-- the def that stands at the name nm: the i-th, with the parameters ps -/
def CallOk (E : En) (X : Cx) (cf : CF) (nm : Str) (i np : Nat) : Prop := ∃ (f : Addr) (fd : FuncData) (k : Nat) (ps : List Str), X.mg nm = some (.ref f) ∧ PySem.W.keepIn X.K (.ref f) = true ∧ Binds X.K fd ps [] ∧ ps.length = np ∧ (∀ ds st, cf i ds st ≠ none → ds.length = np) ∧ FnG X.prog X.w X.K X.mg X.base k f fd ps (SpF E cf np i) ∧ Room k X.A
theorem CallOk.blk {cf : CF} {nm : Str} {i np : Nat} (h : CallOk E X cf nm i np) {s0 : Shared} {H0 : Hp} {sc : Scope} {ce : Env} {fp : List Addr} : CallOk E (X.blk s0 H0 sc ce fp) cf nm i np := h
theorem run_g {cf : CF} {np i k : Nat} {f : Addr} {fd : FuncData} {ps : List Str} {args : Args} {us : List Value} {vs : List V} {pins : List (Addr × Obj)} {s0 : Shared} {Ex : XK} (hK : Kx E X) (F : FnG X.prog X.w X.K X.mg X.base k f fd ps (SpF E cf np i)) (hr : Room k X.A)
    (tk : Takes X W) (hW : ∀ cls d H', Ex cls d H' → W cls d σ H') (I : Inv X pins σ H s0) (hb : BindsTo s0 fd args (ps.zip us)) (r : Vals vs us) (h : SpF E cf np i vs H Q Ex) : wpAny (model X.prog X.w) X.A (call (.ref f) args.pos args.kw) (EP X pins σ Q) X.xe s0 := by
  refine wpAny_call (codeAny_mono (F.run X.A X.stack s0 H args us vs Q Ex hK.gu hr I.env0 hb r h) fun rr s' hq => ?_)
  cases rr with
  | error z => exact tk z s' (XE.of_call I hW hq)
  | ok fl =>
    cases fl with
    | ret u => exact I.after hq
    | next => exact False.elim hq
    | brk => exact False.elim hq
    | cont => exact False.elim hq
theorem spf_of {cf : CF} {i np : Nat} {ds : List D} {vs : List V} (rep : Rep E.k g s σ H) (rv : RepVs E.k g ds vs) (hc : ∀ ds st, cf i ds st ≠ none → ds.length = np)
    (post : PostE E (match cf i ds s.st with | none => none | some (r, st) => some (r, ⟨s.fr, st⟩)) g σ W fun d _ g' H' => ∀ v, RepT E.k g' σ d v → Q v H') : SpF E cf np i vs H Q fun cls dd H' => W cls dd σ H' := by
  refine ⟨by
    rw [rvs_len rv]
    exact hc ds s.st fun q => by rw [q] at post; exact post, ⟨g.F, outR g s σ H, g.f⟩, s.st, ds, rep.out, RepVs.mono (g := g) (g' := ⟨g.F, outR g s σ H, g.f⟩) ⟨fun _ _ h => h, List.prefix_refl _⟩ rv, ?_⟩
  cases e : cf i ds s.st with
  | none => rw [e] at post; exact post
  | some z =>
    obtain ⟨r, st'⟩ := z
    rw [e] at post
    cases r with
    | ok d =>
      intro g' H' v le eR r' rv'
      obtain ⟨h1, h2⟩ := rep.back_in le eR r'
      exact post _ H' h2 rfl h1 v (RepV.mono (g := g') (g' := ⟨g'.F, g.R, g'.f⟩) ⟨fun _ _ h => h, List.prefix_refl _⟩ rv').t
    | ex x =>
      intro cls dd g' H' le eR r' rx
      obtain ⟨h1, h2⟩ := rep.back_in le eR r'
      refine post cls dd _ H' h2 rfl h1 ?_
      obtain ⟨k1, k2⟩ := rx
      refine ⟨k1, k2.imp id fun ⟨d, v, a, q1, q2, q3, q4⟩ => ⟨d, v, a, q1, q2, q3, RepV.mono (g := g') (g' := ⟨g'.F, g.R, g'.f⟩) ⟨fun _ _ h => h, List.prefix_refl _⟩ q4⟩⟩
theorem k_call {cf : CF} {nm : Str} {i np : Nat} (hK : Kx E X) (C : CallOk E X cf nm i np) (ha : KA E X (e :: es) ms) (hg : Gl X nm) (hl : (e :: es).length = np := by rfl) (hdb : (nm == ("__debug__" : Str)) = false := by decide)
    (he : starEach (e :: es) X.env = (false, eval e X.env) :: starEach es X.env := by rfl) (hpl : (backTo pos (starEach es X.env)).any (·.1) = false := by rfl) : KE E X (.Call (.Name nm p) (e :: es) [] pos) (callM cf i ms) := fun W tk => by
  obtain ⟨f, fd, k, ps, hm, hk, hb, hp, hc, F, hr⟩ := C
  refine ⟨fun pins s0 σ H Q I ⟨g, s, rep, post⟩ => ?_⟩
  refine wpAny_Call_Name_kw (ld_glob I hg hm ?_ hdb)
  refine PySem.W.callWith_K (h₀ := X.base) I.ok.mod.kin hk (thn ((ha W tk).run pos pins s0 σ H (fun vs H1 => SpF E cf np i vs H1 Q fun cls dd H' => W cls dd σ H') I ?_) fun us s1 ⟨vs, H1, I1, r, q⟩ => ⟨I1.kIn, ?_⟩) he hpl
  · refine ⟨g, s, rep, (PostE.bind post).imp fun ds s1 g1 H1 e1 _ _ rep1 post1 vs rts => ?_⟩
    rcases stls_ok rep1 rts with qn | ⟨d1, s2, g2, q2, le2, eR2, rep2, rv, es2⟩
    · unfold Ea.bind at post1
      rw [qn] at post1; exact post1.elim
    · unfold Ea.bind at post1
      rw [q2] at post1
      dsimp only at post1
      exact spf_of rep2 rv hc (PostE.le post1 le2 eR2)
  · have hlen : vs.length = np := q.1
    refine run_g (args := ⟨us, []⟩) hK F hr tk (fun _ _ _ h => h) I1 ?_ r q
    have := hb s1 us I1.kIn (by rw [List.append_nil, ← r.length, hlen, hp])
    rw [List.append_nil] at this
    exact this
/-- keywords: their values, from the left -/
def KK (E : En) (X : Cx) (kws : List Keyword) (m : M (List D)) : Prop := ∀ W, Takes X W → PK X kws (TAs E m W)
theorem pk_mono {kws : List Keyword} {t t' : L2.TA} (h : PK X kws t) (k : ∀ σ H Q, t' σ H Q → t σ H Q) : PK X kws t' := ⟨fun pos pins s σ H Q I q => h.run pos pins s σ H Q I (k σ H Q q)⟩
theorem kk_nil : KK E X [] nilM := fun W tk => pk_mono pk_nil fun σ H Q ⟨g, s, rep, post⟩ => post g H (G.Le.refl g) rfl rep [] (by simp [RepTs])
theorem kk_cons {kws : List Keyword} {nm : Option Str} (ha : KE E X e ma) (hb : KK E X kws ms) : KK E X (⟨nm, e, p⟩ :: kws) (consM ma ms) := fun W tk =>
  pk_mono (pk_cons (ha W tk) (hb W tk)) fun σ H Q ⟨g, s, rep, post⟩ => by
    refine ⟨g, s, rep, (PostE.bind post).imp fun d s1 g1 H1 _ le1 eR1 rep1 post1 v rt => ?_⟩
    refine ⟨g1, s1, rep1, (PostE.bind post1).imp fun d2 s2 g2 H2 _ le2 eR2 rep2 post2 v2 rt2 => ?_⟩
    refine post2 g2 H2 (G.Le.refl _) rfl rep2 _ ?_
    unfold RepTs
    exact ⟨v, v2, rfl, rt.mono le2, rt2⟩
/-- how a call with keywords binds: the arguments, then the keywords' values, in the order pm -/
def permV {α : Type} [Inhabited α] (pm : List Nat) (us : List α) : List α := pm.map fun i => us.getD i default
def CallKOk (E : En) (X : Cx) (cf : CF) (nm : Str) (i np na : Nat) (ks : List Str) (pm : List Nat) : Prop := ∃ (f : Addr) (fd : FuncData) (k : Nat) (ps : List Str), X.mg nm = some (.ref f) ∧ PySem.W.keepIn X.K (.ref f) = true ∧
  (∀ (s : Shared) (us ws : List Value), us.length = na → ws.length = ks.length → BindsTo s fd ⟨us, ks.zip ws⟩ (ps.zip (pm.map fun i => (us ++ ws).getD i .none))) ∧ ps.length = np ∧ (∀ ds st, cf i ds st ≠ none → ds.length = np) ∧
  (pm.length = np ∧ ∀ j ∈ pm, j < na + ks.length) ∧ FnG X.prog X.w X.K X.mg X.base k f fd ps (SpF E cf np i) ∧ Room k X.A
theorem rvs_getD {xs : List D} {vs : List V} (h : RepVs E.k g xs vs) : ∀ {pm : List Nat}, (∀ j ∈ pm, j < xs.length) → RepVs E.k g (permD pm xs) (pm.map fun i => vs.getD i .non)
  | [], _ => rvs_nil
  | j :: pm, hj => by
    show RepVs E.k g (xs.getD j .non :: permD pm xs) (vs.getD j .non :: pm.map fun i => vs.getD i .non)
    refine rvs_cons ?_ (rvs_getD h fun i hi => hj i (List.mem_cons_of_mem _ hi))
    obtain ⟨v, h1, h2⟩ := rvs_get h (List.getElem?_eq_getElem (hj j (by simp)))
    rw [List.getD_eq_getElem?_getD, List.getD_eq_getElem?_getD, h1, List.getElem?_eq_getElem (hj j (by simp))]
    exact h2
theorem vals_getD {vs : List V} {us : List Value} (h : Vals vs us) : ∀ {pm : List Nat}, (∀ j ∈ pm, j < vs.length) → Vals (pm.map fun i => vs.getD i .non) (pm.map fun i => us.getD i .none)
  | [], _ => .nil
  | j :: pm, hj => by
    refine .cons ?_ (vals_getD h fun i hi => hj i (List.mem_cons_of_mem _ hi))
    show RelV (vs.getD j .non) (us.getD j .none)
    obtain ⟨u, h1, h2⟩ := h.get (List.getElem?_eq_getElem (hj j (by simp)))
    rw [List.getD_eq_getElem?_getD, List.getD_eq_getElem?_getD, h1, List.getElem?_eq_getElem (hj j (by simp))]
    exact h2
theorem rts_app : ∀ {xs ys : List D} {vs ws : List V}, RepTs E.k g σ xs vs → RepTs E.k g σ ys ws → RepTs E.k g σ (xs ++ ys) (vs ++ ws)
  | [], _, _, _, h, k => by unfold RepTs at h; rw [h]; exact k
  | x :: xs, _, _, _, h, k => by
    unfold RepTs at h
    obtain ⟨v, r, rfl, h1, h⟩ := h
    show RepTs E.k g σ (x :: (xs ++ _)) _
    unfold RepTs
    exact ⟨v, _, rfl, h1, rts_app h k⟩
theorem post_callP {cf : CF} {i np na : Nat} {ks : List Str} {pm : List Nat} {ds es : List D} {vs zs : List V} (rep : Rep E.k g s σ H) (r1 : RepTs E.k g σ ds vs) (r2 : RepTs E.k g σ es zs) (hl : ds.length + es.length = na + ks.length) (hpm : pm.length = np ∧ ∀ j ∈ pm, j < na + ks.length)
    (hc : ∀ ds st, cf i ds st ≠ none → ds.length = np)
    (post : PostE E (bind (stls (ds ++ es)) (fun ds s => match cf i (permD pm ds) s.st with | none => none | some (r, st) => some (r, ⟨s.fr, st⟩)) s) g σ W fun d _ g' H' => ∀ v, RepT E.k g' σ d v → Q v H') :
    SpF E cf np i (pm.map fun i => (vs ++ zs).getD i .non) H Q fun cls dd H' => W cls dd σ H' := by
  rcases stls_ok rep (rts_app r1 r2) with qn | ⟨d1, s2, g2, q2, le2, eR2, rep2, rv, es2⟩
  · unfold Ea.bind at post
    rw [qn] at post; exact post.elim
  · unfold Ea.bind at post
    rw [q2] at post
    dsimp only at post
    have hd : d1.length = na + ks.length := by
      have h1 := rvs_len rv
      have h2 := rts_len r1
      have h3 := rts_len r2
      rw [List.length_append] at h1
      omega
    exact spf_of rep2 (rvs_getD rv fun j hj => by rw [hd]; exact hpm.2 j hj) hc (PostE.le post le2 eR2)
theorem k_callK {cf : CF} {nm : Str} {i np na : Nat} {ks : List Str} {pm : List Nat} {kws : List Keyword} {mk : M (List D)} (hK : Kx E X) (C : CallKOk E X cf nm i np na ks pm) (ha : KA E X (e :: es) ms) (hkw : KK E X kws mk) (hg : Gl X nm)
    (hna : ∀ ds s s', ms s = some (.ok ds, s') → ds.length = na) (hnk : ∀ ds s s', mk s = some (.ok ds, s') → ds.length = ks.length)
    (hall : (backToKw pos (keywordEach kws X.env)).all (·.1.isSome) = true := by rfl) (hks : (backToKw pos (keywordEach kws X.env)).filterMap (·.1) = ks := by rfl)
    (hdb : (nm == ("__debug__" : Str)) = false := by decide) (he : starEach (e :: es) X.env = (false, eval e X.env) :: starEach es X.env := by rfl)
    (hpl : ((backTo pos (starEach (e :: es) X.env)).any (·.1) || (backToKw pos (keywordEach kws X.env)).any (·.1.isNone)) = false := by rfl) :
    KE E X (.Call (.Name nm p) (e :: es) kws pos) (callP cf i pm ms mk) := fun W tk => by
  obtain ⟨f, fd, k, ps, hm, hk, hb, hp, hc, hpm, F, hr⟩ := C
  refine ⟨fun pins s0 σ H Q I ⟨g, s, rep, post⟩ => ?_⟩
  refine wpAny_Call_Name_kw (ld_glob I hg hm ?_ hdb)
  refine PySem.W.callWith_KW (h₀ := X.base) I.ok.mod.kin hk hall (thn ((ha W tk).run pos pins s0 σ H (fun vs H1 => TAs E mk W σ H1 fun zs H2 => vs.length = na ∧ zs.length = ks.length ∧ SpF E cf np i (pm.map fun i => (vs ++ zs).getD i .non) H2 Q fun cls dd H' => W cls dd σ H') I ?_) fun us s1 ⟨vs, H1, I1, r, q⟩ => ?_) hpl he
  · refine ⟨g, s, rep, (PostE.bind post).imp fun ds s1 g1 H1 e1 _ _ rep1 post1 vs rts => ?_⟩
    refine ⟨g1, s1, rep1, (PostE.bind post1).imp fun es2 s2 g2 H2 e2 le2 eR2 rep2 post2 zs rts2 => ?_⟩
    have h1 := hna _ _ _ e1
    have h2 := hnk _ _ _ e2
    exact ⟨by rw [rts_len rts, h1], by rw [rts_len rts2, h2], post_callP rep2 (rts.mono le2) rts2 (by omega) hpm hc post2⟩
  · refine thn ((hkw W tk).run pos pins s1 σ H1 _ I1 q) fun ws s2 ⟨zs, H2, I2, rz, l1, l2, q2⟩ => ⟨I2.kIn, ?_⟩
    rw [hks]
    have l3 := r.length
    have l4 := rz.length
    refine run_g (args := ⟨us, ks.zip ws⟩) hK F hr tk (fun _ _ _ h => h) I2 (hb s2 us ws (by omega) (by omega)) (vals_getD (r.append rz) fun j hj => ?_) q2
    rw [List.length_append, l1, l2]
    exact hpm.2 j hj
theorem k_callK0 {cf : CF} {nm : Str} {i np : Nat} {ks : List Str} {pm : List Nat} {kws : List Keyword} {mk : M (List D)} (hK : Kx E X) (C : CallKOk E X cf nm i np 0 ks pm) (hkw : KK E X kws mk) (hg : Gl X nm)
    (hnk : ∀ ds s s', mk s = some (.ok ds, s') → ds.length = ks.length)
    (hall : (backToKw pos (keywordEach kws X.env)).all (·.1.isSome) = true := by rfl) (hks : (backToKw pos (keywordEach kws X.env)).filterMap (·.1) = ks := by rfl)
    (hdb : (nm == ("__debug__" : Str)) = false := by decide)
    (hpl : ((backTo pos (starEach [] X.env)).any (·.1) || (backToKw pos (keywordEach kws X.env)).any (·.1.isNone)) = false := by rfl) :
    KE E X (.Call (.Name nm p) [] kws pos) (callP cf i pm nilM mk) := fun W tk => by
  obtain ⟨f, fd, k, ps, hm, hk, hb, hp, hc, hpm, F, hr⟩ := C
  refine ⟨fun pins s0 σ H Q I ⟨g, s, rep, post⟩ => ?_⟩
  refine wpAny_Call_Name_kw (ld_glob I hg hm ?_ hdb)
  refine PySem.W.callWith_KW0 (h₀ := X.base) I.ok.mod.kin hk hall (thn ((hkw W tk).run pos pins s0 σ H (fun zs H2 => zs.length = ks.length ∧ SpF E cf np i (pm.map fun i => ([] ++ zs).getD i .non) H2 Q fun cls dd H' => W cls dd σ H') I ?_) fun ws s2 ⟨zs, H2, I2, rz, l2, q2⟩ => ⟨I2.kIn, ?_⟩) hpl
  · have post0 : PostE E (bind mk (fun es => bind (stls ([] ++ es)) fun ds s => match cf i (permD pm ds) s.st with | none => none | some (r, st) => some (r, ⟨s.fr, st⟩)) s) g σ W fun d _ g' H' => ∀ v, RepT E.k g' σ d v → Q v H' := post
    refine ⟨g, s, rep, (PostE.bind post0).imp fun es2 s2 g2 H2 e2 le2 eR2 rep2 post2 zs rts2 => ?_⟩
    have h2 := hnk _ _ _ e2
    exact ⟨by rw [rts_len rts2, h2], post_callP (vs := []) (ds := []) rep2 (by simp [RepTs]) rts2 (by rw [List.length_nil]; omega) hpm hc post2⟩
  · rw [hks]
    have l4 := rz.length
    refine run_g (args := ⟨[], ks.zip ws⟩) hK F hr tk (fun _ _ _ h => h) I2 (hb s2 [] ws rfl (by omega)) (vals_getD (Vals.append .nil rz) fun j hj => ?_) q2
    rw [List.nil_append, l2]
    have := hpm.2 j hj
    omega
end
end Ea

/-! E14: a def by its body; the law's end. -/
namespace Ea
open PySem L2 PySem.Spec PyProof.Rows

section
variable {P : Program} {w : World} {K : PySem.W.Frag} {mg : Str → Option Value} {base : Heap} {E : En}

abbrev bodyX (P : Program) (w : World) (K : PySem.W.Frag) (mg : Str → Option Value) (base : Heap) (N : List Str) (qual : Str) (st : Stmt) (f : Addr) (cdv : Value) (A : Around) (outer : List Env) (s : Shared) (H : Hp) (Ex : XK) : Cx :=
  cxOf (L2.CX P w) P w K mg base N qual (defScope st) f cdv A outer s H Ex

/-- a def of the text keeps its promise if its body does -/
theorem fnG_of {nm qual : Str} {st : Stmt} {f : Addr} {fd : FuncData} {N ps : List Str} {k : Nat} {sp : Sp} (F : Fun K nm qual st f fd) (S : FnScope N ps (defScope st)) (len : ∀ vs H Q Ex, sp vs H Q Ex → vs.length = ps.length)
    (body : ∀ (cdv : Value) (A : Around) (outer : List Env) (s : Shared) (H : Hp) (vs : List V) (Q : VK) (Ex : XK), A.guards = some [] → Room k (A.deeper (envOfC qual (defScope st) s.heap.objs.size f cdv)) → sp vs H Q Ex →
      ∃ t, PSs (bodyX P w K mg base N qual st f cdv A outer s H Ex) (defBody st) t ∧ t { nx := fun _ H' => Q .non H', rt := Q } (L2.start N vs) H) : FnG P w K mg base (k + 1) f fd ps sp := by
  obtain ⟨oc, od, kV, doc, pm, an, cdv, ct, osl, rfl, lk, hcd⟩ := F.ex
  refine ⟨len, fun A outer s H args us vs Q Ex hgu hr e0 hb r hsp => ?_⟩
  have inK : K.In s.heap := e0.mod.kin.keeps fun b o h => (e0.bs b o h).1
  have lim : s.heap.NoLimit := e0.mod.nolimit.keeps fun b o h => (e0.bs b o h).1
  refine codeAny_call_function hr.depth (inK _ _ lk) rfl S.co S.gen rfl (PySem.W.codeRec_of inK hcd) (hb _ _ _ _ (wpAny_newFunctionEnv_cells S.kind (fun z hz => ?_) fun env he s1 x => ?_))
  · obtain ⟨n, v⟩ := z
    exact (S.par n (List.of_mem_zip hz).1).imp id fun q => ⟨q, PySem.W.cellsFrom_some _ _ _ (.inl q)⟩
  · subst he
    refine ⟨lim.keeps x.toInCall.keep, codeAny_func ?_⟩
    obtain ⟨t, ht, hq⟩ := body cdv A outer s H vs Q Ex hgu (hr.deeper _) hsp
    have I : Inv (bodyX P w K mg base N qual st f cdv A outer s H Ex) [] (L2.start N vs) H s1 := inv_start S hr.hd e0 (len _ _ _ _ hsp) r x
    refine wpAny_mono (ht.run [] s1 (L2.start N vs) H _ I hq) (fun fl s' hs => ?_) fun z s' hs => hs
    cases fl with
    | ret u => exact let ⟨v, σ', H', J, rv, q⟩ := hs; ⟨v, H', J.os, J.bare, J.base, J.hok, rv, q⟩
    | next => exact let ⟨σ', H', J, q⟩ := hs; ⟨.non, H', J.os, J.bare, J.base, J.hok, rfl, q⟩
    | brk => exact False.elim (let ⟨_, _, _, q⟩ := hs; q)
    | cont => exact False.elim (let ⟨_, _, _, q⟩ := hs; q)

/-- the start of a frame -/
theorem rep_start {g : G} {st : List D} {H : Hp} {N : List Str} {ds : List D} {vs : List V} (rep : Rep E.k g ⟨[], st⟩ [] H) (rv : RepVs E.k g ds vs) : Rep E.k g ⟨ds.map .val ++ List.replicate (N.length - ds.length) .un, st⟩ (L2.start N vs) H := by
  have hl := rvs_len rv
  have low : ∀ {i : Nat} {z : Sl}, (ds.map Sl.val ++ List.replicate (N.length - ds.length) .un)[i]? = some z → z ≠ .un → ∃ d, z = .val d ∧ ds[i]? = some d := fun {i z} h hz => by
    by_cases hi : i < ds.length
    · rw [List.getElem?_append_left (by simpa using hi), List.getElem?_map, List.getElem?_eq_getElem hi] at h
      cases h
      exact ⟨_, rfl, List.getElem?_eq_getElem hi⟩
    · rw [List.getElem?_append_right (by simpa using Nat.le_of_not_lt hi), List.getElem?_replicate] at h
      split at h
      · cases h
        exact absurd rfl hz
      · cases h
  refine ⟨rep.fH, rep.rH, rep.fr, ?_, fun i d h => ?_, fun i d h => ?_, fun i j d d' a h => ?_, rep.sl, rep.st, rep.sf, rep.sn⟩
  · unfold L2.start
    simp [hl]
  · obtain ⟨d', h1, h2⟩ := low h (by intro q; cases q)
    cases h1
    obtain ⟨v, h3, h4⟩ := rvs_get rv h2
    refine ⟨v, ?_, h4⟩
    unfold L2.start
    have hi := (List.getElem?_eq_some_iff.mp h3).1
    rw [List.getElem?_append_left (by simpa using hi), List.getElem?_map, h3]
    rfl
  · obtain ⟨d', h1, _⟩ := low h (by intro q; cases q)
    cases h1
  · obtain ⟨d', h1, _⟩ := low h (by intro q; cases q)
    cases h1
theorem rep_end {g : G} {s : A} {σ : L2.St} {H : Hp} (r : Rep E.k g s σ H) : Rep E.k g ⟨[], s.st⟩ [] H :=
  ⟨r.fH, r.rH, r.fr, rfl, fun i d h => by simp at h, fun i d h => by simp at h, fun i j d d' a h => by simp at h, r.sl, r.st, r.sf, r.sn⟩

/-- a def's body, as it is told: F, its numbers; from what its calls promise -/
theorem fn_body {nm qual : Str} {st : Stmt} {f : Addr} {fd : FuncData} {N ps : List Str} {k i : Nat} {cf cf' : CF} {fn : Fn} (hE : K = E.K) (F : Fun K nm qual st f fd) (S : FnScope N ps (defScope st)) (hn : fn.n = N.length) (hp : fn.p = ps.length)
    (hc : ∀ ds st, cf' i ds st = runFn fn cf ds st) (hk : 1 ≤ k)
    (body : ∀ (cdv : Value) (A : Around) (outer : List Env) (s : Shared) (H : Hp) (Ex : XK), Kx E (bodyX P w K mg base N qual st f cdv A outer s H Ex) → Room k (bodyX P w K mg base N qual st f cdv A outer s H Ex).A → KB E (bodyX P w K mg base N qual st f cdv A outer s H Ex) (defBody st) (fn.b cf)) : FnG P w K mg base (k + 1) f fd ps (SpF E cf' fn.p i) := by
  refine fnG_of F S (fun vs H Q Ex h => by rw [← hp]; exact h.1) fun cdv A outer s H vs Q Ex hgu hr h => ?_
  obtain ⟨hl, g, stt, ds, rep, rv, post⟩ := h
  have ok : Kx E (bodyX P w K mg base N qual st f cdv A outer s H Ex) := by
    refine ⟨hE, rfl, S.nd, hgu, ?_, passes_of rfl⟩
    have := hr.un
    show (A.deeper _).units + 200 < cLine
    omega
  refine ⟨_, body cdv A outer s H Ex ok hr (fun cls d _ H => Ex cls d H) (takes_of rfl rfl rfl rfl), g, ⟨ds.map .val ++ List.replicate (N.length - ds.length) .un, stt⟩, rep_start rep rv, ?_⟩
  rw [hc] at post
  unfold runFn at post
  have hd : ds.length = fn.p := by rw [← rvs_len rv]; exact hl
  rw [if_pos hd, hn] at post
  unfold PostS
  cases e : fn.b cf ⟨ds.map .val ++ List.replicate (N.length - ds.length) .un, stt⟩ with
  | none => rw [e] at post; exact post
  | some z =>
    obtain ⟨rr, s'⟩ := z
    rw [e] at post
    cases rr with
    | ex x => exact fun cls dd g' σ' H' le eR rep' rx => post cls dd g' H' le eR (rep_end rep') rx
    | ok fl =>
      cases fl with
      | nx => exact fun g' σ' H' le eR rep' => post g' H' .non le eR (rep_end rep') rfl
      | rt d => exact fun g' σ' H' v le eR rep' rv' => post g' H' v le eR (rep_end rep') rv'
      | bk => exact False.elim post
      | ct => exact False.elim post
theorem fnG_false {f : Addr} {fd : FuncData} {k i np : Nat} {ps : List Str} {cf : CF} (hp : ps.length = np) (hc : ∀ ds st, cf i ds st = none) : FnG P w K mg base k f fd ps (SpF E cf np i) :=
  ⟨fun vs H Q Ex h => h.1.trans hp.symm, fun A outer s H args us vs Q Ex _ _ _ _ _ h => by
    obtain ⟨_, g, st, ds, _, _, h⟩ := h
    rw [hc] at h
    exact h.elim⟩

/-! ### the law -/
theorem law_g {mb : Str → Option Value} {k : Nat} {fa a : Addr} {fd : FuncData} {x : Str} {sp : Sp} {s1 : Shared} {vs : List Value} {ns : List Int}
    (KX : K.In s1.heap) (hns : s1.heap.Ns mainGlobals mg) (hb : s1.heap.Ns builtinsNs mb) (hbb : ∀ x : Str, x ≠ "__name__" → mb x = bootBuiltins x) (hlim : s1.heap.NoLimit) (hg : s1.gens = #[])
    (ha : s1.heap.get? a = some { cls := .type "list", data := .seq vs.toArray }) (hi : IntsAre vs ns) (hl : ns.length ≤ sizeLine) (hr : Room k callerA)
    (F : ∀ base : Heap, K.In base → base.Ns mainGlobals mg → FnG P w K mg base k fa fd [x] sp) (hbind : ∀ (s : Shared) (u : Value), BindsTo s fd ⟨[u], []⟩ [(x, u)])
    (hsp : ∀ H : Hp, Only H → SqL K H a (ns.map V.int) → sp [.ref a] H (fun v _ => v = .bl true) fun _ _ _ => False) :
    codeAny (model P w) callerA (.call (.ref fa) ⟨[.ref a], []⟩) (fun r s' => r = .ok (.ret (.bool true)) ∧ OldK s1.heap s'.heap ∧ s'.os = s1.os ∧ AllBare s'.gens) s1 := by
  have rv := vals_ints hi
  have lenV := hi.length
  suffices core : ∀ H : Hp, Only H → SqL K H a (ns.map V.int) → HOk P w H s1.heap → (∀ b, H b ≠ none → b = a) → (H a ≠ none → K.lookup a = none) →
      codeAny (model P w) callerA (.call (.ref fa) ⟨[.ref a], []⟩) (fun r s' => r = .ok (.ret (.bool true)) ∧ OldK s1.heap s'.heap ∧ s'.os = s1.os ∧ AllBare s'.gens) s1 by
    by_cases hk : ∃ o, K.lookup a = some o
    · obtain ⟨o, hk⟩ := hk
      have e := KX a o hk
      rw [ha] at e
      cases e
      exact core (fun _ => none) (fun _ => .inl rfl) (.inr ⟨_, vs.toArray, _, hk, rfl, rfl, rfl, by rw [List.size_toArray, lenV]; exact hl, by simpa using rv⟩) (fun b u z => (nomatch (show (none : Option HO) = some u from z))) (fun b z => absurd rfl z) fun z => absurd rfl z
    · have hk' : K.lookup a = none := by
        cases e : K.lookup a with
        | none => rfl
        | some o => exact absurd ⟨o, e⟩ hk
      let frozen : HO := .frz { cls := .type "list", data := .seq vs.toArray } (.lst (ns.map V.int))
      have at_a : ∀ b, (if b = a then some frozen else none) ≠ none → b = a := fun b z => by
        by_cases q : b = a
        · exact q
        · exact absurd (if_neg q) z
      refine core (fun b => if b = a then some frozen else none) (fun b => ?_) (.inl (.inr ⟨_, if_pos rfl⟩)) (fun b u z => ?_) at_a fun _ => hk'
      · by_cases q : b = a
        · exact .inr ⟨_, _, if_pos q⟩
        · exact .inl (if_neg q)
      · have q : b = a := at_a b (by intro z2; exact nomatch z2.symm.trans z)
        have z' := (if_pos q).symm.trans z
        cases z'
        subst q
        exact ⟨ha, by rw [List.length_map]; exact hl, vs, _, rv, ha⟩
  intro H hO hS hok hA hK
  have keep : ∀ {b : Addr} {o : Obj}, s1.heap.get? b = some o → H b = none → (hidT s1.heap H).get? b = some o := fun h n => hidT_get h n
  have noD : ∀ {b : Addr} {o : Obj} {es : Array DictEntry} {ep : Nat}, s1.heap.get? b = some o → o.data = .dict es ep → H b = none := fun {b o es ep} h d => by
    cases q : H b with
    | none => rfl
    | some u =>
      obtain rfl : b = a := hA b (by rw [q]; exact fun z => nomatch z)
      rw [ha] at h; cases h
      exact nomatch (show Data.seq vs.toArray _ = Data.dict es ep from d)
  have nsK : ∀ {b : Addr} {m : Str → Option Value}, s1.heap.Ns b m → (hidT s1.heap H).Ns b m := fun {b m} ⟨o, es, ep, h, d, r⟩ => ⟨o, es, ep, keep h (noD h d), d, r⟩
  have hKb : K.In (hidT s1.heap H) := fun b o h => keep (KX b o h) (by
    cases q : H b with
    | none => rfl
    | some u =>
      obtain rfl : b = a := hA b (by rw [q]; exact fun z => nomatch z)
      rw [hK (by rw [q]; exact fun z => nomatch z)] at h; cases h)
  have hM : Mod K mg (hidT s1.heap H) := ⟨hKb, nsK hns, ⟨mb, nsK hb, hbb⟩, let ⟨mc, h1, h2⟩ := hlim; ⟨mc, nsK h1, h2⟩⟩
  have e0 : Env0 P w K mg (hidT s1.heap H) callerA [] s1 H := ⟨rfl, hM, fun b o h => of_hidT h, Nat.le_of_eq (hidT_size _ _), trivial, fun b hb => absurd (show b ∈ ([] : List Addr) from hb) (by simp), hok, .of_eq hg⟩
  refine codeAny_mono ((F _ hKb (nsK hns)).run callerA [] s1 H ⟨[.ref a], []⟩ [.ref a] [.ref a] _ _ rfl hr e0 (hbind s1 (.ref a)) (.cons rfl .nil) (hsp H hO hS)) fun r s' h => ?_
  cases r with
  | error z =>
    obtain ⟨_, _, _, _, _, _, _, _, _, _, _, _, q⟩ := h
    exact q.elim
  | ok fl =>
    cases fl with
    | next => exact False.elim h
    | brk => exact False.elim h
    | cont => exact False.elim h
    | ret u =>
      obtain ⟨v, H', os, bare, un, hok', r', q⟩ := h
      obtain rfl : v = .bl true := q
      obtain rfl : u = Value.bool true := r'
      refine ⟨rfl, OldK.of_keep fun b o h => ?_, os, bare⟩
      rcases hO b with z | ⟨ob, xs, z⟩
      · exact un.keep b o h z (by intro z; exact absurd (show b ∈ ([] : List Addr) from z) (by simp)) (by simp)
      · have k1 := (hok b _ z).1
        rw [h] at k1; cases k1
        exact (hok' b _ (un.frzs b _ _ z)).1
end
theorem walk_g {l : PySem.W.OpenLaw} {n k : Nat} {q : Program} {loose : List Str} {XP : (Str → Option Value) → Heap → Prop} {YP : World → Heap → Prop} {d : DefRec} {K : Params → PySem.W.Frag} {sp : World → Sp} {x : Str}
    (hn : l.most = some n) (hn2 : n ≤ sizeLine) (hdf : d.params.defaults = []) (hr : Room k callerA) (hY : ∀ (w : World) (h : Heap), YP w h → (K w.params).In h)
    (F : ∀ (w : World) (mg : Str → Option Value) (fa : Addr) (h : Heap), (K w.params).In h → h.Ns mainGlobals mg → mg d.name = some (.ref fa) →
      ∃ fd : FuncData, (∀ (s : Shared) (u : Value), BindsTo s fd ⟨[u], []⟩ [(x, u)]) ∧
        ∀ base : Heap, (K w.params).In base → base.Ns mainGlobals mg → FnG l.prog w (K w.params) mg base k fa fd [x] (sp w))
    (hsp : ∀ (w : World) (H : Hp) (a : Addr) (ns : List Int), ns.length ≤ n → Only H → SqL (K w.params) H a (ns.map V.int) → sp w [.ref a] H (fun v _ => v = .bl true) fun _ _ _ => False) :
    PySem.W.WalkO q loose XP YP l.row.toRowW d [] (fun f vs => PySem.call f vs) :=
  Att.attach_call hn hdf fun w s₀ s1 mg mb fa o pm cd doc a vs ns G Y ho hd hcd hmg hobj hints hlen hg => by
    have KX := hY w _ Y
    obtain ⟨fd, hb, hF⟩ := F w mg fa _ KX G.T.g hmg
    exact law_g KX G.T.g G.T.b G.T.builtins G.T.nolimit hg hobj hints (Nat.le_trans hlen hn2) hr hF hb fun H hO hS => hsp w H a ns hlen hO hS
/-- the law's promise, from its run on data -/
theorem spf_law {E : En} {cf : CF} {i : Nat} {H : Hp} {a : Addr} {ns : List Int} {st : List D} (hO : Only H) (hS : SqL E.K H a (ns.map V.int)) (h : cf i [.lst (ns.map .int)] [] = some (.ok (.bl true), st)) :
    SpF E cf 1 i [.ref a] H (fun v _ => v = .bl true) fun _ _ _ => False := by
  refine ⟨rfl, ⟨H, fun _ => none, []⟩, [], [.lst (ns.map .int)], ⟨Same.refl _, fun a u h => (nomatch h), fun _ _ _ => rfl, rfl, fun i d h => by simp at h, fun i d h => by simp at h, fun i j d d' a h => by simp at h, rfl, fun i a d h => by simp at h, fun a h => by simp at h, by simp⟩, rvs_one ?_, ?_⟩
  · unfold RepV
    exact ⟨a, _, rfl, hS, rvs_of_ints ns⟩
  · rw [h]
    exact fun g' H' v _ _ _ rv => rv
end Ea

/-! E15: repr, dict, join, sorted by abs, two names at once. -/
namespace Ea
open PySem L2

section
variable {E : En} {X : Cx} {g g' : G} {s : A} {σ σ' : L2.St} {H H' : Hp} {W : WX} {Q : VK} {D₀ : Ends} {a b c d : D} {v x y : V} {e e1 e2 e3 tg : Expr} {es : List Expr} {st : Stmt} {sts sts2 : List Stmt} {ma mb mc : M D} {m n : M Fl} {ms : M (List D)} {pos p p2 p3 : Pos}

/-! ### repr -/
theorem piled_le {ts : List Str} : (listText ts).length ≤ piled ts + 2 := by
  have h : ∀ (ts : List Str) (k : Nat) (acc : Str), (textFrom k acc ts).length ≤ acc.length + piled ts := by
    intro ts
    induction ts with
    | nil => intro k acc; exact Nat.le_add_right _ _
    | cons t r ih =>
      intro k acc
      refine Nat.le_trans (ih (k + 1) _) ?_
      rw [strLen_append, strLen_append, piled_cons]
      have : ((if k > 0 then ", " else "" : String) : Str).length ≤ 2 := by split <;> decide
      omega
  unfold listText
  rw [strLen_append]
  have := h ts 0 "["
  have e1 : (("[" : String) : Str).length = 1 := rfl
  have e2 : (("]" : String) : Str).length = 1 := rfl
  omega
theorem tupleText_le {ts : List Str} : (tupleText ts).length ≤ piled ts + 3 := by
  unfold tupleText
  rw [strLen_append, strLen_append]
  have e1 : ((("(" : String) : Str)).length = 1 := rfl
  have e3 : (((if ts.length == 1 then ",)" else ")" : String) : Str)).length ≤ 2 := by split <;> decide
  by_cases h : ts = []
  · subst h
    have : (Str.join ", " []).length = 0 := rfl
    omega
  · have := join_length_add ts h
    omega
mutual
theorem wt_ok : ∀ {n : Nat} {d : D}, D.pl n d = true → d.wt ≤ 16777216 → d.py.showable = true ∧ d.py.shown.length ≤ d.wt ∧ d.py.hasDict = false
  | _, .non, _, _ => ⟨rfl, by decide, rfl⟩
  | _, .bl b, _, _ => ⟨rfl, by cases b <;> decide, rfl⟩
  | _, .int i, _, h => by
    unfold D.wt at h
    split at h
    · rename_i hi
      refine ⟨decide_eq_true hi, ?_, rfl⟩
      show (Str.ofString (toString i)).length ≤ D.wt (.int i)
      unfold D.wt
      rw [if_pos hi]
      have := int_text_length_le (a := i) (k := i.natAbs.log2 + 1) (by omega) (by omega)
      rw [ofString_length]
      omega
    · omega
  | _, .str x, p, _ => by
    refine ⟨rfl, ?_, rfl⟩
    unfold D.pl at p
    refine PySem.StrLaws.reprText_len x fun c hc => ?_
    have := Array.all_eq_true'.mp p c (by simpa using hc)
    have h2 : c < 0x110000 := by simpa using this
    exact Nat.lt_trans h2 (by decide)
  | 0, .tup xs, p, _ => by simp [D.pl] at p
  | 0, .lst xs, p, _ => by simp [D.pl] at p
  | n + 1, .tup xs, p, h => by
    have h' : D.wts xs + 3 ≤ 16777216 := h
    obtain ⟨h1, h2, h3⟩ := wts_ok (n := n) (d := xs) (by simpa [D.pl] using p) (by omega)
    exact ⟨h1, Nat.le_trans tupleText_le (Nat.add_le_add_right h2 3), h3⟩
  | n + 1, .lst xs, p, h => by
    have h' : D.wts xs + 2 ≤ 16777216 := h
    obtain ⟨h1, h2, h3⟩ := wts_ok (n := n) (d := xs) (by simpa [D.pl] using p) (by omega)
    exact ⟨h1, Nat.le_trans piled_le (Nat.add_le_add_right h2 2), h3⟩
  | n, .dic _, p, _ => by cases n <;> simp [D.pl] at p
  | n, .st _, p, _ => by cases n <;> simp [D.pl] at p
  | n, .ref _, p, _ => by cases n <;> simp [D.pl] at p
  | n, .own _, p, _ => by cases n <;> simp [D.pl] at p
theorem wts_ok : ∀ {n : Nat} {d : List D}, (∀ z ∈ d, D.pl n z = true) → D.wts d ≤ 16777216 → PyData.showableAll (D.pys d) = true ∧ piled (PyData.shownAll (D.pys d)) ≤ D.wts d ∧ PyData.hasDictAll (D.pys d) = false
  | _, [], _, _ => ⟨rfl, Nat.le_refl _, rfl⟩
  | n, x :: xs, p, h => by
    have h' : x.wt + 2 + D.wts xs ≤ 16777216 := h
    obtain ⟨h1, h2, h3⟩ := wt_ok (p x (by simp)) (by omega)
    obtain ⟨h4, h5, h6⟩ := wts_ok (n := n) (d := xs) (fun z hz => p z (List.mem_cons_of_mem _ hz)) (by omega)
    refine ⟨?_, ?_, ?_⟩
    · show (_ && _) = true
      rw [h1, h4]; rfl
    · show piled (x.py.shown :: PyData.shownAll (D.pys xs)) ≤ x.wt + 2 + D.wts xs
      rw [piled_cons]
      omega
    · show (_ || _) = false
      rw [h3, h6]; rfl
end
def rReprA (K : PySem.W.Frag) : List V → Hp → VK → Prop := fun xs H Q => ∃ x d, xs = [x] ∧ Dp K H x d ∧ d.showable = true ∧ d.hasDict = false ∧ d.depth ≤ 60 ∧ d.shown.length ≤ sizeLine ∧ Q (.str d.shown) H
theorem call_repr (hK : Kx E X) : CallR X (.builtin "repr") (rReprA X.K) := by
  intro pins s σ H xs us Q I r h
  obtain ⟨x, d, rfl, hd, h1, h2, h3, h4, q⟩ := h
  obtain ⟨u, rfl, ru⟩ := vals1 r
  obtain ⟨as, rd⟩ := Dp.reads I d x u hd ru
  have fin : ∀ (h' : Heap) (u : Tok) (tk : Nat), (∀ b o, s.heap.get? b = some o → h'.get? b = some o) → EP X pins σ Q (.str d.shown u) { s with heap := h', toks := tk } := fun h' u tk hk =>
    ⟨.str d.shown, H, I.kept hk, ⟨u, rfl⟩, q⟩
  have un := hK.un
  cases hd with
  | non =>
    obtain rfl : u = Value.none := ru
    exact PySem.P.repr_of_none (fin _ _ _ fun _ _ z => z)
  | bl b =>
    obtain rfl : u = Value.bool b := ru
    exact PySem.P.repr_of_bool (fin _ _ _ fun _ _ z => z)
  | int i =>
    obtain ⟨t, rfl⟩ := ru
    exact PySem.P.repr_of_int (of_decide_eq_true h1) (fin _ _ _ fun _ _ z => z)
  | str z =>
    obtain ⟨t, rfl⟩ := ru
    exact PySem.P.repr_of_str (fin _ _ _ fun _ _ z => z) h4
  | lst hs hh =>
    obtain rfl : u = Value.ref _ := ru
    exact repr_of_reads' rd h1 (PyData.noDict_hsm h2) hK.gu (by omega) (fun _ _ z => z) fin h4
  | tup hs hh =>
    obtain rfl : u = Value.ref _ := ru
    exact repr_of_reads' rd h1 (PyData.noDict_hsm h2) hK.gu (by omega) (fun _ _ z => z) fin h4
theorem sop_repr : Sopn E reprF (rReprA E.K) := fun g s σ H cs xs c Q rep rs h q => by
  obtain ⟨d, rfl, h'⟩ := one_some h
  obtain ⟨v, rfl, h1⟩ := rdcs1 rs
  split at h'
  · rename_i ok
    cases h'
    rw [Bool.and_eq_true] at ok
    obtain ⟨w1, w2, w3⟩ := wt_ok ok.1 (of_decide_eq_true ok.2)
    exact ⟨v, d.py, rfl, rdc_dp rep ok.1 h1, w1, w3, (pl_lay ok.1).2, by rw [line]; exact Nat.le_trans w2 (of_decide_eq_true ok.2), q.here rep rfl⟩
  · cases h'
end
end Ea

/-! E16: dict, join, sorted by abs, names at once, chains. -/
namespace Ea
open PySem L2

/-- several names at once: o tells whether the thing is the name's own -/
abbrev MP := M (List (Bool × D))
def nilP : MP := ret []
def consP (o : Bool) (m : M D) (r : MP) : MP := bind m fun x => bind r fun xs => ret ((o, x) :: xs)
def stlP : List (Bool × D) → MP
  | [] => ret []
  | (o, d) :: r => bind (if o = true then ret d else stl d) fun d => bind (stlP r) fun r => ret ((o, d) :: r)
def wrP : List Nat → List (Bool × D) → A → A
  | i :: is, (o, d) :: r, s => ⟨(wrP is r s).fr.set i (if o = true then .own d else .val d), (wrP is r s).st⟩
  | _, _, s => s
def parM (is : List Nat) (mp : MP) : M Fl := bind mp fun ods => bind (stlP ods) fun ods s => some (.ok .nx, wrP is ods s)
def joinM (o e : M D) : M D := bind o fun p => bind (isT isS p) fun _ => bind e fun x => op2 joinD p x
def dicLF : List D → Option D := one fun d => match d with
  | .lst xs => (xs.mapM pairK).map fun ps => .dic (mergeD [] ps)
  | .dic es => some (.dic es)
  | _ => none
def dicTF : List D → Option D := one fun d => match d with
  | .lst xs => (xs.mapM pairK).map fun ps => .dic (mergeD [] ps)
  | .tup xs => (xs.mapM pairK).map fun ps => .dic (mergeD [] ps)
  | .dic es => some (.dic es)
  | _ => none

section
variable {E : En} {X : Cx} {g g' : G} {s : A} {σ σ' : L2.St} {H H' : Hp} {W : WX} {Q : VK} {D₀ : Ends} {a b c d : D} {v x y : V} {e e1 e2 e3 tg : Expr} {es : List Expr} {st : Stmt} {sts sts2 : List Stmt} {ma mb mc : M D} {m n : M Fl} {ms : M (List D)} {pos p p2 p3 : Pos}

/-! ### several names at once -/
theorem RepX.mono {xn : Xn} {cls : Value} {dd : Option Addr} (le : G.Le g g') (h : RepX E g xn cls dd H) : RepX E g' xn cls dd H :=
  ⟨h.1, h.2.imp id fun ⟨d, v, a, h1, h2, h3, h4⟩ => ⟨d, v, a, h1, h2, h3, h4.mono le⟩⟩
def Hands (E : En) (σ : L2.St) : Hp → G → List (Bool × D) → List V → Prop
  | R, g, [], vs => g.R = R ∧ vs = []
  | R, g, (false, d) :: r, vs => ∃ v t, vs = v :: t ∧ RepT E.k g σ d v ∧ Hands E σ R g r t
  | R, g, (true, d) :: r, vs => ∃ q o t, vs = .ref q :: t ∧ R q = none ∧ ObjR E.k g o d ∧ Hands E σ (upd R q o) g r t
def HandsV (E : En) : Hp → G → List (Bool × D) → List V → Prop
  | R, g, [], vs => g.R = R ∧ vs = []
  | R, g, (false, d) :: r, vs => ∃ v t, vs = v :: t ∧ RepV E.k g d v ∧ HandsV E R g r t
  | R, g, (true, d) :: r, vs => ∃ q o t, vs = .ref q :: t ∧ R q = none ∧ ObjR E.k g o d ∧ HandsV E (upd R q o) g r t
theorem Hands.le (le : G.Le g g') (eR : g'.R = g.R) : ∀ {ods : List (Bool × D)} {R : Hp} {vs : List V}, Hands E σ R g ods vs → Hands E σ R g' ods vs
  | [], R, vs, h => ⟨eR.trans h.1, h.2⟩
  | (false, d) :: r, R, vs, ⟨v, t, h1, h2, h3⟩ => ⟨v, t, h1, h2.mono le, Hands.le le eR h3⟩
  | (true, d) :: r, R, vs, ⟨q, o, t, h1, h2, h3, h4⟩ => ⟨q, o, t, h1, h2, h3.mono le, Hands.le le eR h4⟩
def PostP (E : En) (r : Option (Rs (List (Bool × D)) × A)) (g : G) (σ : L2.St) (W : WX) (P : List (Bool × D) → A → G → List V → Hp → Prop) : Prop := match r with
  | none => False
  | some (.ok ods, s') => ∀ g' H' vs, G.Le g g' → Hands E σ g.R g' ods vs → Rep E.k g' s' σ H' → P ods s' g' vs H'
  | some (.ex x, s') => ∀ cls dd g' H', G.Le g g' → g'.R = g.R → Rep E.k g' s' σ H' → RepX E g' x cls dd H' → W cls dd σ H'
def TP (E : En) (mp : MP) (W : WX) : L2.TA := fun σ H Q => ∃ g s, Rep E.k g s σ H ∧ PostP E (mp s) g σ W fun _ _ _ vs H' => Q vs H'
def KP (E : En) (X : Cx) (es : List Expr) (mp : MP) : Prop := ∀ W, Takes X W → PA X es (TP E mp W)
theorem kp_nil : KP E X [] nilP := fun W tk => pa_mono pa_nil fun σ H Q ⟨g, s, rep, post⟩ => post g H [] (G.Le.refl g) ⟨rfl, rfl⟩ rep
theorem kp_v {mp : MP} (ha : KE E X e ma) (hb : KP E X es mp) (hs : starEach (e :: es) X.env = (false, eval e X.env) :: starEach es X.env := by rfl) : KP E X (e :: es) (consP false ma mp) := fun W tk =>
  pa_mono (pa_cons (ha W tk) (hb W tk) hs) fun σ H Q ⟨g, s, rep, post⟩ => by
    refine ⟨g, s, rep, ?_⟩
    unfold PostP consP Ea.bind at post
    unfold PostE
    cases e1 : ma s with
    | none => rw [e1] at post; exact post
    | some z =>
      obtain ⟨r, s1⟩ := z
      rw [e1] at post
      cases r with
      | ex x => exact post
      | ok d =>
        intro g1 H1 le1 eR1 rep1 v rt
        refine ⟨g1, s1, rep1, ?_⟩
        dsimp only at post
        unfold PostP
        cases e2 : mp s1 with
        | none => rw [e2] at post; exact post
        | some z2 =>
          obtain ⟨r2, s2⟩ := z2
          rw [e2] at post
          cases r2 with
          | ex x => exact fun cls dd g2 H2 le2 eR2 rep2 rx => post cls dd g2 H2 (le1.trans le2) (eR2.trans eR1) rep2 rx
          | ok ods =>
            intro g2 H2 vs le2 hh rep2
            rw [eR1] at hh
            exact post g2 H2 (v :: vs) (le1.trans le2) ⟨v, vs, rfl, rt.mono le2, hh⟩ rep2
theorem kp_o {mp : MP} (ha : KF E X e ma) (hb : KP E X es mp) (hs : starEach (e :: es) X.env = (false, eval e X.env) :: starEach es X.env := by rfl) : KP E X (e :: es) (consP true ma mp) := fun W tk =>
  pa_mono (pa_cons (ha W tk) (hb W tk) hs) fun σ H Q ⟨g, s, rep, post⟩ => by
    refine ⟨g, s, rep, ?_⟩
    unfold PostP consP Ea.bind at post
    unfold PostF
    cases e1 : ma s with
    | none => rw [e1] at post; exact post
    | some z =>
      obtain ⟨r, s1⟩ := z
      rw [e1] at post
      cases r with
      | ex x => exact post
      | ok d =>
        intro q o g1 H1 le1 eR1 hn rep1 hd
        refine ⟨g1, s1, rep1, ?_⟩
        dsimp only at post
        unfold PostP
        cases e2 : mp s1 with
        | none => rw [e2] at post; exact post
        | some z2 =>
          obtain ⟨r2, s2⟩ := z2
          rw [e2] at post
          cases r2 with
          | ex x =>
            intro cls dd g2 H2 le2 eR2 rep2 rx
            obtain ⟨F', R', f'⟩ := g2
            dsimp only at eR2
            subst eR2
            have rep2' : Rep E.k ⟨F', upd g.R q o, f'⟩ s2 σ H2 := by rw [eR1] at rep2; exact rep2
            obtain ⟨r, le3⟩ := Rep.toF (g := ⟨F', g.R, f'⟩) rep2' hn
            have le4 : G.Le ⟨F', upd g.R q o, f'⟩ ⟨upd F' q o, g.R, f'⟩ := ⟨le3.F, le3.f⟩
            have rx' : RepX E ⟨F', upd g.R q o, f'⟩ x cls dd H2 := by rw [eR1] at rx; exact rx
            have le5 := (le1.trans le2)
            exact post cls dd ⟨upd F' q o, g.R, f'⟩ H2 ⟨le5.F.trans le3.F, le5.f.trans le3.f⟩ rfl r (rx'.mono le4)
          | ok ods =>
            intro g2 H2 vs le2 hh rep2
            rw [eR1] at hh
            exact post g2 H2 (.ref q :: vs) (le1.trans le2) ⟨q, o, vs, rfl, hn, hd.mono le2, hh⟩ rep2
theorem stlP_ok : ∀ {ods : List (Bool × D)} {vs : List V} {R : Hp} {g : G} {s : A}, Rep E.k g s σ H → Hands E σ R g ods vs →
    stlP ods s = none ∨ ∃ od1 s1 g1, stlP ods s = some (.ok od1, s1) ∧ G.Le g g1 ∧ g1.R = g.R ∧ Rep E.k g1 s1 σ H ∧ HandsV E R g1 od1 vs
  | [], vs, R, g, s, rep, h => .inr ⟨[], s, g, rfl, G.Le.refl g, rfl, rep, h⟩
  | (true, d) :: r, vs, R, g, s, rep, ⟨q, o, t, h1, h2, h3, h4⟩ => by
    unfold stlP Ea.bind
    rw [if_pos rfl]
    dsimp only [ret]
    rcases stlP_ok rep h4 with z | ⟨d1, s1, g1, z, le, eR, rep1, r1⟩
    · left
      rw [z]
    · right
      refine ⟨(true, d) :: d1, s1, g1, ?_, le, eR, rep1, q, o, t, h1, h2, h3.mono le, r1⟩
      rw [z]
  | (false, d) :: r, vs, R, g, s, rep, ⟨v, t, h1, h2, h3⟩ => by
    unfold stlP Ea.bind
    rcases stl_ok rep h2 with z | ⟨d1, s1, g1, z, le, eR, rep1, r1, _⟩
    · left
      rw [if_neg (by decide), z]
    · rcases stlP_ok rep1 (h3.le le eR) with z2 | ⟨d2, s2, g2, z2, le2, eR2, rep2, r2⟩
      · left
        rw [if_neg (by decide), z]
        dsimp only
        rw [z2]
      · right
        refine ⟨(false, d1) :: d2, s2, g2, ?_, le.trans le2, eR2.trans eR, rep2, v, t, h1, r1.mono le2, r2⟩
        rw [if_neg (by decide), z]
        dsimp only
        rw [z2]
        rfl
def setP : List Nat → List V → L2.St → L2.St
  | i :: is, v :: vs, σ => (setP is vs σ).set i (some v)
  | _, _, σ => σ
theorem handsV_le (hF : G.Le g g') (eR : g'.R = g.R) : ∀ {ods : List (Bool × D)} {R : Hp} {vs : List V}, HandsV E R g ods vs → HandsV E R g' ods vs
  | [], R, vs, h => ⟨eR.trans h.1, h.2⟩
  | (false, d) :: r, R, vs, ⟨v, t, h1, h2, h3⟩ => ⟨v, t, h1, h2.mono hF, handsV_le hF eR h3⟩
  | (true, d) :: r, R, vs, ⟨q, o, t, h1, h2, h3, h4⟩ => ⟨q, o, t, h1, h2, h3.mono hF, handsV_le hF eR h4⟩
theorem wrP_ok : ∀ {is : List Nat} {ods : List (Bool × D)} {vs : List V} {R : Hp} {g : G}, Rep E.k g s σ H → HandsV E R g ods vs → is.length = ods.length → Rep E.k ⟨g.F, R, g.f⟩ (wrP is ods s) (setP is vs σ) H
  | [], [], vs, R, g, rep, h, _ => by
    obtain ⟨rfl, rfl⟩ := h
    exact rep
  | [], _ :: _, _, _, _, _, _, e => by simp at e
  | _ :: _, [], _, _, _, _, _, e => by simp at e
  | i :: is, (false, d) :: r, vs, R, g, rep, ⟨v, t, h1, h2, h3⟩, e => by
    subst h1
    have ih := wrP_ok rep h3 (is := is) (by simpa using e)
    exact Rep.put ih (RepV.mono (g := g) (g' := ⟨g.F, R, g.f⟩) ⟨fun _ _ h => h, List.prefix_refl _⟩ h2)
  | i :: is, (true, d) :: r, vs, R, g, rep, ⟨q, o, t, h1, h2, h3, h4⟩, e => by
    subst h1
    have ih := wrP_ok rep h4 (is := is) (by simpa using e)
    exact Rep.toOwn (g := ⟨g.F, R, g.f⟩) ih h2 (ObjR.mono (g := g) (g' := ⟨g.F, upd R q o, g.f⟩) ⟨fun _ _ h => h, List.prefix_refl _⟩ h3)
theorem hands_len : ∀ {ods : List (Bool × D)} {R : Hp} {vs : List V}, HandsV E R g ods vs → vs.length = ods.length
  | [], _, _, h => by rw [h.2]; rfl
  | (false, _) :: _, _, _, ⟨v, t, h1, _, h3⟩ => by subst h1; simp [hands_len h3]
  | (true, _) :: _, _, _, ⟨q, o, t, h1, _, _, h4⟩ => by subst h1; simp [hands_len h4]
theorem par_post {is : List Nat} {mp : MP} (h : PostS E (parM is mp s) g W D₀) (hl : ∀ ods s s', mp s = some (.ok ods, s') → (stlP ods s' = none ∨ ∀ od1 s1, stlP ods s' = some (.ok od1, s1) → od1.length = is.length)) :
    PostP E (mp s) g σ W fun _ _ _ vs H' => vs.length = is.length ∧ D₀.nx (setP is vs σ) H' := by
  unfold parM Ea.bind at h
  unfold PostP
  cases e1 : mp s with
  | none => rw [e1] at h; exact h
  | some z =>
    obtain ⟨r, s1⟩ := z
    rw [e1] at h
    cases r with
    | ex x => exact fun cls dd g' H' le eR rep rx => h cls dd g' σ H' le eR rep rx
    | ok ods =>
      intro g1 H1 vs le1 hh rep1
      dsimp only at h
      have hl1 := hl _ _ _ e1
      rcases stlP_ok rep1 hh with z | ⟨od1, s2, g2, z, le2, eR2, rep2, hv⟩
      · rw [z] at h; exact h.elim
      · rw [z] at h
        dsimp only at h
        have hlen : od1.length = is.length := by
          rcases hl1 with q | q
          · rw [q] at z; cases z
          · exact q _ _ z
        have post : ∀ g' σ' H', G.Le g g' → g'.R = g.R → Rep E.k g' (wrP is od1 s2) σ' H' → D₀.nx σ' H' := h
        have le3 := le1.trans le2
        exact ⟨(hands_len hv).trans hlen, post ⟨g2.F, g.R, g2.f⟩ _ H1 ⟨le3.F, le3.f⟩ rfl (wrP_ok rep2 hv hlen.symm)⟩
theorem stlP_len : ∀ {ods od1 : List (Bool × D)} {s s1 : A}, stlP ods s = some (.ok od1, s1) → od1.length = ods.length
  | [], _, _, _, h => by cases h; rfl
  | (o, d) :: r, od1, s, s1, h => by
    unfold stlP Ea.bind at h
    split at h
    · cases h
    · rename_i d2 s2 _
      try dsimp only [Ea.bind] at h
      try unfold Ea.bind at h
      split at h
      · cases h
      · rename_i r2 s3 e3
        cases h
        simp [stlP_len e3]
      · cases h
    · cases h
/-- how many there are -/
def PLen (mp : MP) (n : Nat) : Prop := ∀ ods s s', mp s = some (.ok ods, s') → ods.length = n
theorem plen_nil : PLen nilP 0 := fun ods s s' h => by cases h; rfl
theorem plen_cons {o : Bool} {mp : MP} {n : Nat} (h : PLen mp n) : PLen (consP o ma mp) (n + 1) := fun ods s s' e => by
  unfold consP Ea.bind at e
  split at e
  · cases e
  · try dsimp only [Ea.bind] at e
    try unfold Ea.bind at e
    split at e
    · cases e
    · rename_i e3
      cases e
      simp [h _ _ _ e3]
    · cases e
  · cases e
theorem k_par2 {mp : MP} {i j : Nat} {n1 n2 : Str} {px py pt : Pos} {kt k2 pt2} (hK : Kx E X) (h : KP E X [e1, e2] mp) (hl : PLen mp 2) (hij : i ≠ j) (hi : X.N[i]? = some n1 := by rfl) (hj : X.N[j]? = some n2 := by rfl)
    (hx : X.env.scope.names.lookup n1 = some .local := by rfl) (hy : X.env.scope.names.lookup n2 = some .local := by rfl)
    (hw : swappedStores [.Tuple [.Name n1 px, .Name n2 py] kt pt] (.Tuple [e1, e2] k2 pt2) X.env = pure (some [n1, n2]) := by rfl)
    (hs : swapsWithSole [.Tuple [.Name n1 px, .Name n2 py] kt pt] (.Tuple [e1, e2] k2 pt2) pos.line X.env = pure false := by rfl) :
    KS E X (.Assign [.Tuple [.Name n1 px, .Name n2 py] kt pt] (.Tuple [e1, e2] k2 pt2) pos) (parM [i, j] mp) := fun W tk =>
  ps_mono (ps_par hK.calm hK.nd hi hj hij hx hy (h W tk) hw hs) fun D σ H ⟨g, s, rep, post⟩ => by
    refine ⟨g, s, rep, ?_⟩
    have p := par_post (σ := σ) post fun ods s s' e => .inr fun od1 s1 e1 => (stlP_len e1).trans (hl _ _ _ e)
    unfold PostP at p ⊢
    split
    · rename_i q; rw [q] at p; exact p
    · rename_i ods s1 q
      rw [q] at p
      intro g1 H1 vs le hh rep1
      obtain ⟨l, r⟩ := p g1 H1 vs le hh rep1
      match vs, l with
      | [v, w], _ =>
        refine ⟨v, w, rfl, ?_⟩
        rw [List.set_comm _ _ hij]
        exact r
    · rename_i q; rw [q] at p; exact p

/-! ### a op b op c -/
theorem chain_t {r r' : R2} {f f' : D → D → Option D} (hs : Sop E f r) (hs' : Sop E f' r') (h : TE E (chain f f' ma mb mc) W σ H Q) : tChain r r' (TE E ma W) (TE E mb W) (TE E mc W) σ H Q := by
    obtain ⟨g, s, rep, post⟩ := h
    refine ⟨g, s, rep, (PostE.bind post).imp fun d s1 g1 H1 _ le1 eR1 rep1 post1 v rt => ?_⟩
    refine ⟨g1, s1, rep1, (PostE.bind post1).imp fun d2 s2 g2 H2 _ le2 eR2 rep2 post2 v2 rt2 => ?_⟩
    obtain ⟨a, b, c, h1, h2, h3, h4⟩ := op2_post (PostE.bind post2)
    refine hs g2 s2 σ H2 a b v v2 c _ rep2 (deref_ok rep2 (rt.mono le2) h1) (deref_ok rep2 rt2 h2) h3 fun g3 H3 le3 eR3 rep3 w rw => ?_
    have post3 := h4 g3 H3 le3 eR3 rep3
    cases c with
    | bl k =>
      have rw' : RepV E.k g3 (.bl k) w := rw
      obtain rfl := rw'
      refine ⟨k, rfl, ?_⟩
      have post4 : PostE E ((if k = true then bind mc fun z => op2 f' d2 z else ret (.bl false)) s2) g3 σ W fun d _ g' H' => ∀ v, RepT E.k g' σ d v → Q v H' := post3
      cases k with
      | false => exact post4 g3 H3 (G.Le.refl _) rfl rep3 _ rfl
      | true =>
        rw [if_pos rfl] at post4 ⊢
        refine ⟨g3, s2, rep3, (PostE.bind post4).imp fun d4 s4 g4 H4 _ le4 eR4 rep4 post5 v4 rt4 => ?_⟩
        obtain ⟨a', b', c', k1, k2, k3, k4⟩ := op2_post post5
        exact hs' g4 s4 σ H4 a' b' v2 v4 c' _ rep4 (deref_ok rep4 ((rt2.mono le3).mono le4) k1) (deref_ok rep4 rt4 k2) k3 k4
    | _ => exact post3.elim
theorem k_chain {op op' : CmpOp} {r r' : R2} {f f' : D → D → Option D} (ho : OpR X (compareOp op) r) (ho' : OpR X (compareOp op') r') (hs : Sop E f r) (hs' : Sop E f' r') (ha : KE E X e ma) (hb : KE E X e1 mb) (hc : KE E X e2 mc)
    (hm : lastMarks [op, op'] [e1, e2] = false := by with_unfolding_all rfl) : KE E X (.Compare e [op, op'] [e1, e2] pos) (chain f f' ma mb mc) := fun W tk =>
  pe_mono (pe_chain ho ho' (ha W tk) (hb W tk) (hc W tk) hm) fun σ H Q h => chain_t hs hs' h

/-! ### join -/
theorem rvs_strs : ∀ {xs : List D} {vs : List V} {ns : List Str}, RepVs E.k g xs vs → allS xs = some ns → vs = ns.map V.str ∧ xs = ns.map D.str
  | [], vs, ns, h, e => by
    unfold RepVs at h
    subst h
    cases e
    exact ⟨rfl, rfl⟩
  | x :: xs, vs, ns, h, e => by
    unfold RepVs at h
    obtain ⟨v, r, rfl, h1, h2⟩ := h
    unfold allS at e
    rw [List.mapM_cons] at e
    cases q : strOf x with
    | none => rw [q] at e; cases e
    | some i =>
      rw [q] at e
      cases q2 : xs.mapM strOf with
      | none => rw [q2] at e; cases e
      | some r2 =>
        rw [q2] at e
        cases e
        obtain ⟨i1, i2⟩ := rvs_strs h2 q2
        unfold strOf at q
        split at q
        · cases q
          obtain rfl : v = .str i := h1
          exact ⟨by rw [i1]; rfl, by rw [i2]; rfl⟩
        · cases q
theorem k_join {apos : Pos} (hKK : X.K = E.K) (ho : KE E X e ma) (he : KE E X e1 mb) (hs : starEach [e1] X.env = [(false, eval e1 X.env)] := by rfl) (hbase : attributeBase e "join" X.env (eval e X.env) = eval e X.env := by rfl) (hline : (apos.endLine == pos.line) = true := by rfl) :
    KE E X (.Call (.Attribute e "join" apos) [e1] [] pos) (joinM ma mb) := fun W tk =>
  pe_mono (pe_join (ho W tk) (he W tk) hs hbase hline) fun σ H Q ⟨g, s, rep, post⟩ => by
    refine ⟨g, s, rep, (PostE.bind post).imp fun d s1 g1 H1 _ le1 eR1 rep1 post1 v rt => ?_⟩
    obtain ⟨c0, hc0, hty0, post2⟩ := post_isT post1
    have r0 := deref_ok rep1 rt hc0
    unfold isS at hty0
    split at hty0
    · rename_i z
      obtain rfl := rdc_str r0
      refine ⟨⟨z, rfl⟩, g1, s1, rep1, (PostE.bind post2).imp fun d2 s2 g2 H2 _ le2 eR2 rep2 post3 v2 rt2 => ?_⟩
      obtain ⟨a, b, c, h1, h2, h3, h4⟩ := op2_post post3
      have ra := deref_ok rep2 (rt.mono le2) h1
      have rb := deref_ok rep2 rt2 h2
      unfold joinD at h3
      split at h3
      · rename_i z2
        have ez := rdc_str ra
        cases ez
        cases b with
        | lst xs =>
          have h3' : ((allS xs).bind fun ys => if decide ((ys.map fun (y : Str) => y.length).sum + ys.length * z.length ≤ 16777216) = true then some (D.str (Txt.join z ys)) else none) = some c := h3
          cases e : allS xs with
          | none => rw [e] at h3'; cases h3'
          | some ys =>
            rw [e] at h3'
            have h3'' : (if decide ((ys.map fun (y : Str) => y.length).sum + ys.length * z.length ≤ 16777216) = true then some (D.str (Txt.join z ys)) else none) = some c := h3'
            split at h3''
            · rename_i hb
              cases h3''
              obtain ⟨q, vs, rfl, k1, k2⟩ := rb
              obtain ⟨rfl, _⟩ := rvs_strs k2 e
              refine ⟨z, q, ys, rfl, rfl, .inl ?_, of_decide_eq_true hb, h4 g2 H2 (G.Le.refl _) rfl rep2 _ rfl⟩
              rw [hKK]; exact k1
            · cases h3''
        | tup xs =>
          have h3' : ((allS xs).bind fun ys => if decide ((ys.map fun (y : Str) => y.length).sum + ys.length * z.length ≤ 16777216) = true then some (D.str (Txt.join z ys)) else none) = some c := h3
          cases e : allS xs with
          | none => rw [e] at h3'; cases h3'
          | some ys =>
            rw [e] at h3'
            have h3'' : (if decide ((ys.map fun (y : Str) => y.length).sum + ys.length * z.length ≤ 16777216) = true then some (D.str (Txt.join z ys)) else none) = some c := h3'
            split at h3''
            · rename_i hb
              cases h3''
              obtain ⟨q, vs, rfl, k1, k2, _⟩ := rdc_tup rep2 rb
              obtain ⟨rfl, _⟩ := rvs_strs k2 e
              refine ⟨z, q, ys, rfl, rfl, .inr ?_, of_decide_eq_true hb, h4 g2 H2 (G.Le.refl _) rfl rep2 _ rfl⟩
              rw [hKK]; exact k1
            · cases h3''
        | _ => cases h3
      · cases h3
    · cases hty0
end
end Ea

/-! E17: dict, sorted by abs. -/
namespace Ea
open PySem L2

section
variable {E : En} {X : Cx} {g g' : G} {s : A} {σ σ' : L2.St} {H H' : Hp} {W : WX} {Q : VK} {D₀ : Ends} {a b c d : D} {v x y : V} {e e1 e2 e3 tg : Expr} {es : List Expr} {st : Stmt} {sts sts2 : List Stmt} {ma mb mc : M D} {m n : M Fl} {ms : M (List D)} {pos p p2 p3 : Pos}

/-! ### dict -/
def rDicN (K : PySem.W.Frag) : List V → Hp → VK → Prop := fun xs H Q => ∃ (a : Addr) (ps : List Addr) (kvs : List (Key × V)), xs = [.ref a] ∧ TpAt ⟨K, true⟩ H a (ps.map V.ref) ∧ Paired (fun p kv => SqT K H p [kV kv.1, kv.2]) ps kvs ∧
    ∀ p, H p = none → Q (.ref p) (upd H p (.dK (mergeK [] kvs)))
theorem pairs_of2 {pins : List (Addr × Obj)} {s : Shared} (I : Inv X pins σ H s) : ∀ {ps : List Addr} {kvs : List (Key × V)}, Paired (fun p kv => SqT X.K H p [kV kv.1, kv.2]) ps kvs →
    ∃ (prs : List (Key × Value)) (vps : List (Value × Value)), KV kvs prs ∧ prs.length = ps.length ∧ vps.length = ps.length ∧
      ∀ (j : Nat) (b : Addr), ps[j]? = some b → ∃ k u v, prs[j]? = some (k, v) ∧ vps[j]? = some (u, v) ∧ PyProof.Rows.IsTup s.heap b #[u, v] ∧ keyIs k u = true
  | _, _, .nil => ⟨[], [], .nil, rfl, rfl, fun j q e => by simp at e⟩
  | _, _, .cons (a := p) (b := kv) h t => by
    obtain ⟨prs, vps, r, hl, hl2, hp⟩ := pairs_of2 I t
    obtain ⟨its, rv, ht, _⟩ := I.tuple h
    obtain ⟨u, y, ei, ru, ry⟩ := vals2 rv
    subst ei
    refine ⟨(kv.1, y) :: prs, (u, y) :: vps, .cons ⟨rfl, ry⟩ r, by rw [List.length_cons, List.length_cons, hl], by rw [List.length_cons, List.length_cons, hl2], fun j b e => ?_⟩
    cases j with
    | zero =>
      have e' : p = b := Option.some.inj e
      subst e'
      exact ⟨kv.1, u, y, rfl, rfl, ht, kV_is (P := X.prog) (w := X.w) ru⟩
    | succ j =>
      obtain ⟨k, u', v', e1, e2, e3, e4⟩ := hp j b (by simpa using e)
      exact ⟨k, u', v', by simpa using e1, by simpa using e2, e3, e4⟩
theorem call_dicN (hK : Kx E X) : CallR X (.type "dict") (rDicN X.K) := by
  intro pins s σ H xs us Q I r q
  obtain ⟨a, ps, kvs, rfl, ⟨hq, hn⟩, hp, q⟩ := q
  obtain ⟨u, rfl, rx⟩ := vals1 r
  obtain rfl : u = Value.ref a := rx
  have key : ∃ (o : Obj) (n : Nat) (its : List Value), s.heap.get? a = some o ∧ o.cls = .type "tuple" ∧ o.dict = none ∧ o.data = .seq its.toArray n ∧ Vals (ps.map V.ref) its ∧ (ps.map V.ref).length ≤ sizeLine := by
    obtain ⟨its, rv, ⟨o, ho, hc, n, hd⟩, hz⟩ := I.tuple hq
    rcases hn rfl with ⟨o', h1, h2⟩ | ⟨o', its', n', h1, h2, h3, h4, h5⟩
    · have e := (I.hok a _ h2).1
      rw [ho] at e; cases e
      exact ⟨o, n, its, ho, hc, h1, hd, rv, hz⟩
    · have e := I.kIn a _ h1
      rw [ho] at e; cases e
      exact ⟨o, n, its, ho, hc, h3, hd, rv, hz⟩
  obtain ⟨o, n, its, ho, hc, hdn, hd, rv, hz⟩ := key
  have ei := refs_at rv
  subst ei
  rw [List.length_map] at hz
  obtain ⟨prs, vps, rel, hl, hl2, hpr⟩ := pairs_of2 I hp
  have P := PairArg.tuple (prog := X.prog) (w := X.w) a (ps.map Value.ref).toArray (fun j => ps.getD j 0) vps
  have at_of : ∀ {j : Nat} {z : Value × Value}, vps[j]? = some z → ∃ b, ps[j]? = some b := fun {j z} e => ⟨_, List.getElem?_eq_getElem (by rw [← hl2]; exact (List.getElem?_eq_some_iff.mp e).1)⟩
  refine call_dict_pairs (knd := mixKind X.prog X.w) (kvs := prs) P (I.ok.hd hK.calm) ⟨⟨o, n, ho, hc, hdn, hd⟩, ?_, fun j k v e => ?_⟩ ⟨by rw [hl, hl2], fun j k v e => ?_⟩ (by rw [hl2]; exact hz) fun h' tk hd' k => ?_
  · simp [hl2]
  · obtain ⟨b, hb⟩ := at_of e
    obtain ⟨k', u', v', h1, h2, h3, h4⟩ := hpr j b hb
    rw [e] at h2; cases h2
    have hgd : ps.getD j 0 = b := by rw [List.getD_eq_getElem?_getD, hb]; rfl
    refine ⟨?_, .inl ?_⟩
    · show (ps.map Value.ref).toArray[j]? = some (Value.ref (ps.getD j 0))
      rw [hgd]
      simp [hb]
    · show s.heap.IsTuple (ps.getD j 0) #[k, v]
      rw [hgd]
      exact h3
  · obtain ⟨b, hb⟩ := at_of e
    obtain ⟨k', u', v', h1, h2, h3, h4⟩ := hpr j b hb
    have e' : vps[j]? = some (k, v) := e
    rw [e'] at h2; cases h2
    exact ⟨k', h1, h4⟩
  · have hm : (s.heap.objs.size == sysModules) = false := beq_eq_false_iff_ne.mpr (Nat.ne_of_gt I.big)
    have hlen : (mergeK [] kvs).length ≤ sizeLine := by
      refine Nat.le_trans (length_mergeK kvs []) ?_
      rw [List.length_nil, Nat.zero_add, rel.length, hl]
      exact hz
    exact ⟨.ref s.heap.objs.size, upd H s.heap.objs.size (.dK (mergeK [] kvs)), I.laid (t' := tk) (fun b o e => k b o (by simp) e) (Nat.le_refl _) (show ObjOk X.prog X.w _ _ _ (.dK (mergeK [] kvs)) from ⟨hlen, hm, merged [] prs, KV.merge rel .nil, hd'⟩), rfl, q _ (I.hok.fresh (Nat.le_refl _))⟩
theorem merge_rep {k : List (Key × D)} : ∀ {ps : List (Key × D)} {es : List D} {kvs rs : List (Key × V)}, RepEs E.k g es kvs → Paired (fun (p : Key × D) (q : Key × V) => p.1 = q.1 ∧ RepV E.k g p.2 q.2) ps rs → RepEs E.k g (mergeD es ps) (mergeK kvs rs)
  | [], es, kvs, _, h, .nil => h
  | (k, d) :: ps, es, kvs, _, h, .cons (b := q) h1 t => by
    obtain ⟨k', v⟩ := q
    obtain ⟨e1, e2⟩ := h1
    dsimp only at e1 e2
    subst e1
    show RepEs E.k g (mergeD (putD es k d) ps) (mergeK (putK kvs k v) _)
    exact merge_rep (k := []) (put_rep e2 h) t
/-- the items of a list of pairs -/
theorem pair_items (rep : Rep E.k g s σ H) : ∀ {xs : List D} {vs : List V} {ps : List (Key × D)}, RepVs E.k g xs vs → xs.mapM pairK = some ps →
    ∃ (as : List Addr) (kvs : List (Key × V)), vs = as.map V.ref ∧ Paired (fun p kv => SqT E.K H p [kV kv.1, kv.2]) as kvs ∧ Paired (fun (p : Key × D) (q : Key × V) => p.1 = q.1 ∧ RepV E.k g p.2 q.2) ps kvs
  | [], vs, ps, h, e => by
    unfold RepVs at h
    subst h
    cases e
    exact ⟨[], [], rfl, .nil, .nil⟩
  | x :: xs, vs, ps, h, e => by
    unfold RepVs at h
    obtain ⟨v, r, rfl, h1, h2⟩ := h
    rw [List.mapM_cons] at e
    cases q : pairK x with
    | none => rw [q] at e; cases e
    | some i =>
      rw [q] at e
      cases q2 : xs.mapM pairK with
      | none => rw [q2] at e; cases e
      | some r2 =>
        rw [q2] at e
        cases e
        obtain ⟨as, kvs, rfl, i2, i3⟩ := pair_items rep h2 q2
        unfold pairK at q
        split at q
        · rename_i a b
          cases ek : a.key with
          | none => rw [ek] at q; cases q
          | some k =>
            rw [ek] at q
            cases q
            have ea := key_of ek
            subst ea
            unfold RepV at h1
            obtain ⟨ad, ws, rfl, k1, k2⟩ := h1
            unfold RepVs at k2
            obtain ⟨v1, r1, rfl, k3, k4⟩ := k2
            unfold RepVs at k4
            obtain ⟨v2, r2', rfl, k5, k6⟩ := k4
            unfold RepVs at k6
            subst k6
            obtain rfl := rep_key k3
            exact ⟨ad :: as, (k, v2) :: kvs, rfl, .cons (same_seqT rep.fH k1.1) i2, .cons ⟨rfl, k5⟩ i3⟩
        · cases q
def rDicL (K : PySem.W.Frag) : List V → Hp → VK → Prop := fun xs H Q => (∃ (a : Addr) (ps : List Addr) (kvs : List (Key × V)), xs = [.ref a] ∧ SqL K H a (ps.map V.ref) ∧ Paired (fun p kv => SqT K H p [kV kv.1, kv.2]) ps kvs ∧
    ∀ p, H p = none → Q (.ref p) (upd H p (.dK (mergeK [] kvs)))) ∨ (∃ (a : Addr) (kvs : List (Key × V)), xs = [.ref a] ∧ Rd H a (.dK kvs) ∧ ∀ p, H p = none → Q (.ref p) (upd H p (.dK kvs)))
theorem call_dicL (hK : Kx E X) : CallR X (.type "dict") (rDicL X.K) := call_or (call_dictP hK.calm) call_dictD
theorem call_dicT (hK : Kx E X) : CallR X (.type "dict") fun xs H Q => rDicL X.K xs H Q ∨ rDicN X.K xs H Q := call_or (call_dicL hK) (call_dicN hK)
theorem sop_dicL : Sopf E dicLF (rDicL E.K) := fun g s σ H cs xs c Q rep rs h q => by
  obtain ⟨d, rfl, h'⟩ := one_some h
  split at h'
  · rename_i ys
    cases e : ys.mapM pairK with
    | none => rw [e] at h'; cases h'
    | some ps =>
      rw [e] at h'
      cases h'
      obtain ⟨v, rfl, p, vs, rfl, h2, h3⟩ := rdcs1 rs
      obtain ⟨as, kvs, rfl, k1, k2⟩ := pair_items rep h3 e
      exact .inl ⟨p, as, kvs, rfl, h2, k1, q.new rep ⟨_, rfl, merge_rep (k := []) (by unfold RepEs; rfl) k2⟩⟩
  · cases h'
    obtain ⟨v, rfl, p, vs, rfl, h2, h3⟩ := rdcs1 rs
    exact .inr ⟨p, vs, rfl, h2, q.new rep ⟨_, rfl, h3⟩⟩
  · cases h'
theorem sop_dicT (hnt : E.k.nt = true) : Sopf E dicTF (fun xs H Q => rDicL E.K xs H Q ∨ rDicN E.K xs H Q) := fun g s σ H cs xs c Q rep rs h q => by
  obtain ⟨d, rfl, h'⟩ := one_some h
  split at h'
  · exact .inl (sop_dicL g s σ H _ xs c Q rep rs h q)
  · rename_i ys
    cases e : ys.mapM pairK with
    | none => rw [e] at h'; cases h'
    | some ps =>
      rw [e] at h'
      cases h'
      obtain ⟨v, rfl, h1⟩ := rdcs1 rs
      have h1' : RepV E.k g (.tup ys) v := h1
      unfold RepV at h1'
      obtain ⟨p, vs, rfl, h2, h3⟩ := h1'
      obtain ⟨as, kvs, rfl, k1, k2⟩ := pair_items rep h3 e
      have h2' := same_tp rep.fH h2
      refine .inr ⟨p, as, kvs, rfl, ⟨h2'.1, fun _ => h2'.2 hnt⟩, k1, q.new rep ⟨_, rfl, merge_rep (k := []) (by unfold RepEs; rfl) k2⟩⟩
  · exact .inl (sop_dicL g s σ H _ xs c Q rep rs h q)
  · cases h'

/-! ### sorted by abs -/
def rSortA (K : PySem.W.Frag) : List V → Hp → VK → Prop := fun xs H Q => ∃ (a : Addr) (ns : List Int), xs = [.ref a] ∧ SqL K H a (ns.map V.int) ∧ ∀ p, H p = none → Q (.ref p) (upd H p (.lst ((sortA ns).map V.int)))
theorem each_ints : ∀ {vs : List Value} {ns : List Int}, Vals (ns.map V.int) vs → PySem.W.EachIs (fun v n => ∃ t, v = Value.int n t) vs ns
  | _, [], .nil => .nil
  | _, n :: ns, .cons h t => .cons h (each_ints t)
theorem ints_each : ∀ {vs : List Value} {ns : List Int}, PySem.W.EachIs (fun v n => ∃ t, v = Value.int n t) vs ns → Vals (ns.map V.int) vs
  | _, _, .nil => .nil
  | _, _, .cons h t => .cons h (ints_each t)
theorem pe_sortA {t : L2.TA} (hK : Kx E X) (hg : Gl X "sorted") (hm : X.mg "sorted" = none) (hga : Gl X "abs") (hma : X.mg "abs" = none) (ha : PA X [e] t)
    (he : backTo pos (starEach [e] X.env) = (false, eval e X.env) :: backTo pos (starEach [] X.env) := by rfl) (hpl : (backTo pos (starEach [e] X.env)).any (·.1) = false := by rfl)
    (hall : (backToKw pos (keywordEach [⟨some "key", .Name "abs" p2, p3⟩] X.env)).all (·.1.isSome) = true := by rfl) (hnone : (backToKw pos (keywordEach [⟨some "key", .Name "abs" p2, p3⟩] X.env)).any (·.1.isNone) = false := by rfl) :
    PE X (.Call (.Name "sorted" p) [e] [⟨some "key", .Name "abs" p2, p3⟩] pos) (fun σ H Q => t σ H fun vs H1 => rSortA X.K vs H1 Q) := by
  refine ⟨fun pins s σ H Q I h => ?_⟩
  refine wpAny_Call_Name_kw (ld_blt I hg hm rfl ?_ (by decide) (by decide))
  refine PyProof.Rows.callWith_kw (thn (ha.run pos pins s σ H _ I h) fun us s1 ⟨vs, H1, I1, r1, q1⟩ => ?_) he hpl hall hnone
  show wpAny _ _ (evalAll ((do let v ← eval (.Name "abs" p2) X.env; standAt pos; pure v) :: [])) _ _ s1
  refine wpAny_evalAll_cons (wpAny_bind (ld_blt I1 hga hma rfl (wpAny_bind (wpAny_standAt (wpAny_pure (wpAny_evalAll_nil ?_)))) (by decide) (by decide)))
  obtain ⟨a, ns, rfl, hs, q⟩ := q1
  obtain ⟨u, rfl, ru⟩ := vals1 r1
  obtain rfl : u = Value.ref a := ru
  obtain ⟨its, rv, hl, hz⟩ := I1.list hs
  have un := hK.un
  show wpAny _ _ (call (.builtin "sorted") [.ref a] [(Str.ofString "key", .builtin "abs")]) _ _ s1
  refine PySem.W.sorted_key_data (b := false) (bs := ns) (fun n => PyData.int (absI n)) hl.isList (each_ints rv) (PySem.W.AllAlike.of fun _ _ => by simp [PySem.W.alike]) (PySem.W.Sortable.others fun _ => ⟨by simp, by simp⟩) (by rw [List.length_map] at hz; exact hz)
    (fun n _ => ?_) (PyProof.Rows.ksk_s1 _ _) (fun _ => PyProof.Rows.ksk_l1 _ _) (fun _ => PyProof.Rows.ksk_t4 _ _) (fun v n hv _ h tk kp => ?_) fun out c h' tk kp hn hD hlen eo => ?_
  · simp only [PyData.depth]
    omega
  · obtain ⟨tt, rfl⟩ := hv
    exact PyProof.Rows.call_abs_int fun u tk' => ⟨h, tk', rfl, fun _ _ z => z, .int _ _⟩
  · have hv := ints_each eo
    rw [PySem.W.dataLe_int (β := Int) absI] at hv
    have hl2 : ((sortA ns).map V.int).length ≤ sizeLine := by
      rw [List.length_map] at hz ⊢
      unfold sortA
      rw [List.length_mergeSort]
      exact hz
    have ho : ObjOk X.prog X.w (upd H1 (s1.heap.objs.size + 1) (.lst ((sortA ns).map V.int))) h' (s1.heap.objs.size + 1) (.lst ((sortA ns).map V.int)) := ⟨hl2, out, c, hv, hD⟩
    exact ⟨.ref _, _, I1.laid (t' := tk) kp (Nat.le_succ _) ho, rfl, q _ (I1.hok.fresh (Nat.le_succ _))⟩
theorem sop_sortA : Sopf E sortAF (rSortA E.K) := fun g s σ H cs xs c Q rep rs h q => by
  obtain ⟨d, hd, h⟩ := one_some h
  obtain ⟨p, ns, rfl, h2, h3⟩ := int_arg (k := fun ns => some (D.lst ((sortA ns).map D.int))) rs hd (by simpa [Option.map_eq_bind, Function.comp_def] using h)
  cases h3
  exact ⟨p, ns, rfl, h2, q.new rep ⟨_, rfl, rvs_of_ints _⟩⟩
theorem kf_sortA (hK : Kx E X) (hg : Gl X "sorted") (hm : X.mg "sorted" = none) (hga : Gl X "abs") (hma : X.mg "abs" = none) (ha : KA E X [e] ms)
    (he : backTo pos (starEach [e] X.env) = (false, eval e X.env) :: backTo pos (starEach [] X.env) := by rfl) (hpl : (backTo pos (starEach [e] X.env)).any (·.1) = false := by rfl)
    (hall : (backToKw pos (keywordEach [⟨some "key", .Name "abs" p2, p3⟩] X.env)).all (·.1.isSome) = true := by rfl) (hnone : (backToKw pos (keywordEach [⟨some "key", .Name "abs" p2, p3⟩] X.env)).any (·.1.isNone) = false := by rfl) :
    KF E X (.Call (.Name "sorted" p) [e] [⟨some "key", .Name "abs" p2, p3⟩] pos) (opn sortAF ms) := fun W tk =>
  pe_mono (pe_sortA hK hg hm hga hma (ha W tk) he hpl hall hnone) fun σ H Q h => by
    rw [hK.K]
    exact tf_n sop_sortA h
end
end Ea

/-! E18: the rules with few premises; defs that call each other. -/
namespace Ea
open PySem L2

section
variable {E : En} {X : Cx} {g g' : G} {s : A} {σ σ' : L2.St} {H H' : Hp} {W : WX} {Q : VK} {D₀ : Ends} {a b c d : D} {v x y : V} {e e1 e2 e3 tg : Expr} {es : List Expr} {st : Stmt} {sts sts2 : List Stmt} {ma mb mc : M D} {m n : M Fl} {ms : M (List D)} {pos p p2 p3 : Pos}
theorem Kx.u64 (hK : Kx E X) : X.A.units + 64 < cLine := by have := hK.un; omega
theorem Kx.u65 (hK : Kx E X) : X.A.units + 65 < cLine := by have := hK.un; omega
theorem Kx.u1 (hK : Kx E X) : X.A.units + 1 < cLine := by have := hK.un; omega
theorem q_eq (hK : Kx E X) (ha : KE E X e1 ma) (hb : KE E X e2 mb) : KE E X (.Compare e1 [.Eq] [e2] pos) (bin eqD ma mb) := k_eq hK hK.u64 ha hb
theorem q_ne (hK : Kx E X) (ha : KE E X e1 ma) (hb : KE E X e2 mb) : KE E X (.Compare e1 [.NotEq] [e2] pos) (bin neD ma mb) := k_ne hK hK.u64 ha hb
theorem q_in (hK : Kx E X) (ha : KE E X e1 ma) (hb : KE E X e2 mb) (hm : behindInMarks .In e2 = false := by rfl) : KE E X (.Compare e1 [.In] [e2] pos) (bin inD ma mb) := k_in hK hK.u65 ha hb hm
theorem q_nin (hK : Kx E X) (ha : KE E X e1 ma) (hb : KE E X e2 mb) (hm : behindInMarks .NotIn e2 = false := by rfl) : KE E X (.Compare e1 [.NotIn] [e2] pos) (bin ninD ma mb) := k_nin hK hK.u65 ha hb hm
theorem q_ix (hK : Kx E X) (ha : KE E X e1 ma) (hb : KE E X e2 mb) (hs : PlainIx e2 := by intro _ _; rfl) : KE E X (.Subscript e1 e2 pos) (bin ixD ma mb) := k_ix hK hK.u1 ha hb hs
theorem q_setIx (hK : Kx E X) (hv : KE E X e ma) (ho : KE E X e1 mb) (hi : KE E X e2 mc) (hs : swapsWithSole [.Subscript e1 e2 p] e pos.line X.env = pure false := by rfl) (hw : swappedStores [.Subscript e1 e2 p] e X.env = pure none := by rfl)
    (h1 : (assignEach [.Subscript e1 e2 p] X.env).map (·.2) = [assign (.Subscript e1 e2 p) X.env] := by rfl)
    (ha : ∀ v, assign (.Subscript e1 e2 p) X.env v = (do
      let ov ← holding [v] (eval e1 X.env)
      let iv ← holding [v, ov] (eval e2 X.env)
      standAt p
      holding [v, ov, iv] (setItem ov iv v)
      release [v, ov, iv] []) := by intro _; rfl) : KS E X (.Assign [.Subscript e1 e2 p] e pos) (setIx mb mc ma) := k_setIx hK hK.u1 hv ho hi hs hw h1 ha
theorem k_chain2 {o o' : CmpOp} {f f' : Int → Int → Bool} (ho : OpR X (compareOp o) (rI0 fun i j => .bl (f i j))) (ho' : OpR X (compareOp o') (rI0 fun i j => .bl (f' i j))) (ha : KE E X e ma) (hb : KE E X e1 mb) (hc : KE E X e2 mc)
    (hm : lastMarks [o, o'] [e1, e2] = false := by with_unfolding_all rfl) : KE E X (.Compare e [o, o'] [e1, e2] pos) (chain (cmpD f) (cmpD f') ma mb mc) := k_chain ho ho' sop_cmp sop_cmp ha hb hc hm
/-! ### comparisons as tests -/
theorem tt_tst {Qb : Bool → Hp → Prop} (h : TT E (tst ma) W σ H Qb) : TE E ma W σ H fun x H' => ∃ k, x = .bl k ∧ Qb k H' := by
  obtain ⟨g, s, rep, post⟩ := h
  refine ⟨g, s, rep, (PostE.bind post).imp fun d s1 g1 H1 _ le1 eR1 rep1 post1 v rt => ?_⟩
  cases e2 : asB d with
  | none => rw [e2] at post1; exact post1.elim
  | some b =>
    rw [e2] at post1
    have := asB_some e2
    subst this
    exact ⟨b, rept_bl rt, post1 g1 H1 (G.Le.refl _) rfl rep1⟩
theorem q_cmpT {o : CmpOp} {f : D → D → Option D} {r : R2} (ho : OpR X (compareOp o) r) (hs : Sop E f r) (ha : KE E X e1 ma) (hb : KE E X e2 mb) (hm : behindInMarks o e2 = false) : KT E X (.Compare e1 [o] [e2] pos) (tst (bin f ma mb)) := fun W tk =>
  pt_mono (pt_cmpR ho (ha W tk) (hb W tk) hm) fun σ H Q h => te2 hs (tt_tst h)
theorem q_eqT (hK : Kx E X) (ha : KE E X e1 ma) (hb : KE E X e2 mb) : KT E X (.Compare e1 [.Eq] [e2] pos) (tst (bin eqD ma mb)) := q_cmpT (op_eqA hK.u64) (by rw [hK.K]; exact sop_eq) ha hb (nomark _)
theorem q_neT (hK : Kx E X) (ha : KE E X e1 ma) (hb : KE E X e2 mb) : KT E X (.Compare e1 [.NotEq] [e2] pos) (tst (bin neD ma mb)) := q_cmpT (op_neA hK.u64) (by rw [hK.K]; exact sop_ne) ha hb (nomark _)
theorem q_ltT (ha : KE E X e1 ma) (hb : KE E X e2 mb) : KT E X (.Compare e1 [.Lt] [e2] pos) (tst (bin ltD ma mb)) := q_cmpT op_lt sop_cmp ha hb (nomark _)
theorem q_leT (ha : KE E X e1 ma) (hb : KE E X e2 mb) : KT E X (.Compare e1 [.LtE] [e2] pos) (tst (bin leD ma mb)) := q_cmpT op_le sop_cmp ha hb (nomark _)
theorem q_gtT (ha : KE E X e1 ma) (hb : KE E X e2 mb) : KT E X (.Compare e1 [.Gt] [e2] pos) (tst (bin gtD ma mb)) := q_cmpT op_gt sop_cmp ha hb (nomark _)
theorem q_geT (ha : KE E X e1 ma) (hb : KE E X e2 mb) : KT E X (.Compare e1 [.GtE] [e2] pos) (tst (bin geD ma mb)) := q_cmpT op_ge sop_cmp ha hb (nomark _)
theorem q_inT (hK : Kx E X) (ha : KE E X e1 ma) (hb : KE E X e2 mb) (hm : behindInMarks .In e2 = false := by rfl) : KT E X (.Compare e1 [.In] [e2] pos) (tst (bin inD ma mb)) :=
  q_cmpT ((op_inX hK.u65).or ((op_inDic (by have := hK.un; omega)).or op_inSg)) (by rw [hK.K]; exact sop_in) ha hb hm
theorem q_ninT (hK : Kx E X) (ha : KE E X e1 ma) (hb : KE E X e2 mb) (hm : behindInMarks .NotIn e2 = false := by rfl) : KT E X (.Compare e1 [.NotIn] [e2] pos) (tst (bin ninD ma mb)) :=
  q_cmpT ((op_ninX hK.u65).or ((op_ninDic (by have := hK.un; omega)).or op_ninSg)) (by rw [hK.K]; exact sop_nin) ha hb hm
theorem q_isT (ha : KE E X e1 ma) {p2 : Pos} {j} : KT E X (.Compare e1 [.Is] [.Constant .none j p2] pos) (tst (un isD ma)) := fun W tk =>
  pt_mono (pt_cmpR op_isN (ha W tk) pe_non (nomark _)) fun σ H Q h => by
    obtain ⟨g, s, rep, post⟩ := tt_tst h
    refine ⟨g, s, rep, (PostE.bind post).imp fun d s1 g1 H1 _ le1 eR1 rep1 post1 v rt => ?_⟩
    obtain ⟨a, c, h1, h3, h4⟩ := op1_post post1
    cases h3
    refine ⟨rfl, ?_⟩
    rw [rdc_non' (deref_ok rep1 rt h1)]
    exact h4 g1 H1 (G.Le.refl _) rfl rep1 _ (RepV.t (d := .bl _) rfl)
theorem q_isnT (ha : KE E X e1 ma) {p2 : Pos} {j} : KT E X (.Compare e1 [.IsNot] [.Constant .none j p2] pos) (tst (un isnD ma)) := fun W tk =>
  pt_mono (pt_cmpR op_notN (ha W tk) pe_non (nomark _)) fun σ H Q h => by
    obtain ⟨g, s, rep, post⟩ := tt_tst h
    refine ⟨g, s, rep, (PostE.bind post).imp fun d s1 g1 H1 _ le1 eR1 rep1 post1 v rt => ?_⟩
    obtain ⟨a, c, h1, h3, h4⟩ := op1_post post1
    cases h3
    refine ⟨rfl, ?_⟩
    rw [rdc_non' (deref_ok rep1 rt h1)]
    exact h4 g1 H1 (G.Le.refl _) rfl rep1 _ (RepV.t (d := .bl _) rfl)
theorem q_chain2T {o o' : CmpOp} {f f' : Int → Int → Bool} (ho : OpR X (compareOp o) (rI0 fun i j => .bl (f i j))) (ho' : OpR X (compareOp o') (rI0 fun i j => .bl (f' i j))) (ha : KE E X e ma) (hb : KE E X e1 mb) (hc : KE E X e2 mc)
    (hm : lastMarks [o, o'] [e1, e2] = false := by with_unfolding_all rfl) : KT E X (.Compare e [o, o'] [e1, e2] pos) (tst (chain (cmpD f) (cmpD f') ma mb mc)) := fun W tk =>
  pt_mono (pt_chain ho ho' (ha W tk) (hb W tk) (hc W tk) hm) fun σ H Q h => chain_t sop_cmp sop_cmp (tt_tst h)
theorem bt_abs : bootBuiltins "abs" = some (.builtin "abs") := by decide +kernel
theorem bt_all : bootBuiltins "all" = some (.builtin "all") := by decide +kernel
theorem bt_any : bootBuiltins "any" = some (.builtin "any") := by decide +kernel
theorem bt_dict : bootBuiltins "dict" = some (.type "dict") := by decide +kernel
theorem bt_int : bootBuiltins "int" = some (.type "int") := by decide +kernel
theorem bt_len : bootBuiltins "len" = some (.builtin "len") := by decide +kernel
theorem bt_list : bootBuiltins "list" = some (.type "list") := by decide +kernel
theorem bt_max : bootBuiltins "max" = some (.builtin "max") := by decide +kernel
theorem bt_min : bootBuiltins "min" = some (.builtin "min") := by decide +kernel
theorem bt_repr : bootBuiltins "repr" = some (.builtin "repr") := by decide +kernel
theorem bt_sorted : bootBuiltins "sorted" = some (.builtin "sorted") := by decide +kernel
theorem bt_str : bootBuiltins "str" = some (.type "str") := by decide +kernel
theorem bt_sum : bootBuiltins "sum" = some (.builtin "sum") := by decide +kernel
theorem bt_tuple : bootBuiltins "tuple" = some (.type "tuple") := by decide +kernel
theorem q_len (hK : Kx E X) (hm : X.mg "len" = none) (ha : KA E X (e :: es) ms) (hg : Gl X "len" := by rfl) (he : starEach (e :: es) X.env = (false, eval e X.env) :: starEach es X.env := by rfl) (hpl : (backTo pos (starEach es X.env)).any (·.1) = false := by rfl) :
    KE E X (.Call (.Name "len" p) (e :: es) [] pos) (opn lenF ms) := k_bi call_lenA (by first | exact sop_len | (rw [hK.K]; exact sop_len)) hg hm bt_len ha (by decide) (by decide) he hpl
theorem q_abs (hK : Kx E X) (hm : X.mg "abs" = none) (ha : KA E X (e :: es) ms) (hg : Gl X "abs" := by rfl) (he : starEach (e :: es) X.env = (false, eval e X.env) :: starEach es X.env := by rfl) (hpl : (backTo pos (starEach es X.env)).any (·.1) = false := by rfl) :
    KE E X (.Call (.Name "abs" p) (e :: es) [] pos) (opn absF ms) := k_bi call_abs (by first | exact sop_abs | (rw [hK.K]; exact sop_abs)) hg hm bt_abs ha (by decide) (by decide) he hpl
theorem q_int (hK : Kx E X) (hm : X.mg "int" = none) (ha : KA E X (e :: es) ms) (hg : Gl X "int" := by rfl) (he : starEach (e :: es) X.env = (false, eval e X.env) :: starEach es X.env := by rfl) (hpl : (backTo pos (starEach es X.env)).any (·.1) = false := by rfl) :
    KE E X (.Call (.Name "int" p) (e :: es) [] pos) (opn intF ms) := k_ty call_int1 (by first | exact sop_int | (rw [hK.K]; exact sop_int)) hg hm bt_int ha (by decide) (by decide) he hpl
theorem q_str (hK : Kx E X) (hm : X.mg "str" = none) (ha : KA E X (e :: es) ms) (hg : Gl X "str" := by rfl) (he : starEach (e :: es) X.env = (false, eval e X.env) :: starEach es X.env := by rfl) (hpl : (backTo pos (starEach es X.env)).any (·.1) = false := by rfl) :
    KE E X (.Call (.Name "str" p) (e :: es) [] pos) (opn strF ms) := k_ty (call_or call_str_int SkE.call_str_str) (by first | exact sop_str | (rw [hK.K]; exact sop_str)) hg hm bt_str ha (by decide) (by decide) he hpl
theorem q_tuple (hK : Kx E X) (hm : X.mg "tuple" = none) (ha : KA E X (e :: es) ms) (hg : Gl X "tuple" := by rfl) (he : starEach (e :: es) X.env = (false, eval e X.env) :: starEach es X.env := by rfl) (hpl : (backTo pos (starEach es X.env)).any (·.1) = false := by rfl) :
    KE E X (.Call (.Name "tuple" p) (e :: es) [] pos) (opn tupF ms) := k_ty (call_tupleN (nt := E.k.nt)) (by first | exact sop_tup | (rw [hK.K]; exact sop_tup)) hg hm bt_tuple ha (by decide) (by decide) he hpl
theorem q_list (hK : Kx E X) (hm : X.mg "list" = none) (ha : KA E X (e :: es) ms) (hg : Gl X "list" := by rfl) (he : starEach (e :: es) X.env = (false, eval e X.env) :: starEach es X.env := by rfl) (hpl : (backTo pos (starEach es X.env)).any (·.1) = false := by rfl) :
    KF E X (.Call (.Name "list" p) (e :: es) [] pos) (opn lstF ms) := kf_ty call_list_of (by first | exact sop_lst | (rw [hK.K]; exact sop_lst)) hg hm bt_list ha (by decide) (by decide) he hpl
theorem q_sum (hK : Kx E X) (hm : X.mg "sum" = none) (ha : KA E X (e :: es) ms) (hg : Gl X "sum" := by rfl) (he : starEach (e :: es) X.env = (false, eval e X.env) :: starEach es X.env := by rfl) (hpl : (backTo pos (starEach es X.env)).any (·.1) = false := by rfl) :
    KE E X (.Call (.Name "sum" p) (e :: es) [] pos) (opn sumF ms) := k_bi (cr_sum hK.calm) (by first | exact sop_sum | (rw [hK.K]; exact sop_sum)) hg hm bt_sum ha (by decide) (by decide) he hpl
theorem q_max (hK : Kx E X) (hm : X.mg "max" = none) (ha : KA E X (e :: es) ms) (hg : Gl X "max" := by rfl) (he : starEach (e :: es) X.env = (false, eval e X.env) :: starEach es X.env := by rfl) (hpl : (backTo pos (starEach es X.env)).any (·.1) = false := by rfl) :
    KE E X (.Call (.Name "max" p) (e :: es) [] pos) (opn maxF ms) := k_bi (cr_max hK.calm) (by first | exact sop_max | (rw [hK.K]; exact sop_max)) hg hm bt_max ha (by decide) (by decide) he hpl
theorem q_min (hK : Kx E X) (hm : X.mg "min" = none) (ha : KA E X (e :: es) ms) (hg : Gl X "min" := by rfl) (he : starEach (e :: es) X.env = (false, eval e X.env) :: starEach es X.env := by rfl) (hpl : (backTo pos (starEach es X.env)).any (·.1) = false := by rfl) :
    KE E X (.Call (.Name "min" p) (e :: es) [] pos) (opn minF ms) := k_bi (cr_min hK.calm) (by first | exact sop_min | (rw [hK.K]; exact sop_min)) hg hm bt_min ha (by decide) (by decide) he hpl
theorem q_max2 (hK : Kx E X) (hm : X.mg "max" = none) (ha : KA E X (e :: es) ms) (hg : Gl X "max" := by rfl) (he : starEach (e :: es) X.env = (false, eval e X.env) :: starEach es X.env := by rfl) (hpl : (backTo pos (starEach es X.env)).any (·.1) = false := by rfl) :
    KE E X (.Call (.Name "max" p) (e :: es) [] pos) (opn max2F ms) := k_bi (call_max2 hK.calm) (by first | exact sop_max2 | (rw [hK.K]; exact sop_max2)) hg hm bt_max ha (by decide) (by decide) he hpl
theorem q_min2 (hK : Kx E X) (hm : X.mg "min" = none) (ha : KA E X (e :: es) ms) (hg : Gl X "min" := by rfl) (he : starEach (e :: es) X.env = (false, eval e X.env) :: starEach es X.env := by rfl) (hpl : (backTo pos (starEach es X.env)).any (·.1) = false := by rfl) :
    KE E X (.Call (.Name "min" p) (e :: es) [] pos) (opn min2F ms) := k_bi (call_min2 hK.calm) (by first | exact sop_min2 | (rw [hK.K]; exact sop_min2)) hg hm bt_min ha (by decide) (by decide) he hpl
theorem q_all (hK : Kx E X) (hm : X.mg "all" = none) (ha : KA E X (e :: es) ms) (hg : Gl X "all" := by rfl) (he : starEach (e :: es) X.env = (false, eval e X.env) :: starEach es X.env := by rfl) (hpl : (backTo pos (starEach es X.env)).any (·.1) = false := by rfl) :
    KE E X (.Call (.Name "all" p) (e :: es) [] pos) (opn allF ms) := k_bi (cr_all hK.calm) (by first | exact sop_all | (rw [hK.K]; exact sop_all)) hg hm bt_all ha (by decide) (by decide) he hpl
theorem q_any (hK : Kx E X) (hm : X.mg "any" = none) (ha : KA E X (e :: es) ms) (hg : Gl X "any" := by rfl) (he : starEach (e :: es) X.env = (false, eval e X.env) :: starEach es X.env := by rfl) (hpl : (backTo pos (starEach es X.env)).any (·.1) = false := by rfl) :
    KE E X (.Call (.Name "any" p) (e :: es) [] pos) (opn anyF ms) := k_bi (cr_any hK.calm) (by first | exact sop_any | (rw [hK.K]; exact sop_any)) hg hm bt_any ha (by decide) (by decide) he hpl
theorem q_sorted (hK : Kx E X) (hm : X.mg "sorted" = none) (ha : KA E X (e :: es) ms) (hg : Gl X "sorted" := by rfl) (he : starEach (e :: es) X.env = (false, eval e X.env) :: starEach es X.env := by rfl) (hpl : (backTo pos (starEach es X.env)).any (·.1) = false := by rfl) :
    KF E X (.Call (.Name "sorted" p) (e :: es) [] pos) (opn sortF ms) := kf_bi cr_sortedI (by first | exact sop_sort | (rw [hK.K]; exact sop_sort)) hg hm bt_sorted ha (by decide) (by decide) he hpl
theorem q_dicL (hK : Kx E X) (hm : X.mg "dict" = none) (ha : KA E X (e :: es) ms) (hg : Gl X "dict" := by rfl) (he : starEach (e :: es) X.env = (false, eval e X.env) :: starEach es X.env := by rfl) (hpl : (backTo pos (starEach es X.env)).any (·.1) = false := by rfl) :
    KF E X (.Call (.Name "dict" p) (e :: es) [] pos) (opn dicLF ms) := kf_ty (call_dicL hK) (by first | exact sop_dicL | (rw [hK.K]; exact sop_dicL)) hg hm bt_dict ha (by decide) (by decide) he hpl
theorem q_repr (hK : Kx E X) (hm : X.mg "repr" = none) (ha : KA E X (e :: es) ms) (hg : Gl X "repr" := by rfl) (he : starEach (e :: es) X.env = (false, eval e X.env) :: starEach es X.env := by rfl) (hpl : (backTo pos (starEach es X.env)).any (·.1) = false := by rfl) :
    KE E X (.Call (.Name "repr" p) (e :: es) [] pos) (opn reprF ms) := k_bi (call_repr hK) (by first | exact sop_repr | (rw [hK.K]; exact sop_repr)) hg hm bt_repr ha (by decide) (by decide) he hpl
theorem q_dicT (hnt : E.k.nt = true) (hK : Kx E X) (hm : X.mg "dict" = none) (ha : KA E X (e :: es) ms) (hg : Gl X "dict" := by rfl) (he : starEach (e :: es) X.env = (false, eval e X.env) :: starEach es X.env := by rfl) (hpl : (backTo pos (starEach es X.env)).any (·.1) = false := by rfl) :
    KF E X (.Call (.Name "dict" p) (e :: es) [] pos) (opn dicTF ms) := kf_ty (call_dicT hK) (by rw [hK.K]; exact sop_dicT hnt) hg hm bt_dict ha (by decide) (by decide) he hpl
theorem q_sortA (hK : Kx E X) (hm : X.mg "sorted" = none) (hma : X.mg "abs" = none) (ha : KA E X [e] ms) (hg : Gl X "sorted" := by rfl) (hga : Gl X "abs" := by rfl)
    (he : backTo pos (starEach [e] X.env) = (false, eval e X.env) :: backTo pos (starEach [] X.env) := by rfl) (hpl : (backTo pos (starEach [e] X.env)).any (·.1) = false := by rfl)
    (hall : (backToKw pos (keywordEach [⟨some "key", .Name "abs" p2, p3⟩] X.env)).all (·.1.isSome) = true := by rfl) (hnone : (backToKw pos (keywordEach [⟨some "key", .Name "abs" p2, p3⟩] X.env)).any (·.1.isNone) = false := by rfl) :
    KF E X (.Call (.Name "sorted" p) [e] [⟨some "key", .Name "abs" p2, p3⟩] pos) (opn sortAF ms) := kf_sortA hK hg hm hga hma ha he hpl hall hnone
theorem q_rng1 (hm : X.mg "range" = none) (h : KA E X [e] ms) (hg : Gl X "range" := by rfl) (hs : starEach [e] X.env = [(false, eval e X.env)] := by rfl) : KI E X tg (.Call (.Name "range" p) [e] [] pos) (rng1 ms) := ki_rng1 hg hm h hs
theorem q_rng2 (hm : X.mg "range" = none) (h : KA E X [e, e2] ms) (hg : Gl X "range" := by rfl) (hs : starEach [e, e2] X.env = [(false, eval e X.env), (false, eval e2 X.env)] := by rfl) (hs2 : starEach [e2] X.env = [(false, eval e2 X.env)] := by rfl) :
    KI E X tg (.Call (.Name "range" p) [e, e2] [] pos) (rng2 ms) := ki_rng2 hg hm h hs hs2

/-! ### how many arguments there are -/
def ALen (ms : M (List D)) (n : Nat) : Prop := ∀ ds s s', ms s = some (.ok ds, s') → ds.length = n
theorem alen_nil : ALen nilM 0 := fun ds s s' h => by cases h; rfl
theorem alen_cons {k : Nat} (h : ALen ms k) : ALen (consM ma ms) (k + 1) := fun ds s s' e => by
  unfold consM Ea.bind at e
  split at e
  · cases e
  · try dsimp only [Ea.bind] at e
    try unfold Ea.bind at e
    split at e
    · cases e
    · rename_i e3
      cases e
      simp [h _ _ _ e3]
    · cases e
  · cases e

/-! ### defs -/
section
variable {P : Program} {w : World} {K : PySem.W.Frag} {mg : Str → Option Value} {base : Heap}
theorem callF_len {T : Nat → Option Fn} {i : Nat} {fn : Fn} (hT : T i = some fn) : ∀ n ds st, callF T n i ds st ≠ none → ds.length = fn.p
  | 0, ds, st, h => absurd rfl h
  | n + 1, ds, st, h => by
    unfold callF at h
    rw [hT] at h
    dsimp only at h
    unfold runFn at h
    split at h
    · rename_i q; exact q
    · exact absurd rfl h
/-- the def at the name nm, the i-th, with np parameters -/
structure CallD (E : En) (P : Program) (w : World) (K : PySem.W.Frag) (mg : Str → Option Value) (base : Heap) (cf : CF) (k : Nat) (nm : Str) (i np : Nat) (fd : FuncData) (ps : List Str) : Prop where
  ex : ∃ f : Addr, mg nm = some (.ref f) ∧ PySem.W.keepIn K (.ref f) = true ∧ FnG P w K mg base k f fd ps (SpF E cf np i)
  bi : Binds K fd ps []
  pl : ps.length = np
  ln : ∀ ds st, cf i ds st ≠ none → ds.length = np
theorem CallD.ok {cf : CF} {k i np : Nat} {nm : Str} {fd : FuncData} {ps : List Str} (h : CallD E X.prog X.w X.K X.mg X.base cf k nm i np fd ps) (hr : Room k X.A) : CallOk E X cf nm i np :=
  let ⟨f, h1, h2, h3⟩ := h.ex
  ⟨f, fd, k, ps, h1, h2, h.bi, h.pl, h.ln, h3, hr⟩
theorem CallD.okK {cf : CF} {k i np na : Nat} {nm : Str} {fd : FuncData} {ps ks : List Str} {pm : List Nat} (h : CallD E X.prog X.w X.K X.mg X.base cf k nm i np fd ps) (hr : Room k X.A)
    (hb : ∀ (s : Shared) (us ws : List Value), us.length = na → ws.length = ks.length → BindsTo s fd ⟨us, ks.zip ws⟩ (ps.zip (pm.map fun i => (us ++ ws).getD i .none))) (hpm : pm.length = np ∧ ∀ j ∈ pm, j < na + ks.length) : CallKOk E X cf nm i np na ks pm :=
  let ⟨f, h1, h2, h3⟩ := h.ex
  ⟨f, fd, k, ps, h1, h2, hb, h.pl, h.ln, hpm, h3, hr⟩
theorem q_call {cf : CF} {k i np : Nat} {nm : Str} {fd : FuncData} {ps : List Str} (hK : Kx E X) (h : CallD E X.prog X.w X.K X.mg X.base cf k nm i np fd ps) (hr : Room k X.A) (ha : KA E X (e :: es) ms) (hg : Gl X nm := by rfl) (hl : (e :: es).length = np := by rfl) (hdb : (nm == ("__debug__" : Str)) = false := by decide)
    (he : starEach (e :: es) X.env = (false, eval e X.env) :: starEach es X.env := by rfl) (hpl : (backTo pos (starEach es X.env)).any (·.1) = false := by rfl) : KE E X (.Call (.Name nm p) (e :: es) [] pos) (callM cf i ms) :=
  k_call hK (h.ok hr) ha hg hl hdb he hpl
theorem q_callK {cf : CF} {k i np na : Nat} {nm : Str} {fd : FuncData} {ps ks : List Str} {pm : List Nat} {kws : List Keyword} {mk : M (List D)} (hK : Kx E X) (h : CallD E X.prog X.w X.K X.mg X.base cf k nm i np fd ps) (hr : Room k X.A)
    (hb : ∀ (s : Shared) (us ws : List Value), us.length = na → ws.length = ks.length → BindsTo s fd ⟨us, ks.zip ws⟩ (ps.zip (pm.map fun i => (us ++ ws).getD i .none))) (ha : KA E X (e :: es) ms) (hkw : KK E X kws mk) (hna : ALen ms na) (hnk : ALen mk ks.length)
    (hpm : pm.length = np ∧ ∀ j ∈ pm, j < na + ks.length := by decide) (hg : Gl X nm := by rfl)
    (hall : (backToKw pos (keywordEach kws X.env)).all (·.1.isSome) = true := by rfl) (hks : (backToKw pos (keywordEach kws X.env)).filterMap (·.1) = ks := by rfl)
    (hdb : (nm == ("__debug__" : Str)) = false := by decide) (he : starEach (e :: es) X.env = (false, eval e X.env) :: starEach es X.env := by rfl)
    (hpl : ((backTo pos (starEach (e :: es) X.env)).any (·.1) || (backToKw pos (keywordEach kws X.env)).any (·.1.isNone)) = false := by rfl) :
    KE E X (.Call (.Name nm p) (e :: es) kws pos) (callP cf i pm ms mk) := k_callK hK (h.okK hr hb hpm) ha hkw hg hna hnk hall hks hdb he hpl
theorem q_callK0 {cf : CF} {k i np : Nat} {nm : Str} {fd : FuncData} {ps ks : List Str} {pm : List Nat} {kws : List Keyword} {mk : M (List D)} (hK : Kx E X) (h : CallD E X.prog X.w X.K X.mg X.base cf k nm i np fd ps) (hr : Room k X.A)
    (hb : ∀ (s : Shared) (us ws : List Value), us.length = 0 → ws.length = ks.length → BindsTo s fd ⟨us, ks.zip ws⟩ (ps.zip (pm.map fun i => (us ++ ws).getD i .none))) (hkw : KK E X kws mk) (hnk : ALen mk ks.length)
    (hpm : pm.length = np ∧ ∀ j ∈ pm, j < 0 + ks.length := by decide) (hg : Gl X nm := by rfl)
    (hall : (backToKw pos (keywordEach kws X.env)).all (·.1.isSome) = true := by rfl) (hks : (backToKw pos (keywordEach kws X.env)).filterMap (·.1) = ks := by rfl)
    (hdb : (nm == ("__debug__" : Str)) = false := by decide)
    (hpl : ((backTo pos (starEach [] X.env)).any (·.1) || (backToKw pos (keywordEach kws X.env)).any (·.1.isNone)) = false := by rfl) :
    KE E X (.Call (.Name nm p) [] kws pos) (callP cf i pm nilM mk) := k_callK0 hK (h.okK hr hb hpm) hkw hg hnk hall hks hdb hpl
theorem Fun.bindsK {x qual : Str} {st : Stmt} {f : Addr} {fd : FuncData} {na : Nat} {ks : List Str} {gg : List Value → List Value → List (Str × Value)} (F : Fun K x qual st f fd)
    (h : ∀ (kV doc pm : Value) (an : Option Addr) (cdv ct : Value) (us ws : List Value), us.length = na → ws.length = ks.length → bindArgs (PySem.W.fnOf x qual (defArgs st) (defBody st) (defScope st) .none kV doc pm an cdv ct) ⟨us, ks.zip ws⟩ = pure (gg us ws)) :
    ∀ (s : Shared) (us ws : List Value), us.length = na → ws.length = ks.length → BindsTo s fd ⟨us, ks.zip ws⟩ (gg us ws) := by
  obtain ⟨oc, od, kV, doc, pm, an, cdv, ct, osl, rfl, lk, hcd⟩ := F.ex
  exact fun s us ws h1 h2 => .of_eq (h kV doc pm an cdv ct us ws h1 h2)
end
end
end Ea

/-! M1: a run that ends well, told from its end; the rules of every form. -/
namespace Ea
open PySem L2

/-- m runs at s, without an exception, and P holds of what it tells -/
def Wp {α : Type} (m : M α) (s : A) (P : α → A → Prop) : Prop := match m s with
  | some (.ok a, s') => P a s'
  | _ => False
/-- a call that ends well -/
def Cw (cf : CF) (i : Nat) (ds st : List D) (P : D → List D → Prop) : Prop := match cf i ds st with
  | some (.ok d, st') => P d st'
  | _ => False
section
variable {α β : Type}
theorem Wp.imp {m : M α} {s : A} {P Q : α → A → Prop} (h : Wp m s P) (k : ∀ a s', P a s' → Q a s') : Wp m s Q := by
  unfold Wp at h ⊢
  cases e : m s with
  | none => rw [e] at h; exact h
  | some z =>
    obtain ⟨r, s'⟩ := z
    rw [e] at h
    cases r with
    | ok a => exact k _ _ h
    | ex x => exact h
theorem Cw.imp {cf : CF} {i : Nat} {ds st : List D} {P Q : D → List D → Prop} (h : Cw cf i ds st P) (k : ∀ a s', P a s' → Q a s') : Cw cf i ds st Q := by
  unfold Cw at h ⊢
  cases e : cf i ds st with
  | none => rw [e] at h; exact h
  | some z =>
    obtain ⟨r, s'⟩ := z
    rw [e] at h
    cases r with
    | ok a => exact k _ _ h
    | ex x => exact h
theorem Cw.ex {cf : CF} {i : Nat} {ds st : List D} {P : D → List D → Prop} (h : Cw cf i ds st P) : ∃ d st', cf i ds st = some (.ok d, st') ∧ P d st' := by
  unfold Cw at h
  split at h
  · exact ⟨_, _, by assumption, h⟩
  · exact h.elim
theorem wp_ret {a : α} {s : A} {P : α → A → Prop} : Wp (ret a) s P = P a s := rfl
theorem wp_fail {s : A} {P : α → A → Prop} : Wp fail s P = False := rfl
theorem wp_bind {m : M α} {k : α → M β} {s : A} {P : β → A → Prop} : Wp (bind m k) s P = Wp m s fun a s' => Wp (k a) s' P := by
  unfold Wp Ea.bind
  cases m s with
  | none => rfl
  | some z =>
    obtain ⟨r, s'⟩ := z
    cases r <;> rfl
theorem wp_ite {c : Prop} [Decidable c] {m n : M α} {s : A} {P : α → A → Prop} : Wp (if c then m else n) s P = if c then Wp m s P else Wp n s P := by
  split <;> rfl
theorem wp_opt {o : Option α} {s : A} {P : α → A → Prop} : Wp (opt o) s P = ∃ a, o = some a ∧ P a s := by
  cases o with
  | none => exact propext ⟨fun h => h.elim, fun ⟨_, h, _⟩ => nomatch h⟩
  | some a => exact propext ⟨fun h => ⟨a, rfl, h⟩, fun ⟨_, h, k⟩ => by cases h; exact k⟩
theorem wp_need {b : Bool} {m : M α} {s : A} {P : α → A → Prop} : Wp (need b m) s P = (b = true ∧ Wp m s P) := by
  unfold need
  cases b with
  | true => exact propext ⟨fun h => ⟨rfl, h⟩, fun h => h.2⟩
  | false => exact propext ⟨fun h => h.elim, fun h => nomatch h.1⟩
end

/-! ### reading -/
section
variable {s : A} {fr : List Sl} {st : List D} {i : Nat} {d a b : D} {P : D → A → Prop}
def slW (i : Nat) (s : A) (P : D → A → Prop) : Option Sl → Prop
  | some (.val d) => P d s
  | some (.own _) => P (.own i) s
  | _ => False
theorem wp_rd : Wp (rd i) ⟨fr, st⟩ P = slW i ⟨fr, st⟩ P fr[i]? := by
  unfold Wp rd
  dsimp only
  cases fr[i]? with
  | none => rfl
  | some x => cases x <;> rfl
theorem slW_val : slW i s P (some (.val d)) = P d s := rfl
theorem slW_own : slW i s P (some (.own d)) = P (.own i) s := rfl
theorem stl_non : stl .non = ret .non := rfl
theorem stl_bl {b : Bool} : stl (.bl b) = ret (.bl b) := rfl
theorem stl_int {i : Int} : stl (.int i) = ret (.int i) := rfl
theorem stl_str {x : Str} : stl (.str x) = ret (.str x) := rfl
theorem stl_tup {xs : List D} : stl (.tup xs) = ret (.tup xs) := rfl
theorem stl_lst {xs : List D} : stl (.lst xs) = ret (.lst xs) := rfl
theorem stl_dic {xs : List D} : stl (.dic xs) = ret (.dic xs) := rfl
theorem stl_ref : stl (.ref i) = ret (.ref i) := rfl
def stW (i : Nat) (fr : List Sl) (st : List D) (P : D → A → Prop) : Option Sl → Prop
  | some (.own c) => P c ⟨fr.set i (.val c), st⟩
  | some (.val d) => P d ⟨fr, st⟩
  | _ => False
theorem wp_stl_own : Wp (stl (.own i)) ⟨fr, st⟩ P = stW i fr st P fr[i]? := by
  unfold Wp stl
  dsimp only
  cases fr[i]? with
  | none => rfl
  | some x => cases x <;> rfl
theorem stW_own : stW i fr st P (some (.own d)) = P d ⟨fr.set i (.val d), st⟩ := rfl
theorem stW_val : stW i fr st P (some (.val d)) = P d ⟨fr, st⟩ := rfl
theorem deref_non : deref .non s = some .non := rfl
theorem deref_bl {b : Bool} : deref (.bl b) s = some (.bl b) := rfl
theorem deref_int {i : Int} : deref (.int i) s = some (.int i) := rfl
theorem deref_str {x : Str} : deref (.str x) s = some (.str x) := rfl
theorem deref_tup {xs : List D} : deref (.tup xs) s = some (.tup xs) := rfl
theorem deref_lst {xs : List D} : deref (.lst xs) s = some (.lst xs) := rfl
theorem deref_dic {xs : List D} : deref (.dic xs) s = some (.dic xs) := rfl
theorem deref_ref : deref (.ref i) ⟨fr, st⟩ = st[i]? := rfl
def slC : Option Sl → Option D
  | some (.own c) => some c
  | some (.val c) => some c
  | _ => none
theorem deref_own : deref (.own i) ⟨fr, st⟩ = slC fr[i]? := by
  cases h : fr[i]? with
  | none => simp only [deref, h, slC]
  | some x => cases x <;> simp only [deref, h, slC]
theorem slC_own : slC (some (.own d)) = some d := rfl
theorem slC_val : slC (some (.val d)) = some d := rfl
end

/-! ### expressions -/
section
variable {s : A} {fr : List Sl} {st : List D} {i : Nat} {d x y : D} {P : D → A → Prop} {f g : D → D → Option D} {f1 : D → Option D} {ma mb mc : M D} {ms mk : M (List D)} {PL : List D → A → Prop} {PB : Bool → A → Prop} {PF : Fl → A → Prop}
theorem wp_op2 : Wp (op2 f x y) s P = ∃ a, deref x s = some a ∧ ∃ b, deref y s = some b ∧ ∃ c, f a b = some c ∧ P c s := by
  unfold Wp op2
  cases hx : deref x s with
  | none => exact propext ⟨fun h => h.elim, fun ⟨_, h, _⟩ => nomatch h⟩
  | some a =>
    cases hy : deref y s with
    | none => exact propext ⟨fun h => h.elim, fun ⟨_, _, _, h, _⟩ => nomatch h⟩
    | some b =>
      dsimp only
      cases hf : f a b with
      | none => exact propext ⟨fun h => h.elim, fun ⟨a', h1, b', h2, c, h3, _⟩ => by cases h1; cases h2; rw [hf] at h3; cases h3⟩
      | some c => exact propext ⟨fun h => ⟨a, rfl, b, rfl, c, hf, h⟩, fun ⟨a', h1, b', h2, c, h3, h4⟩ => by cases h1; cases h2; rw [hf] at h3; cases h3; exact h4⟩
theorem wp_op1 : Wp (op1 f1 x) s P = ∃ a, deref x s = some a ∧ ∃ c, f1 a = some c ∧ P c s := by
  unfold Wp op1
  cases hx : deref x s with
  | none => exact propext ⟨fun h => h.elim, fun ⟨_, h, _⟩ => nomatch h⟩
  | some a =>
    dsimp only
    cases hf : f1 a with
    | none => exact propext ⟨fun h => h.elim, fun ⟨a', h1, c, h3, _⟩ => by cases h1; rw [hf] at h3; cases h3⟩
    | some c => exact propext ⟨fun h => ⟨a, rfl, c, hf, h⟩, fun ⟨a', h1, c, h3, h4⟩ => by cases h1; rw [hf] at h3; cases h3; exact h4⟩
theorem wp_bin : Wp (bin f ma mb) s P = Wp ma s fun x s' => Wp mb s' fun y s'' => Wp (op2 f x y) s'' P := by
  unfold bin; rw [wp_bind]; congr 1; funext x s'; rw [wp_bind]
theorem wp_un : Wp (un f1 ma) s P = Wp ma s fun x s' => Wp (op1 f1 x) s' P := by unfold un; rw [wp_bind]
theorem wp_consM : Wp (consM ma ms) s PL = Wp ma s fun x s' => Wp ms s' fun xs s'' => PL (x :: xs) s'' := by
  unfold consM; rw [wp_bind]; congr 1; funext x s'; rw [wp_bind]; rfl
theorem wp_nilM : Wp nilM s PL = PL [] s := rfl
theorem wp_opn {f : List D → Option D} : Wp (opn f ms) s P = Wp ms s fun ds s' => ∃ cs, ds.mapM (deref · s') = some cs ∧ ∃ c, f cs = some c ∧ P c s' := by
  unfold opn; rw [wp_bind]; congr 1; funext ds s'
  unfold Wp
  dsimp only
  cases hx : ds.mapM (deref · s') with
  | none => exact propext ⟨fun h => h.elim, fun ⟨_, h, _⟩ => nomatch h⟩
  | some a =>
    dsimp only
    cases hf : f a with
    | none => exact propext ⟨fun h => h.elim, fun ⟨a', h1, c, h3, _⟩ => by cases h1; rw [hf] at h3; cases h3⟩
    | some c => exact propext ⟨fun h => ⟨a, rfl, c, hf, h⟩, fun ⟨a', h1, c, h3, h4⟩ => by cases h1; rw [hf] at h3; cases h3; exact h4⟩
theorem drf_nil : ([] : List D).mapM (deref · s) = some [] := rfl
theorem drf_one : [x].mapM (deref · s) = (deref x s).map fun a => [a] := by
  rw [List.mapM_cons]
  cases deref x s <;> rfl
theorem drf_two : [x, y].mapM (deref · s) = (deref x s).bind fun a => (deref y s).map fun b => [a, b] := by
  rw [List.mapM_cons]
  cases deref x s with
  | none => rfl
  | some a =>
    rw [List.mapM_cons]
    cases deref y s <;> rfl
theorem wp_tupM : Wp (tupM ms) s P = Wp ms s fun ds s' => Wp (stls ds) s' fun ds s'' => decide (ds.length ≤ 16777216) = true ∧ P (.tup ds) s'' := by
  unfold tupM; rw [wp_bind]; congr 1; funext ds s'; rw [wp_bind]; congr 1; funext ds s''; rw [wp_need]; rfl
theorem wp_lstM : Wp (lstM ms) s P = Wp ms s fun ds s' => Wp (stls ds) s' fun ds s'' => decide (ds.length ≤ 16777216) = true ∧ P (.lst ds) s'' := by
  unfold lstM; rw [wp_bind]; congr 1; funext ds s'; rw [wp_bind]; congr 1; funext ds s''; rw [wp_need]; rfl
theorem wp_newM : Wp (newM ma) ⟨fr, st⟩ P = Wp ma ⟨fr, st⟩ fun d s' => P (.ref s'.st.length) ⟨s'.fr, s'.st ++ [d]⟩ := by
  unfold newM; rw [wp_bind]; rfl
theorem wp_stls_nil : Wp (stls []) s PL = PL [] s := rfl
theorem wp_stls_cons {ds : List D} : Wp (stls (d :: ds)) s PL = Wp (stl d) s fun d s' => Wp (stls ds) s' fun ds s'' => PL (d :: ds) s'' := by
  show Wp (bind (stl d) fun d => bind (stls ds) fun ds => ret (d :: ds)) s PL = _
  rw [wp_bind]; congr 1; funext x s'; rw [wp_bind]; rfl
theorem wp_tst : Wp (tst ma) s PB = Wp ma s fun d s' => ∃ b, asB d = some b ∧ PB b s' := by
  unfold tst; rw [wp_bind]; congr 1; funext d s'; rw [wp_opt]
theorem asB_bl {b : Bool} : asB (.bl b) = some b := rfl
theorem wp_notM {m : M Bool} : Wp (notM m) s PB = Wp m s fun b s' => PB (!b) s' := by unfold notM; rw [wp_bind]; rfl
theorem wp_andM {m n : M Bool} : Wp (andM m n) s PB = Wp m s fun b s' => if b = true then Wp n s' PB else PB false s' := by
  unfold andM; rw [wp_bind]; congr 1; funext d s'; rw [wp_ite]; rfl
theorem wp_orM {m n : M Bool} : Wp (orM m n) s PB = Wp m s fun b s' => if b = true then PB true s' else Wp n s' PB := by
  unfold orM; rw [wp_bind]; congr 1; funext d s'; rw [wp_ite]; rfl
theorem wp_andV : Wp (andV ma mb) s P = Wp ma s fun d s' => ∃ b, asB d = some b ∧ if b = true then Wp mb s' P else P (.bl false) s' := by
  unfold andV; rw [wp_bind]; congr 1; funext d s'; rw [wp_bind, wp_opt]; congr 1; funext b; rw [wp_ite]; rfl
theorem wp_orV : Wp (orV ma mb) s P = Wp ma s fun d s' => ∃ b, asB d = some b ∧ if b = true then P (.bl true) s' else Wp mb s' P := by
  unfold orV; rw [wp_bind]; congr 1; funext d s'; rw [wp_bind, wp_opt]; congr 1; funext b; rw [wp_ite]; rfl
theorem wp_notV : Wp (notV ma) s P = Wp ma s fun d s' => ∃ b, asB d = some b ∧ P (.bl (!b)) s' := by
  unfold notV; rw [wp_bind]; congr 1; funext d s'; rw [wp_bind, wp_opt]; rfl
theorem wp_iteM {α : Type} {c : M Bool} {m n : M α} {Q : α → A → Prop} : Wp (iteM c m n) s Q = Wp c s fun b s' => if b = true then Wp m s' Q else Wp n s' Q := by
  unfold iteM; rw [wp_bind]; congr 1; funext d s'; rw [wp_ite]
theorem wp_chain : Wp (chain f g ma mb mc) s P = Wp ma s fun x s1 => Wp mb s1 fun y s2 => Wp (op2 f x y) s2 fun r s3 => ∃ k, asB r = some k ∧ if k = true then Wp mc s3 fun z s4 => Wp (op2 g y z) s4 P else P (.bl false) s3 := by
  unfold chain; rw [wp_bind]; congr 1; funext x s1; rw [wp_bind]; congr 1; funext y s2; rw [wp_bind]; congr 1; funext r s3; rw [wp_bind, wp_opt]; congr 1; funext k; rw [wp_ite]
  congr 1
  split
  · rw [wp_bind]
  · rfl
theorem wp_sl {lo hi : Option (M D)} : Wp (sl ma lo hi) s P = Wp ma s fun x s1 => Wp (optM lo) s1 fun l s2 => ∃ l', intO l = some l' ∧ Wp (optM hi) s2 fun h s3 => ∃ h', intO h = some h' ∧ ∃ a, deref x s3 = some a ∧ ∃ c, slD a l' h' = some c ∧ P c s3 := by
  unfold sl; rw [wp_bind]; congr 1; funext x s1; rw [wp_bind]; congr 1; funext l s2; rw [wp_bind, wp_opt]; congr 1; funext l'; rw [wp_bind]; congr 2; funext h s3; rw [wp_bind, wp_opt]; congr 1; funext h'; rw [wp_op1]
theorem wp_optN {Q : Option D → A → Prop} : Wp (optM none) s Q = Q none s := rfl
theorem wp_optS {Q : Option D → A → Prop} : Wp (optM (some ma)) s Q = Wp ma s fun d s' => Q (some d) s' := by
  unfold optM; rw [wp_bind]; rfl
theorem intO_none : intO none = some none := rfl
theorem intO_int {i : Int} : intO (some (.int i)) = some (some i) := rfl
theorem wp_isT {t : D → Bool} {Q : Unit → A → Prop} : Wp (isT t x) s Q = ∃ c, deref x s = some c ∧ t c = true ∧ Q () s := by
  unfold Wp isT
  cases hx : deref x s with
  | none => exact propext ⟨fun h => h.elim, fun ⟨_, h, _⟩ => nomatch h⟩
  | some a =>
    dsimp only
    cases hf : t a with
    | false => exact propext ⟨fun h => h.elim, fun ⟨a', h1, h2, _⟩ => by cases h1; rw [hf] at h2; cases h2⟩
    | true => exact propext ⟨fun h => ⟨a, rfl, hf, h⟩, fun ⟨a', h1, _, h4⟩ => by cases h1; exact h4⟩
theorem wp_joinM : Wp (joinM ma mb) s P = Wp ma s fun x s1 => Wp (isT isS x) s1 fun _ s2 => Wp mb s2 fun y s3 => Wp (op2 joinD x y) s3 P := by
  unfold joinM; rw [wp_bind]; congr 1; funext x s1; rw [wp_bind]; congr 1; funext _ s2; rw [wp_bind]

/-! ### things that are changed -/
theorem wp_mutM {t : D → Bool} {f : D → List D → Option (D × D)} : Wp (mutM t f ma ms) s P = Wp ma s fun p s1 => Wp (isT t p) s1 fun _ s2 => Wp ms s2 fun ds s3 => Wp (stls ds) s3 fun ds s4 => Wp (mutA f p ds) s4 P := by
  unfold mutM; rw [wp_bind]; congr 1; funext x s1; rw [wp_bind]; congr 1; funext _ s2; rw [wp_bind]; congr 1; funext ds s3; rw [wp_bind]
theorem wp_mutA {f : D → List D → Option (D × D)} {ds : List D} : Wp (mutA f x ds) s P = ∃ c, deref x s = some c ∧ ∃ c' d, f c ds = some (c', d) ∧ Wp (upC x c') s fun _ s' => P d s' := by
  unfold Wp mutA
  cases hx : deref x s with
  | none => exact propext ⟨fun h => h.elim, fun ⟨_, h, _⟩ => nomatch h⟩
  | some a =>
    dsimp only
    cases hf : f a ds with
    | none => exact propext ⟨fun h => h.elim, fun ⟨a', h1, _, _, h3, _⟩ => by cases h1; rw [hf] at h3; cases h3⟩
    | some z =>
      obtain ⟨c', d⟩ := z
      dsimp only
      refine propext ⟨fun h => ⟨a, rfl, c', d, hf, ?_⟩, fun ⟨a', h1, c2, d2, h3, h4⟩ => ?_⟩
      · unfold Ea.bind at h
        cases hu : upC x c' s with
        | none => rw [hu] at h; exact h
        | some w =>
          obtain ⟨r, s'⟩ := w
          rw [hu] at h
          cases r with
          | ok u => exact h
          | ex z => exact h
      · cases h1
        rw [hf] at h3
        cases h3
        unfold Ea.bind
        cases hu : upC x c' s with
        | none => rw [hu] at h4; exact h4
        | some w =>
          obtain ⟨r, s'⟩ := w
          rw [hu] at h4
          cases r with
          | ok u => exact h4
          | ex z => exact h4
def isOw : Option Sl → Prop
  | some (.own _) => True
  | _ => False
theorem isOw_own : isOw (some (.own d)) = True := rfl
theorem wp_up_own {c : D} {Q : Unit → A → Prop} : Wp (upC (.own i) c) ⟨fr, st⟩ Q = (isOw fr[i]? ∧ Q () ⟨fr.set i (.own c), st⟩) := by
  unfold Wp upC
  dsimp only
  cases h : fr[i]? with
  | none => exact propext ⟨fun h => h.elim, fun h => h.1⟩
  | some z =>
    cases z with
    | un => exact propext ⟨fun h => h.elim, fun h => h.1⟩
    | val d => exact propext ⟨fun h => h.elim, fun h => h.1⟩
    | own d => exact propext ⟨fun h => ⟨trivial, h⟩, fun h => h.2⟩
theorem wp_up_ref {c : D} {Q : Unit → A → Prop} : Wp (upC (.ref i) c) ⟨fr, st⟩ Q = (st[i]?.isSome = true ∧ Q () ⟨fr, st.set i c⟩) := by
  unfold Wp upC
  dsimp only
  cases h : st[i]? with
  | none => exact propext ⟨fun h => h.elim, fun h => nomatch h.1⟩
  | some z => exact propext ⟨fun h => ⟨rfl, h⟩, fun h => h.2⟩
theorem wp_setIx : Wp (setIx ma mb mc) s PF = Wp mc s fun v s1 => Wp ma s1 fun p s2 => Wp mb s2 fun k s3 => Wp (stl v) s3 fun v s4 => Wp (stl k) s4 fun k s5 => Wp (mutA setF p [k, v]) s5 fun _ s6 => PF .nx s6 := by
  unfold setIx; rw [wp_bind]; congr 1; funext v s1; rw [wp_bind]; congr 1; funext p s2; rw [wp_bind]; congr 1; funext k s3; rw [wp_bind]; congr 1; funext v s4; rw [wp_bind]; congr 1; funext k s5; rw [wp_bind]; rfl

/-! ### statements -/
def flW (P : Fl → A → Prop) (Q : A → Prop) (s : A) : Fl → Prop
  | .nx => Q s
  | .rt d => P (.rt d) s
  | .bk => P .bk s
  | .ct => P .ct s
theorem flW_nx {Q : A → Prop} : flW PF Q s .nx = Q s := rfl
theorem flW_rt {Q : A → Prop} : flW PF Q s (.rt d) = PF (.rt d) s := rfl
theorem flW_bk {Q : A → Prop} : flW PF Q s .bk = PF .bk s := rfl
theorem flW_ct {Q : A → Prop} : flW PF Q s .ct = PF .ct s := rfl
theorem wp_seq {m n : M Fl} : Wp (seq m n) s PF = Wp m s fun f s' => flW PF (fun s => Wp n s PF) s' f := by
  unfold seq; rw [wp_bind]; congr 1; funext f s'
  cases f <;> rfl
theorem wp_pass : Wp pass s PF = PF .nx s := rfl
theorem wp_brk : Wp brkM s PF = PF .bk s := rfl
theorem wp_cnt : Wp cntM s PF = PF .ct s := rfl
theorem wp_setV : Wp (setV i ma) s PF = Wp ma s fun d s1 => Wp (stl d) s1 fun d s2 => PF .nx ⟨s2.fr.set i (.val d), s2.st⟩ := by
  unfold setV; simp only [wp_bind]; rfl
theorem wp_setO : Wp (setO i ma) s PF = Wp ma s fun d s1 => PF .nx ⟨s1.fr.set i (.own d), s1.st⟩ := by
  unfold setO; simp only [wp_bind]; rfl
theorem wp_drp : Wp (drp ma) s PF = Wp ma s fun _ s1 => PF .nx s1 := by unfold drp; rw [wp_bind]; rfl
theorem wp_retM : Wp (retM ma) s PF = Wp ma s fun d s1 => Wp (stl d) s1 fun d s2 => PF (.rt d) s2 := by
  unfold retM; rw [wp_bind]; congr 1; funext d s1; rw [wp_bind]; rfl
theorem wp_retN : Wp retN s PF = PF (.rt .non) s := rfl
theorem wp_ofT {t : Tg} {Q : Unit → A → Prop} : Wp (ofT t d) s Q = ∃ s', t d s = some s' ∧ Q () s' := by
  unfold Wp ofT
  cases h : t d s with
  | none => exact propext ⟨fun h => h.elim, fun ⟨_, h, _⟩ => nomatch h⟩
  | some z => exact propext ⟨fun h => ⟨z, rfl, h⟩, fun ⟨_, h1, h2⟩ => by cases h1; exact h2⟩
theorem wp_setT {gs : List Tg} : Wp (setT gs ma) s PF = Wp ma s fun d s1 => Wp (stl d) s1 fun d s2 => ∃ s3, gT gs d s2 = some s3 ∧ PF .nx s3 := by
  unfold setT; rw [wp_bind]; congr 1; funext d s1; rw [wp_bind]; congr 1; funext d s2; rw [wp_bind, wp_ofT]; try rfl
theorem gT_tup {gs : List Tg} {xs : List D} : gT gs (.tup xs) s = gTs gs xs s := rfl
theorem gTs_nil : gTs [] [] s = some s := rfl
theorem gTs_cons {gm : Tg} {gs : List Tg} {xs : List D} : gTs (gm :: gs) (x :: xs) s = (gm x s).bind (gTs gs xs) := rfl
theorem gN_eq : gN i x ⟨fr, st⟩ = some ⟨fr.set i (.val x), st⟩ := rfl
theorem wp_nilP {Q : List (Bool × D) → A → Prop} : Wp nilP s Q = Q [] s := rfl
theorem wp_consP {o : Bool} {mp : MP} {Q : List (Bool × D) → A → Prop} : Wp (consP o ma mp) s Q = Wp ma s fun x s1 => Wp mp s1 fun xs s2 => Q ((o, x) :: xs) s2 := by
  unfold consP; rw [wp_bind]; congr 1; funext x s'; rw [wp_bind]; rfl
theorem wp_stlP_nil {Q : List (Bool × D) → A → Prop} : Wp (stlP []) s Q = Q [] s := rfl
theorem wp_stlP_t {r : List (Bool × D)} {Q : List (Bool × D) → A → Prop} : Wp (stlP ((true, d) :: r)) s Q = Wp (stlP r) s fun r s' => Q ((true, d) :: r) s' := by
  show Wp (bind (if true = true then ret d else stl d) fun d => bind (stlP r) fun r => ret ((true, d) :: r)) s Q = _
  rw [wp_bind, if_pos rfl, wp_ret, wp_bind]; rfl
theorem wp_stlP_f {r : List (Bool × D)} {Q : List (Bool × D) → A → Prop} : Wp (stlP ((false, d) :: r)) s Q = Wp (stl d) s fun d s' => Wp (stlP r) s' fun r s'' => Q ((false, d) :: r) s'' := by
  show Wp (bind (if false = true then ret d else stl d) fun d => bind (stlP r) fun r => ret ((false, d) :: r)) s Q = _
  rw [wp_bind, if_neg (by decide)]; congr 1; funext x s'; rw [wp_bind]; rfl
theorem wp_parM {is : List Nat} {mp : MP} : Wp (parM is mp) s PF = Wp mp s fun ods s1 => Wp (stlP ods) s1 fun ods s2 => PF .nx (wrP is ods s2) := by
  unfold parM; rw [wp_bind]; congr 1; funext x s'; rw [wp_bind]; rfl
theorem wrP_nil {ods : List (Bool × D)} : wrP [] ods s = s := rfl
theorem wrP_t {is : List Nat} {r : List (Bool × D)} : wrP (i :: is) ((true, d) :: r) s = ⟨(wrP is r s).fr.set i (.own d), (wrP is r s).st⟩ := rfl
theorem wrP_f {is : List Nat} {r : List (Bool × D)} : wrP (i :: is) ((false, d) :: r) s = ⟨(wrP is r s).fr.set i (.val d), (wrP is r s).st⟩ := rfl

/-! ### loops -/
theorem wp_forM {mi : M (List D)} {gm : Tg} {b : M Fl} : Wp (forM mi gm b) s PF = Wp mi s fun xs s1 => Wp (forL gm b xs) s1 PF := by unfold forM; rw [wp_bind]
theorem wp_walkM : Wp (walkM ma) s PL = Wp ma s fun d s1 => Wp (stl d) s1 fun d s2 => ∃ xs, itemsD d = some xs ∧ PL xs s2 := by
  unfold walkM; rw [wp_bind]; congr 1; funext x s'; rw [wp_bind]; congr 1; funext x s'; rw [wp_opt]
theorem itemsD_tup {xs : List D} : itemsD (.tup xs) = some xs := rfl
theorem itemsD_lst {xs : List D} : itemsD (.lst xs) = some xs := rfl
def r1W (P : List D → A → Prop) (s : A) : List D → Prop
  | [.int n] => in62 n = true ∧ P (rngD 0 n) s
  | _ => False
def r2W (P : List D → A → Prop) (s : A) : List D → Prop
  | [.int a, .int b] => (in62 a && in62 b) = true ∧ P (rngD a b) s
  | _ => False
theorem wp_rng1 : Wp (rng1 ms) s PL = Wp ms s fun ds s' => r1W PL s' ds := by
  unfold rng1; rw [wp_bind]; congr 1; funext ds s'
  unfold r1W
  split
  · rw [wp_need]; rfl
  · rename_i hx
    first
      | rfl
      | (split
         · exact absurd rfl (hx _)
         · rfl)
theorem wp_rng2 : Wp (rng2 ms) s PL = Wp ms s fun ds s' => r2W PL s' ds := by
  unfold rng2; rw [wp_bind]; congr 1; funext ds s'
  unfold r2W
  split
  · rw [wp_need]; rfl
  · rename_i hx
    first
      | rfl
      | (split
         · exact absurd rfl (hx _ _)
         · rfl)
theorem r1W_int {n : Int} : r1W PL s [.int n] = (in62 n = true ∧ PL (rngD 0 n) s) := rfl
theorem r2W_int {m n : Int} : r2W PL s [.int m, .int n] = ((in62 m && in62 n) = true ∧ PL (rngD m n) s) := rfl
def foW (P : Fl → A → Prop) (Q : A → Prop) : Fl → A → Prop
  | .rt d, s => P (.rt d) s
  | .bk, s => P .nx s
  | _, s => Q s
theorem foW_nx {Q : A → Prop} : foW PF Q .nx s = Q s := rfl
theorem foW_ct {Q : A → Prop} : foW PF Q .ct s = Q s := rfl
theorem foW_bk {Q : A → Prop} : foW PF Q .bk s = PF .nx s := rfl
theorem foW_rt {Q : A → Prop} : foW PF Q (.rt d) s = PF (.rt d) s := rfl
theorem wp_forL_nil {gm : Tg} {b : M Fl} : Wp (forL gm b []) s PF = PF .nx s := rfl
theorem wp_forL_cons {gm : Tg} {b : M Fl} {xs : List D} : Wp (forL gm b (x :: xs)) s PF = ∃ s1, gm x s = some s1 ∧ Wp b s1 (foW PF fun s2 => Wp (forL gm b xs) s2 PF) := by
  show Wp (bind (ofT gm x) fun _ => bind b fun f => match f with | .nx => forL gm b xs | .ct => forL gm b xs | .bk => ret .nx | .rt d => ret (.rt d)) s PF = _
  rw [wp_bind, wp_ofT]
  congr 1; funext s1; congr 1; rw [wp_bind]; congr 1; funext f s2
  cases f <;> rfl
/-- a loop over items -/
theorem wp_for {gm : Tg} {b : M Fl} (I : List D → A → Prop) (step : ∀ x r s, I (x :: r) s → ∃ s1, gm x s = some s1 ∧ Wp b s1 (foW PF (I r)))
    (done : ∀ s, I [] s → PF .nx s) : ∀ {xs : List D} {s : A}, I xs s → Wp (forL gm b xs) s PF
  | [], s, h => done s h
  | x :: xs, s, h => by
    unfold forL
    rw [wp_bind, wp_ofT]
    obtain ⟨s1, h1, h2⟩ := step x xs s h
    refine ⟨s1, h1, ?_⟩
    rw [wp_bind]
    refine h2.imp fun f s2 h3 => ?_
    cases f with
    | nx => exact wp_for I step done h3
    | ct => exact wp_for I step done h3
    | bk => exact h3
    | rt d => exact h3
/-- while -/
theorem wp_whL {c : M Bool} {b : M Fl} (I : A → Prop) (μ : A → Nat) (step : ∀ s, I s → Wp c s fun k s1 => if k = true then Wp b s1 (foW PF fun s3 => I s3 ∧ μ s3 < μ s) else PF .nx s1) :
    ∀ (n : Nat) (s : A), I s → μ s < n → Wp (whL c b n) s PF
  | 0, s, _, h => absurd h (by omega)
  | n + 1, s, h, hn => by
    unfold whL
    rw [wp_bind]
    refine (step s h).imp fun k s1 h1 => ?_
    rw [wp_ite]
    split
    · rename_i hk
      rw [if_pos hk] at h1
      rw [wp_bind]
      refine h1.imp fun f s2 h2 => ?_
      cases f with
      | nx => exact wp_whL I μ step n s2 h2.1 (by have := h2.2; omega)
      | ct => exact wp_whL I μ step n s2 h2.1 (by have := h2.2; omega)
      | bk => exact h2
      | rt d => exact h2
    · rename_i hk
      rw [if_neg hk] at h1
      exact h1
theorem wp_while {c : M Bool} {b : M Fl} (I : A → Prop) (μ : A → Nat) (h : I s) (hm : μ s < 100000000000000000000) (step : ∀ s, I s → Wp c s fun k s1 => if k = true then Wp b s1 (foW PF fun s3 => I s3 ∧ μ s3 < μ s) else PF .nx s1) : Wp (whM c b) s PF :=
  wp_whL I μ step _ s h hm

/-! ### comprehensions -/
def compB (vs : List Nat) (gm : Tg) (t : M Bool) (e : M D) (xs : List D) : M D := bind (wipeA vs) fun old => bind (noX (compL vs gm t e [] xs)) fun ys => bind (backA vs old) fun _ => ret (.lst ys)
theorem wp_compM {vs : List Nat} {mi : M (List D)} {gm : Tg} {t : M Bool} {e : M D} : Wp (compM vs mi gm t e) s P = Wp mi s fun xs s1 => Wp (compB vs gm t e xs) s1 P := by
  unfold compM; rw [wp_bind]; rfl
theorem wp_tYes : Wp tYesM s PB = PB true s := rfl
theorem back_eq {vs : List Nat} {old fr : List Sl} (h : wipeF vs fr = wipeF vs old) : backF vs old fr = old := by
  have hl : fr.length = old.length := by
    have := congrArg List.length h
    unfold wipeF at this
    simpa using this
  apply List.ext_getElem?
  intro i
  have hi := congrArg (·[i]?) h
  unfold wipeF backF at *
  simp only [List.getElem?_mapIdx] at *
  by_cases hv : vs.contains i = true
  · simp only [hv, if_true]
    cases h1 : fr[i]? with
    | none =>
      have : old[i]? = none := by rw [List.getElem?_eq_none_iff] at h1 ⊢; omega
      rw [this]; rfl
    | some z =>
      have hlt : i < old.length := by
        have := (List.getElem?_eq_some_iff.mp h1).1
        omega
      rw [List.getElem?_eq_getElem hlt]
      simp [List.getD_eq_getElem?_getD, List.getElem?_eq_getElem hlt]
  · simp only [hv, if_false] at hi ⊢
    cases h1 : fr[i]? with
    | none => rw [h1] at hi; cases h2 : old[i]? with
      | none => rfl
      | some w => rw [h2] at hi; simp at hi
    | some z =>
      rw [h1] at hi
      cases h2 : old[i]? with
      | none => rw [h2] at hi; simp at hi
      | some w => rw [h2] at hi; simpa using hi
theorem wipe_nil {vs : List Nat} : wipeF vs [] = [] := rfl
theorem wipe_none {x : Sl} {fr : List Sl} : wipeF [] fr = fr := by
  unfold wipeF
  apply List.ext_getElem?
  intro i
  rw [List.getElem?_mapIdx]
  cases fr[i]? <;> rfl
theorem wipe_cons {vs : List Nat} {x : Sl} {fr : List Sl} : wipeF vs (x :: fr) = (if vs.contains 0 = true then .un else x) :: fr.mapIdx fun i x => if vs.contains (i + 1) = true then .un else x := by
  unfold wipeF
  rw [List.mapIdx_cons]
theorem wipe_s {k : Nat} {x : Sl} {fr : List Sl} : wipeF [k + 1] (x :: fr) = x :: wipeF [k] fr := by
  rw [wipe_cons, if_neg (by simp)]
  unfold wipeF
  congr 2
  funext i y
  simp
theorem wipe_z {x : Sl} {fr : List Sl} : wipeF [0] (x :: fr) = .un :: fr := by
  rw [wipe_cons, if_pos (by simp)]
  congr 1
  apply List.ext_getElem?
  intro i
  rw [List.getElem?_mapIdx]
  cases fr[i]? <;> simp
theorem wipe_ss {k j : Nat} {x : Sl} {fr : List Sl} : wipeF [k + 1, j + 1] (x :: fr) = x :: wipeF [k, j] fr := by
  rw [wipe_cons, if_neg (by simp)]
  unfold wipeF
  congr 2
  funext i y
  simp
theorem wipe_zs {j : Nat} {x : Sl} {fr : List Sl} : wipeF [0, j + 1] (x :: fr) = .un :: wipeF [j] fr := by
  rw [wipe_cons, if_pos (by simp)]
  unfold wipeF
  congr 2
  funext i y
  simp
theorem wipe_sz {j : Nat} {x : Sl} {fr : List Sl} : wipeF [j + 1, 0] (x :: fr) = .un :: wipeF [j] fr := by
  rw [wipe_cons, if_pos (by simp)]
  unfold wipeF
  congr 2
  funext i y
  simp
theorem wp_compL {vs : List Nat} {gm : Tg} {t : M Bool} {e : M D} {fr0 : List Sl} (I : List D → List D → List D → Prop) {Q : List D → A → Prop}
    (step : ∀ acc x r st, I acc (x :: r) st → ∃ s3, gm x ⟨wipeF vs fr0, st⟩ = some s3 ∧ Wp t s3 fun k s4 => if k = true then Wp e s4 fun d s5 => Wp (stl d) s5 fun d s6 => acc.length < 16777216 ∧ wipeF vs s6.fr = wipeF vs fr0 ∧ I (acc ++ [d]) r s6.st else wipeF vs s4.fr = wipeF vs fr0 ∧ I acc r s4.st)
    (done : ∀ acc s, wipeF vs s.fr = wipeF vs fr0 → I acc [] s.st → Q acc s) : ∀ {xs acc : List D} {s : A}, wipeF vs s.fr = wipeF vs fr0 → I acc xs s.st → Wp (compL vs gm t e acc xs) s Q
  | [], acc, s, hw, h => done acc s hw h
  | x :: xs, acc, s, hw, h => by
    unfold compL
    rw [wp_bind]
    show Wp (bind (ofT gm x) _) ⟨wipeF vs s.fr, s.st⟩ Q
    rw [wp_bind, wp_ofT, hw]
    obtain ⟨s3, h1, h2⟩ := step acc x xs s.st h
    refine ⟨s3, h1, ?_⟩
    rw [wp_bind]
    refine h2.imp fun k s4 h3 => ?_
    rw [wp_ite]
    split
    · rename_i hk
      rw [if_pos hk] at h3
      rw [wp_bind]
      refine h3.imp fun d s5 h4 => ?_
      rw [wp_bind]
      refine h4.imp fun d s6 h5 => ?_
      rw [wp_need]
      exact ⟨decide_eq_true h5.1, wp_compL I step done h5.2.1 h5.2.2⟩
    · rename_i hk
      rw [if_neg hk] at h3
      exact wp_compL I step done h3.1 h3.2
theorem wp_compB {vs : List Nat} {gm : Tg} {t : M Bool} {e : M D} {xs : List D} (I : List D → List D → List D → Prop) (no : noOwn vs fr = true) (h0 : I [] xs st)
    (step : ∀ acc x r st, I acc (x :: r) st → ∃ s3, gm x ⟨wipeF vs fr, st⟩ = some s3 ∧ Wp t s3 fun k s4 => if k = true then Wp e s4 fun d s5 => Wp (stl d) s5 fun d s6 => acc.length < 16777216 ∧ wipeF vs s6.fr = wipeF vs fr ∧ I (acc ++ [d]) r s6.st else wipeF vs s4.fr = wipeF vs fr ∧ I acc r s4.st)
    (done : ∀ acc st', I acc [] st' → P (.lst acc) ⟨fr, st'⟩) : Wp (compB vs gm t e xs) ⟨fr, st⟩ P := by
  unfold compB
  rw [wp_bind]
  show Wp (wipeA vs) ⟨fr, st⟩ _
  unfold Wp wipeA
  rw [if_pos no]
  show Wp (bind (noX (compL vs gm t e [] xs)) fun ys => bind (backA vs fr) fun _ => ret (.lst ys)) ⟨fr, st⟩ P
  rw [wp_bind]
  have h := wp_compL (s := ⟨fr, st⟩) (fr0 := fr) I (Q := fun acc s' => wipeF vs s'.fr = wipeF vs fr ∧ I acc [] s'.st) step (fun acc s h1 h2 => ⟨h1, h2⟩) rfl h0
  unfold Wp noX
  unfold Wp at h
  cases hc : compL vs gm t e [] xs ⟨fr, st⟩ with
  | none => rw [hc] at h; exact h.elim
  | some z =>
    obtain ⟨r, s'⟩ := z
    rw [hc] at h
    cases r with
    | ex x => exact h.elim
    | ok ys =>
      obtain ⟨h1, h2⟩ := h
      show Wp (bind (backA vs fr) fun _ => ret (.lst ys)) s' P
      rw [wp_bind]
      show P (.lst ys) ⟨backF vs fr s'.fr, s'.st⟩
      rw [back_eq h1]
      exact done ys s'.st h2
/-- without any change -/
theorem wp_compP {vs : List Nat} {gm : Tg} {t : M Bool} {e : M D} {xs : List D} (f : D → Bool) (h : D → D) (no : noOwn vs fr = true) (hl : xs.length ≤ 16777216)
    (step : ∀ x ∈ xs, ∃ s3, gm x ⟨wipeF vs fr, st⟩ = some s3 ∧ s3.st = st ∧ wipeF vs s3.fr = wipeF vs fr ∧ Wp t s3 fun k s4 => k = f x ∧ s4 = s3 ∧ (f x = true → Wp e s3 fun d s5 => Wp (stl d) s5 fun d s6 => d = h x ∧ s6 = s3))
    (done : P (.lst ((xs.filter f).map h)) ⟨fr, st⟩) : Wp (compB vs gm t e xs) ⟨fr, st⟩ P := by
  refine wp_compB (fun acc r st' => st' = st ∧ (∀ x ∈ r, x ∈ xs) ∧ acc.length + r.length ≤ xs.length ∧ acc ++ (r.filter f).map h = (xs.filter f).map h) no ⟨rfl, fun _ h => h, by simp, rfl⟩ (fun acc x r st' hI => ?_) fun acc st' hI => ?_
  · obtain ⟨rfl, hm, hlen, he⟩ := hI
    obtain ⟨s3, h1, h2, h3, h4⟩ := step x (hm x (by simp))
    refine ⟨s3, h1, h4.imp fun k s4 h5 => ?_⟩
    obtain ⟨rfl, rfl, h6⟩ := h5
    rw [List.length_cons] at hlen
    split
    · rename_i hk
      refine (h6 hk).imp fun d s5 h7 => h7.imp fun d s6 h8 => ?_
      obtain ⟨rfl, rfl⟩ := h8
      refine ⟨by omega, h3, h2, fun y hy => hm y (List.mem_cons_of_mem _ hy), by rw [List.length_append, List.length_singleton]; omega, ?_⟩
      rw [← he, List.filter_cons_of_pos hk, List.map_cons, List.append_assoc]
      rfl
    · rename_i hk
      refine ⟨h3, h2, fun y hy => hm y (List.mem_cons_of_mem _ hy), by omega, ?_⟩
      rw [← he, List.filter_cons_of_neg hk]
  · obtain ⟨rfl, _, _, he⟩ := hI
    rw [List.filter_nil, List.map_nil, List.append_nil] at he
    rw [he]
    exact done

/-- the same rules, the invariant out of sight -/
theorem wp_forI {gm : Tg} {b : M Fl} {xs : List D} (J : List D → A → Prop) (h0 : J xs s) (step : ∀ I : List D → A → Prop, (∀ r s, J r s → I r s) → ∀ x r s, J (x :: r) s → ∃ s1, gm x s = some s1 ∧ Wp b s1 (foW PF (I r))) (done : ∀ s, J [] s → PF .nx s) : Wp (forL gm b xs) s PF :=
  wp_for J (step J fun _ _ h => h) done h0
theorem wp_whileI {c : M Bool} {b : M Fl} (J : A → Prop) (μ : A → Nat) (h0 : J s) (hm : μ s < 100000000000000000000)
    (step : ∀ (I : A → Prop) (s : A), (∀ s', J s' → μ s' < μ s → I s') → J s → Wp c s fun k s1 => if k = true then Wp b s1 (foW PF I) else PF .nx s1) : Wp (whM c b) s PF :=
  wp_while J μ h0 hm fun s h => step (fun s' => J s' ∧ μ s' < μ s) s (fun s' h1 h2 => ⟨h1, h2⟩) h
theorem wp_compI {vs : List Nat} {gm : Tg} {t : M Bool} {e : M D} {xs : List D} (J : List D → List D → List D → Prop) (no : noOwn vs fr = true) (h0 : J [] xs st)
    (step : ∀ I : List D → List D → List D → Prop, (∀ acc r st, J acc r st → I acc r st) → ∀ acc x r st, J acc (x :: r) st → ∃ s3, gm x ⟨wipeF vs fr, st⟩ = some s3 ∧ Wp t s3 fun k s4 => if k = true then Wp e s4 fun d s5 => Wp (stl d) s5 fun d s6 => acc.length < 16777216 ∧ wipeF vs s6.fr = wipeF vs fr ∧ I (acc ++ [d]) r s6.st else wipeF vs s4.fr = wipeF vs fr ∧ I acc r s4.st)
    (done : ∀ acc st', J acc [] st' → P (.lst acc) ⟨fr, st'⟩) : Wp (compB vs gm t e xs) ⟨fr, st⟩ P :=
  wp_compB J no h0 (step J fun _ _ _ h => h) done
theorem Wp.cut {α : Type} {m : M α} {Q : α → A → Prop} (P : α → A → Prop) (h : ∀ P' : α → A → Prop, (∀ a s, P a s → P' a s) → Wp m s P') (k : ∀ a s, P a s → Q a s) : Wp m s Q := (h P fun _ _ h => h).imp k

/-! ### calls -/
theorem wp_callM {cf : CF} : Wp (callM cf i ms) s P = Wp ms s fun ds s1 => Wp (stls ds) s1 fun ds s2 => Cw cf i ds s2.st fun d st' => P d ⟨s2.fr, st'⟩ := by
  unfold callM; rw [wp_bind]; congr 1; funext ds s1; rw [wp_bind]; congr 1; funext ds s2
  unfold Wp Cw
  dsimp only
  cases cf i ds s2.st with
  | none => rfl
  | some z =>
    obtain ⟨r, st'⟩ := z
    cases r <;> rfl
theorem wp_callP {cf : CF} {pm : List Nat} : Wp (callP cf i pm ms mk) s P = Wp ms s fun ds s0 => Wp mk s0 fun es s1 => Wp (stls (ds ++ es)) s1 fun ds s2 => Cw cf i (permD pm ds) s2.st fun d st' => P d ⟨s2.fr, st'⟩ := by
  unfold callP; rw [wp_bind]; congr 1; funext ds s1; rw [wp_bind]; congr 1; funext es s1; rw [wp_bind]; congr 1; funext ds s2
  unfold Wp Cw
  dsimp only
  cases cf i (permD pm ds) s2.st with
  | none => rfl
  | some z =>
    obtain ⟨r, st'⟩ := z
    cases r <;> rfl
def rtW (Q : D → List D → Prop) : Fl → A → Prop
  | .rt d, s => Q d s.st
  | .nx, s => Q .non s.st
  | _, _ => False
theorem rtW_rt {Q : D → List D → Prop} : rtW Q (.rt d) s = Q d s.st := rfl
theorem rtW_nx {Q : D → List D → Prop} : rtW Q .nx s = Q .non s.st := rfl
/-- a def's call, from its body -/
theorem cw_body {T : Nat → Option Fn} {n : Nat} {fn : Fn} {ds : List D} {Q : D → List D → Prop} (hT : T i = some fn) (hd : ds.length = fn.p)
    (h : Wp (fn.b (callF T n)) ⟨ds.map .val ++ List.replicate (fn.n - ds.length) .un, st⟩ (rtW Q)) : Cw (callF T (n + 1)) i ds st Q := by
  unfold Cw callF
  rw [hT]
  dsimp only
  unfold runFn
  rw [if_pos hd]
  unfold Wp at h
  split at h
  · rename_i a s' e
    rw [e]
    cases a with
    | nx => exact h
    | rt d => exact h
    | bk => exact h
    | ct => exact h
  · exact h.elim
end
end Ea

/-! M2: what the operations tell of data of known kinds. -/
namespace Ea
open PySem L2

/-! ### operations on whole numbers, texts, lists -/
section
variable {a b : Int} {x y : Str} {xs ys : List D} {s : A} {d e : D}
theorem addD_i : addD (.int a) (.int b) = some (.int (a + b)) := rfl
theorem subD_i : subD (.int a) (.int b) = some (.int (a - b)) := rfl
theorem negD_i : negD (.int a) = some (.int (-a)) := rfl
theorem ltD_i : ltD (.int a) (.int b) = some (.bl (decide (a < b))) := rfl
theorem leD_i : leD (.int a) (.int b) = some (.bl (decide (a ≤ b))) := rfl
theorem gtD_i : gtD (.int a) (.int b) = some (.bl (decide (b < a))) := rfl
theorem geD_i : geD (.int a) (.int b) = some (.bl (decide (b ≤ a))) := rfl
theorem modD_i (h : 0 < b) : modD (.int a) (.int b) = some (.int (a % b)) := by unfold modD; dsimp only; rw [if_pos (decide_eq_true h)]
theorem fdivD_i (h : 0 < b) (h2 : b < 2 ^ 64) : fdivD (.int a) (.int b) = some (.int (a / b)) := by
  unfold fdivD
  try dsimp only
  rw [if_pos]
  refine decide_eq_true ⟨h, ?_⟩
  have h3 : b.natAbs < 2 ^ 64 := by omega
  have h4 : b.natAbs ≠ 0 := by omega
  have := (Nat.log2_lt h4).mpr h3
  omega
theorem mulD_l (h : -(2 ^ 64) < a ∧ a < 2 ^ 64) : mulD (.int a) (.int b) = some (.int (a * b)) := by
  unfold mulD mulOk small64
  dsimp only
  rw [if_pos (by rw [decide_eq_true h]; rfl)]
theorem mulD_r (h : -(2 ^ 64) < b ∧ b < 2 ^ 64) : mulD (.int a) (.int b) = some (.int (a * b)) := by
  unfold mulD mulOk small64
  dsimp only
  rw [if_pos (by rw [decide_eq_true h, Bool.or_true]; rfl)]
theorem mulD_m {c : Int} (h : 0 < b) (h2 : b ≤ 2 ^ 64) : mulD (.int (a % b)) (.int c) = some (.int (a % b * c)) :=
  mulD_l ⟨by have := Int.emod_nonneg a (by omega : b ≠ 0); omega, by have := Int.emod_lt_of_pos a h; omega⟩
/-- a text some times -/
def repS (x : Str) (k : Int) : Str := ⟨(List.replicate k.toNat x.cps.toList).flatten.toArray⟩
theorem repS_len {k : Int} : (repS x k).length = k.toNat * x.length := by
  unfold repS
  show (List.replicate k.toNat x.cps.toList).flatten.toArray.size = _
  rw [List.size_toArray]
  simp [Str.length]
theorem mulD_s {k : Int} (h : -100000 ≤ k ∧ k ≤ 100000) (h2 : x.length * k.toNat ≤ 16777216) : mulD (.str x) (.int k) = some (.str (repS x k)) := by
  unfold repS
  unfold mulD lenOk
  try dsimp only
  rw [if_pos]
  simp [h, h2]
theorem powD_i (h : 0 ≤ b ∧ b ≤ 1000000 ∧ a.natAbs < 2 ^ 64) : powD (.int a) (.int b) = some (.int (a ^ b.toNat)) := by unfold powD; dsimp only; rw [if_pos (decide_eq_true h)]
theorem addD_t (h : xs.length + ys.length ≤ 16777216) : addD (.tup xs) (.tup ys) = some (.tup (xs ++ ys)) := by unfold addD lenOk; dsimp only; rw [if_pos (decide_eq_true h)]
theorem addD_l (h : xs.length + ys.length ≤ 16777216) : addD (.lst xs) (.lst ys) = some (.lst (xs ++ ys)) := by unfold addD lenOk; dsimp only; rw [if_pos (decide_eq_true h)]
theorem addD_s (h : x.length + y.length ≤ 16777216) : addD (.str x) (.str y) = some (.str (x ++ y)) := by unfold addD lenOk; dsimp only; rw [if_pos (decide_eq_true h)]
theorem lenF_t : lenF [.tup xs] = some (.int xs.length) := rfl
theorem lenF_l : lenF [.lst xs] = some (.int xs.length) := rfl
theorem lenF_d : lenF [.dic xs] = some (.int xs.length) := rfl
theorem lenF_s (h : x.length ≤ 16777216) : lenF [.str x] = some (.int x.length) := by unfold lenF lenOk; dsimp only; rw [if_pos (decide_eq_true h)]
theorem absF_i : absF [.int a] = some (.int (if a < 0 then -a else a)) := rfl
theorem intF_i : intF [.int a] = some (.int a) := rfl
theorem intF_b {k : Bool} : intF [.bl k] = some (.int (if k = true then 1 else 0)) := rfl
theorem tupF_t : tupF [.tup xs] = some (.tup xs) := rfl
theorem tupF_l : tupF [.lst xs] = some (.tup xs) := rfl
theorem lstF_t : lstF [.tup xs] = some (.lst xs) := rfl
theorem lstF_l : lstF [.lst xs] = some (.lst xs) := rfl
theorem ixD_l {i : Int} : ixD (.lst xs) (.int i) = L2.atI xs i := rfl
theorem ixD_t {i : Int} : ixD (.tup xs) (.int i) = L2.atI xs i := rfl
theorem atI_nat {α : Type} {l : List α} {i : Int} (h0 : 0 ≤ i) (h : i < l.length) : L2.atI l i = l[i.toNat]? := by
  unfold L2.atI L2.ixN
  rw [if_pos h0, if_pos h]
  rfl
theorem atI_at {α : Type} {l : List α} {i : Int} {k : Nat} {z : α} (h : i = k) (h1 : l[k]? = some z) : L2.atI l i = some z := by
  subst h
  rw [atI_nat (by omega) (by have := (List.getElem?_eq_some_iff.mp h1).1; omega)]
  simpa using h1
theorem at1_0 {α : Type} {u : α} {l : List α} : L2.atI (u :: l) 0 = some u := by
  rw [atI_nat (by omega) (by simp <;> omega)]; rfl
theorem at2_1 {α : Type} {u v : α} {l : List α} : L2.atI (u :: v :: l) 1 = some v := by
  rw [atI_nat (by omega) (by simp <;> omega)]; rfl
theorem at3_2 {α : Type} {u v w : α} {l : List α} : L2.atI (u :: v :: w :: l) 2 = some w := by
  rw [atI_nat (by omega) (by simp <;> omega)]; rfl
theorem isL_l : isL (.lst xs) = true := rfl
theorem isS_s : isS (.str x) = true := rfl
theorem appF_l (h : xs.length < 16777216) : appF (.lst xs) [d] = some (.lst (xs ++ [d]), .non) := by unfold appF; dsimp only; rw [if_pos (decide_eq_true h)]
theorem popF_0 : popF (.lst (d :: xs)) [.int 0] = some (.lst xs, d) := by
  unfold popF
  try dsimp only
  rw [if_pos (decide_eq_true (by simp <;> omega))]
  rfl
theorem popF_i {i : Int} (h0 : 0 ≤ i) (h1 : i < xs.length) (h2 : i < 1000000000) {z : D} (hz : xs[i.toNat]? = some z) : popF (.lst xs) [.int i] = some (.lst (xs.eraseIdx i.toNat), z) := by
  unfold popF
  try dsimp only
  rw [if_pos (decide_eq_true ⟨h0, h1, h2⟩), hz]
  rfl
theorem insF_0 (h : xs.length < 16777216) : insF (.lst xs) [.int 0, d] = some (.lst (d :: xs), .non) := by
  unfold insF
  try dsimp only
  rw [if_pos (decide_eq_true ⟨h, by decide, by decide⟩)]
  rfl
theorem ixN_nat {n : Nat} {i : Int} (h0 : 0 ≤ i) (h : i < n) : L2.ixN n i = some i.toNat := by
  unfold L2.ixN
  rw [if_pos h0, if_pos h]
theorem setF_l {i : Int} (h0 : 0 ≤ i) (h : i < xs.length) : setF (.lst xs) [.int i, d] = some (.lst (xs.set i.toNat d), .non) := by
  unfold setF
  dsimp only
  rw [ixN_nat h0 h]
  rfl
theorem setF_30 {u v w : D} : setF (.lst [u, v, w]) [.int 0, d] = some (.lst [d, v, w], .non) := rfl
theorem setF_31 {u v w : D} : setF (.lst [u, v, w]) [.int 1, d] = some (.lst [u, d, w], .non) := rfl
theorem setF_32 {u v w : D} : setF (.lst [u, v, w]) [.int 2, d] = some (.lst [u, v, d], .non) := rfl
theorem in62_of {i : Int} (h : -(2 ^ 62) ≤ i ∧ i < 2 ^ 62) : in62 i = true := decide_eq_true h
end

/-! ### equality -/
section
variable {a b : Int} {x y : Str} {xs ys : List D} {d e : D}
theorem deq_i : D.eq (.int a) (.int b) = decide (a = b) := by
  unfold D.eq D.py PyData.eqv
  by_cases h : a = b <;> simp [h]
theorem deq_s : D.eq (.str x) (.str y) = decide (x = y) := by
  unfold D.eq D.py PyData.eqv
  by_cases h : x = y <;> simp [h]
theorem deq_tt : D.eq (.tup (d :: xs)) (.tup (e :: ys)) = (D.eq d e && D.eq (.tup xs) (.tup ys)) := by
  simp [D.eq, D.py, D.pys, PyData.eqv, PyData.eqvAll]
theorem deq_t0 : D.eq (.tup []) (.tup []) = true := by simp [D.eq, D.py, D.pys, PyData.eqv, PyData.eqvAll]
theorem deq_t01 : D.eq (.tup []) (.tup (e :: ys)) = false := by simp [D.eq, D.py, D.pys, PyData.eqv, PyData.eqvAll]
theorem deq_t10 : D.eq (.tup (e :: ys)) (.tup []) = false := by simp [D.eq, D.py, D.pys, PyData.eqv, PyData.eqvAll]
theorem deq_ll : D.eq (.lst (d :: xs)) (.lst (e :: ys)) = (D.eq d e && D.eq (.lst xs) (.lst ys)) := by
  simp [D.eq, D.py, D.pys, PyData.eqv, PyData.eqvAll]
theorem deq_l0 : D.eq (.lst []) (.lst []) = true := by simp [D.eq, D.py, D.pys, PyData.eqv, PyData.eqvAll]
theorem deq_l01 : D.eq (.lst []) (.lst (e :: ys)) = false := by simp [D.eq, D.py, D.pys, PyData.eqv, PyData.eqvAll]
theorem deq_l10 : D.eq (.lst (e :: ys)) (.lst []) = false := by simp [D.eq, D.py, D.pys, PyData.eqv, PyData.eqvAll]
theorem deq_nil : D.eq (.lst xs) (.lst []) = xs.isEmpty := by
  cases xs with
  | nil => exact deq_l0
  | cons _ _ => exact deq_l10
theorem pl_int {n : Nat} : D.pl n (.int a) = true := by cases n <;> rfl
theorem pl_str {n : Nat} (h : PyData.strOk x = true) : D.pl n (.str x) = true := by cases n <;> exact h
theorem pl_tup {n : Nat} (h : ∀ z ∈ xs, D.pl n z = true) : D.pl (n + 1) (.tup xs) = true := by unfold D.pl; exact List.all_eq_true.mpr h
theorem pl_lst {n : Nat} (h : ∀ z ∈ xs, D.pl n z = true) : D.pl (n + 1) (.lst xs) = true := by unfold D.pl; exact List.all_eq_true.mpr h
theorem pl_up : ∀ {n m : Nat} {d : D}, n ≤ m → D.pl n d = true → D.pl m d = true
  | _, _, .non, _, _ => by rename_i m _ _; cases m <;> rfl
  | _, _, .bl _, _, _ => by rename_i m _ _ _; cases m <;> rfl
  | _, _, .int _, _, _ => pl_int
  | n, _, .str x, _, h => pl_str (by cases n <;> exact h)
  | 0, _, .tup xs, _, h => by simp [D.pl] at h
  | 0, _, .lst xs, _, h => by simp [D.pl] at h
  | n + 1, 0, _, hm, _ => absurd hm (by omega)
  | n + 1, m + 1, .tup xs, hm, h => by
    unfold D.pl at h
    exact pl_tup fun z hz => pl_up (by omega) (List.all_eq_true.mp h z hz)
  | n + 1, m + 1, .lst xs, hm, h => by
    unfold D.pl at h
    exact pl_lst fun z hz => pl_up (by omega) (List.all_eq_true.mp h z hz)
  | n, _, .dic _, _, h => by cases n <;> simp [D.pl] at h
  | n, _, .st _, _, h => by cases n <;> simp [D.pl] at h
  | n, _, .ref _, _, h => by cases n <;> simp [D.pl] at h
  | n, _, .own _, _, h => by cases n <;> simp [D.pl] at h
theorem pl_ints {n : Nat} {ns : List Int} : ∀ z ∈ ns.map D.int, D.pl n z = true := fun z hz => by
  obtain ⟨i, _, rfl⟩ := List.mem_map.mp hz
  exact pl_int
theorem eqOk_of (h1 : D.pl 60 d = true) (h2 : D.pl 60 e = true) : eqOk d e = true := by
  unfold eqOk
  split
  · rfl
  · rw [h1, h2]; rfl
theorem eqD_of (h1 : D.pl 60 d = true) (h2 : D.pl 60 e = true) : eqD d e = some (.bl (D.eq d e)) := by unfold eqD; rw [if_pos (eqOk_of h1 h2)]
theorem neD_of (h1 : D.pl 60 d = true) (h2 : D.pl 60 e = true) : neD d e = some (.bl (!D.eq d e)) := by unfold neD; rw [if_pos (eqOk_of h1 h2)]
theorem eqD_i : eqD (.int a) (.int b) = some (.bl (decide (a = b))) := by rw [eqD_of pl_int pl_int, deq_i]
theorem neD_i : neD (.int a) (.int b) = some (.bl (!decide (a = b))) := by rw [neD_of pl_int pl_int, deq_i]
theorem eqD_s : eqD (.str x) (.str y) = some (.bl (decide (x = y))) := by
  unfold eqD
  rw [if_pos (show eqOk (.str x) (.str y) = true from rfl), deq_s]
theorem neD_s : neD (.str x) (.str y) = some (.bl (!decide (x = y))) := by
  unfold neD
  rw [if_pos (show eqOk (.str x) (.str y) = true from rfl), deq_s]
theorem neD_nil (h : ∀ z ∈ xs, D.pl 59 z = true) : neD (.lst xs) (.lst []) = some (.bl (!xs.isEmpty)) := by
  rw [neD_of (pl_lst h) (pl_lst (by simp)), deq_nil]
theorem eqD_nil (h : ∀ z ∈ xs, D.pl 59 z = true) : eqD (.lst xs) (.lst []) = some (.bl xs.isEmpty) := by
  rw [eqD_of (pl_lst h) (pl_lst (by simp)), deq_nil]
theorem neD_ints {ns : List Int} : neD (.lst (ns.map .int)) (.lst []) = some (.bl (!ns.isEmpty)) := by
  rw [neD_nil pl_ints]; cases ns <;> rfl
theorem eqD_ints {ns : List Int} : eqD (.lst (ns.map .int)) (.lst []) = some (.bl ns.isEmpty) := by
  rw [eqD_nil pl_ints]; cases ns <;> rfl
theorem neD_00 : neD (.lst []) (.lst []) = some (.bl false) := neD_ints (ns := [])
theorem neD_10 {z : Int} {ns : List Int} : neD (.lst (.int z :: ns.map .int)) (.lst []) = some (.bl true) := neD_ints (ns := z :: ns)
/-- a whole number among whole numbers -/
theorem inD_ints {ns : List Int} : inD (.int a) (.tup (ns.map .int)) = some (.bl (decide (a ∈ ns))) := by
  unfold inD inB
  dsimp only
  rw [if_pos (eqOk_of pl_int (pl_lst pl_ints))]
  show some (D.bl ((ns.map D.int).any fun y => D.eq y (.int a))) = _
  congr 2
  rw [List.any_map]
  have : ((fun y => D.eq y (.int a)) ∘ D.int) = fun b => decide (b = a) := by
    funext b
    exact deq_i
  rw [this]
  by_cases h : a ∈ ns
  · rw [decide_eq_true h, List.any_eq_true]
    exact ⟨a, h, by simp⟩
  · rw [decide_eq_false h, List.any_eq_false]
    intro b hb
    simp only [decide_eq_true_eq]
    exact fun q => h (q ▸ hb)
theorem ninD_ints {ns : List Int} : ninD (.int a) (.tup (ns.map .int)) = some (.bl (!decide (a ∈ ns))) := by
  have h := inD_ints (a := a) (ns := ns)
  unfold inD at h
  unfold ninD
  cases e : inB (.int a) (.tup (ns.map .int)) with
  | none => rw [e] at h; cases h
  | some r =>
    rw [e] at h
    cases h
    rfl
theorem allI_map (ns : List Int) : allI (ns.map .int) = some ns := by
  unfold allI
  induction ns with
  | nil => rfl
  | cons n ns ih => rw [List.map_cons, List.mapM_cons, ih]; rfl
theorem allB_map (ns : List Bool) : allB (ns.map .bl) = some ns := by
  unfold allB
  induction ns with
  | nil => rfl
  | cons n ns ih => rw [List.map_cons, List.mapM_cons, ih]; rfl
theorem allS_map (ns : List Str) : allS (ns.map .str) = some ns := by
  unfold allS
  induction ns with
  | nil => rfl
  | cons n ns ih => rw [List.map_cons, List.mapM_cons, ih]; rfl
theorem allF_b {ns : List Bool} : allF [.lst (ns.map .bl)] = some (.bl (ns.all id)) := by
  show ((allB (ns.map .bl)).map fun bs => D.bl (bs.all id)) = _
  rw [allB_map]; rfl
theorem anyF_b {ns : List Bool} : anyF [.lst (ns.map .bl)] = some (.bl (ns.any id)) := by
  show ((allB (ns.map .bl)).map fun bs => D.bl (bs.any id)) = _
  rw [allB_map]; rfl
theorem sumF_i {ns : List Int} : sumF [.lst (ns.map .int)] = some (.int ns.sum) := by
  show ((allI (ns.map .int)).map fun bs => D.int bs.sum) = _
  rw [allI_map]; rfl
theorem sortF_i {ns : List Int} : sortF [.lst (ns.map .int)] = some (.lst ((sortI ns).map .int)) := by
  show ((allI (ns.map .int)).map fun bs => D.lst ((sortI bs).map .int)) = _
  rw [allI_map]; rfl
theorem sortAF_i {ns : List Int} : sortAF [.lst (ns.map .int)] = some (.lst ((sortA ns).map .int)) := by
  show ((allI (ns.map .int)).map fun bs => D.lst ((sortA bs).map .int)) = _
  rw [allI_map]; rfl
theorem reprF_of (h1 : D.pl 60 d = true) (h2 : d.wt ≤ 16777216) : reprF [d] = some (.str d.py.shown) := by
  show (if (D.pl 60 d && decide (d.wt ≤ 16777216)) = true then some (D.str d.py.shown) else none) = _
  rw [if_pos (by rw [h1, decide_eq_true h2]; rfl)]

theorem popF_ints {ns : List Int} {k : Int} (h0 : 0 ≤ k) (h1 : k < ns.length) (h2 : ns.length < 1000000000) : ∃ z, z ∈ ns ∧ popF (.lst (ns.map .int)) [.int k] = some (.lst ((ns.eraseIdx k.toNat).map .int), .int z) := by
  have hk : k.toNat < ns.length := by omega
  refine ⟨ns[k.toNat], List.getElem_mem hk, ?_⟩
  rw [popF_i (z := .int ns[k.toNat]) h0 (by rw [List.length_map]; exact h1) (by omega) (by rw [List.getElem?_map, List.getElem?_eq_getElem hk]; rfl)]
  have e : ∀ (l : List Int) (j : Nat), (l.map D.int).eraseIdx j = (l.eraseIdx j).map D.int := fun l => by
    induction l with
    | nil => intro j; rfl
    | cons a l ih => intro j; cases j with
      | zero => rfl
      | succ j => simp [ih]
  rw [e]
theorem appF_ints {ns : List Int} {z : Int} (h : ns.length < 16777216) : appF (.lst (ns.map .int)) [.int z] = some (.lst ((ns ++ [z]).map .int), .non) := by
  rw [appF_l (by rw [List.length_map]; exact h), List.map_append]; rfl
theorem isEmpty_no {α : Type} {l : List α} (h : (!l.isEmpty) = true) : 0 < l.length := by
  cases l with
  | nil => cases h
  | cons _ _ => simp
theorem isEmpty_yes {α : Type} {l : List α} (h : ¬(!l.isEmpty) = true) : l = [] := by
  cases l with
  | nil => rfl
  | cons _ _ => exact absurd rfl h
/-! ### ranges, texts -/
theorem rng_cons {lo hi : Int} (h : lo < hi) : rngD lo hi = .int lo :: rngD (lo + 1) hi := by
  unfold rngD
  have e : (hi - lo).toNat = (hi - (lo + 1)).toNat + 1 := by omega
  rw [e, List.range_succ_eq_map, List.map_cons, List.map_map]
  congr 1
  · simp
  · apply List.map_congr_left
    intro k _
    show D.int (lo + ((k + 1 : Nat) : Int)) = _
    congr 1
    omega
theorem rng_nil {lo hi : Int} (h : hi ≤ lo) : rngD lo hi = [] := by
  unfold rngD
  have e : (hi - lo).toNat = 0 := by omega
  rw [e]; rfl
theorem rng_inv {lo hi : Int} {x : D} {r : List D} (h : x :: r = rngD lo hi) : x = .int lo ∧ r = rngD (lo + 1) hi ∧ lo < hi := by
  by_cases hl : lo < hi
  · rw [rng_cons hl] at h
    cases h
    exact ⟨rfl, rfl, hl⟩
  · rw [rng_nil (by omega)] at h; cases h
theorem rng_end {lo hi : Int} (h : [] = rngD lo hi) : hi ≤ lo := by
  by_cases hl : lo < hi
  · rw [rng_cons hl] at h; cases h
  · omega
theorem slen (x : Str) : x.length = x.cps.toList.length := by simp [Str.length]
theorem flat_len {l : List Nat} (k : Nat) : (List.replicate k l).flatten.length = k * l.length := by
  simp
theorem cut_len {x : Str} {m : Int} (h0 : 0 ≤ m) (h : m ≤ x.length) : ((L2.cutS x none (some m)).length : Int) = m := by
  have e : m = ((m.toNat : Nat) : Int) := by omega
  unfold L2.cutS
  show ((List.take _ (List.drop _ x.cps.toList)).toArray.size : Int) = m
  rw [List.size_toArray, HT.sIx_none, List.drop_zero, List.length_take, Nat.sub_zero, ← slen]
  rw [e, HT.sIx_nat]
  omega
theorem slD_s {x : Str} {lo hi : Option Int} (hz : x.length ≤ 16777216) : slD (.str x) lo hi = some (.str (L2.cutS x lo hi)) := by
  show (if lenOk x.length = true then some (D.str (L2.cutS x lo hi)) else none) = _
  rw [if_pos (show lenOk x.length = true from decide_eq_true hz)]
theorem slD_l {xs : List D} {lo hi : Option Int} : slD (.lst xs) lo hi = some (.lst (cutD xs lo hi)) := rfl
theorem slD_t {xs : List D} {lo hi : Option Int} : slD (.tup xs) lo hi = some (.tup (cutD xs lo hi)) := rfl
theorem cutD_map {ns : List Int} {lo hi : Option Int} : ∃ ms : List Int, cutD (ns.map .int) lo hi = ms.map .int ∧ ms.Sublist ns := by
  refine ⟨(ns.drop (HT.sIx ns.length 0 lo)).take (HT.sIx ns.length ns.length hi - HT.sIx ns.length 0 lo), ?_, (List.take_sublist _ _).trans (List.drop_sublist _ _)⟩
  unfold cutD
  rw [List.length_map, List.map_take, List.map_drop]
theorem joinD_l {z : Str} {ys : List Str} (h : (ys.map (·.length)).sum + ys.length * z.length ≤ 16777216) : joinD (.str z) (.lst (ys.map .str)) = some (.str (Txt.join z ys)) := by
  show ((allS (ys.map D.str)).bind fun ys => if decide ((ys.map fun (y : Str) => y.length).sum + ys.length * z.length ≤ 16777216) = true then some (D.str (Txt.join z ys)) else none) = _
  rw [allS_map]
  show (if decide ((ys.map fun (y : Str) => y.length).sum + ys.length * z.length ≤ 16777216) = true then some (D.str (Txt.join z ys)) else none) = _
  rw [if_pos (decide_eq_true h)]
theorem sum_ones {ys : List Str} (h : ∀ y ∈ ys, y.length = 1) : (ys.map (·.length)).sum = ys.length := by
  induction ys with
  | nil => rfl
  | cons a r ih => rw [List.map_cons, List.sum_cons, h a (by simp), ih fun y hy => h y (List.mem_cons_of_mem _ hy), List.length_cons]; omega
/-- the sign at a place of a text -/
theorem ixD_s {x : Str} {i : Int} (hz : x.length ≤ 16777216) (h0 : 0 ≤ i) (h : i < x.length) : ∃ c, x.cps.toList[i.toNat]? = some c ∧ ixD (.str x) (.int i) = some (.str ⟨#[c]⟩) := by
  have hi : i.toNat < x.cps.toList.length := by rw [← slen]; omega
  refine ⟨x.cps.toList[i.toNat], List.getElem?_eq_getElem hi, ?_⟩
  show (if lenOk x.length = true then (L2.atI x.cps.toList i).map fun c => D.str ⟨#[c]⟩ else none) = _
  rw [if_pos (show lenOk x.length = true from decide_eq_true hz), atI_nat h0 (by rw [← slen]; exact h), List.getElem?_eq_getElem hi]
  rfl
theorem join0_len : ∀ ys : List Str, (Txt.join "" ys).length = (ys.map (·.length)).sum
  | [] => rfl
  | a :: r => by
    show (PySem.Builtin.Str.glued _ (a :: r)).length = _
    rw [StrLaws.glued_eq_join, PyProof.Rows.len_join_cons]
    have e : (Str.ofString "").length = 0 := rfl
    rw [e, Nat.mul_zero, Nat.add_zero]

/-! ### dicts of pairs -/
theorem look_put {k k' : Key} {v : D} : ∀ {es : List D}, (∀ z ∈ es, ∃ c w, z = .tup [keyD c, w]) → lookD k (putD es k' v) = if k' = k then some v else lookD k es := by
  have inj : ∀ {c c' : Key}, keyD c = keyD c' → c = c' := fun {c c'} h => by
    cases c <;> cases c' <;> cases h <;> rfl
  have kk : ∀ c : Key, (keyD c).key = some c := fun c => by cases c <;> rfl
  have app : ∀ {es : List D}, (∀ z ∈ es, ∃ c w, z = .tup [keyD c, w]) → (lookD k' es).isSome = false → lookD k (es ++ [.tup [keyD k', v]]) = if k' = k then some v else lookD k es := fun {es} hz hn => by
    induction es with
    | nil =>
      show (if (keyD k').key = some k then some v else none) = _
      rw [kk]
      by_cases h : k' = k
      · rw [if_pos (by rw [h]), if_pos h]
      · rw [if_neg (by simpa using h), if_neg h]; rfl
    | cons z es ih =>
      obtain ⟨c, w, rfl⟩ := hz z (by simp)
      have e1 : ∀ q : Key, lookD q (.tup [keyD c, w] :: es) = if c = q then some w else lookD q es := fun q => by
        show (if (keyD c).key = some q then some w else lookD q es) = _
        rw [kk]
        by_cases h : c = q
        · rw [if_pos (by rw [h]), if_pos h]
        · rw [if_neg (by simpa using h), if_neg h]
      have e2 : lookD k (.tup [keyD c, w] :: (es ++ [.tup [keyD k', v]])) = if c = k then some w else lookD k (es ++ [.tup [keyD k', v]]) := by
        show (if (keyD c).key = some k then some w else lookD k (es ++ [.tup [keyD k', v]])) = _
        rw [kk]
        by_cases h : c = k
        · rw [if_pos (by rw [h]), if_pos h]
        · rw [if_neg (by simpa using h), if_neg h]
      rw [List.cons_append, e2, e1]
      rw [e1] at hn
      by_cases hc : c = k'
      · rw [if_pos hc] at hn; cases hn
      · rw [if_neg hc] at hn
        rw [ih (fun z hz' => hz z (List.mem_cons_of_mem _ hz')) hn]
        by_cases h : c = k
        · rw [if_pos h, if_neg (fun q => hc (h.trans q.symm)), if_pos h]
        · rw [if_neg h, if_neg h]
  intro es hz
  unfold putD
  by_cases hs : (lookD k' es).isSome = true
  · rw [if_pos hs]
    clear app
    induction es with
    | nil => cases hs
    | cons z es ih =>
      obtain ⟨c, w, rfl⟩ := hz z (by simp)
      have e1 : ∀ (q : Key) (u : D) (r : List D), lookD q (.tup [keyD c, u] :: r) = if c = q then some u else lookD q r := fun q u r => by
        show (if (keyD c).key = some q then some u else lookD q r) = _
        rw [kk]
        by_cases h : c = q
        · rw [if_pos (by rw [h]), if_pos h]
        · rw [if_neg (by simpa using h), if_neg h]
      rw [List.map_cons]
      dsimp only
      rw [kk]
      by_cases hc : c = k'
      · subst hc
        rw [if_pos rfl, e1, e1]
        by_cases h : c = k
        · rw [if_pos h, if_pos h]
        · rw [if_neg h, if_neg h, if_neg h]
          -- the rest, whether the key stands there or not
          have rest : ∀ {r : List D}, (∀ z ∈ r, ∃ c w, z = .tup [keyD c, w]) → lookD k (r.map fun e => match e with
            | .tup [a, b] => if a.key = some c then .tup [a, v] else .tup [a, b]
            | e => e) = lookD k r := fun {r} hr => by
            induction r with
            | nil => rfl
            | cons y r ihr =>
              obtain ⟨c2, w2, rfl⟩ := hr y (by simp)
              rw [List.map_cons]
              dsimp only
              rw [kk]
              have e3 : ∀ (u : D) (r : List D), lookD k (.tup [keyD c2, u] :: r) = if c2 = k then some u else lookD k r := fun u r => by
                show (if (keyD c2).key = some k then some u else lookD k r) = _
                rw [kk]
                by_cases h : c2 = k
                · rw [if_pos (by rw [h]), if_pos h]
                · rw [if_neg (by simpa using h), if_neg h]
              by_cases h2 : c2 = c
              · rw [if_pos (by rw [h2]), e3, e3, if_neg (by rw [h2]; exact h), if_neg (by rw [h2]; exact h)]
                exact ihr fun z hz' => hr z (List.mem_cons_of_mem _ hz')
              · rw [if_neg (by simpa using h2), e3, e3, ihr fun z hz' => hr z (List.mem_cons_of_mem _ hz')]
          exact rest fun z hz' => hz z (List.mem_cons_of_mem _ hz')
      · rw [if_neg (by simpa using hc), e1, e1]
        rw [e1, if_neg hc] at hs
        rw [ih (fun z hz' => hz z (List.mem_cons_of_mem _ hz')) hs]
        by_cases h : c = k
        · rw [if_pos h, if_neg (fun q => hc (h.trans q.symm)), if_pos h]
        · rw [if_neg h, if_neg h]
  · rw [if_neg hs]
    exact app hz (by simpa using hs)
theorem put_form {k' : Key} {v : D} {es : List D} (hz : ∀ z ∈ es, ∃ c w, z = .tup [keyD c, w]) : ∀ z ∈ putD es k' v, ∃ c w, z = .tup [keyD c, w] := fun z h => by
  unfold putD at h
  split at h
  · obtain ⟨y, hy, rfl⟩ := List.mem_map.mp h
    obtain ⟨c, w, rfl⟩ := hz y hy
    dsimp only
    split
    · exact ⟨c, v, rfl⟩
    · exact ⟨c, w, rfl⟩
  · rcases List.mem_append.mp h with h | h
    · exact hz z h
    · exact ⟨k', v, by simpa using h⟩
/-- the last pair of a key counts -/
def lastK (k : Key) : List (Key × D) → Option D → Option D
  | [], o => o
  | (k', v) :: r, o => lastK k r (if k' = k then some v else o)
theorem look_merge {k : Key} : ∀ {ps : List (Key × D)} {es : List D}, (∀ z ∈ es, ∃ c w, z = .tup [keyD c, w]) → lookD k (mergeD es ps) = lastK k ps (lookD k es)
  | [], es, _ => rfl
  | (k', v) :: r, es, hz => by
    show lookD k (mergeD (putD es k' v) r) = lastK k r (if k' = k then some v else lookD k es)
    rw [look_merge (put_form hz), look_put hz]
theorem lastK_none {k : Key} : ∀ {ps : List (Key × D)} {o : Option D}, (∀ p ∈ ps, p.1 ≠ k) → lastK k ps o = o
  | [], _, _ => rfl
  | (k', v) :: r, o, h => by
    show lastK k r (if k' = k then some v else o) = o
    rw [if_neg (h (k', v) (by simp)), lastK_none fun p hp => h p (List.mem_cons_of_mem _ hp)]
theorem lastK_nodup {k : Key} {v : D} : ∀ {ps : List (Key × D)} {o : Option D}, (ps.map (·.1)).Nodup → (k, v) ∈ ps → lastK k ps o = some v
  | (k', w) :: r, o, hn, hm => by
    show lastK k r (if k' = k then some w else o) = some v
    rw [List.map_cons, List.nodup_cons] at hn
    rcases List.mem_cons.mp hm with h | h
    · cases h
      rw [if_pos rfl]
      exact lastK_none fun p hp q => hn.1 (List.mem_map.mpr ⟨p, hp, q⟩)
    · exact lastK_nodup hn.2 h
/-- a range's items -/
theorem rng_len {lo hi : Int} : (rngD lo hi).length = (hi - lo).toNat := by unfold rngD; simp
theorem rng_map (lo hi : Int) : rngD lo hi = ((List.range (hi - lo).toNat).map fun (k : Nat) => lo + (k : Int)).map .int := by
  unfold rngD; rw [List.map_map]; rfl
end
end Ea

namespace Zk46
open PySem L2 Ea
def top (i : Nat) : Stmt := PySem.Challenge.pw_eachsome_k46_whole_plain_answers_along_p.main.body.getD i (.Pass ⟨0, 0, 0, 0⟩)
abbrev t_0 : Stmt := top 1
abbrev t_1 : Stmt := top 3
abbrev t_2 : Stmt := top 4
abbrev t_3 : Stmt := top 5
abbrev t_4 : Stmt := top 6
abbrev t_5 : Stmt := top 7
abbrev t_6 : Stmt := top 8
abbrev t_7 : Stmt := top 9
abbrev t_8 : Stmt := top 10
/-- answers_reply: 0 answers 1 play 2 letter 3 answer 4 literal -/
def b_0 (cf : CF) : M Fl :=
  (seq (setV 2 (bin addD (opn lenF (consM (rd 1) nilM)) (ret (.int 1))))
  (seq (setV 3 (bin ixD (opn dicTF (consM (rd 0) nilM)) (rd 2)))
  (seq (iteM (orM (tst (bin eqD (rd 3) (tupM (consM (ret (.str "no")) nilM)))) (notM (tst (opn allF (consM (compM [4] (walkM (bin ixD (rd 3) (ret (.int 1)))) (gN 4) tYesM (bin inD (rd 4) (rd 1))) nilM))))) (retM (un negD (rd 2))) pass)
  (retM (rd 2)))))
def f_0 : Fn := ⟨5, 2, b_0⟩
/-- _law_bag: 0 script 1 cell 2 cells 3 stirred -/
def b_1 (cf : CF) : M Fl :=
  (seq (parM [2, 3] (consP false (compM [1] (walkM (sl (rd 0) none (some (ret (.int 63))))) (gN 1) tYesM (bin addD (bin mulD (ret (.int 2)) (opn absF (consM (rd 1) nilM))) (opn intF (consM (bin ltD (rd 1) (ret (.int 0))) nilM)))) (consP false (bin addD (ret (.int 70001)) (opn lenF (consM (rd 0) nilM))) nilP)))
  (seq (forM (walkM (rd 2)) (gN 1) (setV 3 (bin modD (opn intF (consM (bin addD (bin addD (bin mulD (rd 3) (ret (.int 48271))) (rd 1)) (ret (.int 5))) nilM)) (ret (.int 4294967291)))))
  (retM (newM (lstM (consM (newM (compM [1] (walkM (rd 2)) (gN 1) (tst (bin gtD (rd 1) (bin powD (ret (.int 10)) (ret (.int 15))))) (rd 1))) (consM (rd 3) (consM (ret (.int 0)) nilM))))))))
def f_1 : Fn := ⟨4, 1, b_1⟩
/-- _law_draw: 0 bag 1 many 2 found 3 turn 4 cell -/
def b_2 (cf : CF) : M Fl :=
  (seq (iteM (andM (tst (bin neD (bin ixD (rd 0) (ret (.int 0))) (lstM nilM))) (tst (bin gtD (rd 1) (ret (.int 1))))) (seq (setV 4 (mutM isL popF (bin ixD (rd 0) (ret (.int 0))) (consM (ret (.int 0)) nilM)))
  (seq (iteM (tst (bin geD (rd 4) (rd 1))) (drp (mutM isL insF (bin ixD (rd 0) (ret (.int 0))) (consM (ret (.int 0)) (consM (bin fdivD (rd 4) (rd 1)) nilM)))) pass)
  (retM (bin modD (opn intF (consM (rd 4) nilM)) (rd 1))))) pass)
  (seq (setIx (rd 0) (ret (.int 2)) (bin addD (bin ixD (rd 0) (ret (.int 2))) (ret (.int 1))))
  (seq (setV 2 (bin modD (opn intF (consM (bin addD (bin ixD (rd 0) (ret (.int 1))) (bin mulD (ret (.int 2654435761)) (bin ixD (rd 0) (ret (.int 2))))) nilM)) (ret (.int 4294967291))))
  (seq (forM (rng1 (consM (ret (.int 2)) nilM)) (gN 3) (setV 2 (bin modD (opn intF (consM (bin addD (bin addD (bin addD (bin mulD (rd 2) (rd 2)) (bin mulD (ret (.int 69621)) (bin ixD (rd 0) (ret (.int 2))))) (ret (.int 13))) (rd 3)) nilM)) (ret (.int 4294967279)))))
  (retM (bin modD (opn intF (consM (bin fdivD (rd 2) (ret (.int 256))) nilM)) (rd 1)))))))
def f_2 : Fn := ⟨5, 2, b_2⟩
/-- _law_pick: 0 bag 1 row -/
def b_3 (cf : CF) : M Fl :=
  (retM (bin ixD (rd 1) (callM cf 2 (consM (rd 0) (consM (opn lenF (consM (rd 1) nilM)) nilM)))))
def f_3 : Fn := ⟨2, 2, b_3⟩
/-- _law_mixed: 0 bag 1 row 2 left 3 found -/
def b_4 (cf : CF) : M Fl :=
  (seq (parM [2, 3] (consP true (opn lstF (consM (rd 1) nilM)) (consP true (lstM nilM) nilP)))
  (seq (whM (tst (bin neD (rd 2) (lstM nilM))) (drp (mutM isL appF (rd 3) (consM (mutM isL popF (rd 2) (consM (callM cf 2 (consM (rd 0) (consM (opn lenF (consM (rd 2) nilM)) nilM))) nilM)) nilM))))
  (retM (rd 3))))
def f_4 : Fn := ⟨4, 2, b_4⟩
/-- _law_owners: 0 bag 1 n 2 way 3 cut 4 k -/
def b_5 (cf : CF) : M Fl :=
  (seq (setV 2 (callM cf 2 (consM (rd 0) (consM (ret (.int 9)) nilM))))
  (seq (iteM (tst (bin eqD (rd 2) (ret (.int 0)))) (retM (bin mulD (callM cf 3 (consM (rd 0) (consM (lstM (consM (ret (.str "e")) (consM (ret (.str "s")) nilM))) nilM))) (rd 1))) pass)
  (seq (iteM (tst (bin eqD (rd 2) (ret (.int 1)))) (retM (sl (bin mulD (callM cf 3 (consM (rd 0) (consM (lstM (consM (ret (.str "es")) (consM (ret (.str "se")) nilM))) nilM))) (rd 1)) none (some (rd 1)))) pass)
  (seq (iteM (tst (bin eqD (rd 2) (ret (.int 2)))) (seq (setV 3 (callM cf 2 (consM (rd 0) (consM (bin addD (rd 1) (ret (.int 1))) nilM))))
  (retM (iteM (tst (bin gtD (callM cf 2 (consM (rd 0) (consM (ret (.int 3)) nilM))) (ret (.int 0)))) (bin addD (bin mulD (ret (.str "e")) (rd 3)) (bin mulD (ret (.str "s")) (bin subD (rd 1) (rd 3)))) (bin addD (bin mulD (ret (.str "s")) (rd 3)) (bin mulD (ret (.str "e")) (bin subD (rd 1) (rd 3))))))) pass)
  (retM (joinM (ret (.str "")) (compM [4] (rng1 (consM (rd 1) nilM)) (gN 4) tYesM (callM cf 3 (consM (rd 0) (consM (lstM (consM (ret (.str "e")) (consM (ret (.str "s")) nilM))) nilM))))))))))
def f_5 : Fn := ⟨5, 2, b_5⟩
/-- _law_own: 0 bag 1 owners 2 most 3 signs 4 found 5 x 6 ahead 7 some 8 row 9 k -/
def b_6 (cf : CF) : M Fl :=
  (seq (setO 4 (lstM nilM))
  (seq (forM (rng2 (consM (ret (.int 1)) (consM (bin addD (opn lenF (consM (rd 1) nilM)) (ret (.int 1))) nilM))) (gN 5) (iteM (tst (bin eqD (bin ixD (rd 1) (bin subD (rd 5) (ret (.int 1)))) (ret (.str "s")))) (seq (setV 6 (compM [9] (rng2 (consM (ret (.int 1)) (consM (rd 5) nilM))) (gN 9) (tst (bin eqD (bin ixD (rd 1) (bin subD (rd 9) (ret (.int 1)))) (ret (.str "e")))) (rd 9)))
  (seq (setV 7 (sl (callM cf 4 (consM (rd 0) (consM (rd 6) nilM))) none (some (callM cf 2 (consM (rd 0) (consM (bin addD (rd 2) (ret (.int 1))) nilM))))))
  (seq (setV 8 (opn tupF (consM (opn sortAF (consM (compM [9] (walkM (rd 7)) (gN 9) tYesM (bin mulD (rd 9) (callM cf 3 (consM (rd 0) (consM (rd 3) nilM))))) nilM)) nilM)))
  (drp (mutM isL appF (rd 4) (consM (tupM (consM (rd 5) (consM (iteM (tst (bin eqD (callM cf 2 (consM (rd 0) (consM (ret (.int 3)) nilM))) (ret (.int 0)))) (tupM (consM (ret (.str "no")) nilM)) (tupM (consM (ret (.str "all")) (consM (rd 8) nilM)))) nilM))) nilM)))))) pass))
  (retM (opn tupF (consM (rd 4) nilM)))))
def f_6 : Fn := ⟨10, 4, b_6⟩
/-- _law_said: 0 heard 1 play 2 x 3 answer 4 y -/
def b_7 (cf : CF) : M Fl :=
  (seq (setV 2 (bin addD (opn lenF (consM (rd 1) nilM)) (ret (.int 1))))
  (seq (setV 3 (bin ixD (opn dicTF (consM (rd 0) nilM)) (rd 2)))
  (retM (iteM (andM (tst (bin eqD (bin ixD (rd 3) (ret (.int 0))) (ret (.str "all")))) (tst (bin eqD (compM [4] (walkM (bin ixD (rd 3) (ret (.int 1)))) (gN 4) (tst (bin ninD (rd 4) (rd 1))) (ret (.int 1))) (lstM nilM)))) (rd 2) (un negD (rd 2))))))
def f_7 : Fn := ⟨5, 2, b_7⟩
/-- law: 0 script 1 bag 2 turn 3 n 4 owners 5 heard 6 k 7 whole 8 known 9 play 10 own 11 x 12 answer 13 is_yes 14 due 15 seen 16 y -/
def b_8 (cf : CF) : M Fl :=
  (seq (setV 1 (callM cf 1 (consM (rd 0) nilM)))
  (seq (forM (rng1 (consM (ret (.int 6)) nilM)) (gN 2) (seq (setV 3 (iteM (andM (tst (bin eqD (rd 2) (ret (.int 5)))) (tst (bin eqD (callM cf 2 (consM (rd 1) (consM (ret (.int 4)) nilM))) (ret (.int 0))))) (ret (.int 60)) (bin addD (ret (.int 1)) (callM cf 2 (consM (rd 1) (consM (ret (.int 10)) nilM))))))
  (seq (setV 4 (callM cf 5 (consM (rd 1) (consM (rd 3) nilM))))
  (seq (setV 5 (callM cf 6 (consM (rd 1) (consM (rd 4) (consM (iteM (tst (bin gtD (rd 3) (ret (.int 12)))) (ret (.int 6)) (ret (.int 3))) (consM (callM cf 3 (consM (rd 1) (consM (lstM (consM (lstM (consM (ret (.int 1)) nilM)) (consM (lstM (consM (ret (.int 1)) (consM (un negD (ret (.int 1))) nilM))) (consM (lstM (consM (un negD (ret (.int 1))) nilM)) nilM)))) nilM))) nilM))))))
  (seq (parM [8, 9] (consP false (opn reprF (consM (rd 5) nilM)) (consP false (tupM nilM) nilP)))
  (seq (forM (rng2 (consM (ret (.int 1)) (consM (bin addD (rd 3) (ret (.int 1))) nilM))) (gN 6) (iteM (andM (tst (bin eqD (bin ixD (rd 4) (bin subD (rd 6) (ret (.int 1)))) (ret (.str "s")))) (tst (bin gtD (callM cf 2 (consM (rd 1) (consM (ret (.int 4)) nilM))) (ret (.int 0))))) (seq (setV 14 (callM cf 7 (consM (rd 5) (consM (rd 9) nilM))))
  (seq (setV 15 (iteM (tst (bin eqD (bin modD (rd 6) (ret (.int 3))) (ret (.int 0)))) (callP cf 0 [1, 0] nilM (consM (rd 9) (consM (rd 5) nilM))) (callM cf 0 (consM (rd 5) (consM (rd 9) nilM)))))
  (seq (iteM (orM (tst (bin neD (opn reprF (consM (rd 15) nilM)) (opn reprF (consM (rd 14) nilM)))) (tst (bin neD (opn reprF (consM (callM cf 0 (consM (rd 5) (consM (rd 9) nilM))) nilM)) (opn reprF (consM (rd 14) nilM))))) (retM (ret (.bl false))) pass)
  (setV 9 (bin addD (rd 9) (tupM (consM (rd 14) nilM))))))) (setV 9 (bin addD (rd 9) (tupM (consM (bin mulD (rd 6) (callM cf 3 (consM (rd 1) (consM (lstM (consM (ret (.int 1)) (consM (ret (.int 1)) (consM (un negD (ret (.int 1))) nilM)))) nilM)))) nilM))))))
  (seq (iteM (tst (bin neD (opn reprF (consM (rd 5) nilM)) (rd 8))) (retM (ret (.bl false))) pass)
  (seq (setV 7 (tupM nilM))
  (seq (forM (rng2 (consM (ret (.int 1)) (consM (bin addD (rd 3) (ret (.int 1))) nilM))) (gN 6) (seq (setV 10 (iteM (tst (bin eqD (bin ixD (rd 4) (bin subD (rd 6) (ret (.int 1)))) (ret (.str "s")))) (callM cf 0 (consM (rd 5) (consM (rd 7) nilM))) (bin mulD (rd 6) (callM cf 3 (consM (rd 1) (consM (lstM (consM (ret (.int 1)) (consM (un negD (ret (.int 1))) nilM))) nilM))))))
  (setV 7 (bin addD (rd 7) (tupM (consM (rd 10) nilM))))))
  (forM (walkM (rd 5)) (gT [(gN 11), (gN 12)]) (seq (setV 13 (andV (bin eqD (bin ixD (rd 12) (ret (.int 0))) (ret (.str "all"))) (bin eqD (compM [16] (walkM (bin ixD (rd 12) (ret (.int 1)))) (gN 16) (tst (bin ninD (rd 16) (rd 7))) (ret (.int 1))) (lstM nilM))))
  (iteM (tst (bin neD (bin ixD (rd 7) (bin subD (rd 11) (ret (.int 1)))) (iteM (tst (rd 13)) (rd 11) (un negD (rd 11))))) (retM (ret (.bl false))) pass))))))))))))
  (retM (ret (.bl true)))))
def f_8 : Fn := ⟨17, 1, b_8⟩
def T : Nat → Option Fn
  | 0 => some f_0
  | 1 => some f_1
  | 2 => some f_2
  | 3 => some f_3
  | 4 => some f_4
  | 5 => some f_5
  | 6 => some f_6
  | 7 => some f_7
  | 8 => some f_8
  | _ => none
theorem c_0 {n : Nat} {x0 x1 : D} {st : List D} {Q : D → List D → Prop} (h : Wp (b_0 (callF T n)) ⟨[.val x0, .val x1, .un, .un, .un], st⟩ (rtW Q)) : Cw (callF T (n + 1)) 0 [x0, x1] st Q := cw_body rfl rfl h
theorem c_1 {n : Nat} {x0 : D} {st : List D} {Q : D → List D → Prop} (h : Wp (b_1 (callF T n)) ⟨[.val x0, .un, .un, .un], st⟩ (rtW Q)) : Cw (callF T (n + 1)) 1 [x0] st Q := cw_body rfl rfl h
theorem c_2 {n : Nat} {x0 x1 : D} {st : List D} {Q : D → List D → Prop} (h : Wp (b_2 (callF T n)) ⟨[.val x0, .val x1, .un, .un, .un], st⟩ (rtW Q)) : Cw (callF T (n + 1)) 2 [x0, x1] st Q := cw_body rfl rfl h
theorem c_3 {n : Nat} {x0 x1 : D} {st : List D} {Q : D → List D → Prop} (h : Wp (b_3 (callF T n)) ⟨[.val x0, .val x1], st⟩ (rtW Q)) : Cw (callF T (n + 1)) 3 [x0, x1] st Q := cw_body rfl rfl h
theorem c_4 {n : Nat} {x0 x1 : D} {st : List D} {Q : D → List D → Prop} (h : Wp (b_4 (callF T n)) ⟨[.val x0, .val x1, .un, .un], st⟩ (rtW Q)) : Cw (callF T (n + 1)) 4 [x0, x1] st Q := cw_body rfl rfl h
theorem c_5 {n : Nat} {x0 x1 : D} {st : List D} {Q : D → List D → Prop} (h : Wp (b_5 (callF T n)) ⟨[.val x0, .val x1, .un, .un, .un], st⟩ (rtW Q)) : Cw (callF T (n + 1)) 5 [x0, x1] st Q := cw_body rfl rfl h
theorem c_6 {n : Nat} {x0 x1 x2 x3 : D} {st : List D} {Q : D → List D → Prop} (h : Wp (b_6 (callF T n)) ⟨[.val x0, .val x1, .val x2, .val x3, .un, .un, .un, .un, .un, .un], st⟩ (rtW Q)) : Cw (callF T (n + 1)) 6 [x0, x1, x2, x3] st Q := cw_body rfl rfl h
theorem c_7 {n : Nat} {x0 x1 : D} {st : List D} {Q : D → List D → Prop} (h : Wp (b_7 (callF T n)) ⟨[.val x0, .val x1, .un, .un, .un], st⟩ (rtW Q)) : Cw (callF T (n + 1)) 7 [x0, x1] st Q := cw_body rfl rfl h
theorem c_8 {n : Nat} {x0 : D} {st : List D} {Q : D → List D → Prop} (h : Wp (b_8 (callF T n)) ⟨[.val x0, .un, .un, .un, .un, .un, .un, .un, .un, .un, .un, .un, .un, .un, .un, .un, .un], st⟩ (rtW Q)) : Cw (callF T (n + 1)) 8 [x0] st Q := cw_body rfl rfl h
section
variable {P : Program} {w : World} {K : PySem.W.Frag} {mg : Str → Option Value} {base : Heap} {E : En}
structure Txt (mg : Str → Option Value) : Prop where
  z_abs : mg "abs" = none
  z_all : mg "all" = none
  z_dict : mg "dict" = none
  z_int : mg "int" = none
  z_len : mg "len" = none
  z_list : mg "list" = none
  z_range : mg "range" = none
  z_repr : mg "repr" = none
  z_sorted : mg "sorted" = none
  z_tuple : mg "tuple" = none
structure Ds (P : Program) (w : World) (K : PySem.W.Frag) (mg : Str → Option Value) (base : Heap) (E : En) (cf : CF) (k : Nat) (fd0 fd1 fd2 fd3 fd4 fd5 fd6 fd7 fd8 : FuncData) : Prop where
  d_0 : CallD E P w K mg base cf k "answers_reply" 0 2 fd0 ["answers", "play"]
  d_1 : CallD E P w K mg base cf k "_law_bag" 1 1 fd1 ["script"]
  d_2 : CallD E P w K mg base cf k "_law_draw" 2 2 fd2 ["bag", "many"]
  d_3 : CallD E P w K mg base cf k "_law_pick" 3 2 fd3 ["bag", "row"]
  d_4 : CallD E P w K mg base cf k "_law_mixed" 4 2 fd4 ["bag", "row"]
  d_5 : CallD E P w K mg base cf k "_law_owners" 5 2 fd5 ["bag", "n"]
  d_6 : CallD E P w K mg base cf k "_law_own" 6 4 fd6 ["bag", "owners", "most", "signs"]
  d_7 : CallD E P w K mg base cf k "_law_said" 7 2 fd7 ["heard", "play"]
  d_8 : CallD E P w K mg base cf k "law" 8 1 fd8 ["script"]
  k_0 : ∀ (s : Shared) (us ws : List Value), us.length = 0 → ws.length = (["play", "answers"] : List Str).length → BindsTo s fd0 ⟨us, (["play", "answers"] : List Str).zip ws⟩ ((["answers", "play"] : List Str).zip (([1, 0] : List Nat).map fun i => (us ++ ws).getD i .none))
theorem sc_0 : FnScope ["answers", "play", "letter", "answer", "literal"] ["answers", "play"] (defScope t_0) := ⟨rfl, rfl, rfl, by decide +kernel, rfl, by decide +kernel, by decide +kernel⟩
set_option maxHeartbeats 4000000 in
theorem kb_0 {cf : CF} {k : Nat} {fd0 fd1 fd2 fd3 fd4 fd5 fd6 fd7 fd8 : FuncData} {f : Addr} {cdv : Value} {A : Around} {outer : List Env} {s : Shared} {H : Hp} {Ex : XK} (hnt : E.k.nt = true) (Z : Txt mg) (D : Ds P w K mg base E cf k fd0 fd1 fd2 fd3 fd4 fd5 fd6 fd7 fd8)
    (hK : Kx E (bodyX P w K mg base ["answers", "play", "letter", "answer", "literal"] "answers_reply" t_0 f cdv A outer s H Ex)) (hr : Room k (bodyX P w K mg base ["answers", "play", "letter", "answer", "literal"] "answers_reply" t_0 f cdv A outer s H Ex).A) : KB E (bodyX P w K mg base ["answers", "play", "letter", "answer", "literal"] "answers_reply" t_0 f cdv A outer s H Ex) (defBody t_0) (b_0 cf) :=
  (kb_cons (k_setV hK (k_add hK (q_len hK Z.z_len (ka_cons (k_var 1) ka_nil)) k_int) 2)
  (kb_cons (k_setV hK (q_ix hK (k_frz (q_dicT hnt hK Z.z_dict (ka_cons (k_var 0) ka_nil))) (k_var 2)) 3)
  (kb_cons (k_if (k_wT (kw_or (q_eqT hK (k_var 3) (k_tup (ka_cons k_str ka_nil))) (kw_or1 (k_notT (k_tst (q_all hK Z.z_all (ka_cons (k_frz (kf_comp hK (ki_seq hK (q_ix hK (k_var 3) k_int)) (blkOk_by (N := ["answers", "play", "letter", "answer", "literal"]) (sc := defScope t_0) (own := [("literal", 4)]) (by decide +kernel)) (fun _ _ _ _ _ hK1 => (kg_name hK1 4)) (fun _ _ _ _ _ hK1 => kts_nil) (fun _ _ _ _ _ hK1 => (q_in hK1 (k_var 4) (k_var 1))))) ka_nil))))))) (kb_one (k_ret (k_neg (k_var 2)))) kb_nil)
  (kb_one (k_ret (k_var 2))))))
theorem sc_1 : FnScope ["script", "cell", "cells", "stirred"] ["script"] (defScope t_1) := ⟨rfl, rfl, rfl, by decide +kernel, rfl, by decide +kernel, by decide +kernel⟩
set_option maxHeartbeats 4000000 in
theorem kb_1 {cf : CF} {k : Nat} {fd0 fd1 fd2 fd3 fd4 fd5 fd6 fd7 fd8 : FuncData} {f : Addr} {cdv : Value} {A : Around} {outer : List Env} {s : Shared} {H : Hp} {Ex : XK} (hnt : E.k.nt = true) (Z : Txt mg) (D : Ds P w K mg base E cf k fd0 fd1 fd2 fd3 fd4 fd5 fd6 fd7 fd8)
    (hK : Kx E (bodyX P w K mg base ["script", "cell", "cells", "stirred"] "_law_bag" t_1 f cdv A outer s H Ex)) (hr : Room k (bodyX P w K mg base ["script", "cell", "cells", "stirred"] "_law_bag" t_1 f cdv A outer s H Ex).A) : KB E (bodyX P w K mg base ["script", "cell", "cells", "stirred"] "_law_bag" t_1 f cdv A outer s H Ex) (defBody t_1) (b_1 cf) :=
  (kb_cons (k_par2 hK (kp_v (k_frz (kf_comp hK (ki_seq hK (k_sl hK (k_var 0) ko_none (ko_some k_int))) (blkOk_by (N := ["script", "cell", "cells", "stirred"]) (sc := defScope t_1) (own := [("cell", 1)]) (by decide +kernel)) (fun _ _ _ _ _ hK1 => (kg_name hK1 1)) (fun _ _ _ _ _ hK1 => kts_nil) (fun _ _ _ _ _ hK1 => (k_add hK1 (k_mul hK1 k_int (q_abs hK1 Z.z_abs (ka_cons (k_var 1) ka_nil))) (q_int hK1 Z.z_int (ka_cons (k_lt (k_var 1) k_int) ka_nil)))))) (kp_v (k_add hK k_int (q_len hK Z.z_len (ka_cons (k_var 0) ka_nil))) kp_nil)) (plen_cons (plen_cons plen_nil)) (by decide))
  (kb_cons (k_for hK (ki_seq hK (k_var 2)) (kg_name hK 1) (kb_one (k_setV hK (k_mod (q_int hK Z.z_int (ka_cons (k_add hK (k_add hK (k_mul hK (k_var 3) k_int) (k_var 1)) k_int) ka_nil)) k_int) 3)))
  (kb_one (k_ret (k_new (kf_lst (ka_cons (k_new (kf_comp hK (ki_seq hK (k_var 2)) (blkOk_by (N := ["script", "cell", "cells", "stirred"]) (sc := defScope t_1) (own := [("cell", 1)]) (by decide +kernel)) (fun _ _ _ _ _ hK1 => (kg_name hK1 1)) (fun _ _ _ _ _ hK1 => (kts_one (q_gtT (k_var 1) (k_pow k_int k_int)))) (fun _ _ _ _ _ hK1 => (k_var 1)))) (ka_cons (k_var 3) (ka_cons k_int ka_nil)))))))))
theorem sc_2 : FnScope ["bag", "many", "found", "turn", "cell"] ["bag", "many"] (defScope t_2) := ⟨rfl, rfl, rfl, by decide +kernel, rfl, by decide +kernel, by decide +kernel⟩
set_option maxHeartbeats 4000000 in
theorem kb_2 {cf : CF} {k : Nat} {fd0 fd1 fd2 fd3 fd4 fd5 fd6 fd7 fd8 : FuncData} {f : Addr} {cdv : Value} {A : Around} {outer : List Env} {s : Shared} {H : Hp} {Ex : XK} (hnt : E.k.nt = true) (Z : Txt mg) (D : Ds P w K mg base E cf k fd0 fd1 fd2 fd3 fd4 fd5 fd6 fd7 fd8)
    (hK : Kx E (bodyX P w K mg base ["bag", "many", "found", "turn", "cell"] "_law_draw" t_2 f cdv A outer s H Ex)) (hr : Room k (bodyX P w K mg base ["bag", "many", "found", "turn", "cell"] "_law_draw" t_2 f cdv A outer s H Ex).A) : KB E (bodyX P w K mg base ["bag", "many", "found", "turn", "cell"] "_law_draw" t_2 f cdv A outer s H Ex) (defBody t_2) (b_2 cf) :=
  (kb_cons (k_if (k_wT (kw_and (q_neT hK (q_ix hK (k_var 0) k_int) (k_frz (kf_lst ka_nil))) (kw_and1 (q_gtT (k_var 1) k_int)))) (kb_cons (k_setV hK (k_popAt hK (q_ix hK (k_var 0) k_int) (ka_cons k_int ka_nil)) 4)
  (kb_cons (k_if (q_geT (k_var 4) (k_var 1)) (kb_one (k_drp (k_ins hK (q_ix hK (k_var 0) k_int) (ka_cons k_int (ka_cons (k_fdiv (k_var 4) (k_var 1)) ka_nil))))) kb_nil)
  (kb_one (k_ret (k_mod (q_int hK Z.z_int (ka_cons (k_var 4) ka_nil)) (k_var 1)))))) kb_nil)
  (kb_cons (q_setIx hK (k_add hK (q_ix hK (k_var 0) k_int) k_int) (k_var 0) k_int)
  (kb_cons (k_setV hK (k_mod (q_int hK Z.z_int (ka_cons (k_add hK (q_ix hK (k_var 0) k_int) (k_mul hK k_int (q_ix hK (k_var 0) k_int))) ka_nil)) k_int) 2)
  (kb_cons (k_for hK (q_rng1 Z.z_range (ka_cons k_int ka_nil)) (kg_name hK 3) (kb_one (k_setV hK (k_mod (q_int hK Z.z_int (ka_cons (k_add hK (k_add hK (k_add hK (k_mul hK (k_var 2) (k_var 2)) (k_mul hK k_int (q_ix hK (k_var 0) k_int))) k_int) (k_var 3)) ka_nil)) k_int) 2)))
  (kb_one (k_ret (k_mod (q_int hK Z.z_int (ka_cons (k_fdiv (k_var 2) k_int) ka_nil)) (k_var 1))))))))
theorem sc_3 : FnScope ["bag", "row"] ["bag", "row"] (defScope t_3) := ⟨rfl, rfl, rfl, by decide +kernel, rfl, by decide +kernel, by decide +kernel⟩
set_option maxHeartbeats 4000000 in
theorem kb_3 {cf : CF} {k : Nat} {fd0 fd1 fd2 fd3 fd4 fd5 fd6 fd7 fd8 : FuncData} {f : Addr} {cdv : Value} {A : Around} {outer : List Env} {s : Shared} {H : Hp} {Ex : XK} (hnt : E.k.nt = true) (Z : Txt mg) (D : Ds P w K mg base E cf k fd0 fd1 fd2 fd3 fd4 fd5 fd6 fd7 fd8)
    (hK : Kx E (bodyX P w K mg base ["bag", "row"] "_law_pick" t_3 f cdv A outer s H Ex)) (hr : Room k (bodyX P w K mg base ["bag", "row"] "_law_pick" t_3 f cdv A outer s H Ex).A) : KB E (bodyX P w K mg base ["bag", "row"] "_law_pick" t_3 f cdv A outer s H Ex) (defBody t_3) (b_3 cf) :=
  (kb_one (k_ret (q_ix hK (k_var 1) (q_call hK D.d_2 hr (ka_cons (k_var 0) (ka_cons (q_len hK Z.z_len (ka_cons (k_var 1) ka_nil)) ka_nil))))))
theorem sc_4 : FnScope ["bag", "row", "left", "found"] ["bag", "row"] (defScope t_4) := ⟨rfl, rfl, rfl, by decide +kernel, rfl, by decide +kernel, by decide +kernel⟩
set_option maxHeartbeats 4000000 in
theorem kb_4 {cf : CF} {k : Nat} {fd0 fd1 fd2 fd3 fd4 fd5 fd6 fd7 fd8 : FuncData} {f : Addr} {cdv : Value} {A : Around} {outer : List Env} {s : Shared} {H : Hp} {Ex : XK} (hnt : E.k.nt = true) (Z : Txt mg) (D : Ds P w K mg base E cf k fd0 fd1 fd2 fd3 fd4 fd5 fd6 fd7 fd8)
    (hK : Kx E (bodyX P w K mg base ["bag", "row", "left", "found"] "_law_mixed" t_4 f cdv A outer s H Ex)) (hr : Room k (bodyX P w K mg base ["bag", "row", "left", "found"] "_law_mixed" t_4 f cdv A outer s H Ex).A) : KB E (bodyX P w K mg base ["bag", "row", "left", "found"] "_law_mixed" t_4 f cdv A outer s H Ex) (defBody t_4) (b_4 cf) :=
  (kb_cons (k_par2 hK (kp_o (q_list hK Z.z_list (ka_cons (k_var 1) ka_nil)) (kp_o (kf_lst ka_nil) kp_nil)) (plen_cons (plen_cons plen_nil)) (by decide))
  (kb_cons (k_while hK (q_neT hK (k_var 2) (k_frz (kf_lst ka_nil))) (kb_one (k_drp (k_app hK (k_var 3) (ka_cons (k_popAt hK (k_var 2) (ka_cons (q_call hK D.d_2 hr (ka_cons (k_var 0) (ka_cons (q_len hK Z.z_len (ka_cons (k_var 2) ka_nil)) ka_nil))) ka_nil)) ka_nil)))))
  (kb_one (k_ret (k_var 3)))))
theorem sc_5 : FnScope ["bag", "n", "way", "cut", "k"] ["bag", "n"] (defScope t_5) := ⟨rfl, rfl, rfl, by decide +kernel, rfl, by decide +kernel, by decide +kernel⟩
set_option maxHeartbeats 4000000 in
theorem kb_5 {cf : CF} {k : Nat} {fd0 fd1 fd2 fd3 fd4 fd5 fd6 fd7 fd8 : FuncData} {f : Addr} {cdv : Value} {A : Around} {outer : List Env} {s : Shared} {H : Hp} {Ex : XK} (hnt : E.k.nt = true) (Z : Txt mg) (D : Ds P w K mg base E cf k fd0 fd1 fd2 fd3 fd4 fd5 fd6 fd7 fd8)
    (hK : Kx E (bodyX P w K mg base ["bag", "n", "way", "cut", "k"] "_law_owners" t_5 f cdv A outer s H Ex)) (hr : Room k (bodyX P w K mg base ["bag", "n", "way", "cut", "k"] "_law_owners" t_5 f cdv A outer s H Ex).A) : KB E (bodyX P w K mg base ["bag", "n", "way", "cut", "k"] "_law_owners" t_5 f cdv A outer s H Ex) (defBody t_5) (b_5 cf) :=
  (kb_cons (k_setV hK (q_call hK D.d_2 hr (ka_cons (k_var 0) (ka_cons k_int ka_nil))) 2)
  (kb_cons (k_if (q_eqT hK (k_var 2) k_int) (kb_one (k_ret (k_mul hK (q_call hK D.d_3 hr (ka_cons (k_var 0) (ka_cons (k_frz (kf_lst (ka_cons k_str (ka_cons k_str ka_nil)))) ka_nil))) (k_var 1)))) kb_nil)
  (kb_cons (k_if (q_eqT hK (k_var 2) k_int) (kb_one (k_ret (k_sl hK (k_mul hK (q_call hK D.d_3 hr (ka_cons (k_var 0) (ka_cons (k_frz (kf_lst (ka_cons k_str (ka_cons k_str ka_nil)))) ka_nil))) (k_var 1)) ko_none (ko_some (k_var 1))))) kb_nil)
  (kb_cons (k_if (q_eqT hK (k_var 2) k_int) (kb_cons (k_setV hK (q_call hK D.d_2 hr (ka_cons (k_var 0) (ka_cons (k_add hK (k_var 1) k_int) ka_nil))) 3)
  (kb_one (k_ret (k_ite (q_gtT (q_call hK D.d_2 hr (ka_cons (k_var 0) (ka_cons k_int ka_nil))) k_int) (k_add hK (k_mul hK k_str (k_var 3)) (k_mul hK k_str (k_sub (k_var 1) (k_var 3)))) (k_add hK (k_mul hK k_str (k_var 3)) (k_mul hK k_str (k_sub (k_var 1) (k_var 3)))))))) kb_nil)
  (kb_one (k_ret (k_join hK.K k_str (k_frz (kf_comp hK (q_rng1 Z.z_range (ka_cons (k_var 1) ka_nil)) (blkOk_by (N := ["bag", "n", "way", "cut", "k"]) (sc := defScope t_5) (own := [("k", 4)]) (by decide +kernel)) (fun _ _ _ _ _ hK1 => (kg_name hK1 4)) (fun _ _ _ _ _ hK1 => kts_nil) (fun _ _ _ _ _ hK1 => (q_call hK1 D.d_3 hr (ka_cons (k_var 0) (ka_cons (k_frz (kf_lst (ka_cons k_str (ka_cons k_str ka_nil)))) ka_nil)))))))))))))
theorem sc_6 : FnScope ["bag", "owners", "most", "signs", "found", "x", "ahead", "some", "row", "k"] ["bag", "owners", "most", "signs"] (defScope t_6) := ⟨rfl, rfl, rfl, by decide +kernel, rfl, by decide +kernel, by decide +kernel⟩
set_option maxHeartbeats 4000000 in
theorem kb_6 {cf : CF} {k : Nat} {fd0 fd1 fd2 fd3 fd4 fd5 fd6 fd7 fd8 : FuncData} {f : Addr} {cdv : Value} {A : Around} {outer : List Env} {s : Shared} {H : Hp} {Ex : XK} (hnt : E.k.nt = true) (Z : Txt mg) (D : Ds P w K mg base E cf k fd0 fd1 fd2 fd3 fd4 fd5 fd6 fd7 fd8)
    (hK : Kx E (bodyX P w K mg base ["bag", "owners", "most", "signs", "found", "x", "ahead", "some", "row", "k"] "_law_own" t_6 f cdv A outer s H Ex)) (hr : Room k (bodyX P w K mg base ["bag", "owners", "most", "signs", "found", "x", "ahead", "some", "row", "k"] "_law_own" t_6 f cdv A outer s H Ex).A) : KB E (bodyX P w K mg base ["bag", "owners", "most", "signs", "found", "x", "ahead", "some", "row", "k"] "_law_own" t_6 f cdv A outer s H Ex) (defBody t_6) (b_6 cf) :=
  (kb_cons (k_setO hK (kf_lst ka_nil) 4)
  (kb_cons (k_for hK (q_rng2 Z.z_range (ka_cons k_int (ka_cons (k_add hK (q_len hK Z.z_len (ka_cons (k_var 1) ka_nil)) k_int) ka_nil))) (kg_name hK 5) (kb_one (k_if (q_eqT hK (q_ix hK (k_var 1) (k_sub (k_var 5) k_int)) k_str) (kb_cons (k_setLcV hK 6 (q_rng2 Z.z_range (ka_cons k_int (ka_cons (k_var 5) ka_nil))) (blkOk_by (N := ["bag", "owners", "most", "signs", "found", "x", "ahead", "some", "row", "k"]) (sc := defScope t_6) (own := [("k", 9)]) (by decide +kernel)) (fun _ _ _ _ _ hK1 => (kg_name hK1 9)) (fun _ _ _ _ _ hK1 => (kts_one (q_eqT hK1 (q_ix hK1 (k_var 1) (k_sub (k_var 9) k_int)) k_str))) (fun _ _ _ _ _ hK1 => (k_var 9)) (hsw := sw_true rfl rfl rfl (by decide +kernel)))
  (kb_cons (k_setV hK (k_sl hK (q_call hK D.d_4 hr (ka_cons (k_var 0) (ka_cons (k_var 6) ka_nil))) ko_none (ko_some (q_call hK D.d_2 hr (ka_cons (k_var 0) (ka_cons (k_add hK (k_var 2) k_int) ka_nil))))) 7)
  (kb_cons (k_setV hK (q_tuple hK Z.z_tuple (ka_cons (k_frz (q_sortA hK Z.z_sorted Z.z_abs (ka_cons (k_frz (kf_comp hK (ki_seq hK (k_var 7)) (blkOk_by (N := ["bag", "owners", "most", "signs", "found", "x", "ahead", "some", "row", "k"]) (sc := defScope t_6) (own := [("k", 9)]) (by decide +kernel)) (fun _ _ _ _ _ hK1 => (kg_name hK1 9)) (fun _ _ _ _ _ hK1 => kts_nil) (fun _ _ _ _ _ hK1 => (k_mul hK1 (k_var 9) (q_call hK1 D.d_3 hr (ka_cons (k_var 0) (ka_cons (k_var 3) ka_nil))))))) ka_nil))) ka_nil)) 8)
  (kb_one (k_drp (k_app hK (k_var 4) (ka_cons (k_tup (ka_cons (k_var 5) (ka_cons (k_ite (q_eqT hK (q_call hK D.d_2 hr (ka_cons (k_var 0) (ka_cons k_int ka_nil))) k_int) (k_tup (ka_cons k_str ka_nil)) (k_tup (ka_cons k_str (ka_cons (k_var 8) ka_nil)))) ka_nil))) ka_nil))))))) kb_nil)))
  (kb_one (k_ret (q_tuple hK Z.z_tuple (ka_cons (k_var 4) ka_nil))))))
theorem sc_7 : FnScope ["heard", "play", "x", "answer", "y"] ["heard", "play"] (defScope t_7) := ⟨rfl, rfl, rfl, by decide +kernel, rfl, by decide +kernel, by decide +kernel⟩
set_option maxHeartbeats 4000000 in
theorem kb_7 {cf : CF} {k : Nat} {fd0 fd1 fd2 fd3 fd4 fd5 fd6 fd7 fd8 : FuncData} {f : Addr} {cdv : Value} {A : Around} {outer : List Env} {s : Shared} {H : Hp} {Ex : XK} (hnt : E.k.nt = true) (Z : Txt mg) (D : Ds P w K mg base E cf k fd0 fd1 fd2 fd3 fd4 fd5 fd6 fd7 fd8)
    (hK : Kx E (bodyX P w K mg base ["heard", "play", "x", "answer", "y"] "_law_said" t_7 f cdv A outer s H Ex)) (hr : Room k (bodyX P w K mg base ["heard", "play", "x", "answer", "y"] "_law_said" t_7 f cdv A outer s H Ex).A) : KB E (bodyX P w K mg base ["heard", "play", "x", "answer", "y"] "_law_said" t_7 f cdv A outer s H Ex) (defBody t_7) (b_7 cf) :=
  (kb_cons (k_setV hK (k_add hK (q_len hK Z.z_len (ka_cons (k_var 1) ka_nil)) k_int) 2)
  (kb_cons (k_setV hK (q_ix hK (k_frz (q_dicT hnt hK Z.z_dict (ka_cons (k_var 0) ka_nil))) (k_var 2)) 3)
  (kb_one (k_ret (k_ite (k_wT (kw_and (q_eqT hK (q_ix hK (k_var 3) k_int) k_str) (kw_and1 (q_eqT hK (k_frz (kf_comp hK (ki_seq hK (q_ix hK (k_var 3) k_int)) (blkOk_by (N := ["heard", "play", "x", "answer", "y"]) (sc := defScope t_7) (own := [("y", 4)]) (by decide +kernel)) (fun _ _ _ _ _ hK1 => (kg_name hK1 4)) (fun _ _ _ _ _ hK1 => (kts_one (q_ninT hK1 (k_var 4) (k_var 1)))) (fun _ _ _ _ _ hK1 => k_int))) (k_frz (kf_lst ka_nil)))))) (k_var 2) (k_neg (k_var 2)))))))
theorem sc_8 : FnScope ["script", "bag", "turn", "n", "owners", "heard", "k", "whole", "known", "play", "own", "x", "answer", "is_yes", "due", "seen", "y"] ["script"] (defScope t_8) := ⟨rfl, rfl, rfl, by decide +kernel, rfl, by decide +kernel, by decide +kernel⟩
set_option maxHeartbeats 4000000 in
theorem kb_8 {cf : CF} {k : Nat} {fd0 fd1 fd2 fd3 fd4 fd5 fd6 fd7 fd8 : FuncData} {f : Addr} {cdv : Value} {A : Around} {outer : List Env} {s : Shared} {H : Hp} {Ex : XK} (hnt : E.k.nt = true) (Z : Txt mg) (D : Ds P w K mg base E cf k fd0 fd1 fd2 fd3 fd4 fd5 fd6 fd7 fd8)
    (hK : Kx E (bodyX P w K mg base ["script", "bag", "turn", "n", "owners", "heard", "k", "whole", "known", "play", "own", "x", "answer", "is_yes", "due", "seen", "y"] "law" t_8 f cdv A outer s H Ex)) (hr : Room k (bodyX P w K mg base ["script", "bag", "turn", "n", "owners", "heard", "k", "whole", "known", "play", "own", "x", "answer", "is_yes", "due", "seen", "y"] "law" t_8 f cdv A outer s H Ex).A) : KB E (bodyX P w K mg base ["script", "bag", "turn", "n", "owners", "heard", "k", "whole", "known", "play", "own", "x", "answer", "is_yes", "due", "seen", "y"] "law" t_8 f cdv A outer s H Ex) (defBody t_8) (b_8 cf) :=
  (kb_cons (k_setV hK (q_call hK D.d_1 hr (ka_cons (k_var 0) ka_nil)) 1)
  (kb_cons (k_for hK (q_rng1 Z.z_range (ka_cons k_int ka_nil)) (kg_name hK 2) (kb_cons (k_setV hK (k_ite (k_wT (kw_and (q_eqT hK (k_var 2) k_int) (kw_and1 (q_eqT hK (q_call hK D.d_2 hr (ka_cons (k_var 1) (ka_cons k_int ka_nil))) k_int)))) k_int (k_add hK k_int (q_call hK D.d_2 hr (ka_cons (k_var 1) (ka_cons k_int ka_nil))))) 3)
  (kb_cons (k_setV hK (q_call hK D.d_5 hr (ka_cons (k_var 1) (ka_cons (k_var 3) ka_nil))) 4)
  (kb_cons (k_setV hK (q_call hK D.d_6 hr (ka_cons (k_var 1) (ka_cons (k_var 4) (ka_cons (k_ite (q_gtT (k_var 3) k_int) k_int k_int) (ka_cons (q_call hK D.d_3 hr (ka_cons (k_var 1) (ka_cons (k_frz (kf_lst (ka_cons (k_frz (kf_lst (ka_cons k_int ka_nil))) (ka_cons (k_frz (kf_lst (ka_cons k_int (ka_cons (k_neg k_int) ka_nil)))) (ka_cons (k_frz (kf_lst (ka_cons (k_neg k_int) ka_nil))) ka_nil))))) ka_nil))) ka_nil))))) 5)
  (kb_cons (k_par2 hK (kp_v (q_repr hK Z.z_repr (ka_cons (k_var 5) ka_nil)) (kp_v (k_tup ka_nil) kp_nil)) (plen_cons (plen_cons plen_nil)) (by decide))
  (kb_cons (k_for hK (q_rng2 Z.z_range (ka_cons k_int (ka_cons (k_add hK (k_var 3) k_int) ka_nil))) (kg_name hK 6) (kb_one (k_if (k_wT (kw_and (q_eqT hK (q_ix hK (k_var 4) (k_sub (k_var 6) k_int)) k_str) (kw_and1 (q_gtT (q_call hK D.d_2 hr (ka_cons (k_var 1) (ka_cons k_int ka_nil))) k_int)))) (kb_cons (k_setV hK (q_call hK D.d_7 hr (ka_cons (k_var 5) (ka_cons (k_var 9) ka_nil))) 14)
  (kb_cons (k_setV hK (k_ite (q_eqT hK (k_mod (k_var 6) k_int) k_int) (q_callK0 hK D.d_0 hr D.k_0 (kk_cons (k_var 9) (kk_cons (k_var 5) kk_nil)) (alen_cons (alen_cons alen_nil))) (q_call hK D.d_0 hr (ka_cons (k_var 5) (ka_cons (k_var 9) ka_nil)))) 15)
  (kb_cons (k_if (k_wT (kw_or (q_neT hK (q_repr hK Z.z_repr (ka_cons (k_var 15) ka_nil)) (q_repr hK Z.z_repr (ka_cons (k_var 14) ka_nil))) (kw_or1 (q_neT hK (q_repr hK Z.z_repr (ka_cons (q_call hK D.d_0 hr (ka_cons (k_var 5) (ka_cons (k_var 9) ka_nil))) ka_nil)) (q_repr hK Z.z_repr (ka_cons (k_var 14) ka_nil)))))) (kb_one (k_ret k_bl)) kb_nil)
  (kb_one (k_setV hK (k_add hK (k_var 9) (k_tup (ka_cons (k_var 14) ka_nil))) 9))))) (kb_one (k_setV hK (k_add hK (k_var 9) (k_tup (ka_cons (k_mul hK (k_var 6) (q_call hK D.d_3 hr (ka_cons (k_var 1) (ka_cons (k_frz (kf_lst (ka_cons k_int (ka_cons k_int (ka_cons (k_neg k_int) ka_nil))))) ka_nil)))) ka_nil))) 9)))))
  (kb_cons (k_if (q_neT hK (q_repr hK Z.z_repr (ka_cons (k_var 5) ka_nil)) (k_var 8)) (kb_one (k_ret k_bl)) kb_nil)
  (kb_cons (k_setV hK (k_tup ka_nil) 7)
  (kb_cons (k_for hK (q_rng2 Z.z_range (ka_cons k_int (ka_cons (k_add hK (k_var 3) k_int) ka_nil))) (kg_name hK 6) (kb_cons (k_setV hK (k_ite (q_eqT hK (q_ix hK (k_var 4) (k_sub (k_var 6) k_int)) k_str) (q_call hK D.d_0 hr (ka_cons (k_var 5) (ka_cons (k_var 7) ka_nil))) (k_mul hK (k_var 6) (q_call hK D.d_3 hr (ka_cons (k_var 1) (ka_cons (k_frz (kf_lst (ka_cons k_int (ka_cons (k_neg k_int) ka_nil)))) ka_nil))))) 10)
  (kb_one (k_setV hK (k_add hK (k_var 7) (k_tup (ka_cons (k_var 10) ka_nil))) 7))))
  (kb_one (k_for hK (ki_seq hK (k_var 5)) (kg_tup hK (kgs_cons (kg_name hK 11) (kgs_cons (kg_name hK 12) kgs_nil))) (kb_cons (k_setV hK (k_andV (q_eq hK (q_ix hK (k_var 12) k_int) k_str) (k_one (q_eq hK (k_frz (kf_comp hK (ki_seq hK (q_ix hK (k_var 12) k_int)) (blkOk_by (N := ["script", "bag", "turn", "n", "owners", "heard", "k", "whole", "known", "play", "own", "x", "answer", "is_yes", "due", "seen", "y"]) (sc := defScope t_8) (own := [("y", 16)]) (by decide +kernel)) (fun _ _ _ _ _ hK1 => (kg_name hK1 16)) (fun _ _ _ _ _ hK1 => (kts_one (q_ninT hK1 (k_var 16) (k_var 7)))) (fun _ _ _ _ _ hK1 => k_int))) (k_frz (kf_lst ka_nil))))) 13)
  (kb_one (k_if (q_neT hK (q_ix hK (k_var 7) (k_sub (k_var 11) k_int)) (k_ite (k_tst (k_var 13)) (k_var 11) (k_neg (k_var 11)))) (kb_one (k_ret k_bl)) kb_nil))))))))))))))
  (kb_one (k_ret k_bl))))
structure Fns (K : PySem.W.Frag) (mg : Str → Option Value) (a0 a1 a2 a3 a4 a5 a6 a7 a8 : Addr) (fd0 fd1 fd2 fd3 fd4 fd5 fd6 fd7 fd8 : FuncData) : Prop where
  m_0 : mg "answers_reply" = some (.ref a0)
  f_0 : Fun K "answers_reply" "answers_reply" t_0 a0 fd0
  m_1 : mg "_law_bag" = some (.ref a1)
  f_1 : Fun K "_law_bag" "_law_bag" t_1 a1 fd1
  m_2 : mg "_law_draw" = some (.ref a2)
  f_2 : Fun K "_law_draw" "_law_draw" t_2 a2 fd2
  m_3 : mg "_law_pick" = some (.ref a3)
  f_3 : Fun K "_law_pick" "_law_pick" t_3 a3 fd3
  m_4 : mg "_law_mixed" = some (.ref a4)
  f_4 : Fun K "_law_mixed" "_law_mixed" t_4 a4 fd4
  m_5 : mg "_law_owners" = some (.ref a5)
  f_5 : Fun K "_law_owners" "_law_owners" t_5 a5 fd5
  m_6 : mg "_law_own" = some (.ref a6)
  f_6 : Fun K "_law_own" "_law_own" t_6 a6 fd6
  m_7 : mg "_law_said" = some (.ref a7)
  f_7 : Fun K "_law_said" "_law_said" t_7 a7 fd7
  m_8 : mg "law" = some (.ref a8)
  f_8 : Fun K "law" "law" t_8 a8 fd8
theorem ds_of {cf : CF} {k : Nat} {a0 a1 a2 a3 a4 a5 a6 a7 a8 : Addr} {fd0 fd1 fd2 fd3 fd4 fd5 fd6 fd7 fd8 : FuncData} (F : Fns K mg a0 a1 a2 a3 a4 a5 a6 a7 a8 fd0 fd1 fd2 fd3 fd4 fd5 fd6 fd7 fd8) (hc : ∀ i fn, T i = some fn → ∀ ds st, cf i ds st ≠ none → ds.length = fn.p)
    (g0 : FnG P w K mg base k a0 fd0 ["answers", "play"] (SpF E cf 2 0))
    (g1 : FnG P w K mg base k a1 fd1 ["script"] (SpF E cf 1 1))
    (g2 : FnG P w K mg base k a2 fd2 ["bag", "many"] (SpF E cf 2 2))
    (g3 : FnG P w K mg base k a3 fd3 ["bag", "row"] (SpF E cf 2 3))
    (g4 : FnG P w K mg base k a4 fd4 ["bag", "row"] (SpF E cf 2 4))
    (g5 : FnG P w K mg base k a5 fd5 ["bag", "n"] (SpF E cf 2 5))
    (g6 : FnG P w K mg base k a6 fd6 ["bag", "owners", "most", "signs"] (SpF E cf 4 6))
    (g7 : FnG P w K mg base k a7 fd7 ["heard", "play"] (SpF E cf 2 7))
    (g8 : FnG P w K mg base k a8 fd8 ["script"] (SpF E cf 1 8))
    : Ds P w K mg base E cf k fd0 fd1 fd2 fd3 fd4 fd5 fd6 fd7 fd8 := ⟨
  ⟨⟨a0, F.m_0, F.f_0.kp, g0⟩, F.f_0.binds (ps := ["answers", "play"]) (fun _ _ _ _ _ _ us hl => match us, hl with | [_, _], _ => rfl), rfl, hc 0 f_0 rfl⟩,
  ⟨⟨a1, F.m_1, F.f_1.kp, g1⟩, F.f_1.binds (ps := ["script"]) (fun _ _ _ _ _ _ us hl => match us, hl with | [_], _ => rfl), rfl, hc 1 f_1 rfl⟩,
  ⟨⟨a2, F.m_2, F.f_2.kp, g2⟩, F.f_2.binds (ps := ["bag", "many"]) (fun _ _ _ _ _ _ us hl => match us, hl with | [_, _], _ => rfl), rfl, hc 2 f_2 rfl⟩,
  ⟨⟨a3, F.m_3, F.f_3.kp, g3⟩, F.f_3.binds (ps := ["bag", "row"]) (fun _ _ _ _ _ _ us hl => match us, hl with | [_, _], _ => rfl), rfl, hc 3 f_3 rfl⟩,
  ⟨⟨a4, F.m_4, F.f_4.kp, g4⟩, F.f_4.binds (ps := ["bag", "row"]) (fun _ _ _ _ _ _ us hl => match us, hl with | [_, _], _ => rfl), rfl, hc 4 f_4 rfl⟩,
  ⟨⟨a5, F.m_5, F.f_5.kp, g5⟩, F.f_5.binds (ps := ["bag", "n"]) (fun _ _ _ _ _ _ us hl => match us, hl with | [_, _], _ => rfl), rfl, hc 5 f_5 rfl⟩,
  ⟨⟨a6, F.m_6, F.f_6.kp, g6⟩, F.f_6.binds (ps := ["bag", "owners", "most", "signs"]) (fun _ _ _ _ _ _ us hl => match us, hl with | [_, _, _, _], _ => rfl), rfl, hc 6 f_6 rfl⟩,
  ⟨⟨a7, F.m_7, F.f_7.kp, g7⟩, F.f_7.binds (ps := ["heard", "play"]) (fun _ _ _ _ _ _ us hl => match us, hl with | [_, _], _ => rfl), rfl, hc 7 f_7 rfl⟩,
  ⟨⟨a8, F.m_8, F.f_8.kp, g8⟩, F.f_8.binds (ps := ["script"]) (fun _ _ _ _ _ _ us hl => match us, hl with | [_], _ => rfl), rfl, hc 8 f_8 rfl⟩,
  Fun.bindsK F.f_0 fun _ _ _ _ _ _ us ws h1 h2 => match us, ws, h1, h2 with | [], [_, _], _, _ => rfl⟩
structure Gs (P : Program) (w : World) (K : PySem.W.Frag) (mg : Str → Option Value) (base : Heap) (E : En) (n : Nat) (a0 a1 a2 a3 a4 a5 a6 a7 a8 : Addr) (fd0 fd1 fd2 fd3 fd4 fd5 fd6 fd7 fd8 : FuncData) : Prop where
  g_0 : FnG P w K mg base (n + 1) a0 fd0 ["answers", "play"] (SpF E (callF T n) 2 0)
  g_1 : FnG P w K mg base (n + 1) a1 fd1 ["script"] (SpF E (callF T n) 1 1)
  g_2 : FnG P w K mg base (n + 1) a2 fd2 ["bag", "many"] (SpF E (callF T n) 2 2)
  g_3 : FnG P w K mg base (n + 1) a3 fd3 ["bag", "row"] (SpF E (callF T n) 2 3)
  g_4 : FnG P w K mg base (n + 1) a4 fd4 ["bag", "row"] (SpF E (callF T n) 2 4)
  g_5 : FnG P w K mg base (n + 1) a5 fd5 ["bag", "n"] (SpF E (callF T n) 2 5)
  g_6 : FnG P w K mg base (n + 1) a6 fd6 ["bag", "owners", "most", "signs"] (SpF E (callF T n) 4 6)
  g_7 : FnG P w K mg base (n + 1) a7 fd7 ["heard", "play"] (SpF E (callF T n) 2 7)
  g_8 : FnG P w K mg base (n + 1) a8 fd8 ["script"] (SpF E (callF T n) 1 8)
theorem gs_all (hE : K = E.K) (hnt : E.k.nt = true) (Z : Txt mg) {a0 a1 a2 a3 a4 a5 a6 a7 a8 : Addr} {fd0 fd1 fd2 fd3 fd4 fd5 fd6 fd7 fd8 : FuncData} (F : Fns K mg a0 a1 a2 a3 a4 a5 a6 a7 a8 fd0 fd1 fd2 fd3 fd4 fd5 fd6 fd7 fd8) : ∀ n, Gs P w K mg base E n a0 a1 a2 a3 a4 a5 a6 a7 a8 fd0 fd1 fd2 fd3 fd4 fd5 fd6 fd7 fd8
  | 0 => ⟨fnG_false rfl fun _ _ => rfl, fnG_false rfl fun _ _ => rfl, fnG_false rfl fun _ _ => rfl, fnG_false rfl fun _ _ => rfl, fnG_false rfl fun _ _ => rfl, fnG_false rfl fun _ _ => rfl, fnG_false rfl fun _ _ => rfl, fnG_false rfl fun _ _ => rfl, fnG_false rfl fun _ _ => rfl⟩
  | n + 1 => by
    have G := gs_all hE hnt Z F n
    have D : Ds P w K mg base E (callF T n) (n + 1) fd0 fd1 fd2 fd3 fd4 fd5 fd6 fd7 fd8 := ds_of F (fun i fn hT => callF_len hT n) G.g_0 G.g_1 G.g_2 G.g_3 G.g_4 G.g_5 G.g_6 G.g_7 G.g_8
    exact ⟨fn_body (fn := f_0) hE F.f_0 sc_0 rfl rfl (fun _ _ => rfl) (Nat.succ_le_succ (Nat.zero_le _)) fun _ _ _ _ _ _ hK hr => kb_0 hnt Z D hK hr,
      fn_body (fn := f_1) hE F.f_1 sc_1 rfl rfl (fun _ _ => rfl) (Nat.succ_le_succ (Nat.zero_le _)) fun _ _ _ _ _ _ hK hr => kb_1 hnt Z D hK hr,
      fn_body (fn := f_2) hE F.f_2 sc_2 rfl rfl (fun _ _ => rfl) (Nat.succ_le_succ (Nat.zero_le _)) fun _ _ _ _ _ _ hK hr => kb_2 hnt Z D hK hr,
      fn_body (fn := f_3) hE F.f_3 sc_3 rfl rfl (fun _ _ => rfl) (Nat.succ_le_succ (Nat.zero_le _)) fun _ _ _ _ _ _ hK hr => kb_3 hnt Z D hK hr,
      fn_body (fn := f_4) hE F.f_4 sc_4 rfl rfl (fun _ _ => rfl) (Nat.succ_le_succ (Nat.zero_le _)) fun _ _ _ _ _ _ hK hr => kb_4 hnt Z D hK hr,
      fn_body (fn := f_5) hE F.f_5 sc_5 rfl rfl (fun _ _ => rfl) (Nat.succ_le_succ (Nat.zero_le _)) fun _ _ _ _ _ _ hK hr => kb_5 hnt Z D hK hr,
      fn_body (fn := f_6) hE F.f_6 sc_6 rfl rfl (fun _ _ => rfl) (Nat.succ_le_succ (Nat.zero_le _)) fun _ _ _ _ _ _ hK hr => kb_6 hnt Z D hK hr,
      fn_body (fn := f_7) hE F.f_7 sc_7 rfl rfl (fun _ _ => rfl) (Nat.succ_le_succ (Nat.zero_le _)) fun _ _ _ _ _ _ hK hr => kb_7 hnt Z D hK hr,
      fn_body (fn := f_8) hE F.f_8 sc_8 rfl rfl (fun _ _ => rfl) (Nat.succ_le_succ (Nat.zero_le _)) fun _ _ _ _ _ _ hK hr => kb_8 hnt Z D hK hr⟩
end
def en (K : PySem.W.Frag) : En := ⟨⟨K, true⟩, fun _ => 0, fun _ => ""⟩
def fuel : Nat := 40
theorem all_mk {l : PySem.W.OpenLaw} {w : World} {K : PySem.W.Frag} {h : Heap} {mg : Str → Option Value} {fa : Addr} {f0 : Addr} {od0 an0 : Option Addr} {sl0 : Array (Option Value)} {oc0 kV0 dc0 pm0 cd0 ct0 : Value} {f1 : Addr} {od1 an1 : Option Addr} {sl1 : Array (Option Value)} {oc1 kV1 dc1 pm1 cd1 ct1 : Value} {f2 : Addr} {od2 an2 : Option Addr} {sl2 : Array (Option Value)} {oc2 kV2 dc2 pm2 cd2 ct2 : Value} {f3 : Addr} {od3 an3 : Option Addr} {sl3 : Array (Option Value)} {oc3 kV3 dc3 pm3 cd3 ct3 : Value} {f4 : Addr} {od4 an4 : Option Addr} {sl4 : Array (Option Value)} {oc4 kV4 dc4 pm4 cd4 ct4 : Value} {f5 : Addr} {od5 an5 : Option Addr} {sl5 : Array (Option Value)} {oc5 kV5 dc5 pm5 cd5 ct5 : Value} {f6 : Addr} {od6 an6 : Option Addr} {sl6 : Array (Option Value)} {oc6 kV6 dc6 pm6 cd6 ct6 : Value} {f7 : Addr} {od7 an7 : Option Addr} {sl7 : Array (Option Value)} {oc7 kV7 dc7 pm7 cd7 ct7 : Value} {f8 : Addr} {od8 an8 : Option Addr} {sl8 : Array (Option Value)} {oc8 kV8 dc8 pm8 cd8 ct8 : Value} (X : K.In h) (G : h.Ns mainGlobals mg) (hfa : mg "law" = some (.ref fa))
    (a0 : PySem.W.nsIn K mainGlobals "answers_reply" = some (some (.ref f0))) (l0 : K.lookup f0 = some ⟨oc0, od0, .func (PySem.W.fnOf "answers_reply" "answers_reply" (defArgs t_0) (defBody t_0) (defScope t_0) .none kV0 dc0 pm0 an0 cd0 ct0), sl0⟩) (c0 : PySem.W.codeIn K cd0 "answers_reply" = true) (k0 : PySem.W.keepIn K (.ref f0) = true)
    (a1 : PySem.W.nsIn K mainGlobals "_law_bag" = some (some (.ref f1))) (l1 : K.lookup f1 = some ⟨oc1, od1, .func (PySem.W.fnOf "_law_bag" "_law_bag" (defArgs t_1) (defBody t_1) (defScope t_1) .none kV1 dc1 pm1 an1 cd1 ct1), sl1⟩) (c1 : PySem.W.codeIn K cd1 "_law_bag" = true) (k1 : PySem.W.keepIn K (.ref f1) = true)
    (a2 : PySem.W.nsIn K mainGlobals "_law_draw" = some (some (.ref f2))) (l2 : K.lookup f2 = some ⟨oc2, od2, .func (PySem.W.fnOf "_law_draw" "_law_draw" (defArgs t_2) (defBody t_2) (defScope t_2) .none kV2 dc2 pm2 an2 cd2 ct2), sl2⟩) (c2 : PySem.W.codeIn K cd2 "_law_draw" = true) (k2 : PySem.W.keepIn K (.ref f2) = true)
    (a3 : PySem.W.nsIn K mainGlobals "_law_pick" = some (some (.ref f3))) (l3 : K.lookup f3 = some ⟨oc3, od3, .func (PySem.W.fnOf "_law_pick" "_law_pick" (defArgs t_3) (defBody t_3) (defScope t_3) .none kV3 dc3 pm3 an3 cd3 ct3), sl3⟩) (c3 : PySem.W.codeIn K cd3 "_law_pick" = true) (k3 : PySem.W.keepIn K (.ref f3) = true)
    (a4 : PySem.W.nsIn K mainGlobals "_law_mixed" = some (some (.ref f4))) (l4 : K.lookup f4 = some ⟨oc4, od4, .func (PySem.W.fnOf "_law_mixed" "_law_mixed" (defArgs t_4) (defBody t_4) (defScope t_4) .none kV4 dc4 pm4 an4 cd4 ct4), sl4⟩) (c4 : PySem.W.codeIn K cd4 "_law_mixed" = true) (k4 : PySem.W.keepIn K (.ref f4) = true)
    (a5 : PySem.W.nsIn K mainGlobals "_law_owners" = some (some (.ref f5))) (l5 : K.lookup f5 = some ⟨oc5, od5, .func (PySem.W.fnOf "_law_owners" "_law_owners" (defArgs t_5) (defBody t_5) (defScope t_5) .none kV5 dc5 pm5 an5 cd5 ct5), sl5⟩) (c5 : PySem.W.codeIn K cd5 "_law_owners" = true) (k5 : PySem.W.keepIn K (.ref f5) = true)
    (a6 : PySem.W.nsIn K mainGlobals "_law_own" = some (some (.ref f6))) (l6 : K.lookup f6 = some ⟨oc6, od6, .func (PySem.W.fnOf "_law_own" "_law_own" (defArgs t_6) (defBody t_6) (defScope t_6) .none kV6 dc6 pm6 an6 cd6 ct6), sl6⟩) (c6 : PySem.W.codeIn K cd6 "_law_own" = true) (k6 : PySem.W.keepIn K (.ref f6) = true)
    (a7 : PySem.W.nsIn K mainGlobals "_law_said" = some (some (.ref f7))) (l7 : K.lookup f7 = some ⟨oc7, od7, .func (PySem.W.fnOf "_law_said" "_law_said" (defArgs t_7) (defBody t_7) (defScope t_7) .none kV7 dc7 pm7 an7 cd7 ct7), sl7⟩) (c7 : PySem.W.codeIn K cd7 "_law_said" = true) (k7 : PySem.W.keepIn K (.ref f7) = true)
    (a8 : PySem.W.nsIn K mainGlobals "law" = some (some (.ref f8))) (l8 : K.lookup f8 = some ⟨oc8, od8, .func (PySem.W.fnOf "law" "law" (defArgs t_8) (defBody t_8) (defScope t_8) .none kV8 dc8 pm8 an8 cd8 ct8), sl8⟩) (c8 : PySem.W.codeIn K cd8 "law" = true) (k8 : PySem.W.keepIn K (.ref f8) = true)
    (z_abs : PySem.W.nsIn K mainGlobals "abs" = some none)
    (z_all : PySem.W.nsIn K mainGlobals "all" = some none)
    (z_dict : PySem.W.nsIn K mainGlobals "dict" = some none)
    (z_int : PySem.W.nsIn K mainGlobals "int" = some none)
    (z_len : PySem.W.nsIn K mainGlobals "len" = some none)
    (z_list : PySem.W.nsIn K mainGlobals "list" = some none)
    (z_range : PySem.W.nsIn K mainGlobals "range" = some none)
    (z_repr : PySem.W.nsIn K mainGlobals "repr" = some none)
    (z_sorted : PySem.W.nsIn K mainGlobals "sorted" = some none)
    (z_tuple : PySem.W.nsIn K mainGlobals "tuple" = some none)
    : ∃ fd : FuncData, (∀ (s : Shared) (v : Value), BindsTo s fd ⟨[v], []⟩ [("script", v)]) ∧ ∀ base : Heap, K.In base → base.Ns mainGlobals mg → FnG l.prog w K mg base (fuel + 1) fa fd ["script"] (SpF (en K) (callF T fuel) 1 8) := by
  have e := hfa.symm.trans (PySem.W.mg_of X G a8)
  cases e
  have Z : Txt mg := ⟨PySem.W.mg_none_of X G z_abs, PySem.W.mg_none_of X G z_all, PySem.W.mg_none_of X G z_dict, PySem.W.mg_none_of X G z_int, PySem.W.mg_none_of X G z_len, PySem.W.mg_none_of X G z_list, PySem.W.mg_none_of X G z_range, PySem.W.mg_none_of X G z_repr, PySem.W.mg_none_of X G z_sorted, PySem.W.mg_none_of X G z_tuple⟩
  have F := Fns.mk (PySem.W.mg_of X G a0) (fun_mk (st := t_0) l0 c0 k0) (PySem.W.mg_of X G a1) (fun_mk (st := t_1) l1 c1 k1) (PySem.W.mg_of X G a2) (fun_mk (st := t_2) l2 c2 k2) (PySem.W.mg_of X G a3) (fun_mk (st := t_3) l3 c3 k3) (PySem.W.mg_of X G a4) (fun_mk (st := t_4) l4 c4 k4) (PySem.W.mg_of X G a5) (fun_mk (st := t_5) l5 c5 k5) (PySem.W.mg_of X G a6) (fun_mk (st := t_6) l6 c6 k6) (PySem.W.mg_of X G a7) (fun_mk (st := t_7) l7 c7 k7) (PySem.W.mg_of X G a8) (fun_mk (st := t_8) l8 c8 k8)
  exact ⟨_, fun s v => .of_eq rfl, fun base _ _ => (gs_all (E := en K) rfl rfl Z F fuel).g_8⟩
end Zk46
namespace Zk46
open PySem L2 Ea
def BagOk (st : List D) : Prop := ∃ (far : List Int) (s t : Int), st = [.lst (far.map .int), .lst [.ref 0, .int s, .int t]] ∧ (∀ c ∈ far, 0 ≤ c) ∧ far.length ≤ 63
theorem r02 : rngD 0 2 = [.int 0, .int 1] := by rfl
theorem draw_ok {n : Nat} {m : Int} {st : List D} (h : BagOk st) (h1 : 1 ≤ m) (h2 : m < 2 ^ 63) : Cw (callF T (n + 1)) 2 [.ref 1, .int m] st fun d st' => ∃ k, d = .int k ∧ 0 ≤ k ∧ k < m ∧ BagOk st' := by
  obtain ⟨far, s, t, rfl, hf, hl⟩ := h
  refine c_2 ?_
  unfold b_2
  have hm0 : 0 < m := by omega
  have hmm : ∀ z : Int, 0 ≤ z % m ∧ z % m < m := fun z => ⟨Int.emod_nonneg z (by omega), Int.emod_lt_of_pos z hm0⟩
  cases far with
  | nil =>
    simp only [wp_ret, wp_bind, wp_ite, wp_opt, wp_need, wp_rd, slW_val, slW_own, stl_non, stl_bl, stl_int, stl_str, stl_tup, stl_lst, stl_dic, stl_ref, wp_stl_own, stW_own, stW_val, deref_non, deref_bl, deref_int, deref_str, deref_tup, deref_lst, deref_dic, deref_ref, deref_own, slC_own, slC_val, wp_op2, wp_op1, wp_bin, wp_un, wp_consM, wp_nilM, wp_opn, drf_nil, drf_one, drf_two, wp_tupM, wp_lstM, wp_newM, wp_stls_nil, wp_stls_cons, wp_tst, asB_bl, wp_notM, wp_andM, wp_orM, wp_andV, wp_orV, wp_notV, wp_iteM, wp_chain, wp_sl, wp_optN, wp_optS, intO_none, intO_int, wp_isT, wp_joinM, wp_mutM, wp_mutA, isOw_own, wp_up_own, wp_up_ref, wp_setIx, flW_nx, flW_rt, flW_bk, flW_ct, wp_seq, wp_pass, wp_brk, wp_cnt, wp_setV, wp_setO, wp_drp, wp_retM, wp_retN, wp_ofT, wp_setT, gT_tup, gTs_nil, gTs_cons, gN_eq, wp_nilP, wp_consP, wp_stlP_nil, wp_stlP_t, wp_stlP_f, wp_parM, wrP_nil, wrP_t, wrP_f, wp_forM, wp_walkM, itemsD_tup, itemsD_lst, wp_rng1, wp_rng2, r1W_int, r2W_int, rtW_rt, rtW_nx, foW_nx, foW_ct, foW_bk, foW_rt, wp_forL_nil, wp_forL_cons, wp_compM, wipe_s, wipe_z, wipe_ss, wipe_zs, wipe_sz, wp_tYes, wp_callM, wp_callP, permD, List.map_cons, List.map_nil, List.getD_cons_zero, List.getD_cons_succ, List.cons_append, List.nil_append, List.getElem?_cons_zero, List.getElem?_cons_succ, List.set_cons_zero, List.set_cons_succ, Option.map_some, Option.bind_some, Option.some.injEq, Option.isSome_some, exists_eq_left', exists_eq_left, exists_and_left, true_and, and_true, decide_eq_true_eq, List.length_cons, List.length_nil, if_true, if_false, addD_i, subD_i, negD_i, ltD_i, leD_i, gtD_i, geD_i, lenF_t, lenF_l, lenF_d, absF_i, intF_i, intF_b, tupF_t, tupF_l, lstF_t, lstF_l, ixD_l, ixD_t, at1_0, at2_1, at3_2, isL_l, isS_s, popF_0, eqD_i, neD_i, eqD_s, neD_s, slD_l, slD_t, setF_30, setF_31, setF_32, neD_00, neD_10, Nat.zero_le, Nat.reduceAdd, Nat.reduceLeDiff, Bool.false_eq_true, reduceIte, Prod.mk.injEq, and_assoc, eq_self, decide_true, decide_false, not_true_eq_false, not_false_eq_true, Bool.not_true, Bool.not_false, mulD_l (a := 2654435761) (by decide), modD_i (b := 4294967291) (by decide), r02, mulD_m (b := 4294967291) (by decide) (by decide), mulD_l (a := 69621) (by decide), modD_i (b := 4294967279) (by decide), mulD_m (b := 4294967279) (by decide) (by decide), fdivD_i (b := 256) (by decide) (by decide), modD_i hm0]
    exact ⟨by rfl, _, rfl, (hmm _).1, (hmm _).2, [], s, _, rfl, hf, by simp⟩
  | cons z far =>
    have hz := hf z (by simp)
    have hl' : far.length + 1 ≤ 63 := hl
    have hf' : ∀ c ∈ far, 0 ≤ c := fun c hc => hf c (List.mem_cons_of_mem _ hc)
    by_cases hm : 1 < m
    · have hlen : (far.map D.int).length < 16777216 := by rw [List.length_map]; omega
      simp only [wp_ret, wp_bind, wp_ite, wp_opt, wp_need, wp_rd, slW_val, slW_own, stl_non, stl_bl, stl_int, stl_str, stl_tup, stl_lst, stl_dic, stl_ref, wp_stl_own, stW_own, stW_val, deref_non, deref_bl, deref_int, deref_str, deref_tup, deref_lst, deref_dic, deref_ref, deref_own, slC_own, slC_val, wp_op2, wp_op1, wp_bin, wp_un, wp_consM, wp_nilM, wp_opn, drf_nil, drf_one, drf_two, wp_tupM, wp_lstM, wp_newM, wp_stls_nil, wp_stls_cons, wp_tst, asB_bl, wp_notM, wp_andM, wp_orM, wp_andV, wp_orV, wp_notV, wp_iteM, wp_chain, wp_sl, wp_optN, wp_optS, intO_none, intO_int, wp_isT, wp_joinM, wp_mutM, wp_mutA, isOw_own, wp_up_own, wp_up_ref, wp_setIx, flW_nx, flW_rt, flW_bk, flW_ct, wp_seq, wp_pass, wp_brk, wp_cnt, wp_setV, wp_setO, wp_drp, wp_retM, wp_retN, wp_ofT, wp_setT, gT_tup, gTs_nil, gTs_cons, gN_eq, wp_nilP, wp_consP, wp_stlP_nil, wp_stlP_t, wp_stlP_f, wp_parM, wrP_nil, wrP_t, wrP_f, wp_forM, wp_walkM, itemsD_tup, itemsD_lst, wp_rng1, wp_rng2, r1W_int, r2W_int, rtW_rt, rtW_nx, foW_nx, foW_ct, foW_bk, foW_rt, wp_forL_nil, wp_forL_cons, wp_compM, wipe_s, wipe_z, wipe_ss, wipe_zs, wipe_sz, wp_tYes, wp_callM, wp_callP, permD, List.map_cons, List.map_nil, List.getD_cons_zero, List.getD_cons_succ, List.cons_append, List.nil_append, List.getElem?_cons_zero, List.getElem?_cons_succ, List.set_cons_zero, List.set_cons_succ, Option.map_some, Option.bind_some, Option.some.injEq, Option.isSome_some, exists_eq_left', exists_eq_left, exists_and_left, true_and, and_true, decide_eq_true_eq, List.length_cons, List.length_nil, if_true, if_false, addD_i, subD_i, negD_i, ltD_i, leD_i, gtD_i, geD_i, lenF_t, lenF_l, lenF_d, absF_i, intF_i, intF_b, tupF_t, tupF_l, lstF_t, lstF_l, ixD_l, ixD_t, at1_0, at2_1, at3_2, isL_l, isS_s, popF_0, eqD_i, neD_i, eqD_s, neD_s, slD_l, slD_t, setF_30, setF_31, setF_32, neD_00, neD_10, Nat.zero_le, Nat.reduceAdd, Nat.reduceLeDiff, Bool.false_eq_true, reduceIte, Prod.mk.injEq, and_assoc, eq_self, decide_true, decide_false, not_true_eq_false, not_false_eq_true, Bool.not_true, Bool.not_false, hm, fdivD_i hm0 (by omega : m < 2 ^ 64), modD_i hm0, insF_0 hlen]
      split
      · exact ⟨_, rfl, (hmm _).1, (hmm _).2, z / m :: far, s, t, rfl, fun c hc => by
          rcases List.mem_cons.mp hc with rfl | hc
          · exact Int.ediv_nonneg hz (by omega)
          · exact hf' c hc, by rw [List.length_cons]; omega⟩
      · exact ⟨_, rfl, (hmm _).1, (hmm _).2, far, s, t, rfl, hf', by omega⟩
    · simp only [wp_ret, wp_bind, wp_ite, wp_opt, wp_need, wp_rd, slW_val, slW_own, stl_non, stl_bl, stl_int, stl_str, stl_tup, stl_lst, stl_dic, stl_ref, wp_stl_own, stW_own, stW_val, deref_non, deref_bl, deref_int, deref_str, deref_tup, deref_lst, deref_dic, deref_ref, deref_own, slC_own, slC_val, wp_op2, wp_op1, wp_bin, wp_un, wp_consM, wp_nilM, wp_opn, drf_nil, drf_one, drf_two, wp_tupM, wp_lstM, wp_newM, wp_stls_nil, wp_stls_cons, wp_tst, asB_bl, wp_notM, wp_andM, wp_orM, wp_andV, wp_orV, wp_notV, wp_iteM, wp_chain, wp_sl, wp_optN, wp_optS, intO_none, intO_int, wp_isT, wp_joinM, wp_mutM, wp_mutA, isOw_own, wp_up_own, wp_up_ref, wp_setIx, flW_nx, flW_rt, flW_bk, flW_ct, wp_seq, wp_pass, wp_brk, wp_cnt, wp_setV, wp_setO, wp_drp, wp_retM, wp_retN, wp_ofT, wp_setT, gT_tup, gTs_nil, gTs_cons, gN_eq, wp_nilP, wp_consP, wp_stlP_nil, wp_stlP_t, wp_stlP_f, wp_parM, wrP_nil, wrP_t, wrP_f, wp_forM, wp_walkM, itemsD_tup, itemsD_lst, wp_rng1, wp_rng2, r1W_int, r2W_int, rtW_rt, rtW_nx, foW_nx, foW_ct, foW_bk, foW_rt, wp_forL_nil, wp_forL_cons, wp_compM, wipe_s, wipe_z, wipe_ss, wipe_zs, wipe_sz, wp_tYes, wp_callM, wp_callP, permD, List.map_cons, List.map_nil, List.getD_cons_zero, List.getD_cons_succ, List.cons_append, List.nil_append, List.getElem?_cons_zero, List.getElem?_cons_succ, List.set_cons_zero, List.set_cons_succ, Option.map_some, Option.bind_some, Option.some.injEq, Option.isSome_some, exists_eq_left', exists_eq_left, exists_and_left, true_and, and_true, decide_eq_true_eq, List.length_cons, List.length_nil, if_true, if_false, addD_i, subD_i, negD_i, ltD_i, leD_i, gtD_i, geD_i, lenF_t, lenF_l, lenF_d, absF_i, intF_i, intF_b, tupF_t, tupF_l, lstF_t, lstF_l, ixD_l, ixD_t, at1_0, at2_1, at3_2, isL_l, isS_s, popF_0, eqD_i, neD_i, eqD_s, neD_s, slD_l, slD_t, setF_30, setF_31, setF_32, neD_00, neD_10, Nat.zero_le, Nat.reduceAdd, Nat.reduceLeDiff, Bool.false_eq_true, reduceIte, Prod.mk.injEq, and_assoc, eq_self, decide_true, decide_false, not_true_eq_false, not_false_eq_true, Bool.not_true, Bool.not_false, hm, mulD_l (a := 2654435761) (by decide), modD_i (b := 4294967291) (by decide), r02, mulD_m (b := 4294967291) (by decide) (by decide), mulD_l (a := 69621) (by decide), modD_i (b := 4294967279) (by decide), mulD_m (b := 4294967279) (by decide) (by decide), fdivD_i (b := 256) (by decide) (by decide), modD_i hm0]
      exact ⟨by rfl, _, rfl, (hmm _).1, (hmm _).2, z :: far, s, _, rfl, hf, hl⟩
/-- a thing that is no pointer to a slot -/
def IsV (d : D) : Prop := ∀ i, d ≠ .own i
theorem stl_v {d : D} (h : IsV d) : stl d = ret d := by
  cases d with
  | own i => exact absurd rfl (h i)
  | _ => rfl
theorem pick_ok {n : Nat} {xs : List D} {st : List D} (h : BagOk st) (h0 : 0 < xs.length) (h1 : xs.length < 2 ^ 62) (hv : ∀ x ∈ xs, IsV x) : Cw (callF T (n + 2)) 3 [.ref 1, .lst xs] st fun d st' => d ∈ xs ∧ BagOk st' := by
  refine c_3 ?_
  unfold b_3
  simp only [wp_ret, wp_bind, wp_ite, wp_opt, wp_need, wp_rd, slW_val, slW_own, stl_non, stl_bl, stl_int, stl_str, stl_tup, stl_lst, stl_dic, stl_ref, wp_stl_own, stW_own, stW_val, deref_non, deref_bl, deref_int, deref_str, deref_tup, deref_lst, deref_dic, deref_ref, deref_own, slC_own, slC_val, wp_op2, wp_op1, wp_bin, wp_un, wp_consM, wp_nilM, wp_opn, drf_nil, drf_one, drf_two, wp_tupM, wp_lstM, wp_newM, wp_stls_nil, wp_stls_cons, wp_tst, asB_bl, wp_notM, wp_andM, wp_orM, wp_andV, wp_orV, wp_notV, wp_iteM, wp_chain, wp_sl, wp_optN, wp_optS, intO_none, intO_int, wp_isT, wp_joinM, wp_mutM, wp_mutA, isOw_own, wp_up_own, wp_up_ref, wp_setIx, flW_nx, flW_rt, flW_bk, flW_ct, wp_seq, wp_pass, wp_brk, wp_cnt, wp_setV, wp_setO, wp_drp, wp_retM, wp_retN, wp_ofT, wp_setT, gT_tup, gTs_nil, gTs_cons, gN_eq, wp_nilP, wp_consP, wp_stlP_nil, wp_stlP_t, wp_stlP_f, wp_parM, wrP_nil, wrP_t, wrP_f, wp_forM, wp_walkM, itemsD_tup, itemsD_lst, wp_rng1, wp_rng2, r1W_int, r2W_int, rtW_rt, rtW_nx, foW_nx, foW_ct, foW_bk, foW_rt, wp_forL_nil, wp_forL_cons, wp_compM, wipe_s, wipe_z, wipe_ss, wipe_zs, wipe_sz, wp_tYes, wp_callM, wp_callP, permD, List.map_cons, List.map_nil, List.getD_cons_zero, List.getD_cons_succ, List.cons_append, List.nil_append, List.getElem?_cons_zero, List.getElem?_cons_succ, List.set_cons_zero, List.set_cons_succ, Option.map_some, Option.bind_some, Option.some.injEq, Option.isSome_some, exists_eq_left', exists_eq_left, exists_and_left, true_and, and_true, decide_eq_true_eq, List.length_cons, List.length_nil, if_true, if_false, addD_i, subD_i, negD_i, ltD_i, leD_i, gtD_i, geD_i, lenF_t, lenF_l, lenF_d, absF_i, intF_i, intF_b, tupF_t, tupF_l, lstF_t, lstF_l, ixD_l, ixD_t, at1_0, at2_1, at3_2, isL_l, isS_s, popF_0, eqD_i, neD_i, eqD_s, neD_s, slD_l, slD_t, setF_30, setF_31, setF_32, neD_00, neD_10, Nat.zero_le, Nat.reduceAdd, Nat.reduceLeDiff, Bool.false_eq_true, reduceIte, Prod.mk.injEq, and_assoc, eq_self, decide_true, decide_false, not_true_eq_false, not_false_eq_true, Bool.not_true, Bool.not_false]
  refine (draw_ok h (by omega) (by omega)).imp fun d st' hd => ?_
  obtain ⟨k, rfl, k0, k1, hb⟩ := hd
  have hk : k.toNat < xs.length := by omega
  have e : L2.atI xs k = some xs[k.toNat] := by rw [atI_nat k0 k1, List.getElem?_eq_getElem hk]
  simp only [wp_ret, wp_bind, wp_ite, wp_opt, wp_need, wp_rd, slW_val, slW_own, stl_non, stl_bl, stl_int, stl_str, stl_tup, stl_lst, stl_dic, stl_ref, wp_stl_own, stW_own, stW_val, deref_non, deref_bl, deref_int, deref_str, deref_tup, deref_lst, deref_dic, deref_ref, deref_own, slC_own, slC_val, wp_op2, wp_op1, wp_bin, wp_un, wp_consM, wp_nilM, wp_opn, drf_nil, drf_one, drf_two, wp_tupM, wp_lstM, wp_newM, wp_stls_nil, wp_stls_cons, wp_tst, asB_bl, wp_notM, wp_andM, wp_orM, wp_andV, wp_orV, wp_notV, wp_iteM, wp_chain, wp_sl, wp_optN, wp_optS, intO_none, intO_int, wp_isT, wp_joinM, wp_mutM, wp_mutA, isOw_own, wp_up_own, wp_up_ref, wp_setIx, flW_nx, flW_rt, flW_bk, flW_ct, wp_seq, wp_pass, wp_brk, wp_cnt, wp_setV, wp_setO, wp_drp, wp_retM, wp_retN, wp_ofT, wp_setT, gT_tup, gTs_nil, gTs_cons, gN_eq, wp_nilP, wp_consP, wp_stlP_nil, wp_stlP_t, wp_stlP_f, wp_parM, wrP_nil, wrP_t, wrP_f, wp_forM, wp_walkM, itemsD_tup, itemsD_lst, wp_rng1, wp_rng2, r1W_int, r2W_int, rtW_rt, rtW_nx, foW_nx, foW_ct, foW_bk, foW_rt, wp_forL_nil, wp_forL_cons, wp_compM, wipe_s, wipe_z, wipe_ss, wipe_zs, wipe_sz, wp_tYes, wp_callM, wp_callP, permD, List.map_cons, List.map_nil, List.getD_cons_zero, List.getD_cons_succ, List.cons_append, List.nil_append, List.getElem?_cons_zero, List.getElem?_cons_succ, List.set_cons_zero, List.set_cons_succ, Option.map_some, Option.bind_some, Option.some.injEq, Option.isSome_some, exists_eq_left', exists_eq_left, exists_and_left, true_and, and_true, decide_eq_true_eq, List.length_cons, List.length_nil, if_true, if_false, addD_i, subD_i, negD_i, ltD_i, leD_i, gtD_i, geD_i, lenF_t, lenF_l, lenF_d, absF_i, intF_i, intF_b, tupF_t, tupF_l, lstF_t, lstF_l, ixD_l, ixD_t, at1_0, at2_1, at3_2, isL_l, isS_s, popF_0, eqD_i, neD_i, eqD_s, neD_s, slD_l, slD_t, setF_30, setF_31, setF_32, neD_00, neD_10, Nat.zero_le, Nat.reduceAdd, Nat.reduceLeDiff, Bool.false_eq_true, reduceIte, Prod.mk.injEq, and_assoc, eq_self, decide_true, decide_false, not_true_eq_false, not_false_eq_true, Bool.not_true, Bool.not_false, e, stl_v (hv _ (List.getElem_mem hk))]
  exact ⟨List.getElem_mem hk, hb⟩
theorem pick_t {n : Nat} {xs : List D} {st : List D} (h : BagOk st) (h0 : 0 < xs.length) (h1 : xs.length < 2 ^ 62) (hv : ∀ x ∈ xs, IsV x) : Cw (callF T (n + 2)) 3 [.ref 1, .tup xs] st fun d st' => d ∈ xs ∧ BagOk st' := by
  refine c_3 ?_
  unfold b_3
  simp only [wp_ret, wp_bind, wp_ite, wp_opt, wp_need, wp_rd, slW_val, slW_own, stl_non, stl_bl, stl_int, stl_str, stl_tup, stl_lst, stl_dic, stl_ref, wp_stl_own, stW_own, stW_val, deref_non, deref_bl, deref_int, deref_str, deref_tup, deref_lst, deref_dic, deref_ref, deref_own, slC_own, slC_val, wp_op2, wp_op1, wp_bin, wp_un, wp_consM, wp_nilM, wp_opn, drf_nil, drf_one, drf_two, wp_tupM, wp_lstM, wp_newM, wp_stls_nil, wp_stls_cons, wp_tst, asB_bl, wp_notM, wp_andM, wp_orM, wp_andV, wp_orV, wp_notV, wp_iteM, wp_chain, wp_sl, wp_optN, wp_optS, intO_none, intO_int, wp_isT, wp_joinM, wp_mutM, wp_mutA, isOw_own, wp_up_own, wp_up_ref, wp_setIx, flW_nx, flW_rt, flW_bk, flW_ct, wp_seq, wp_pass, wp_brk, wp_cnt, wp_setV, wp_setO, wp_drp, wp_retM, wp_retN, wp_ofT, wp_setT, gT_tup, gTs_nil, gTs_cons, gN_eq, wp_nilP, wp_consP, wp_stlP_nil, wp_stlP_t, wp_stlP_f, wp_parM, wrP_nil, wrP_t, wrP_f, wp_forM, wp_walkM, itemsD_tup, itemsD_lst, wp_rng1, wp_rng2, r1W_int, r2W_int, rtW_rt, rtW_nx, foW_nx, foW_ct, foW_bk, foW_rt, wp_forL_nil, wp_forL_cons, wp_compM, wipe_s, wipe_z, wipe_ss, wipe_zs, wipe_sz, wp_tYes, wp_callM, wp_callP, permD, List.map_cons, List.map_nil, List.getD_cons_zero, List.getD_cons_succ, List.cons_append, List.nil_append, List.getElem?_cons_zero, List.getElem?_cons_succ, List.set_cons_zero, List.set_cons_succ, Option.map_some, Option.bind_some, Option.some.injEq, Option.isSome_some, exists_eq_left', exists_eq_left, exists_and_left, true_and, and_true, decide_eq_true_eq, List.length_cons, List.length_nil, if_true, if_false, addD_i, subD_i, negD_i, ltD_i, leD_i, gtD_i, geD_i, lenF_t, lenF_l, lenF_d, absF_i, intF_i, intF_b, tupF_t, tupF_l, lstF_t, lstF_l, ixD_l, ixD_t, at1_0, at2_1, at3_2, isL_l, isS_s, popF_0, eqD_i, neD_i, eqD_s, neD_s, slD_l, slD_t, setF_30, setF_31, setF_32, neD_00, neD_10, Nat.zero_le, Nat.reduceAdd, Nat.reduceLeDiff, Bool.false_eq_true, reduceIte, Prod.mk.injEq, and_assoc, eq_self, decide_true, decide_false, not_true_eq_false, not_false_eq_true, Bool.not_true, Bool.not_false]
  refine (draw_ok h (by omega) (by omega)).imp fun d st' hd => ?_
  obtain ⟨k, rfl, k0, k1, hb⟩ := hd
  have hk : k.toNat < xs.length := by omega
  have e : L2.atI xs k = some xs[k.toNat] := by rw [atI_nat k0 k1, List.getElem?_eq_getElem hk]
  simp only [wp_ret, wp_bind, wp_ite, wp_opt, wp_need, wp_rd, slW_val, slW_own, stl_non, stl_bl, stl_int, stl_str, stl_tup, stl_lst, stl_dic, stl_ref, wp_stl_own, stW_own, stW_val, deref_non, deref_bl, deref_int, deref_str, deref_tup, deref_lst, deref_dic, deref_ref, deref_own, slC_own, slC_val, wp_op2, wp_op1, wp_bin, wp_un, wp_consM, wp_nilM, wp_opn, drf_nil, drf_one, drf_two, wp_tupM, wp_lstM, wp_newM, wp_stls_nil, wp_stls_cons, wp_tst, asB_bl, wp_notM, wp_andM, wp_orM, wp_andV, wp_orV, wp_notV, wp_iteM, wp_chain, wp_sl, wp_optN, wp_optS, intO_none, intO_int, wp_isT, wp_joinM, wp_mutM, wp_mutA, isOw_own, wp_up_own, wp_up_ref, wp_setIx, flW_nx, flW_rt, flW_bk, flW_ct, wp_seq, wp_pass, wp_brk, wp_cnt, wp_setV, wp_setO, wp_drp, wp_retM, wp_retN, wp_ofT, wp_setT, gT_tup, gTs_nil, gTs_cons, gN_eq, wp_nilP, wp_consP, wp_stlP_nil, wp_stlP_t, wp_stlP_f, wp_parM, wrP_nil, wrP_t, wrP_f, wp_forM, wp_walkM, itemsD_tup, itemsD_lst, wp_rng1, wp_rng2, r1W_int, r2W_int, rtW_rt, rtW_nx, foW_nx, foW_ct, foW_bk, foW_rt, wp_forL_nil, wp_forL_cons, wp_compM, wipe_s, wipe_z, wipe_ss, wipe_zs, wipe_sz, wp_tYes, wp_callM, wp_callP, permD, List.map_cons, List.map_nil, List.getD_cons_zero, List.getD_cons_succ, List.cons_append, List.nil_append, List.getElem?_cons_zero, List.getElem?_cons_succ, List.set_cons_zero, List.set_cons_succ, Option.map_some, Option.bind_some, Option.some.injEq, Option.isSome_some, exists_eq_left', exists_eq_left, exists_and_left, true_and, and_true, decide_eq_true_eq, List.length_cons, List.length_nil, if_true, if_false, addD_i, subD_i, negD_i, ltD_i, leD_i, gtD_i, geD_i, lenF_t, lenF_l, lenF_d, absF_i, intF_i, intF_b, tupF_t, tupF_l, lstF_t, lstF_l, ixD_l, ixD_t, at1_0, at2_1, at3_2, isL_l, isS_s, popF_0, eqD_i, neD_i, eqD_s, neD_s, slD_l, slD_t, setF_30, setF_31, setF_32, neD_00, neD_10, Nat.zero_le, Nat.reduceAdd, Nat.reduceLeDiff, Bool.false_eq_true, reduceIte, Prod.mk.injEq, and_assoc, eq_self, decide_true, decide_false, not_true_eq_false, not_false_eq_true, Bool.not_true, Bool.not_false, e, stl_v (hv _ (List.getElem_mem hk))]
  exact ⟨List.getElem_mem hk, hb⟩
theorem isv_int {i : Int} : IsV (.int i) := fun _ => nofun
theorem isv_ints {ns : List Int} : ∀ x ∈ ns.map D.int, IsV x := fun x hx => by
  obtain ⟨i, _, rfl⟩ := List.mem_map.mp hx
  exact isv_int
/-- mixed: of a list of whole numbers, all of which stand in P -/
theorem mixed_ok {n : Nat} {ns : List Int} {st : List D} {p : Int → Prop} (h : BagOk st) (h1 : ns.length < 1000000) (hp : ∀ x ∈ ns, p x) : Cw (callF T (n + 2)) 4 [.ref 1, .lst (ns.map .int)] st fun d st' => ∃ ms : List Int, d = .lst (ms.map .int) ∧ (∀ x ∈ ms, p x) ∧ ms.length = ns.length ∧ BagOk st' := by
  refine c_4 ?_
  unfold b_4
  simp only [wp_ret, wp_bind, wp_ite, wp_opt, wp_need, wp_rd, slW_val, slW_own, stl_non, stl_bl, stl_int, stl_str, stl_tup, stl_lst, stl_dic, stl_ref, wp_stl_own, stW_own, stW_val, deref_non, deref_bl, deref_int, deref_str, deref_tup, deref_lst, deref_dic, deref_ref, deref_own, slC_own, slC_val, wp_op2, wp_op1, wp_bin, wp_un, wp_consM, wp_nilM, wp_opn, drf_nil, drf_one, drf_two, wp_tupM, wp_lstM, wp_newM, wp_stls_nil, wp_stls_cons, wp_tst, asB_bl, wp_notM, wp_andM, wp_orM, wp_andV, wp_orV, wp_notV, wp_iteM, wp_chain, wp_sl, wp_optN, wp_optS, intO_none, intO_int, wp_isT, wp_joinM, wp_mutM, wp_mutA, isOw_own, wp_up_own, wp_up_ref, wp_setIx, flW_nx, flW_rt, flW_bk, flW_ct, wp_seq, wp_pass, wp_brk, wp_cnt, wp_setV, wp_setO, wp_drp, wp_retM, wp_retN, wp_ofT, wp_setT, gT_tup, gTs_nil, gTs_cons, gN_eq, wp_nilP, wp_consP, wp_stlP_nil, wp_stlP_t, wp_stlP_f, wp_parM, wrP_nil, wrP_t, wrP_f, wp_forM, wp_walkM, itemsD_tup, itemsD_lst, wp_rng1, wp_rng2, r1W_int, r2W_int, rtW_rt, rtW_nx, foW_nx, foW_ct, foW_bk, foW_rt, wp_forL_nil, wp_forL_cons, wp_compM, wipe_s, wipe_z, wipe_ss, wipe_zs, wipe_sz, wp_tYes, wp_callM, wp_callP, permD, List.map_cons, List.map_nil, List.getD_cons_zero, List.getD_cons_succ, List.cons_append, List.nil_append, List.getElem?_cons_zero, List.getElem?_cons_succ, List.set_cons_zero, List.set_cons_succ, Option.map_some, Option.bind_some, Option.some.injEq, Option.isSome_some, exists_eq_left', exists_eq_left, exists_and_left, true_and, and_true, decide_eq_true_eq, List.length_cons, List.length_nil, if_true, if_false, addD_i, subD_i, negD_i, ltD_i, leD_i, gtD_i, geD_i, lenF_t, lenF_l, lenF_d, absF_i, intF_i, intF_b, tupF_t, tupF_l, lstF_t, lstF_l, ixD_l, ixD_t, at1_0, at2_1, at3_2, isL_l, isS_s, popF_0, eqD_i, neD_i, eqD_s, neD_s, slD_l, slD_t, setF_30, setF_31, setF_32, neD_00, neD_10, Nat.zero_le, Nat.reduceAdd, Nat.reduceLeDiff, Bool.false_eq_true, reduceIte, Prod.mk.injEq, and_assoc, eq_self, decide_true, decide_false, not_true_eq_false, not_false_eq_true, Bool.not_true, Bool.not_false]
  refine wp_while (fun s => ∃ (ls fs : List Int) (st' : List D), s = ⟨[.val (.ref 1), .val (.lst (ns.map .int)), .own (.lst (ls.map .int)), .own (.lst (fs.map .int))], st'⟩ ∧ BagOk st' ∧ (∀ x ∈ ls, p x) ∧ (∀ x ∈ fs, p x) ∧ ls.length + fs.length = ns.length)
    (fun s => match s.fr with | [_, _, .own (.lst l), _] => l.length | _ => 0) ⟨ns, [], st, rfl, h, hp, by simp, by simp⟩ (by simp; omega) ?_
  rintro s ⟨ls, fs, st', rfl, hb, hl, hf, hn⟩
  simp only [wp_ret, wp_bind, wp_ite, wp_opt, wp_need, wp_rd, slW_val, slW_own, stl_non, stl_bl, stl_int, stl_str, stl_tup, stl_lst, stl_dic, stl_ref, wp_stl_own, stW_own, stW_val, deref_non, deref_bl, deref_int, deref_str, deref_tup, deref_lst, deref_dic, deref_ref, deref_own, slC_own, slC_val, wp_op2, wp_op1, wp_bin, wp_un, wp_consM, wp_nilM, wp_opn, drf_nil, drf_one, drf_two, wp_tupM, wp_lstM, wp_newM, wp_stls_nil, wp_stls_cons, wp_tst, asB_bl, wp_notM, wp_andM, wp_orM, wp_andV, wp_orV, wp_notV, wp_iteM, wp_chain, wp_sl, wp_optN, wp_optS, intO_none, intO_int, wp_isT, wp_joinM, wp_mutM, wp_mutA, isOw_own, wp_up_own, wp_up_ref, wp_setIx, flW_nx, flW_rt, flW_bk, flW_ct, wp_seq, wp_pass, wp_brk, wp_cnt, wp_setV, wp_setO, wp_drp, wp_retM, wp_retN, wp_ofT, wp_setT, gT_tup, gTs_nil, gTs_cons, gN_eq, wp_nilP, wp_consP, wp_stlP_nil, wp_stlP_t, wp_stlP_f, wp_parM, wrP_nil, wrP_t, wrP_f, wp_forM, wp_walkM, itemsD_tup, itemsD_lst, wp_rng1, wp_rng2, r1W_int, r2W_int, rtW_rt, rtW_nx, foW_nx, foW_ct, foW_bk, foW_rt, wp_forL_nil, wp_forL_cons, wp_compM, wipe_s, wipe_z, wipe_ss, wipe_zs, wipe_sz, wp_tYes, wp_callM, wp_callP, permD, List.map_cons, List.map_nil, List.getD_cons_zero, List.getD_cons_succ, List.cons_append, List.nil_append, List.getElem?_cons_zero, List.getElem?_cons_succ, List.set_cons_zero, List.set_cons_succ, Option.map_some, Option.bind_some, Option.some.injEq, Option.isSome_some, exists_eq_left', exists_eq_left, exists_and_left, true_and, and_true, decide_eq_true_eq, List.length_cons, List.length_nil, if_true, if_false, addD_i, subD_i, negD_i, ltD_i, leD_i, gtD_i, geD_i, lenF_t, lenF_l, lenF_d, absF_i, intF_i, intF_b, tupF_t, tupF_l, lstF_t, lstF_l, ixD_l, ixD_t, at1_0, at2_1, at3_2, isL_l, isS_s, popF_0, eqD_i, neD_i, eqD_s, neD_s, slD_l, slD_t, setF_30, setF_31, setF_32, neD_00, neD_10, Nat.zero_le, Nat.reduceAdd, Nat.reduceLeDiff, Bool.false_eq_true, reduceIte, Prod.mk.injEq, and_assoc, eq_self, decide_true, decide_false, not_true_eq_false, not_false_eq_true, Bool.not_true, Bool.not_false, neD_ints]
  split
  · rename_i hne
    have h0 := isEmpty_no hne
    refine (draw_ok hb (by rw [List.length_map]; omega) (by rw [List.length_map]; omega)).imp fun d st2 hd => ?_
    obtain ⟨k, rfl, k0, k1, hb2⟩ := hd
    rw [List.length_map] at k1
    obtain ⟨z, hz, e⟩ := popF_ints k0 k1 (by omega)
    simp only [wp_ret, wp_bind, wp_ite, wp_opt, wp_need, wp_rd, slW_val, slW_own, stl_non, stl_bl, stl_int, stl_str, stl_tup, stl_lst, stl_dic, stl_ref, wp_stl_own, stW_own, stW_val, deref_non, deref_bl, deref_int, deref_str, deref_tup, deref_lst, deref_dic, deref_ref, deref_own, slC_own, slC_val, wp_op2, wp_op1, wp_bin, wp_un, wp_consM, wp_nilM, wp_opn, drf_nil, drf_one, drf_two, wp_tupM, wp_lstM, wp_newM, wp_stls_nil, wp_stls_cons, wp_tst, asB_bl, wp_notM, wp_andM, wp_orM, wp_andV, wp_orV, wp_notV, wp_iteM, wp_chain, wp_sl, wp_optN, wp_optS, intO_none, intO_int, wp_isT, wp_joinM, wp_mutM, wp_mutA, isOw_own, wp_up_own, wp_up_ref, wp_setIx, flW_nx, flW_rt, flW_bk, flW_ct, wp_seq, wp_pass, wp_brk, wp_cnt, wp_setV, wp_setO, wp_drp, wp_retM, wp_retN, wp_ofT, wp_setT, gT_tup, gTs_nil, gTs_cons, gN_eq, wp_nilP, wp_consP, wp_stlP_nil, wp_stlP_t, wp_stlP_f, wp_parM, wrP_nil, wrP_t, wrP_f, wp_forM, wp_walkM, itemsD_tup, itemsD_lst, wp_rng1, wp_rng2, r1W_int, r2W_int, rtW_rt, rtW_nx, foW_nx, foW_ct, foW_bk, foW_rt, wp_forL_nil, wp_forL_cons, wp_compM, wipe_s, wipe_z, wipe_ss, wipe_zs, wipe_sz, wp_tYes, wp_callM, wp_callP, permD, List.map_cons, List.map_nil, List.getD_cons_zero, List.getD_cons_succ, List.cons_append, List.nil_append, List.getElem?_cons_zero, List.getElem?_cons_succ, List.set_cons_zero, List.set_cons_succ, Option.map_some, Option.bind_some, Option.some.injEq, Option.isSome_some, exists_eq_left', exists_eq_left, exists_and_left, true_and, and_true, decide_eq_true_eq, List.length_cons, List.length_nil, if_true, if_false, addD_i, subD_i, negD_i, ltD_i, leD_i, gtD_i, geD_i, lenF_t, lenF_l, lenF_d, absF_i, intF_i, intF_b, tupF_t, tupF_l, lstF_t, lstF_l, ixD_l, ixD_t, at1_0, at2_1, at3_2, isL_l, isS_s, popF_0, eqD_i, neD_i, eqD_s, neD_s, slD_l, slD_t, setF_30, setF_31, setF_32, neD_00, neD_10, Nat.zero_le, Nat.reduceAdd, Nat.reduceLeDiff, Bool.false_eq_true, reduceIte, Prod.mk.injEq, and_assoc, eq_self, decide_true, decide_false, not_true_eq_false, not_false_eq_true, Bool.not_true, Bool.not_false, e, appF_ints (show fs.length < 16777216 by omega)]
    have hk : k.toNat < ls.length := by omega
    refine ⟨⟨_, _, _, rfl, hb2, fun x hx => hl x (List.mem_of_mem_eraseIdx hx), fun x hx => ?_, ?_⟩, ?_⟩
    · rcases List.mem_append.mp hx with hx | hx
      · exact hf x hx
      · rw [List.mem_singleton.mp hx]; exact hl z hz
    · rw [List.length_eraseIdx_of_lt hk, List.length_append, List.length_singleton]
      omega
    · rw [List.length_map, List.length_map, List.length_eraseIdx_of_lt hk]
      omega
  · rename_i hne
    have h0 := isEmpty_yes hne
    subst h0
    exact ⟨fs, rfl, hf, by simpa using hn, hb⟩
theorem e1 : (Str.ofString "e").length = 1 := rfl
theorem s1 : (Str.ofString "s").length = 1 := rfl
theorem pick_ss {n : Nat} {x y : Str} {st : List D} (h : BagOk st) : Cw (callF T (n + 2)) 3 [.ref 1, .lst [.str x, .str y]] st fun d st' => (d = .str x ∨ d = .str y) ∧ BagOk st' :=
  (pick_ok h (by simp) (by simp) (by simp [IsV])).imp fun d st' ⟨h1, h2⟩ => ⟨by simpa using h1, h2⟩
theorem pick_is {n : Nat} {ns : List Int} {st : List D} (h : BagOk st) (h0 : 0 < ns.length) (h1 : ns.length < 2 ^ 62) : Cw (callF T (n + 2)) 3 [.ref 1, .lst (ns.map .int)] st fun d st' => ∃ k, d = .int k ∧ k ∈ ns ∧ BagOk st' :=
  (pick_ok h (by rw [List.length_map]; exact h0) (by rw [List.length_map]; exact h1) isv_ints).imp fun d st' ⟨h1, h2⟩ => by
    obtain ⟨k, hk, rfl⟩ := List.mem_map.mp h1
    exact ⟨k, rfl, hk, h2⟩
/-- owners: a text of n signs -/
theorem owners_ok {n : Nat} {m : Int} {st : List D} (h : BagOk st) (h1 : 1 ≤ m) (h2 : m ≤ 100) : Cw (callF T (n + 3)) 5 [.ref 1, .int m] st fun d st' => ∃ w : Str, d = .str w ∧ (w.length : Int) = m ∧ BagOk st' := by
  refine c_5 ?_
  unfold b_5
  simp only [wp_ret, wp_bind, wp_ite, wp_opt, wp_need, wp_rd, slW_val, slW_own, stl_non, stl_bl, stl_int, stl_str, stl_tup, stl_lst, stl_dic, stl_ref, wp_stl_own, stW_own, stW_val, deref_non, deref_bl, deref_int, deref_str, deref_tup, deref_lst, deref_dic, deref_ref, deref_own, slC_own, slC_val, wp_op2, wp_op1, wp_bin, wp_un, wp_consM, wp_nilM, wp_opn, drf_nil, drf_one, drf_two, wp_tupM, wp_lstM, wp_newM, wp_stls_nil, wp_stls_cons, wp_tst, asB_bl, wp_notM, wp_andM, wp_orM, wp_andV, wp_orV, wp_notV, wp_iteM, wp_chain, wp_sl, wp_optN, wp_optS, intO_none, intO_int, wp_isT, wp_joinM, wp_mutM, wp_mutA, isOw_own, wp_up_own, wp_up_ref, wp_setIx, flW_nx, flW_rt, flW_bk, flW_ct, wp_seq, wp_pass, wp_brk, wp_cnt, wp_setV, wp_setO, wp_drp, wp_retM, wp_retN, wp_ofT, wp_setT, gT_tup, gTs_nil, gTs_cons, gN_eq, wp_nilP, wp_consP, wp_stlP_nil, wp_stlP_t, wp_stlP_f, wp_parM, wrP_nil, wrP_t, wrP_f, wp_forM, wp_walkM, itemsD_tup, itemsD_lst, wp_rng1, wp_rng2, r1W_int, r2W_int, rtW_rt, rtW_nx, foW_nx, foW_ct, foW_bk, foW_rt, wp_forL_nil, wp_forL_cons, wp_compM, wipe_s, wipe_z, wipe_ss, wipe_zs, wipe_sz, wp_tYes, wp_callM, wp_callP, permD, List.map_cons, List.map_nil, List.getD_cons_zero, List.getD_cons_succ, List.cons_append, List.nil_append, List.getElem?_cons_zero, List.getElem?_cons_succ, List.set_cons_zero, List.set_cons_succ, Option.map_some, Option.bind_some, Option.some.injEq, Option.isSome_some, exists_eq_left', exists_eq_left, exists_and_left, true_and, and_true, decide_eq_true_eq, List.length_cons, List.length_nil, if_true, if_false, addD_i, subD_i, negD_i, ltD_i, leD_i, gtD_i, geD_i, lenF_t, lenF_l, lenF_d, absF_i, intF_i, intF_b, tupF_t, tupF_l, lstF_t, lstF_l, ixD_l, ixD_t, at1_0, at2_1, at3_2, isL_l, isS_s, popF_0, eqD_i, neD_i, eqD_s, neD_s, slD_l, slD_t, setF_30, setF_31, setF_32, neD_00, neD_10, Nat.zero_le, Nat.reduceAdd, Nat.reduceLeDiff, Bool.false_eq_true, reduceIte, Prod.mk.injEq, and_assoc, eq_self, decide_true, decide_false, not_true_eq_false, not_false_eq_true, Bool.not_true, Bool.not_false]
  refine (draw_ok h (by omega) (by omega)).imp fun d st1 hd => ?_
  obtain ⟨way, rfl, _, _, hb⟩ := hd
  simp only [wp_ret, wp_bind, wp_ite, wp_opt, wp_need, wp_rd, slW_val, slW_own, stl_non, stl_bl, stl_int, stl_str, stl_tup, stl_lst, stl_dic, stl_ref, wp_stl_own, stW_own, stW_val, deref_non, deref_bl, deref_int, deref_str, deref_tup, deref_lst, deref_dic, deref_ref, deref_own, slC_own, slC_val, wp_op2, wp_op1, wp_bin, wp_un, wp_consM, wp_nilM, wp_opn, drf_nil, drf_one, drf_two, wp_tupM, wp_lstM, wp_newM, wp_stls_nil, wp_stls_cons, wp_tst, asB_bl, wp_notM, wp_andM, wp_orM, wp_andV, wp_orV, wp_notV, wp_iteM, wp_chain, wp_sl, wp_optN, wp_optS, intO_none, intO_int, wp_isT, wp_joinM, wp_mutM, wp_mutA, isOw_own, wp_up_own, wp_up_ref, wp_setIx, flW_nx, flW_rt, flW_bk, flW_ct, wp_seq, wp_pass, wp_brk, wp_cnt, wp_setV, wp_setO, wp_drp, wp_retM, wp_retN, wp_ofT, wp_setT, gT_tup, gTs_nil, gTs_cons, gN_eq, wp_nilP, wp_consP, wp_stlP_nil, wp_stlP_t, wp_stlP_f, wp_parM, wrP_nil, wrP_t, wrP_f, wp_forM, wp_walkM, itemsD_tup, itemsD_lst, wp_rng1, wp_rng2, r1W_int, r2W_int, rtW_rt, rtW_nx, foW_nx, foW_ct, foW_bk, foW_rt, wp_forL_nil, wp_forL_cons, wp_compM, wipe_s, wipe_z, wipe_ss, wipe_zs, wipe_sz, wp_tYes, wp_callM, wp_callP, permD, List.map_cons, List.map_nil, List.getD_cons_zero, List.getD_cons_succ, List.cons_append, List.nil_append, List.getElem?_cons_zero, List.getElem?_cons_succ, List.set_cons_zero, List.set_cons_succ, Option.map_some, Option.bind_some, Option.some.injEq, Option.isSome_some, exists_eq_left', exists_eq_left, exists_and_left, true_and, and_true, decide_eq_true_eq, List.length_cons, List.length_nil, if_true, if_false, addD_i, subD_i, negD_i, ltD_i, leD_i, gtD_i, geD_i, lenF_t, lenF_l, lenF_d, absF_i, intF_i, intF_b, tupF_t, tupF_l, lstF_t, lstF_l, ixD_l, ixD_t, at1_0, at2_1, at3_2, isL_l, isS_s, popF_0, eqD_i, neD_i, eqD_s, neD_s, slD_l, slD_t, setF_30, setF_31, setF_32, neD_00, neD_10, Nat.zero_le, Nat.reduceAdd, Nat.reduceLeDiff, Bool.false_eq_true, reduceIte, Prod.mk.injEq, and_assoc, eq_self, decide_true, decide_false, not_true_eq_false, not_false_eq_true, Bool.not_true, Bool.not_false]
  split
  · refine (pick_ss hb).imp fun d st2 hd => ?_
    obtain ⟨hd, hb2⟩ := hd
    obtain ⟨z, rfl, hz⟩ : ∃ z : Str, d = .str z ∧ z.length = 1 := by
      rcases hd with rfl | rfl
      · exact ⟨_, rfl, e1⟩
      · exact ⟨_, rfl, s1⟩
    simp only [wp_ret, wp_bind, wp_ite, wp_opt, wp_need, wp_rd, slW_val, slW_own, stl_non, stl_bl, stl_int, stl_str, stl_tup, stl_lst, stl_dic, stl_ref, wp_stl_own, stW_own, stW_val, deref_non, deref_bl, deref_int, deref_str, deref_tup, deref_lst, deref_dic, deref_ref, deref_own, slC_own, slC_val, wp_op2, wp_op1, wp_bin, wp_un, wp_consM, wp_nilM, wp_opn, drf_nil, drf_one, drf_two, wp_tupM, wp_lstM, wp_newM, wp_stls_nil, wp_stls_cons, wp_tst, asB_bl, wp_notM, wp_andM, wp_orM, wp_andV, wp_orV, wp_notV, wp_iteM, wp_chain, wp_sl, wp_optN, wp_optS, intO_none, intO_int, wp_isT, wp_joinM, wp_mutM, wp_mutA, isOw_own, wp_up_own, wp_up_ref, wp_setIx, flW_nx, flW_rt, flW_bk, flW_ct, wp_seq, wp_pass, wp_brk, wp_cnt, wp_setV, wp_setO, wp_drp, wp_retM, wp_retN, wp_ofT, wp_setT, gT_tup, gTs_nil, gTs_cons, gN_eq, wp_nilP, wp_consP, wp_stlP_nil, wp_stlP_t, wp_stlP_f, wp_parM, wrP_nil, wrP_t, wrP_f, wp_forM, wp_walkM, itemsD_tup, itemsD_lst, wp_rng1, wp_rng2, r1W_int, r2W_int, rtW_rt, rtW_nx, foW_nx, foW_ct, foW_bk, foW_rt, wp_forL_nil, wp_forL_cons, wp_compM, wipe_s, wipe_z, wipe_ss, wipe_zs, wipe_sz, wp_tYes, wp_callM, wp_callP, permD, List.map_cons, List.map_nil, List.getD_cons_zero, List.getD_cons_succ, List.cons_append, List.nil_append, List.getElem?_cons_zero, List.getElem?_cons_succ, List.set_cons_zero, List.set_cons_succ, Option.map_some, Option.bind_some, Option.some.injEq, Option.isSome_some, exists_eq_left', exists_eq_left, exists_and_left, true_and, and_true, decide_eq_true_eq, List.length_cons, List.length_nil, if_true, if_false, addD_i, subD_i, negD_i, ltD_i, leD_i, gtD_i, geD_i, lenF_t, lenF_l, lenF_d, absF_i, intF_i, intF_b, tupF_t, tupF_l, lstF_t, lstF_l, ixD_l, ixD_t, at1_0, at2_1, at3_2, isL_l, isS_s, popF_0, eqD_i, neD_i, eqD_s, neD_s, slD_l, slD_t, setF_30, setF_31, setF_32, neD_00, neD_10, Nat.zero_le, Nat.reduceAdd, Nat.reduceLeDiff, Bool.false_eq_true, reduceIte, Prod.mk.injEq, and_assoc, eq_self, decide_true, decide_false, not_true_eq_false, not_false_eq_true, Bool.not_true, Bool.not_false, mulD_s (x := z) (k := m) (by omega) (by rw [hz]; omega)]
    exact ⟨_, rfl, by rw [repS_len, hz]; omega, hb2⟩
  split
  · refine (pick_ss hb).imp fun d st2 hd => ?_
    obtain ⟨hd, hb2⟩ := hd
    obtain ⟨z, rfl, hz⟩ : ∃ z : Str, d = .str z ∧ z.length = 2 := by
      rcases hd with rfl | rfl
      · exact ⟨_, rfl, rfl⟩
      · exact ⟨_, rfl, rfl⟩
    have hc : (repS z m).length = m.toNat * 2 := by rw [repS_len, hz]
    simp only [wp_ret, wp_bind, wp_ite, wp_opt, wp_need, wp_rd, slW_val, slW_own, stl_non, stl_bl, stl_int, stl_str, stl_tup, stl_lst, stl_dic, stl_ref, wp_stl_own, stW_own, stW_val, deref_non, deref_bl, deref_int, deref_str, deref_tup, deref_lst, deref_dic, deref_ref, deref_own, slC_own, slC_val, wp_op2, wp_op1, wp_bin, wp_un, wp_consM, wp_nilM, wp_opn, drf_nil, drf_one, drf_two, wp_tupM, wp_lstM, wp_newM, wp_stls_nil, wp_stls_cons, wp_tst, asB_bl, wp_notM, wp_andM, wp_orM, wp_andV, wp_orV, wp_notV, wp_iteM, wp_chain, wp_sl, wp_optN, wp_optS, intO_none, intO_int, wp_isT, wp_joinM, wp_mutM, wp_mutA, isOw_own, wp_up_own, wp_up_ref, wp_setIx, flW_nx, flW_rt, flW_bk, flW_ct, wp_seq, wp_pass, wp_brk, wp_cnt, wp_setV, wp_setO, wp_drp, wp_retM, wp_retN, wp_ofT, wp_setT, gT_tup, gTs_nil, gTs_cons, gN_eq, wp_nilP, wp_consP, wp_stlP_nil, wp_stlP_t, wp_stlP_f, wp_parM, wrP_nil, wrP_t, wrP_f, wp_forM, wp_walkM, itemsD_tup, itemsD_lst, wp_rng1, wp_rng2, r1W_int, r2W_int, rtW_rt, rtW_nx, foW_nx, foW_ct, foW_bk, foW_rt, wp_forL_nil, wp_forL_cons, wp_compM, wipe_s, wipe_z, wipe_ss, wipe_zs, wipe_sz, wp_tYes, wp_callM, wp_callP, permD, List.map_cons, List.map_nil, List.getD_cons_zero, List.getD_cons_succ, List.cons_append, List.nil_append, List.getElem?_cons_zero, List.getElem?_cons_succ, List.set_cons_zero, List.set_cons_succ, Option.map_some, Option.bind_some, Option.some.injEq, Option.isSome_some, exists_eq_left', exists_eq_left, exists_and_left, true_and, and_true, decide_eq_true_eq, List.length_cons, List.length_nil, if_true, if_false, addD_i, subD_i, negD_i, ltD_i, leD_i, gtD_i, geD_i, lenF_t, lenF_l, lenF_d, absF_i, intF_i, intF_b, tupF_t, tupF_l, lstF_t, lstF_l, ixD_l, ixD_t, at1_0, at2_1, at3_2, isL_l, isS_s, popF_0, eqD_i, neD_i, eqD_s, neD_s, slD_l, slD_t, setF_30, setF_31, setF_32, neD_00, neD_10, Nat.zero_le, Nat.reduceAdd, Nat.reduceLeDiff, Bool.false_eq_true, reduceIte, Prod.mk.injEq, and_assoc, eq_self, decide_true, decide_false, not_true_eq_false, not_false_eq_true, Bool.not_true, Bool.not_false, mulD_s (x := z) (k := m) (by omega) (by rw [hz]; omega), slD_s (x := repS z m) (by omega)]
    exact ⟨_, rfl, cut_len (by omega) (by omega), hb2⟩
  split
  · refine (draw_ok hb (by omega) (by omega)).imp fun d st2 hd => ?_
    obtain ⟨cut, rfl, hc0, hc1, hb2⟩ := hd
    simp only [wp_ret, wp_bind, wp_ite, wp_opt, wp_need, wp_rd, slW_val, slW_own, stl_non, stl_bl, stl_int, stl_str, stl_tup, stl_lst, stl_dic, stl_ref, wp_stl_own, stW_own, stW_val, deref_non, deref_bl, deref_int, deref_str, deref_tup, deref_lst, deref_dic, deref_ref, deref_own, slC_own, slC_val, wp_op2, wp_op1, wp_bin, wp_un, wp_consM, wp_nilM, wp_opn, drf_nil, drf_one, drf_two, wp_tupM, wp_lstM, wp_newM, wp_stls_nil, wp_stls_cons, wp_tst, asB_bl, wp_notM, wp_andM, wp_orM, wp_andV, wp_orV, wp_notV, wp_iteM, wp_chain, wp_sl, wp_optN, wp_optS, intO_none, intO_int, wp_isT, wp_joinM, wp_mutM, wp_mutA, isOw_own, wp_up_own, wp_up_ref, wp_setIx, flW_nx, flW_rt, flW_bk, flW_ct, wp_seq, wp_pass, wp_brk, wp_cnt, wp_setV, wp_setO, wp_drp, wp_retM, wp_retN, wp_ofT, wp_setT, gT_tup, gTs_nil, gTs_cons, gN_eq, wp_nilP, wp_consP, wp_stlP_nil, wp_stlP_t, wp_stlP_f, wp_parM, wrP_nil, wrP_t, wrP_f, wp_forM, wp_walkM, itemsD_tup, itemsD_lst, wp_rng1, wp_rng2, r1W_int, r2W_int, rtW_rt, rtW_nx, foW_nx, foW_ct, foW_bk, foW_rt, wp_forL_nil, wp_forL_cons, wp_compM, wipe_s, wipe_z, wipe_ss, wipe_zs, wipe_sz, wp_tYes, wp_callM, wp_callP, permD, List.map_cons, List.map_nil, List.getD_cons_zero, List.getD_cons_succ, List.cons_append, List.nil_append, List.getElem?_cons_zero, List.getElem?_cons_succ, List.set_cons_zero, List.set_cons_succ, Option.map_some, Option.bind_some, Option.some.injEq, Option.isSome_some, exists_eq_left', exists_eq_left, exists_and_left, true_and, and_true, decide_eq_true_eq, List.length_cons, List.length_nil, if_true, if_false, addD_i, subD_i, negD_i, ltD_i, leD_i, gtD_i, geD_i, lenF_t, lenF_l, lenF_d, absF_i, intF_i, intF_b, tupF_t, tupF_l, lstF_t, lstF_l, ixD_l, ixD_t, at1_0, at2_1, at3_2, isL_l, isS_s, popF_0, eqD_i, neD_i, eqD_s, neD_s, slD_l, slD_t, setF_30, setF_31, setF_32, neD_00, neD_10, Nat.zero_le, Nat.reduceAdd, Nat.reduceLeDiff, Bool.false_eq_true, reduceIte, Prod.mk.injEq, and_assoc, eq_self, decide_true, decide_false, not_true_eq_false, not_false_eq_true, Bool.not_true, Bool.not_false]
    refine (draw_ok hb2 (by omega) (by omega)).imp fun d st3 hd => ?_
    obtain ⟨q, rfl, _, _, hb3⟩ := hd
    have a1 : (repS "e" cut).length = cut.toNat := by rw [repS_len, e1]; omega
    have a2 : (repS "s" cut).length = cut.toNat := by rw [repS_len, s1]; omega
    have a3 : (repS "e" (m - cut)).length = (m - cut).toNat := by rw [repS_len, e1]; omega
    have a4 : (repS "s" (m - cut)).length = (m - cut).toNat := by rw [repS_len, s1]; omega
    simp only [wp_ret, wp_bind, wp_ite, wp_opt, wp_need, wp_rd, slW_val, slW_own, stl_non, stl_bl, stl_int, stl_str, stl_tup, stl_lst, stl_dic, stl_ref, wp_stl_own, stW_own, stW_val, deref_non, deref_bl, deref_int, deref_str, deref_tup, deref_lst, deref_dic, deref_ref, deref_own, slC_own, slC_val, wp_op2, wp_op1, wp_bin, wp_un, wp_consM, wp_nilM, wp_opn, drf_nil, drf_one, drf_two, wp_tupM, wp_lstM, wp_newM, wp_stls_nil, wp_stls_cons, wp_tst, asB_bl, wp_notM, wp_andM, wp_orM, wp_andV, wp_orV, wp_notV, wp_iteM, wp_chain, wp_sl, wp_optN, wp_optS, intO_none, intO_int, wp_isT, wp_joinM, wp_mutM, wp_mutA, isOw_own, wp_up_own, wp_up_ref, wp_setIx, flW_nx, flW_rt, flW_bk, flW_ct, wp_seq, wp_pass, wp_brk, wp_cnt, wp_setV, wp_setO, wp_drp, wp_retM, wp_retN, wp_ofT, wp_setT, gT_tup, gTs_nil, gTs_cons, gN_eq, wp_nilP, wp_consP, wp_stlP_nil, wp_stlP_t, wp_stlP_f, wp_parM, wrP_nil, wrP_t, wrP_f, wp_forM, wp_walkM, itemsD_tup, itemsD_lst, wp_rng1, wp_rng2, r1W_int, r2W_int, rtW_rt, rtW_nx, foW_nx, foW_ct, foW_bk, foW_rt, wp_forL_nil, wp_forL_cons, wp_compM, wipe_s, wipe_z, wipe_ss, wipe_zs, wipe_sz, wp_tYes, wp_callM, wp_callP, permD, List.map_cons, List.map_nil, List.getD_cons_zero, List.getD_cons_succ, List.cons_append, List.nil_append, List.getElem?_cons_zero, List.getElem?_cons_succ, List.set_cons_zero, List.set_cons_succ, Option.map_some, Option.bind_some, Option.some.injEq, Option.isSome_some, exists_eq_left', exists_eq_left, exists_and_left, true_and, and_true, decide_eq_true_eq, List.length_cons, List.length_nil, if_true, if_false, addD_i, subD_i, negD_i, ltD_i, leD_i, gtD_i, geD_i, lenF_t, lenF_l, lenF_d, absF_i, intF_i, intF_b, tupF_t, tupF_l, lstF_t, lstF_l, ixD_l, ixD_t, at1_0, at2_1, at3_2, isL_l, isS_s, popF_0, eqD_i, neD_i, eqD_s, neD_s, slD_l, slD_t, setF_30, setF_31, setF_32, neD_00, neD_10, Nat.zero_le, Nat.reduceAdd, Nat.reduceLeDiff, Bool.false_eq_true, reduceIte, Prod.mk.injEq, and_assoc, eq_self, decide_true, decide_false, not_true_eq_false, not_false_eq_true, Bool.not_true, Bool.not_false, mulD_s (x := "e") (k := cut) (by omega) (by rw [e1]; omega), mulD_s (x := "s") (k := cut) (by omega) (by rw [s1]; omega), mulD_s (x := "e") (k := m - cut) (by omega) (by rw [e1]; omega), mulD_s (x := "s") (k := m - cut) (by omega) (by rw [s1]; omega),
      addD_s (x := repS "e" cut) (y := repS "s" (m - cut)) (by rw [a1, a4]; omega), addD_s (x := repS "s" cut) (y := repS "e" (m - cut)) (by rw [a2, a3]; omega)]
    split
    · exact ⟨_, rfl, by rw [strLen_append, a1, a4]; omega, hb3⟩
    · exact ⟨_, rfl, by rw [strLen_append, a2, a3]; omega, hb3⟩
  refine ⟨in62_of (by omega), ?_⟩
  refine wp_compB (fun acc r st' => BagOk st' ∧ ∃ (ys : List Str) (x0 : Int), acc = ys.map .str ∧ r = rngD x0 m ∧ 0 ≤ x0 ∧ x0 ≤ m ∧ (ys.length : Int) = x0 ∧ (∀ y ∈ ys, y.length = 1)) (by rfl) ⟨hb, [], 0, rfl, rfl, by omega, by omega, rfl, by simp⟩ ?_ ?_
  · rintro acc x r st' ⟨hb', ys, x0, rfl, hr, h3, h4, h5, h6⟩
    obtain ⟨rfl, rfl, hlt⟩ := rng_inv hr
    refine ⟨_, rfl, ?_⟩
    simp only [wp_ret, wp_bind, wp_ite, wp_opt, wp_need, wp_rd, slW_val, slW_own, stl_non, stl_bl, stl_int, stl_str, stl_tup, stl_lst, stl_dic, stl_ref, wp_stl_own, stW_own, stW_val, deref_non, deref_bl, deref_int, deref_str, deref_tup, deref_lst, deref_dic, deref_ref, deref_own, slC_own, slC_val, wp_op2, wp_op1, wp_bin, wp_un, wp_consM, wp_nilM, wp_opn, drf_nil, drf_one, drf_two, wp_tupM, wp_lstM, wp_newM, wp_stls_nil, wp_stls_cons, wp_tst, asB_bl, wp_notM, wp_andM, wp_orM, wp_andV, wp_orV, wp_notV, wp_iteM, wp_chain, wp_sl, wp_optN, wp_optS, intO_none, intO_int, wp_isT, wp_joinM, wp_mutM, wp_mutA, isOw_own, wp_up_own, wp_up_ref, wp_setIx, flW_nx, flW_rt, flW_bk, flW_ct, wp_seq, wp_pass, wp_brk, wp_cnt, wp_setV, wp_setO, wp_drp, wp_retM, wp_retN, wp_ofT, wp_setT, gT_tup, gTs_nil, gTs_cons, gN_eq, wp_nilP, wp_consP, wp_stlP_nil, wp_stlP_t, wp_stlP_f, wp_parM, wrP_nil, wrP_t, wrP_f, wp_forM, wp_walkM, itemsD_tup, itemsD_lst, wp_rng1, wp_rng2, r1W_int, r2W_int, rtW_rt, rtW_nx, foW_nx, foW_ct, foW_bk, foW_rt, wp_forL_nil, wp_forL_cons, wp_compM, wipe_s, wipe_z, wipe_ss, wipe_zs, wipe_sz, wp_tYes, wp_callM, wp_callP, permD, List.map_cons, List.map_nil, List.getD_cons_zero, List.getD_cons_succ, List.cons_append, List.nil_append, List.getElem?_cons_zero, List.getElem?_cons_succ, List.set_cons_zero, List.set_cons_succ, Option.map_some, Option.bind_some, Option.some.injEq, Option.isSome_some, exists_eq_left', exists_eq_left, exists_and_left, true_and, and_true, decide_eq_true_eq, List.length_cons, List.length_nil, if_true, if_false, addD_i, subD_i, negD_i, ltD_i, leD_i, gtD_i, geD_i, lenF_t, lenF_l, lenF_d, absF_i, intF_i, intF_b, tupF_t, tupF_l, lstF_t, lstF_l, ixD_l, ixD_t, at1_0, at2_1, at3_2, isL_l, isS_s, popF_0, eqD_i, neD_i, eqD_s, neD_s, slD_l, slD_t, setF_30, setF_31, setF_32, neD_00, neD_10, Nat.zero_le, Nat.reduceAdd, Nat.reduceLeDiff, Bool.false_eq_true, reduceIte, Prod.mk.injEq, and_assoc, eq_self, decide_true, decide_false, not_true_eq_false, not_false_eq_true, Bool.not_true, Bool.not_false]
    refine (pick_ss hb').imp fun d st2 hd => ?_
    obtain ⟨hd, hb2⟩ := hd
    obtain ⟨z, rfl, hz⟩ : ∃ z : Str, d = .str z ∧ z.length = 1 := by
      rcases hd with rfl | rfl
      · exact ⟨_, rfl, e1⟩
      · exact ⟨_, rfl, s1⟩
    simp only [wp_ret, wp_bind, wp_ite, wp_opt, wp_need, wp_rd, slW_val, slW_own, stl_non, stl_bl, stl_int, stl_str, stl_tup, stl_lst, stl_dic, stl_ref, wp_stl_own, stW_own, stW_val, deref_non, deref_bl, deref_int, deref_str, deref_tup, deref_lst, deref_dic, deref_ref, deref_own, slC_own, slC_val, wp_op2, wp_op1, wp_bin, wp_un, wp_consM, wp_nilM, wp_opn, drf_nil, drf_one, drf_two, wp_tupM, wp_lstM, wp_newM, wp_stls_nil, wp_stls_cons, wp_tst, asB_bl, wp_notM, wp_andM, wp_orM, wp_andV, wp_orV, wp_notV, wp_iteM, wp_chain, wp_sl, wp_optN, wp_optS, intO_none, intO_int, wp_isT, wp_joinM, wp_mutM, wp_mutA, isOw_own, wp_up_own, wp_up_ref, wp_setIx, flW_nx, flW_rt, flW_bk, flW_ct, wp_seq, wp_pass, wp_brk, wp_cnt, wp_setV, wp_setO, wp_drp, wp_retM, wp_retN, wp_ofT, wp_setT, gT_tup, gTs_nil, gTs_cons, gN_eq, wp_nilP, wp_consP, wp_stlP_nil, wp_stlP_t, wp_stlP_f, wp_parM, wrP_nil, wrP_t, wrP_f, wp_forM, wp_walkM, itemsD_tup, itemsD_lst, wp_rng1, wp_rng2, r1W_int, r2W_int, rtW_rt, rtW_nx, foW_nx, foW_ct, foW_bk, foW_rt, wp_forL_nil, wp_forL_cons, wp_compM, wipe_s, wipe_z, wipe_ss, wipe_zs, wipe_sz, wp_tYes, wp_callM, wp_callP, permD, List.map_cons, List.map_nil, List.getD_cons_zero, List.getD_cons_succ, List.cons_append, List.nil_append, List.getElem?_cons_zero, List.getElem?_cons_succ, List.set_cons_zero, List.set_cons_succ, Option.map_some, Option.bind_some, Option.some.injEq, Option.isSome_some, exists_eq_left', exists_eq_left, exists_and_left, true_and, and_true, decide_eq_true_eq, List.length_cons, List.length_nil, if_true, if_false, addD_i, subD_i, negD_i, ltD_i, leD_i, gtD_i, geD_i, lenF_t, lenF_l, lenF_d, absF_i, intF_i, intF_b, tupF_t, tupF_l, lstF_t, lstF_l, ixD_l, ixD_t, at1_0, at2_1, at3_2, isL_l, isS_s, popF_0, eqD_i, neD_i, eqD_s, neD_s, slD_l, slD_t, setF_30, setF_31, setF_32, neD_00, neD_10, Nat.zero_le, Nat.reduceAdd, Nat.reduceLeDiff, Bool.false_eq_true, reduceIte, Prod.mk.injEq, and_assoc, eq_self, decide_true, decide_false, not_true_eq_false, not_false_eq_true, Bool.not_true, Bool.not_false]
    refine ⟨by rw [List.length_map]; omega, hb2, ys ++ [z], by simp, x0 + 1, rfl, by omega, by omega, by rw [List.length_append, List.length_singleton]; omega, fun y hy => ?_⟩
    rcases List.mem_append.mp hy with hy | hy
    · exact h6 y hy
    · rw [List.mem_singleton.mp hy]; exact hz
  · rintro acc st' ⟨hb', ys, x0, rfl, hr, h3, h4, h5, h6⟩
    have := rng_end hr
    have hs := sum_ones h6
    simp only [wp_ret, wp_bind, wp_ite, wp_opt, wp_need, wp_rd, slW_val, slW_own, stl_non, stl_bl, stl_int, stl_str, stl_tup, stl_lst, stl_dic, stl_ref, wp_stl_own, stW_own, stW_val, deref_non, deref_bl, deref_int, deref_str, deref_tup, deref_lst, deref_dic, deref_ref, deref_own, slC_own, slC_val, wp_op2, wp_op1, wp_bin, wp_un, wp_consM, wp_nilM, wp_opn, drf_nil, drf_one, drf_two, wp_tupM, wp_lstM, wp_newM, wp_stls_nil, wp_stls_cons, wp_tst, asB_bl, wp_notM, wp_andM, wp_orM, wp_andV, wp_orV, wp_notV, wp_iteM, wp_chain, wp_sl, wp_optN, wp_optS, intO_none, intO_int, wp_isT, wp_joinM, wp_mutM, wp_mutA, isOw_own, wp_up_own, wp_up_ref, wp_setIx, flW_nx, flW_rt, flW_bk, flW_ct, wp_seq, wp_pass, wp_brk, wp_cnt, wp_setV, wp_setO, wp_drp, wp_retM, wp_retN, wp_ofT, wp_setT, gT_tup, gTs_nil, gTs_cons, gN_eq, wp_nilP, wp_consP, wp_stlP_nil, wp_stlP_t, wp_stlP_f, wp_parM, wrP_nil, wrP_t, wrP_f, wp_forM, wp_walkM, itemsD_tup, itemsD_lst, wp_rng1, wp_rng2, r1W_int, r2W_int, rtW_rt, rtW_nx, foW_nx, foW_ct, foW_bk, foW_rt, wp_forL_nil, wp_forL_cons, wp_compM, wipe_s, wipe_z, wipe_ss, wipe_zs, wipe_sz, wp_tYes, wp_callM, wp_callP, permD, List.map_cons, List.map_nil, List.getD_cons_zero, List.getD_cons_succ, List.cons_append, List.nil_append, List.getElem?_cons_zero, List.getElem?_cons_succ, List.set_cons_zero, List.set_cons_succ, Option.map_some, Option.bind_some, Option.some.injEq, Option.isSome_some, exists_eq_left', exists_eq_left, exists_and_left, true_and, and_true, decide_eq_true_eq, List.length_cons, List.length_nil, if_true, if_false, addD_i, subD_i, negD_i, ltD_i, leD_i, gtD_i, geD_i, lenF_t, lenF_l, lenF_d, absF_i, intF_i, intF_b, tupF_t, tupF_l, lstF_t, lstF_l, ixD_l, ixD_t, at1_0, at2_1, at3_2, isL_l, isS_s, popF_0, eqD_i, neD_i, eqD_s, neD_s, slD_l, slD_t, setF_30, setF_31, setF_32, neD_00, neD_10, Nat.zero_le, Nat.reduceAdd, Nat.reduceLeDiff, Bool.false_eq_true, reduceIte, Prod.mk.injEq, and_assoc, eq_self, decide_true, decide_false, not_true_eq_false, not_false_eq_true, Bool.not_true, Bool.not_false, joinD_l (z := "") (ys := ys) (by rw [hs]; show ys.length + ys.length * 0 ≤ _; omega)]
    exact ⟨_, rfl, by rw [join0_len, hs]; omega, hb'⟩
/-- whether the letter x is SOME's -/
def sAt (w : Str) (x : Int) : Bool := match w.cps.toList[(x - 1).toNat]? with
  | some c => decide ((⟨#[c]⟩ : Str) = "s")
  | none => false
theorem sAt_ix {w : Str} {x : Int} (hw : w.length ≤ 100) (h0 : 1 ≤ x) (h1 : x ≤ w.length) : ∃ c, ixD (.str w) (.int (x - 1)) = some (.str ⟨#[c]⟩) ∧ sAt w x = decide ((⟨#[c]⟩ : Str) = "s") := by
  obtain ⟨c, h2, h3⟩ := ixD_s (x := w) (i := x - 1) (by omega) (by omega) (by omega)
  exact ⟨c, h3, by unfold sAt; rw [h2]⟩
abbrev Ans := Option (List Int)
def encA : Ans → D
  | none => .tup [.str "no"]
  | some row => .tup [.str "all", .tup (row.map .int)]
def encH (l : List (Int × Ans)) : List D := l.map fun p => .tup [.int p.1, encA p.2]
/-- answers as the law makes them -/
structure HOk (w : Str) (hi : Int) (l : List (Int × Ans)) : Prop where
  lt : ∀ p ∈ l, 1 ≤ p.1 ∧ p.1 < hi ∧ sAt w p.1 = true
  all : ∀ x, 1 ≤ x → x < hi → sAt w x = true → ∃ a, (x, a) ∈ l
  nd : (l.map (·.1)).Nodup
  row : ∀ p ∈ l, ∀ row, p.2 = some row → row.length ≤ 100 ∧ ∀ y ∈ row, (1 ≤ y ∧ y < p.1) ∨ (1 ≤ -y ∧ -y < p.1)
  len : (l.length : Int) < hi
theorem HOk.skip {w : Str} {x : Int} {l : List (Int × Ans)} (h : HOk w x l) (hx : sAt w x = false) : HOk w (x + 1) l := by
  refine ⟨fun p hp => ?_, fun y h1 h2 h3 => ?_, h.nd, h.row, by have := h.len; omega⟩
  · obtain ⟨a, b, c⟩ := h.lt p hp
    exact ⟨a, by omega, c⟩
  · by_cases e : y = x
    · subst e; rw [hx] at h3; cases h3
    · exact h.all y h1 (by omega) h3
theorem HOk.add {w : Str} {x : Int} {l : List (Int × Ans)} (h : HOk w x l) (h1 : 1 ≤ x) (hx : sAt w x = true) (a : Ans) (ha : ∀ row, a = some row → row.length ≤ 100 ∧ ∀ y ∈ row, (1 ≤ y ∧ y < x) ∨ (1 ≤ -y ∧ -y < x)) : HOk w (x + 1) (l ++ [(x, a)]) := by
  refine ⟨fun p hp => ?_, fun y h2 h3 h4 => ?_, ?_, fun p hp row hr => ?_, ?_⟩
  · rcases List.mem_append.mp hp with hp | hp
    · obtain ⟨a, b, c⟩ := h.lt p hp
      exact ⟨a, by omega, c⟩
    · rw [List.mem_singleton.mp hp]
      exact ⟨h1, by omega, hx⟩
  · by_cases e : y = x
    · subst e; exact ⟨a, by simp⟩
    · obtain ⟨b, hb⟩ := h.all y h2 (by omega) h4
      exact ⟨b, by simp [hb]⟩
  · rw [List.map_append, List.nodup_append]
    refine ⟨h.nd, by simp, fun y hy z hz q => ?_⟩
    obtain ⟨p, hp, rfl⟩ := List.mem_map.mp hy
    have := (h.lt p hp).2.1
    simp at hz
    omega
  · rcases List.mem_append.mp hp with hp | hp
    · exact h.row p hp row hr
    · rw [List.mem_singleton.mp hp] at hr ⊢
      exact ha row hr
  · have := h.len
    rw [List.length_append, List.length_singleton]
    omega
theorem encH_add {l : List (Int × Ans)} {x : Int} {a : Ans} : encH l ++ [.tup [.int x, encA a]] = encH (l ++ [(x, a)]) := by
  unfold encH; simp
theorem isv_encA (a : Ans) : IsV (encA a) := by cases a <;> (intro i; nofun)
theorem own_ok {n : Nat} {w : Str} {most : Int} {sg : List Int} {st : List D} (h : BagOk st) (hw : w.length ≤ 100) (h1 : 0 ≤ most) (h2 : most ≤ 100) (hs : ∀ k ∈ sg, k = 1 ∨ k = -1) (hs0 : 0 < sg.length) (hs1 : sg.length ≤ 10) :
    Cw (callF T (n + 3)) 6 [.ref 1, .str w, .int most, .lst (sg.map .int)] st fun d st' => ∃ l, d = .tup (encH l) ∧ HOk w (w.length + 1) l ∧ BagOk st' := by
  refine c_6 ?_
  unfold b_6
  simp only [wp_ret, wp_bind, wp_ite, wp_opt, wp_need, wp_rd, slW_val, slW_own, stl_non, stl_bl, stl_int, stl_str, stl_tup, stl_lst, stl_dic, stl_ref, wp_stl_own, stW_own, stW_val, deref_non, deref_bl, deref_int, deref_str, deref_tup, deref_lst, deref_dic, deref_ref, deref_own, slC_own, slC_val, wp_op2, wp_op1, wp_bin, wp_un, wp_consM, wp_nilM, wp_opn, drf_nil, drf_one, drf_two, wp_tupM, wp_lstM, wp_newM, wp_stls_nil, wp_stls_cons, wp_tst, asB_bl, wp_notM, wp_andM, wp_orM, wp_andV, wp_orV, wp_notV, wp_iteM, wp_chain, wp_sl, wp_optN, wp_optS, intO_none, intO_int, wp_isT, wp_joinM, wp_mutM, wp_mutA, isOw_own, wp_up_own, wp_up_ref, wp_setIx, flW_nx, flW_rt, flW_bk, flW_ct, wp_seq, wp_pass, wp_brk, wp_cnt, wp_setV, wp_setO, wp_drp, wp_retM, wp_retN, wp_ofT, wp_setT, gT_tup, gTs_nil, gTs_cons, gN_eq, wp_nilP, wp_consP, wp_stlP_nil, wp_stlP_t, wp_stlP_f, wp_parM, wrP_nil, wrP_t, wrP_f, wp_forM, wp_walkM, itemsD_tup, itemsD_lst, wp_rng1, wp_rng2, r1W_int, r2W_int, rtW_rt, rtW_nx, foW_nx, foW_ct, foW_bk, foW_rt, wp_forL_nil, wp_forL_cons, wp_compM, wipe_s, wipe_z, wipe_ss, wipe_zs, wipe_sz, wp_tYes, wp_callM, wp_callP, permD, List.map_cons, List.map_nil, List.getD_cons_zero, List.getD_cons_succ, List.cons_append, List.nil_append, List.getElem?_cons_zero, List.getElem?_cons_succ, List.set_cons_zero, List.set_cons_succ, Option.map_some, Option.bind_some, Option.some.injEq, Option.isSome_some, exists_eq_left', exists_eq_left, exists_and_left, true_and, and_true, decide_eq_true_eq, List.length_cons, List.length_nil, if_true, if_false, addD_i, subD_i, negD_i, ltD_i, leD_i, gtD_i, geD_i, lenF_t, lenF_l, lenF_d, absF_i, intF_i, intF_b, tupF_t, tupF_l, lstF_t, lstF_l, ixD_l, ixD_t, at1_0, at2_1, at3_2, isL_l, isS_s, popF_0, eqD_i, neD_i, eqD_s, neD_s, slD_l, slD_t, setF_30, setF_31, setF_32, neD_00, neD_10, Nat.zero_le, Nat.reduceAdd, Nat.reduceLeDiff, Bool.false_eq_true, reduceIte, Prod.mk.injEq, and_assoc, eq_self, decide_true, decide_false, not_true_eq_false, not_false_eq_true, Bool.not_true, Bool.not_false, lenF_s (x := w) (by omega)]
  refine ⟨by rw [in62_of (by omega), in62_of (by omega)]; rfl, ?_⟩
  refine wp_for (fun r s => ∃ (x0 : Int) (l : List (Int × Ans)) (st' : List D) (a5 a6 a7 a8 : Sl), r = rngD x0 (w.length + 1) ∧ 1 ≤ x0 ∧ x0 ≤ w.length + 1 ∧ HOk w x0 l ∧ BagOk st' ∧
    s = ⟨[.val (.ref 1), .val (.str w), .val (.int most), .val (.lst (sg.map .int)), .own (.lst (encH l)), a5, a6, a7, a8, .un], st'⟩) ?_ ?_
    ⟨1, [], st, .un, .un, .un, .un, rfl, by omega, by omega, ⟨by simp, fun x h1 h2 => by omega, by simp, by simp, by simp⟩, h, rfl⟩
  · rintro x r s ⟨x0, l, st', a5, a6, a7, a8, hr, h3, h4, hl, hb, rfl⟩
    obtain ⟨rfl, rfl, hlt⟩ := rng_inv hr
    obtain ⟨c, e, hc⟩ := sAt_ix hw h3 (by omega)
    refine ⟨_, rfl, ?_⟩
    simp only [wp_ret, wp_bind, wp_ite, wp_opt, wp_need, wp_rd, slW_val, slW_own, stl_non, stl_bl, stl_int, stl_str, stl_tup, stl_lst, stl_dic, stl_ref, wp_stl_own, stW_own, stW_val, deref_non, deref_bl, deref_int, deref_str, deref_tup, deref_lst, deref_dic, deref_ref, deref_own, slC_own, slC_val, wp_op2, wp_op1, wp_bin, wp_un, wp_consM, wp_nilM, wp_opn, drf_nil, drf_one, drf_two, wp_tupM, wp_lstM, wp_newM, wp_stls_nil, wp_stls_cons, wp_tst, asB_bl, wp_notM, wp_andM, wp_orM, wp_andV, wp_orV, wp_notV, wp_iteM, wp_chain, wp_sl, wp_optN, wp_optS, intO_none, intO_int, wp_isT, wp_joinM, wp_mutM, wp_mutA, isOw_own, wp_up_own, wp_up_ref, wp_setIx, flW_nx, flW_rt, flW_bk, flW_ct, wp_seq, wp_pass, wp_brk, wp_cnt, wp_setV, wp_setO, wp_drp, wp_retM, wp_retN, wp_ofT, wp_setT, gT_tup, gTs_nil, gTs_cons, gN_eq, wp_nilP, wp_consP, wp_stlP_nil, wp_stlP_t, wp_stlP_f, wp_parM, wrP_nil, wrP_t, wrP_f, wp_forM, wp_walkM, itemsD_tup, itemsD_lst, wp_rng1, wp_rng2, r1W_int, r2W_int, rtW_rt, rtW_nx, foW_nx, foW_ct, foW_bk, foW_rt, wp_forL_nil, wp_forL_cons, wp_compM, wipe_s, wipe_z, wipe_ss, wipe_zs, wipe_sz, wp_tYes, wp_callM, wp_callP, permD, List.map_cons, List.map_nil, List.getD_cons_zero, List.getD_cons_succ, List.cons_append, List.nil_append, List.getElem?_cons_zero, List.getElem?_cons_succ, List.set_cons_zero, List.set_cons_succ, Option.map_some, Option.bind_some, Option.some.injEq, Option.isSome_some, exists_eq_left', exists_eq_left, exists_and_left, true_and, and_true, decide_eq_true_eq, List.length_cons, List.length_nil, if_true, if_false, addD_i, subD_i, negD_i, ltD_i, leD_i, gtD_i, geD_i, lenF_t, lenF_l, lenF_d, absF_i, intF_i, intF_b, tupF_t, tupF_l, lstF_t, lstF_l, ixD_l, ixD_t, at1_0, at2_1, at3_2, isL_l, isS_s, popF_0, eqD_i, neD_i, eqD_s, neD_s, slD_l, slD_t, setF_30, setF_31, setF_32, neD_00, neD_10, Nat.zero_le, Nat.reduceAdd, Nat.reduceLeDiff, Bool.false_eq_true, reduceIte, Prod.mk.injEq, and_assoc, eq_self, decide_true, decide_false, not_true_eq_false, not_false_eq_true, Bool.not_true, Bool.not_false, e]
    split
    · rename_i hcs
      have hS : sAt w x0 = true := by rw [hc, decide_eq_true hcs]
      refine ⟨by rw [in62_of (by omega), in62_of (by omega)]; rfl, ?_⟩
      refine wp_compB (fun acc r st2 => st2 = st' ∧ ∃ (ks : List Int) (k0 : Int), acc = ks.map .int ∧ r = rngD k0 x0 ∧ 1 ≤ k0 ∧ k0 ≤ x0 ∧ (∀ k ∈ ks, 1 ≤ k ∧ k < x0) ∧ (ks.length : Int) < k0) (by rfl) ⟨rfl, [], 1, rfl, rfl, by omega, by omega, by simp, by simp⟩ ?_ ?_
      · rintro acc x r st2 ⟨rfl, ks, k0, rfl, hr2, g1, g2, g3, g4⟩
        obtain ⟨rfl, rfl, hlt2⟩ := rng_inv hr2
        obtain ⟨c2, e2, _⟩ := sAt_ix hw g1 (by omega)
        refine ⟨_, rfl, ?_⟩
        simp only [wp_ret, wp_bind, wp_ite, wp_opt, wp_need, wp_rd, slW_val, slW_own, stl_non, stl_bl, stl_int, stl_str, stl_tup, stl_lst, stl_dic, stl_ref, wp_stl_own, stW_own, stW_val, deref_non, deref_bl, deref_int, deref_str, deref_tup, deref_lst, deref_dic, deref_ref, deref_own, slC_own, slC_val, wp_op2, wp_op1, wp_bin, wp_un, wp_consM, wp_nilM, wp_opn, drf_nil, drf_one, drf_two, wp_tupM, wp_lstM, wp_newM, wp_stls_nil, wp_stls_cons, wp_tst, asB_bl, wp_notM, wp_andM, wp_orM, wp_andV, wp_orV, wp_notV, wp_iteM, wp_chain, wp_sl, wp_optN, wp_optS, intO_none, intO_int, wp_isT, wp_joinM, wp_mutM, wp_mutA, isOw_own, wp_up_own, wp_up_ref, wp_setIx, flW_nx, flW_rt, flW_bk, flW_ct, wp_seq, wp_pass, wp_brk, wp_cnt, wp_setV, wp_setO, wp_drp, wp_retM, wp_retN, wp_ofT, wp_setT, gT_tup, gTs_nil, gTs_cons, gN_eq, wp_nilP, wp_consP, wp_stlP_nil, wp_stlP_t, wp_stlP_f, wp_parM, wrP_nil, wrP_t, wrP_f, wp_forM, wp_walkM, itemsD_tup, itemsD_lst, wp_rng1, wp_rng2, r1W_int, r2W_int, rtW_rt, rtW_nx, foW_nx, foW_ct, foW_bk, foW_rt, wp_forL_nil, wp_forL_cons, wp_compM, wipe_s, wipe_z, wipe_ss, wipe_zs, wipe_sz, wp_tYes, wp_callM, wp_callP, permD, List.map_cons, List.map_nil, List.getD_cons_zero, List.getD_cons_succ, List.cons_append, List.nil_append, List.getElem?_cons_zero, List.getElem?_cons_succ, List.set_cons_zero, List.set_cons_succ, Option.map_some, Option.bind_some, Option.some.injEq, Option.isSome_some, exists_eq_left', exists_eq_left, exists_and_left, true_and, and_true, decide_eq_true_eq, List.length_cons, List.length_nil, if_true, if_false, addD_i, subD_i, negD_i, ltD_i, leD_i, gtD_i, geD_i, lenF_t, lenF_l, lenF_d, absF_i, intF_i, intF_b, tupF_t, tupF_l, lstF_t, lstF_l, ixD_l, ixD_t, at1_0, at2_1, at3_2, isL_l, isS_s, popF_0, eqD_i, neD_i, eqD_s, neD_s, slD_l, slD_t, setF_30, setF_31, setF_32, neD_00, neD_10, Nat.zero_le, Nat.reduceAdd, Nat.reduceLeDiff, Bool.false_eq_true, reduceIte, Prod.mk.injEq, and_assoc, eq_self, decide_true, decide_false, not_true_eq_false, not_false_eq_true, Bool.not_true, Bool.not_false, e2]
        split
        · refine ⟨by rw [List.length_map]; omega, ks ++ [k0], by simp, k0 + 1, rfl, by omega, by omega, fun k hk => ?_, by rw [List.length_append, List.length_singleton]; omega⟩
          rcases List.mem_append.mp hk with hk | hk
          · exact g3 k hk
          · rw [List.mem_singleton.mp hk]; omega
        · exact ⟨ks, rfl, k0 + 1, rfl, by omega, by omega, g3, by omega⟩
      · rintro acc st2 ⟨rfl, ks, k0, rfl, hr2, g1, g2, g3, g4⟩
        simp only [wp_ret, wp_bind, wp_ite, wp_opt, wp_need, wp_rd, slW_val, slW_own, stl_non, stl_bl, stl_int, stl_str, stl_tup, stl_lst, stl_dic, stl_ref, wp_stl_own, stW_own, stW_val, deref_non, deref_bl, deref_int, deref_str, deref_tup, deref_lst, deref_dic, deref_ref, deref_own, slC_own, slC_val, wp_op2, wp_op1, wp_bin, wp_un, wp_consM, wp_nilM, wp_opn, drf_nil, drf_one, drf_two, wp_tupM, wp_lstM, wp_newM, wp_stls_nil, wp_stls_cons, wp_tst, asB_bl, wp_notM, wp_andM, wp_orM, wp_andV, wp_orV, wp_notV, wp_iteM, wp_chain, wp_sl, wp_optN, wp_optS, intO_none, intO_int, wp_isT, wp_joinM, wp_mutM, wp_mutA, isOw_own, wp_up_own, wp_up_ref, wp_setIx, flW_nx, flW_rt, flW_bk, flW_ct, wp_seq, wp_pass, wp_brk, wp_cnt, wp_setV, wp_setO, wp_drp, wp_retM, wp_retN, wp_ofT, wp_setT, gT_tup, gTs_nil, gTs_cons, gN_eq, wp_nilP, wp_consP, wp_stlP_nil, wp_stlP_t, wp_stlP_f, wp_parM, wrP_nil, wrP_t, wrP_f, wp_forM, wp_walkM, itemsD_tup, itemsD_lst, wp_rng1, wp_rng2, r1W_int, r2W_int, rtW_rt, rtW_nx, foW_nx, foW_ct, foW_bk, foW_rt, wp_forL_nil, wp_forL_cons, wp_compM, wipe_s, wipe_z, wipe_ss, wipe_zs, wipe_sz, wp_tYes, wp_callM, wp_callP, permD, List.map_cons, List.map_nil, List.getD_cons_zero, List.getD_cons_succ, List.cons_append, List.nil_append, List.getElem?_cons_zero, List.getElem?_cons_succ, List.set_cons_zero, List.set_cons_succ, Option.map_some, Option.bind_some, Option.some.injEq, Option.isSome_some, exists_eq_left', exists_eq_left, exists_and_left, true_and, and_true, decide_eq_true_eq, List.length_cons, List.length_nil, if_true, if_false, addD_i, subD_i, negD_i, ltD_i, leD_i, gtD_i, geD_i, lenF_t, lenF_l, lenF_d, absF_i, intF_i, intF_b, tupF_t, tupF_l, lstF_t, lstF_l, ixD_l, ixD_t, at1_0, at2_1, at3_2, isL_l, isS_s, popF_0, eqD_i, neD_i, eqD_s, neD_s, slD_l, slD_t, setF_30, setF_31, setF_32, neD_00, neD_10, Nat.zero_le, Nat.reduceAdd, Nat.reduceLeDiff, Bool.false_eq_true, reduceIte, Prod.mk.injEq, and_assoc, eq_self, decide_true, decide_false, not_true_eq_false, not_false_eq_true, Bool.not_true, Bool.not_false]
        refine (mixed_ok (p := fun k => 1 ≤ k ∧ k < x0) hb (by omega) g3).imp fun d st3 hd => ?_
        obtain ⟨ms, rfl, q1, q2, hb3⟩ := hd
        simp only [wp_ret, wp_bind, wp_ite, wp_opt, wp_need, wp_rd, slW_val, slW_own, stl_non, stl_bl, stl_int, stl_str, stl_tup, stl_lst, stl_dic, stl_ref, wp_stl_own, stW_own, stW_val, deref_non, deref_bl, deref_int, deref_str, deref_tup, deref_lst, deref_dic, deref_ref, deref_own, slC_own, slC_val, wp_op2, wp_op1, wp_bin, wp_un, wp_consM, wp_nilM, wp_opn, drf_nil, drf_one, drf_two, wp_tupM, wp_lstM, wp_newM, wp_stls_nil, wp_stls_cons, wp_tst, asB_bl, wp_notM, wp_andM, wp_orM, wp_andV, wp_orV, wp_notV, wp_iteM, wp_chain, wp_sl, wp_optN, wp_optS, intO_none, intO_int, wp_isT, wp_joinM, wp_mutM, wp_mutA, isOw_own, wp_up_own, wp_up_ref, wp_setIx, flW_nx, flW_rt, flW_bk, flW_ct, wp_seq, wp_pass, wp_brk, wp_cnt, wp_setV, wp_setO, wp_drp, wp_retM, wp_retN, wp_ofT, wp_setT, gT_tup, gTs_nil, gTs_cons, gN_eq, wp_nilP, wp_consP, wp_stlP_nil, wp_stlP_t, wp_stlP_f, wp_parM, wrP_nil, wrP_t, wrP_f, wp_forM, wp_walkM, itemsD_tup, itemsD_lst, wp_rng1, wp_rng2, r1W_int, r2W_int, rtW_rt, rtW_nx, foW_nx, foW_ct, foW_bk, foW_rt, wp_forL_nil, wp_forL_cons, wp_compM, wipe_s, wipe_z, wipe_ss, wipe_zs, wipe_sz, wp_tYes, wp_callM, wp_callP, permD, List.map_cons, List.map_nil, List.getD_cons_zero, List.getD_cons_succ, List.cons_append, List.nil_append, List.getElem?_cons_zero, List.getElem?_cons_succ, List.set_cons_zero, List.set_cons_succ, Option.map_some, Option.bind_some, Option.some.injEq, Option.isSome_some, exists_eq_left', exists_eq_left, exists_and_left, true_and, and_true, decide_eq_true_eq, List.length_cons, List.length_nil, if_true, if_false, addD_i, subD_i, negD_i, ltD_i, leD_i, gtD_i, geD_i, lenF_t, lenF_l, lenF_d, absF_i, intF_i, intF_b, tupF_t, tupF_l, lstF_t, lstF_l, ixD_l, ixD_t, at1_0, at2_1, at3_2, isL_l, isS_s, popF_0, eqD_i, neD_i, eqD_s, neD_s, slD_l, slD_t, setF_30, setF_31, setF_32, neD_00, neD_10, Nat.zero_le, Nat.reduceAdd, Nat.reduceLeDiff, Bool.false_eq_true, reduceIte, Prod.mk.injEq, and_assoc, eq_self, decide_true, decide_false, not_true_eq_false, not_false_eq_true, Bool.not_true, Bool.not_false]
        refine (draw_ok hb3 (by omega) (by omega)).imp fun d st4 hd => ?_
        obtain ⟨m2, rfl, _, _, hb4⟩ := hd
        obtain ⟨ss, ecut, hss⟩ := cutD_map (ns := ms) (lo := none) (hi := some m2)
        simp only [wp_ret, wp_bind, wp_ite, wp_opt, wp_need, wp_rd, slW_val, slW_own, stl_non, stl_bl, stl_int, stl_str, stl_tup, stl_lst, stl_dic, stl_ref, wp_stl_own, stW_own, stW_val, deref_non, deref_bl, deref_int, deref_str, deref_tup, deref_lst, deref_dic, deref_ref, deref_own, slC_own, slC_val, wp_op2, wp_op1, wp_bin, wp_un, wp_consM, wp_nilM, wp_opn, drf_nil, drf_one, drf_two, wp_tupM, wp_lstM, wp_newM, wp_stls_nil, wp_stls_cons, wp_tst, asB_bl, wp_notM, wp_andM, wp_orM, wp_andV, wp_orV, wp_notV, wp_iteM, wp_chain, wp_sl, wp_optN, wp_optS, intO_none, intO_int, wp_isT, wp_joinM, wp_mutM, wp_mutA, isOw_own, wp_up_own, wp_up_ref, wp_setIx, flW_nx, flW_rt, flW_bk, flW_ct, wp_seq, wp_pass, wp_brk, wp_cnt, wp_setV, wp_setO, wp_drp, wp_retM, wp_retN, wp_ofT, wp_setT, gT_tup, gTs_nil, gTs_cons, gN_eq, wp_nilP, wp_consP, wp_stlP_nil, wp_stlP_t, wp_stlP_f, wp_parM, wrP_nil, wrP_t, wrP_f, wp_forM, wp_walkM, itemsD_tup, itemsD_lst, wp_rng1, wp_rng2, r1W_int, r2W_int, rtW_rt, rtW_nx, foW_nx, foW_ct, foW_bk, foW_rt, wp_forL_nil, wp_forL_cons, wp_compM, wipe_s, wipe_z, wipe_ss, wipe_zs, wipe_sz, wp_tYes, wp_callM, wp_callP, permD, List.map_cons, List.map_nil, List.getD_cons_zero, List.getD_cons_succ, List.cons_append, List.nil_append, List.getElem?_cons_zero, List.getElem?_cons_succ, List.set_cons_zero, List.set_cons_succ, Option.map_some, Option.bind_some, Option.some.injEq, Option.isSome_some, exists_eq_left', exists_eq_left, exists_and_left, true_and, and_true, decide_eq_true_eq, List.length_cons, List.length_nil, if_true, if_false, addD_i, subD_i, negD_i, ltD_i, leD_i, gtD_i, geD_i, lenF_t, lenF_l, lenF_d, absF_i, intF_i, intF_b, tupF_t, tupF_l, lstF_t, lstF_l, ixD_l, ixD_t, at1_0, at2_1, at3_2, isL_l, isS_s, popF_0, eqD_i, neD_i, eqD_s, neD_s, slD_l, slD_t, setF_30, setF_31, setF_32, neD_00, neD_10, Nat.zero_le, Nat.reduceAdd, Nat.reduceLeDiff, Bool.false_eq_true, reduceIte, Prod.mk.injEq, and_assoc, eq_self, decide_true, decide_false, not_true_eq_false, not_false_eq_true, Bool.not_true, Bool.not_false, ecut]
        have hsl := hss.length_le
        refine wp_compB (fun acc r st5 => BagOk st5 ∧ ∃ (done rest : List Int), acc = done.map .int ∧ r = rest.map .int ∧ (∀ y ∈ rest, 1 ≤ y ∧ y < x0) ∧ (∀ y ∈ done, (1 ≤ y ∧ y < x0) ∨ (1 ≤ -y ∧ -y < x0)) ∧ done.length + rest.length ≤ 100) (by rfl)
          ⟨hb4, [], ss, rfl, rfl, fun y hy => q1 y (hss.subset hy), by simp, by simp; omega⟩ ?_ ?_
        · rintro acc x r st5 ⟨hb5, done, rest, rfl, hr5, u1, u2, u3⟩
          cases rest with
          | nil => cases hr5
          | cons y rest =>
            rw [List.map_cons] at hr5
            cases hr5
            have hy := u1 y (by simp)
            rw [List.length_cons] at u3
            refine ⟨_, rfl, ?_⟩
            simp only [wp_ret, wp_bind, wp_ite, wp_opt, wp_need, wp_rd, slW_val, slW_own, stl_non, stl_bl, stl_int, stl_str, stl_tup, stl_lst, stl_dic, stl_ref, wp_stl_own, stW_own, stW_val, deref_non, deref_bl, deref_int, deref_str, deref_tup, deref_lst, deref_dic, deref_ref, deref_own, slC_own, slC_val, wp_op2, wp_op1, wp_bin, wp_un, wp_consM, wp_nilM, wp_opn, drf_nil, drf_one, drf_two, wp_tupM, wp_lstM, wp_newM, wp_stls_nil, wp_stls_cons, wp_tst, asB_bl, wp_notM, wp_andM, wp_orM, wp_andV, wp_orV, wp_notV, wp_iteM, wp_chain, wp_sl, wp_optN, wp_optS, intO_none, intO_int, wp_isT, wp_joinM, wp_mutM, wp_mutA, isOw_own, wp_up_own, wp_up_ref, wp_setIx, flW_nx, flW_rt, flW_bk, flW_ct, wp_seq, wp_pass, wp_brk, wp_cnt, wp_setV, wp_setO, wp_drp, wp_retM, wp_retN, wp_ofT, wp_setT, gT_tup, gTs_nil, gTs_cons, gN_eq, wp_nilP, wp_consP, wp_stlP_nil, wp_stlP_t, wp_stlP_f, wp_parM, wrP_nil, wrP_t, wrP_f, wp_forM, wp_walkM, itemsD_tup, itemsD_lst, wp_rng1, wp_rng2, r1W_int, r2W_int, rtW_rt, rtW_nx, foW_nx, foW_ct, foW_bk, foW_rt, wp_forL_nil, wp_forL_cons, wp_compM, wipe_s, wipe_z, wipe_ss, wipe_zs, wipe_sz, wp_tYes, wp_callM, wp_callP, permD, List.map_cons, List.map_nil, List.getD_cons_zero, List.getD_cons_succ, List.cons_append, List.nil_append, List.getElem?_cons_zero, List.getElem?_cons_succ, List.set_cons_zero, List.set_cons_succ, Option.map_some, Option.bind_some, Option.some.injEq, Option.isSome_some, exists_eq_left', exists_eq_left, exists_and_left, true_and, and_true, decide_eq_true_eq, List.length_cons, List.length_nil, if_true, if_false, addD_i, subD_i, negD_i, ltD_i, leD_i, gtD_i, geD_i, lenF_t, lenF_l, lenF_d, absF_i, intF_i, intF_b, tupF_t, tupF_l, lstF_t, lstF_l, ixD_l, ixD_t, at1_0, at2_1, at3_2, isL_l, isS_s, popF_0, eqD_i, neD_i, eqD_s, neD_s, slD_l, slD_t, setF_30, setF_31, setF_32, neD_00, neD_10, Nat.zero_le, Nat.reduceAdd, Nat.reduceLeDiff, Bool.false_eq_true, reduceIte, Prod.mk.injEq, and_assoc, eq_self, decide_true, decide_false, not_true_eq_false, not_false_eq_true, Bool.not_true, Bool.not_false]
            refine (pick_is hb5 hs0 (by omega)).imp fun d st6 hd => ?_
            obtain ⟨k, rfl, hk, hb6⟩ := hd
            simp only [wp_ret, wp_bind, wp_ite, wp_opt, wp_need, wp_rd, slW_val, slW_own, stl_non, stl_bl, stl_int, stl_str, stl_tup, stl_lst, stl_dic, stl_ref, wp_stl_own, stW_own, stW_val, deref_non, deref_bl, deref_int, deref_str, deref_tup, deref_lst, deref_dic, deref_ref, deref_own, slC_own, slC_val, wp_op2, wp_op1, wp_bin, wp_un, wp_consM, wp_nilM, wp_opn, drf_nil, drf_one, drf_two, wp_tupM, wp_lstM, wp_newM, wp_stls_nil, wp_stls_cons, wp_tst, asB_bl, wp_notM, wp_andM, wp_orM, wp_andV, wp_orV, wp_notV, wp_iteM, wp_chain, wp_sl, wp_optN, wp_optS, intO_none, intO_int, wp_isT, wp_joinM, wp_mutM, wp_mutA, isOw_own, wp_up_own, wp_up_ref, wp_setIx, flW_nx, flW_rt, flW_bk, flW_ct, wp_seq, wp_pass, wp_brk, wp_cnt, wp_setV, wp_setO, wp_drp, wp_retM, wp_retN, wp_ofT, wp_setT, gT_tup, gTs_nil, gTs_cons, gN_eq, wp_nilP, wp_consP, wp_stlP_nil, wp_stlP_t, wp_stlP_f, wp_parM, wrP_nil, wrP_t, wrP_f, wp_forM, wp_walkM, itemsD_tup, itemsD_lst, wp_rng1, wp_rng2, r1W_int, r2W_int, rtW_rt, rtW_nx, foW_nx, foW_ct, foW_bk, foW_rt, wp_forL_nil, wp_forL_cons, wp_compM, wipe_s, wipe_z, wipe_ss, wipe_zs, wipe_sz, wp_tYes, wp_callM, wp_callP, permD, List.map_cons, List.map_nil, List.getD_cons_zero, List.getD_cons_succ, List.cons_append, List.nil_append, List.getElem?_cons_zero, List.getElem?_cons_succ, List.set_cons_zero, List.set_cons_succ, Option.map_some, Option.bind_some, Option.some.injEq, Option.isSome_some, exists_eq_left', exists_eq_left, exists_and_left, true_and, and_true, decide_eq_true_eq, List.length_cons, List.length_nil, if_true, if_false, addD_i, subD_i, negD_i, ltD_i, leD_i, gtD_i, geD_i, lenF_t, lenF_l, lenF_d, absF_i, intF_i, intF_b, tupF_t, tupF_l, lstF_t, lstF_l, ixD_l, ixD_t, at1_0, at2_1, at3_2, isL_l, isS_s, popF_0, eqD_i, neD_i, eqD_s, neD_s, slD_l, slD_t, setF_30, setF_31, setF_32, neD_00, neD_10, Nat.zero_le, Nat.reduceAdd, Nat.reduceLeDiff, Bool.false_eq_true, reduceIte, Prod.mk.injEq, and_assoc, eq_self, decide_true, decide_false, not_true_eq_false, not_false_eq_true, Bool.not_true, Bool.not_false, mulD_l (a := y) (b := k) (by omega)]
            refine ⟨by rw [List.length_map]; omega, hb6, done ++ [y * k], by simp, rest, rfl, fun z hz => u1 z (List.mem_cons_of_mem _ hz), fun z hz => ?_, by rw [List.length_append, List.length_singleton]; omega⟩
            rcases List.mem_append.mp hz with hz | hz
            · exact u2 z hz
            · rw [List.mem_singleton.mp hz]
              rcases hs k hk with rfl | rfl
              · left; omega
              · right; omega
        · rintro acc st5 ⟨hb5, done, rest, rfl, hr5, u1, u2, u3⟩
          simp only [wp_ret, wp_bind, wp_ite, wp_opt, wp_need, wp_rd, slW_val, slW_own, stl_non, stl_bl, stl_int, stl_str, stl_tup, stl_lst, stl_dic, stl_ref, wp_stl_own, stW_own, stW_val, deref_non, deref_bl, deref_int, deref_str, deref_tup, deref_lst, deref_dic, deref_ref, deref_own, slC_own, slC_val, wp_op2, wp_op1, wp_bin, wp_un, wp_consM, wp_nilM, wp_opn, drf_nil, drf_one, drf_two, wp_tupM, wp_lstM, wp_newM, wp_stls_nil, wp_stls_cons, wp_tst, asB_bl, wp_notM, wp_andM, wp_orM, wp_andV, wp_orV, wp_notV, wp_iteM, wp_chain, wp_sl, wp_optN, wp_optS, intO_none, intO_int, wp_isT, wp_joinM, wp_mutM, wp_mutA, isOw_own, wp_up_own, wp_up_ref, wp_setIx, flW_nx, flW_rt, flW_bk, flW_ct, wp_seq, wp_pass, wp_brk, wp_cnt, wp_setV, wp_setO, wp_drp, wp_retM, wp_retN, wp_ofT, wp_setT, gT_tup, gTs_nil, gTs_cons, gN_eq, wp_nilP, wp_consP, wp_stlP_nil, wp_stlP_t, wp_stlP_f, wp_parM, wrP_nil, wrP_t, wrP_f, wp_forM, wp_walkM, itemsD_tup, itemsD_lst, wp_rng1, wp_rng2, r1W_int, r2W_int, rtW_rt, rtW_nx, foW_nx, foW_ct, foW_bk, foW_rt, wp_forL_nil, wp_forL_cons, wp_compM, wipe_s, wipe_z, wipe_ss, wipe_zs, wipe_sz, wp_tYes, wp_callM, wp_callP, permD, List.map_cons, List.map_nil, List.getD_cons_zero, List.getD_cons_succ, List.cons_append, List.nil_append, List.getElem?_cons_zero, List.getElem?_cons_succ, List.set_cons_zero, List.set_cons_succ, Option.map_some, Option.bind_some, Option.some.injEq, Option.isSome_some, exists_eq_left', exists_eq_left, exists_and_left, true_and, and_true, decide_eq_true_eq, List.length_cons, List.length_nil, if_true, if_false, addD_i, subD_i, negD_i, ltD_i, leD_i, gtD_i, geD_i, lenF_t, lenF_l, lenF_d, absF_i, intF_i, intF_b, tupF_t, tupF_l, lstF_t, lstF_l, ixD_l, ixD_t, at1_0, at2_1, at3_2, isL_l, isS_s, popF_0, eqD_i, neD_i, eqD_s, neD_s, slD_l, slD_t, setF_30, setF_31, setF_32, neD_00, neD_10, Nat.zero_le, Nat.reduceAdd, Nat.reduceLeDiff, Bool.false_eq_true, reduceIte, Prod.mk.injEq, and_assoc, eq_self, decide_true, decide_false, not_true_eq_false, not_false_eq_true, Bool.not_true, Bool.not_false, sortAF_i]
          have hsa : ∀ y ∈ sortA done, (1 ≤ y ∧ y < x0) ∨ (1 ≤ -y ∧ -y < x0) := fun y hy => u2 y ((List.mergeSort_perm done _).mem_iff.mp hy)
          have hla : (sortA done).length ≤ 100 := by unfold sortA; rw [List.length_mergeSort]; omega
          have hll : (encH l).length < 16777216 := by
            have := hl.len
            unfold encH
            rw [List.length_map]
            omega
          refine (draw_ok hb5 (by omega) (by omega)).imp fun d st6 hd => ?_
          obtain ⟨z3, rfl, _, _, hb6⟩ := hd
          simp only [wp_ret, wp_bind, wp_ite, wp_opt, wp_need, wp_rd, slW_val, slW_own, stl_non, stl_bl, stl_int, stl_str, stl_tup, stl_lst, stl_dic, stl_ref, wp_stl_own, stW_own, stW_val, deref_non, deref_bl, deref_int, deref_str, deref_tup, deref_lst, deref_dic, deref_ref, deref_own, slC_own, slC_val, wp_op2, wp_op1, wp_bin, wp_un, wp_consM, wp_nilM, wp_opn, drf_nil, drf_one, drf_two, wp_tupM, wp_lstM, wp_newM, wp_stls_nil, wp_stls_cons, wp_tst, asB_bl, wp_notM, wp_andM, wp_orM, wp_andV, wp_orV, wp_notV, wp_iteM, wp_chain, wp_sl, wp_optN, wp_optS, intO_none, intO_int, wp_isT, wp_joinM, wp_mutM, wp_mutA, isOw_own, wp_up_own, wp_up_ref, wp_setIx, flW_nx, flW_rt, flW_bk, flW_ct, wp_seq, wp_pass, wp_brk, wp_cnt, wp_setV, wp_setO, wp_drp, wp_retM, wp_retN, wp_ofT, wp_setT, gT_tup, gTs_nil, gTs_cons, gN_eq, wp_nilP, wp_consP, wp_stlP_nil, wp_stlP_t, wp_stlP_f, wp_parM, wrP_nil, wrP_t, wrP_f, wp_forM, wp_walkM, itemsD_tup, itemsD_lst, wp_rng1, wp_rng2, r1W_int, r2W_int, rtW_rt, rtW_nx, foW_nx, foW_ct, foW_bk, foW_rt, wp_forL_nil, wp_forL_cons, wp_compM, wipe_s, wipe_z, wipe_ss, wipe_zs, wipe_sz, wp_tYes, wp_callM, wp_callP, permD, List.map_cons, List.map_nil, List.getD_cons_zero, List.getD_cons_succ, List.cons_append, List.nil_append, List.getElem?_cons_zero, List.getElem?_cons_succ, List.set_cons_zero, List.set_cons_succ, Option.map_some, Option.bind_some, Option.some.injEq, Option.isSome_some, exists_eq_left', exists_eq_left, exists_and_left, true_and, and_true, decide_eq_true_eq, List.length_cons, List.length_nil, if_true, if_false, addD_i, subD_i, negD_i, ltD_i, leD_i, gtD_i, geD_i, lenF_t, lenF_l, lenF_d, absF_i, intF_i, intF_b, tupF_t, tupF_l, lstF_t, lstF_l, ixD_l, ixD_t, at1_0, at2_1, at3_2, isL_l, isS_s, popF_0, eqD_i, neD_i, eqD_s, neD_s, slD_l, slD_t, setF_30, setF_31, setF_32, neD_00, neD_10, Nat.zero_le, Nat.reduceAdd, Nat.reduceLeDiff, Bool.false_eq_true, reduceIte, Prod.mk.injEq, and_assoc, eq_self, decide_true, decide_false, not_true_eq_false, not_false_eq_true, Bool.not_true, Bool.not_false]
          split
          · simp only [wp_ret, wp_bind, wp_ite, wp_opt, wp_need, wp_rd, slW_val, slW_own, stl_non, stl_bl, stl_int, stl_str, stl_tup, stl_lst, stl_dic, stl_ref, wp_stl_own, stW_own, stW_val, deref_non, deref_bl, deref_int, deref_str, deref_tup, deref_lst, deref_dic, deref_ref, deref_own, slC_own, slC_val, wp_op2, wp_op1, wp_bin, wp_un, wp_consM, wp_nilM, wp_opn, drf_nil, drf_one, drf_two, wp_tupM, wp_lstM, wp_newM, wp_stls_nil, wp_stls_cons, wp_tst, asB_bl, wp_notM, wp_andM, wp_orM, wp_andV, wp_orV, wp_notV, wp_iteM, wp_chain, wp_sl, wp_optN, wp_optS, intO_none, intO_int, wp_isT, wp_joinM, wp_mutM, wp_mutA, isOw_own, wp_up_own, wp_up_ref, wp_setIx, flW_nx, flW_rt, flW_bk, flW_ct, wp_seq, wp_pass, wp_brk, wp_cnt, wp_setV, wp_setO, wp_drp, wp_retM, wp_retN, wp_ofT, wp_setT, gT_tup, gTs_nil, gTs_cons, gN_eq, wp_nilP, wp_consP, wp_stlP_nil, wp_stlP_t, wp_stlP_f, wp_parM, wrP_nil, wrP_t, wrP_f, wp_forM, wp_walkM, itemsD_tup, itemsD_lst, wp_rng1, wp_rng2, r1W_int, r2W_int, rtW_rt, rtW_nx, foW_nx, foW_ct, foW_bk, foW_rt, wp_forL_nil, wp_forL_cons, wp_compM, wipe_s, wipe_z, wipe_ss, wipe_zs, wipe_sz, wp_tYes, wp_callM, wp_callP, permD, List.map_cons, List.map_nil, List.getD_cons_zero, List.getD_cons_succ, List.cons_append, List.nil_append, List.getElem?_cons_zero, List.getElem?_cons_succ, List.set_cons_zero, List.set_cons_succ, Option.map_some, Option.bind_some, Option.some.injEq, Option.isSome_some, exists_eq_left', exists_eq_left, exists_and_left, true_and, and_true, decide_eq_true_eq, List.length_cons, List.length_nil, if_true, if_false, addD_i, subD_i, negD_i, ltD_i, leD_i, gtD_i, geD_i, lenF_t, lenF_l, lenF_d, absF_i, intF_i, intF_b, tupF_t, tupF_l, lstF_t, lstF_l, ixD_l, ixD_t, at1_0, at2_1, at3_2, isL_l, isS_s, popF_0, eqD_i, neD_i, eqD_s, neD_s, slD_l, slD_t, setF_30, setF_31, setF_32, neD_00, neD_10, Nat.zero_le, Nat.reduceAdd, Nat.reduceLeDiff, Bool.false_eq_true, reduceIte, Prod.mk.injEq, and_assoc, eq_self, decide_true, decide_false, not_true_eq_false, not_false_eq_true, Bool.not_true, Bool.not_false, appF_l hll]
            exact ⟨x0 + 1, rfl, by omega, by omega, _, hl.add h3 hS none (by simp), st6, hb6, _, _, _, _, by rw [← encH_add]; rfl⟩
          · simp only [wp_ret, wp_bind, wp_ite, wp_opt, wp_need, wp_rd, slW_val, slW_own, stl_non, stl_bl, stl_int, stl_str, stl_tup, stl_lst, stl_dic, stl_ref, wp_stl_own, stW_own, stW_val, deref_non, deref_bl, deref_int, deref_str, deref_tup, deref_lst, deref_dic, deref_ref, deref_own, slC_own, slC_val, wp_op2, wp_op1, wp_bin, wp_un, wp_consM, wp_nilM, wp_opn, drf_nil, drf_one, drf_two, wp_tupM, wp_lstM, wp_newM, wp_stls_nil, wp_stls_cons, wp_tst, asB_bl, wp_notM, wp_andM, wp_orM, wp_andV, wp_orV, wp_notV, wp_iteM, wp_chain, wp_sl, wp_optN, wp_optS, intO_none, intO_int, wp_isT, wp_joinM, wp_mutM, wp_mutA, isOw_own, wp_up_own, wp_up_ref, wp_setIx, flW_nx, flW_rt, flW_bk, flW_ct, wp_seq, wp_pass, wp_brk, wp_cnt, wp_setV, wp_setO, wp_drp, wp_retM, wp_retN, wp_ofT, wp_setT, gT_tup, gTs_nil, gTs_cons, gN_eq, wp_nilP, wp_consP, wp_stlP_nil, wp_stlP_t, wp_stlP_f, wp_parM, wrP_nil, wrP_t, wrP_f, wp_forM, wp_walkM, itemsD_tup, itemsD_lst, wp_rng1, wp_rng2, r1W_int, r2W_int, rtW_rt, rtW_nx, foW_nx, foW_ct, foW_bk, foW_rt, wp_forL_nil, wp_forL_cons, wp_compM, wipe_s, wipe_z, wipe_ss, wipe_zs, wipe_sz, wp_tYes, wp_callM, wp_callP, permD, List.map_cons, List.map_nil, List.getD_cons_zero, List.getD_cons_succ, List.cons_append, List.nil_append, List.getElem?_cons_zero, List.getElem?_cons_succ, List.set_cons_zero, List.set_cons_succ, Option.map_some, Option.bind_some, Option.some.injEq, Option.isSome_some, exists_eq_left', exists_eq_left, exists_and_left, true_and, and_true, decide_eq_true_eq, List.length_cons, List.length_nil, if_true, if_false, addD_i, subD_i, negD_i, ltD_i, leD_i, gtD_i, geD_i, lenF_t, lenF_l, lenF_d, absF_i, intF_i, intF_b, tupF_t, tupF_l, lstF_t, lstF_l, ixD_l, ixD_t, at1_0, at2_1, at3_2, isL_l, isS_s, popF_0, eqD_i, neD_i, eqD_s, neD_s, slD_l, slD_t, setF_30, setF_31, setF_32, neD_00, neD_10, Nat.zero_le, Nat.reduceAdd, Nat.reduceLeDiff, Bool.false_eq_true, reduceIte, Prod.mk.injEq, and_assoc, eq_self, decide_true, decide_false, not_true_eq_false, not_false_eq_true, Bool.not_true, Bool.not_false, appF_l hll]
            exact ⟨x0 + 1, rfl, by omega, by omega, _, hl.add h3 hS (some (sortA done)) (by rintro row hr; cases hr; exact ⟨hla, hsa⟩), st6, hb6, _, _, _, _, by rw [← encH_add]; rfl⟩
    · rename_i hcs
      exact ⟨x0 + 1, rfl, by omega, by omega, l, hl.skip (by rw [hc, decide_eq_false hcs]), st', hb, _, _, _, _, rfl⟩
  · rintro s ⟨x0, l, st', a5, a6, a7, a8, hr, h3, h4, hl, hb, rfl⟩
    have := rng_end hr
    obtain rfl : x0 = w.length + 1 := by omega
    simp only [wp_ret, wp_bind, wp_ite, wp_opt, wp_need, wp_rd, slW_val, slW_own, stl_non, stl_bl, stl_int, stl_str, stl_tup, stl_lst, stl_dic, stl_ref, wp_stl_own, stW_own, stW_val, deref_non, deref_bl, deref_int, deref_str, deref_tup, deref_lst, deref_dic, deref_ref, deref_own, slC_own, slC_val, wp_op2, wp_op1, wp_bin, wp_un, wp_consM, wp_nilM, wp_opn, drf_nil, drf_one, drf_two, wp_tupM, wp_lstM, wp_newM, wp_stls_nil, wp_stls_cons, wp_tst, asB_bl, wp_notM, wp_andM, wp_orM, wp_andV, wp_orV, wp_notV, wp_iteM, wp_chain, wp_sl, wp_optN, wp_optS, intO_none, intO_int, wp_isT, wp_joinM, wp_mutM, wp_mutA, isOw_own, wp_up_own, wp_up_ref, wp_setIx, flW_nx, flW_rt, flW_bk, flW_ct, wp_seq, wp_pass, wp_brk, wp_cnt, wp_setV, wp_setO, wp_drp, wp_retM, wp_retN, wp_ofT, wp_setT, gT_tup, gTs_nil, gTs_cons, gN_eq, wp_nilP, wp_consP, wp_stlP_nil, wp_stlP_t, wp_stlP_f, wp_parM, wrP_nil, wrP_t, wrP_f, wp_forM, wp_walkM, itemsD_tup, itemsD_lst, wp_rng1, wp_rng2, r1W_int, r2W_int, rtW_rt, rtW_nx, foW_nx, foW_ct, foW_bk, foW_rt, wp_forL_nil, wp_forL_cons, wp_compM, wipe_s, wipe_z, wipe_ss, wipe_zs, wipe_sz, wp_tYes, wp_callM, wp_callP, permD, List.map_cons, List.map_nil, List.getD_cons_zero, List.getD_cons_succ, List.cons_append, List.nil_append, List.getElem?_cons_zero, List.getElem?_cons_succ, List.set_cons_zero, List.set_cons_succ, Option.map_some, Option.bind_some, Option.some.injEq, Option.isSome_some, exists_eq_left', exists_eq_left, exists_and_left, true_and, and_true, decide_eq_true_eq, List.length_cons, List.length_nil, if_true, if_false, addD_i, subD_i, negD_i, ltD_i, leD_i, gtD_i, geD_i, lenF_t, lenF_l, lenF_d, absF_i, intF_i, intF_b, tupF_t, tupF_l, lstF_t, lstF_l, ixD_l, ixD_t, at1_0, at2_1, at3_2, isL_l, isS_s, popF_0, eqD_i, neD_i, eqD_s, neD_s, slD_l, slD_t, setF_30, setF_31, setF_32, neD_00, neD_10, Nat.zero_le, Nat.reduceAdd, Nat.reduceLeDiff, Bool.false_eq_true, reduceIte, Prod.mk.injEq, and_assoc, eq_self, decide_true, decide_false, not_true_eq_false, not_false_eq_true, Bool.not_true, Bool.not_false]
    exact ⟨l, rfl, hl, hb⟩
/-! ### the answers -/
def yes (row pl : List Int) : Bool := row.all fun y => decide (y ∈ pl)
def reply (a : Ans) (x : Int) (pl : List Int) : Int := match a with
  | none => -x
  | some row => if yes row pl = true then x else -x
theorem pl_encA {n : Nat} (a : Ans) : D.pl (n + 2) (encA a) = true := by
  cases a with
  | none => exact pl_tup (by simp; exact pl_str (by decide +kernel))
  | some row =>
    refine pl_tup fun z hz => ?_
    simp only [List.mem_cons, List.not_mem_nil, or_false] at hz
    rcases hz with rfl | rfl
    · exact pl_str (by decide +kernel)
    · exact pl_tup pl_ints
theorem eq_no : eqD (encA none) (.tup [.str "no"]) = some (.bl true) := by
  rw [eqD_of (pl_encA none) (pl_tup (by simp; exact pl_str (by decide +kernel)))]
  show some (D.bl (D.eq (.tup [.str "no"]) (.tup [.str "no"]))) = _
  rw [deq_tt, deq_s, deq_t0]; rfl
theorem eq_all {row : List Int} : eqD (encA (some row)) (.tup [.str "no"]) = some (.bl false) := by
  rw [eqD_of (pl_encA _) (pl_tup (by simp; exact pl_str (by decide +kernel)))]
  show some (D.bl (D.eq (.tup [.str "all", .tup (row.map .int)]) (.tup [.str "no"]))) = _
  rw [deq_tt, deq_s]; rfl
theorem dic_enc {l : List (Int × Ans)} : dicTF [.tup (encH l)] = some (.dic (mergeD [] (l.map fun p => (Sum.inl p.1, encA p.2)))) := by
  have h : (encH l).mapM pairK = some (l.map fun p => ((Sum.inl p.1 : Key), encA p.2)) := by
    unfold encH
    induction l with
    | nil => rfl
    | cons p l ih =>
      rw [List.map_cons, List.mapM_cons, ih]
      rfl
  show (((encH l).mapM pairK).map fun ps => D.dic (mergeD [] ps)) = _
  rw [h]; rfl
theorem look_enc {l : List (Int × Ans)} {x : Int} {a : Ans} (nd : (l.map (·.1)).Nodup) (h : (x, a) ∈ l) : ixD (.dic (mergeD [] (l.map fun p => (Sum.inl p.1, encA p.2)))) (.int x) = some (encA a) := by
  show lookD (.inl x) (mergeD [] (l.map fun p => (Sum.inl p.1, encA p.2))) = _
  rw [look_merge (by simp)]
  refine lastK_nodup ?_ (List.mem_map.mpr ⟨(x, a), h, rfl⟩)
  rw [List.map_map]
  have e : ((fun p : Key × D => p.1) ∘ fun p : Int × Ans => ((Sum.inl p.1 : Key), encA p.2)) = (Sum.inl : Int → Key) ∘ fun p : Int × Ans => p.1 := rfl
  rw [e, ← List.map_map]
  exact List.Pairwise.map _ (fun _ _ h q => h (Sum.inl.inj q)) nd
theorem all_in {row pl : List Int} : allF [.lst (((row.map D.int).filter fun _ => true).map fun d => match d with | .int y => .bl (decide (y ∈ pl)) | d => d)] = some (.bl (yes row pl)) := by
  have e : (((row.map D.int).filter fun _ => true).map fun d => match d with | .int y => D.bl (decide (y ∈ pl)) | d => d) = (row.map fun y => decide (y ∈ pl)).map .bl := by
    rw [List.filter_eq_self.mpr (by simp), List.map_map, List.map_map]
    rfl
  rw [e, allF_b]
  congr 2
  unfold yes
  rw [List.all_map]
  rfl
def out (pl : List Int) : D → Bool
  | .int y => !decide (y ∈ pl)
  | _ => false
theorem ones {row pl : List Int} : eqD (.lst (((row.map D.int).filter (out pl)).map fun _ => .int 1)) (.lst []) = some (.bl (yes row pl)) := by
  rw [eqD_nil (fun z hz => by obtain ⟨_, _, rfl⟩ := List.mem_map.mp hz; exact pl_int)]
  congr 2
  unfold yes
  induction row with
  | nil => rfl
  | cons y row ih =>
    rw [List.map_cons, List.all_cons]
    by_cases h : y ∈ pl
    · rw [List.filter_cons_of_neg (by simp [out, h]), ih, decide_eq_true h, Bool.true_and]
    · rw [List.filter_cons_of_pos (by simp [out, h]), decide_eq_false h]
      rfl
theorem at_enc0 {row : List Int} : ixD (encA (some row)) (.int 0) = some (.str "all") := by rfl
theorem at_enc1 {row : List Int} : ixD (encA (some row)) (.int 1) = some (.tup (row.map .int)) := by rfl
theorem at_no0 : ixD (encA none) (.int 0) = some (.str "no") := by rfl
theorem stl_enc {a : Ans} : stl (encA a) = ret (encA a) := stl_v (isv_encA a)
theorem drf_enc {a : Ans} {s : A} : deref (encA a) s = some (encA a) := by cases a <;> rfl
theorem no_all : ¬ ((Str.ofString "no") = Str.ofString "all") := by decide +kernel
theorem reply_ok {n : Nat} {l : List (Int × Ans)} {pl : List Int} {st : List D} {a : Ans} (nd : (l.map (·.1)).Nodup) (h : ((pl.length : Int) + 1, a) ∈ l) (hr : ∀ row, a = some row → row.length ≤ 100) :
    Cw (callF T (n + 1)) 0 [.tup (encH l), .tup (pl.map .int)] st fun d st' => d = .int (reply a (pl.length + 1) pl) ∧ st' = st := by
  refine c_0 ?_
  unfold b_0
  simp only [wp_ret, wp_bind, wp_ite, wp_opt, wp_need, wp_rd, slW_val, slW_own, stl_non, stl_bl, stl_int, stl_str, stl_tup, stl_lst, stl_dic, stl_ref, wp_stl_own, stW_own, stW_val, deref_non, deref_bl, deref_int, deref_str, deref_tup, deref_lst, deref_dic, deref_ref, deref_own, slC_own, slC_val, wp_op2, wp_op1, wp_bin, wp_un, wp_consM, wp_nilM, wp_opn, drf_nil, drf_one, drf_two, wp_tupM, wp_lstM, wp_newM, wp_stls_nil, wp_stls_cons, wp_tst, asB_bl, wp_notM, wp_andM, wp_orM, wp_andV, wp_orV, wp_notV, wp_iteM, wp_chain, wp_sl, wp_optN, wp_optS, intO_none, intO_int, wp_isT, wp_joinM, wp_mutM, wp_mutA, isOw_own, wp_up_own, wp_up_ref, wp_setIx, flW_nx, flW_rt, flW_bk, flW_ct, wp_seq, wp_pass, wp_brk, wp_cnt, wp_setV, wp_setO, wp_drp, wp_retM, wp_retN, wp_ofT, wp_setT, gT_tup, gTs_nil, gTs_cons, gN_eq, wp_nilP, wp_consP, wp_stlP_nil, wp_stlP_t, wp_stlP_f, wp_parM, wrP_nil, wrP_t, wrP_f, wp_forM, wp_walkM, itemsD_tup, itemsD_lst, wp_rng1, wp_rng2, r1W_int, r2W_int, rtW_rt, rtW_nx, foW_nx, foW_ct, foW_bk, foW_rt, wp_forL_nil, wp_forL_cons, wp_compM, wipe_s, wipe_z, wipe_ss, wipe_zs, wipe_sz, wp_tYes, wp_callM, wp_callP, permD, List.map_cons, List.map_nil, List.getD_cons_zero, List.getD_cons_succ, List.cons_append, List.nil_append, List.getElem?_cons_zero, List.getElem?_cons_succ, List.set_cons_zero, List.set_cons_succ, Option.map_some, Option.bind_some, Option.some.injEq, Option.isSome_some, exists_eq_left', exists_eq_left, exists_and_left, true_and, and_true, decide_eq_true_eq, List.length_cons, List.length_nil, if_true, if_false, addD_i, subD_i, negD_i, ltD_i, leD_i, gtD_i, geD_i, lenF_t, lenF_l, lenF_d, absF_i, intF_i, intF_b, tupF_t, tupF_l, lstF_t, lstF_l, ixD_l, ixD_t, at1_0, at2_1, at3_2, isL_l, isS_s, popF_0, eqD_i, neD_i, eqD_s, neD_s, slD_l, slD_t, setF_30, setF_31, setF_32, neD_00, neD_10, Nat.zero_le, Nat.reduceAdd, Nat.reduceLeDiff, Bool.false_eq_true, reduceIte, Prod.mk.injEq, and_assoc, eq_self, decide_true, decide_false, not_true_eq_false, not_false_eq_true, Bool.not_true, Bool.not_false, dic_enc, List.length_map, look_enc nd h, stl_enc, drf_enc]
  cases a with
  | none =>
    simp only [wp_ret, wp_bind, wp_ite, wp_opt, wp_need, wp_rd, slW_val, slW_own, stl_non, stl_bl, stl_int, stl_str, stl_tup, stl_lst, stl_dic, stl_ref, wp_stl_own, stW_own, stW_val, deref_non, deref_bl, deref_int, deref_str, deref_tup, deref_lst, deref_dic, deref_ref, deref_own, slC_own, slC_val, wp_op2, wp_op1, wp_bin, wp_un, wp_consM, wp_nilM, wp_opn, drf_nil, drf_one, drf_two, wp_tupM, wp_lstM, wp_newM, wp_stls_nil, wp_stls_cons, wp_tst, asB_bl, wp_notM, wp_andM, wp_orM, wp_andV, wp_orV, wp_notV, wp_iteM, wp_chain, wp_sl, wp_optN, wp_optS, intO_none, intO_int, wp_isT, wp_joinM, wp_mutM, wp_mutA, isOw_own, wp_up_own, wp_up_ref, wp_setIx, flW_nx, flW_rt, flW_bk, flW_ct, wp_seq, wp_pass, wp_brk, wp_cnt, wp_setV, wp_setO, wp_drp, wp_retM, wp_retN, wp_ofT, wp_setT, gT_tup, gTs_nil, gTs_cons, gN_eq, wp_nilP, wp_consP, wp_stlP_nil, wp_stlP_t, wp_stlP_f, wp_parM, wrP_nil, wrP_t, wrP_f, wp_forM, wp_walkM, itemsD_tup, itemsD_lst, wp_rng1, wp_rng2, r1W_int, r2W_int, rtW_rt, rtW_nx, foW_nx, foW_ct, foW_bk, foW_rt, wp_forL_nil, wp_forL_cons, wp_compM, wipe_s, wipe_z, wipe_ss, wipe_zs, wipe_sz, wp_tYes, wp_callM, wp_callP, permD, List.map_cons, List.map_nil, List.getD_cons_zero, List.getD_cons_succ, List.cons_append, List.nil_append, List.getElem?_cons_zero, List.getElem?_cons_succ, List.set_cons_zero, List.set_cons_succ, Option.map_some, Option.bind_some, Option.some.injEq, Option.isSome_some, exists_eq_left', exists_eq_left, exists_and_left, true_and, and_true, decide_eq_true_eq, List.length_cons, List.length_nil, if_true, if_false, addD_i, subD_i, negD_i, ltD_i, leD_i, gtD_i, geD_i, lenF_t, lenF_l, lenF_d, absF_i, intF_i, intF_b, tupF_t, tupF_l, lstF_t, lstF_l, ixD_l, ixD_t, at1_0, at2_1, at3_2, isL_l, isS_s, popF_0, eqD_i, neD_i, eqD_s, neD_s, slD_l, slD_t, setF_30, setF_31, setF_32, neD_00, neD_10, Nat.zero_le, Nat.reduceAdd, Nat.reduceLeDiff, Bool.false_eq_true, reduceIte, Prod.mk.injEq, and_assoc, eq_self, decide_true, decide_false, not_true_eq_false, not_false_eq_true, Bool.not_true, Bool.not_false, eq_no]
    all_goals first | exact ⟨rfl, rfl⟩ | rfl
  | some row =>
    simp only [wp_ret, wp_bind, wp_ite, wp_opt, wp_need, wp_rd, slW_val, slW_own, stl_non, stl_bl, stl_int, stl_str, stl_tup, stl_lst, stl_dic, stl_ref, wp_stl_own, stW_own, stW_val, deref_non, deref_bl, deref_int, deref_str, deref_tup, deref_lst, deref_dic, deref_ref, deref_own, slC_own, slC_val, wp_op2, wp_op1, wp_bin, wp_un, wp_consM, wp_nilM, wp_opn, drf_nil, drf_one, drf_two, wp_tupM, wp_lstM, wp_newM, wp_stls_nil, wp_stls_cons, wp_tst, asB_bl, wp_notM, wp_andM, wp_orM, wp_andV, wp_orV, wp_notV, wp_iteM, wp_chain, wp_sl, wp_optN, wp_optS, intO_none, intO_int, wp_isT, wp_joinM, wp_mutM, wp_mutA, isOw_own, wp_up_own, wp_up_ref, wp_setIx, flW_nx, flW_rt, flW_bk, flW_ct, wp_seq, wp_pass, wp_brk, wp_cnt, wp_setV, wp_setO, wp_drp, wp_retM, wp_retN, wp_ofT, wp_setT, gT_tup, gTs_nil, gTs_cons, gN_eq, wp_nilP, wp_consP, wp_stlP_nil, wp_stlP_t, wp_stlP_f, wp_parM, wrP_nil, wrP_t, wrP_f, wp_forM, wp_walkM, itemsD_tup, itemsD_lst, wp_rng1, wp_rng2, r1W_int, r2W_int, rtW_rt, rtW_nx, foW_nx, foW_ct, foW_bk, foW_rt, wp_forL_nil, wp_forL_cons, wp_compM, wipe_s, wipe_z, wipe_ss, wipe_zs, wipe_sz, wp_tYes, wp_callM, wp_callP, permD, List.map_cons, List.map_nil, List.getD_cons_zero, List.getD_cons_succ, List.cons_append, List.nil_append, List.getElem?_cons_zero, List.getElem?_cons_succ, List.set_cons_zero, List.set_cons_succ, Option.map_some, Option.bind_some, Option.some.injEq, Option.isSome_some, exists_eq_left', exists_eq_left, exists_and_left, true_and, and_true, decide_eq_true_eq, List.length_cons, List.length_nil, if_true, if_false, addD_i, subD_i, negD_i, ltD_i, leD_i, gtD_i, geD_i, lenF_t, lenF_l, lenF_d, absF_i, intF_i, intF_b, tupF_t, tupF_l, lstF_t, lstF_l, ixD_l, ixD_t, at1_0, at2_1, at3_2, isL_l, isS_s, popF_0, eqD_i, neD_i, eqD_s, neD_s, slD_l, slD_t, setF_30, setF_31, setF_32, neD_00, neD_10, Nat.zero_le, Nat.reduceAdd, Nat.reduceLeDiff, Bool.false_eq_true, reduceIte, Prod.mk.injEq, and_assoc, eq_self, decide_true, decide_false, not_true_eq_false, not_false_eq_true, Bool.not_true, Bool.not_false, eq_all, at_enc1]
    refine wp_compP (fun _ => true) (fun d => match d with | .int y => .bl (decide (y ∈ pl)) | d => d) (by rfl) (by rw [List.length_map]; have := hr row rfl; omega) (fun x hx => ?_) ?_
    · obtain ⟨y, hy, rfl⟩ := List.mem_map.mp hx
      refine ⟨_, rfl, rfl, by simp only [wp_ret, wp_bind, wp_ite, wp_opt, wp_need, wp_rd, slW_val, slW_own, stl_non, stl_bl, stl_int, stl_str, stl_tup, stl_lst, stl_dic, stl_ref, wp_stl_own, stW_own, stW_val, deref_non, deref_bl, deref_int, deref_str, deref_tup, deref_lst, deref_dic, deref_ref, deref_own, slC_own, slC_val, wp_op2, wp_op1, wp_bin, wp_un, wp_consM, wp_nilM, wp_opn, drf_nil, drf_one, drf_two, wp_tupM, wp_lstM, wp_newM, wp_stls_nil, wp_stls_cons, wp_tst, asB_bl, wp_notM, wp_andM, wp_orM, wp_andV, wp_orV, wp_notV, wp_iteM, wp_chain, wp_sl, wp_optN, wp_optS, intO_none, intO_int, wp_isT, wp_joinM, wp_mutM, wp_mutA, isOw_own, wp_up_own, wp_up_ref, wp_setIx, flW_nx, flW_rt, flW_bk, flW_ct, wp_seq, wp_pass, wp_brk, wp_cnt, wp_setV, wp_setO, wp_drp, wp_retM, wp_retN, wp_ofT, wp_setT, gT_tup, gTs_nil, gTs_cons, gN_eq, wp_nilP, wp_consP, wp_stlP_nil, wp_stlP_t, wp_stlP_f, wp_parM, wrP_nil, wrP_t, wrP_f, wp_forM, wp_walkM, itemsD_tup, itemsD_lst, wp_rng1, wp_rng2, r1W_int, r2W_int, rtW_rt, rtW_nx, foW_nx, foW_ct, foW_bk, foW_rt, wp_forL_nil, wp_forL_cons, wp_compM, wipe_s, wipe_z, wipe_ss, wipe_zs, wipe_sz, wp_tYes, wp_callM, wp_callP, permD, List.map_cons, List.map_nil, List.getD_cons_zero, List.getD_cons_succ, List.cons_append, List.nil_append, List.getElem?_cons_zero, List.getElem?_cons_succ, List.set_cons_zero, List.set_cons_succ, Option.map_some, Option.bind_some, Option.some.injEq, Option.isSome_some, exists_eq_left', exists_eq_left, exists_and_left, true_and, and_true, decide_eq_true_eq, List.length_cons, List.length_nil, if_true, if_false, addD_i, subD_i, negD_i, ltD_i, leD_i, gtD_i, geD_i, lenF_t, lenF_l, lenF_d, absF_i, intF_i, intF_b, tupF_t, tupF_l, lstF_t, lstF_l, ixD_l, ixD_t, at1_0, at2_1, at3_2, isL_l, isS_s, popF_0, eqD_i, neD_i, eqD_s, neD_s, slD_l, slD_t, setF_30, setF_31, setF_32, neD_00, neD_10, Nat.zero_le, Nat.reduceAdd, Nat.reduceLeDiff, Bool.false_eq_true, reduceIte, Prod.mk.injEq, and_assoc, eq_self, decide_true, decide_false, not_true_eq_false, not_false_eq_true, Bool.not_true, Bool.not_false], ?_⟩
      simp only [wp_ret, wp_bind, wp_ite, wp_opt, wp_need, wp_rd, slW_val, slW_own, stl_non, stl_bl, stl_int, stl_str, stl_tup, stl_lst, stl_dic, stl_ref, wp_stl_own, stW_own, stW_val, deref_non, deref_bl, deref_int, deref_str, deref_tup, deref_lst, deref_dic, deref_ref, deref_own, slC_own, slC_val, wp_op2, wp_op1, wp_bin, wp_un, wp_consM, wp_nilM, wp_opn, drf_nil, drf_one, drf_two, wp_tupM, wp_lstM, wp_newM, wp_stls_nil, wp_stls_cons, wp_tst, asB_bl, wp_notM, wp_andM, wp_orM, wp_andV, wp_orV, wp_notV, wp_iteM, wp_chain, wp_sl, wp_optN, wp_optS, intO_none, intO_int, wp_isT, wp_joinM, wp_mutM, wp_mutA, isOw_own, wp_up_own, wp_up_ref, wp_setIx, flW_nx, flW_rt, flW_bk, flW_ct, wp_seq, wp_pass, wp_brk, wp_cnt, wp_setV, wp_setO, wp_drp, wp_retM, wp_retN, wp_ofT, wp_setT, gT_tup, gTs_nil, gTs_cons, gN_eq, wp_nilP, wp_consP, wp_stlP_nil, wp_stlP_t, wp_stlP_f, wp_parM, wrP_nil, wrP_t, wrP_f, wp_forM, wp_walkM, itemsD_tup, itemsD_lst, wp_rng1, wp_rng2, r1W_int, r2W_int, rtW_rt, rtW_nx, foW_nx, foW_ct, foW_bk, foW_rt, wp_forL_nil, wp_forL_cons, wp_compM, wipe_s, wipe_z, wipe_ss, wipe_zs, wipe_sz, wp_tYes, wp_callM, wp_callP, permD, List.map_cons, List.map_nil, List.getD_cons_zero, List.getD_cons_succ, List.cons_append, List.nil_append, List.getElem?_cons_zero, List.getElem?_cons_succ, List.set_cons_zero, List.set_cons_succ, Option.map_some, Option.bind_some, Option.some.injEq, Option.isSome_some, exists_eq_left', exists_eq_left, exists_and_left, true_and, and_true, decide_eq_true_eq, List.length_cons, List.length_nil, if_true, if_false, addD_i, subD_i, negD_i, ltD_i, leD_i, gtD_i, geD_i, lenF_t, lenF_l, lenF_d, absF_i, intF_i, intF_b, tupF_t, tupF_l, lstF_t, lstF_l, ixD_l, ixD_t, at1_0, at2_1, at3_2, isL_l, isS_s, popF_0, eqD_i, neD_i, eqD_s, neD_s, slD_l, slD_t, setF_30, setF_31, setF_32, neD_00, neD_10, Nat.zero_le, Nat.reduceAdd, Nat.reduceLeDiff, Bool.false_eq_true, reduceIte, Prod.mk.injEq, and_assoc, eq_self, decide_true, decide_false, not_true_eq_false, not_false_eq_true, Bool.not_true, Bool.not_false, inD_ints]
      exact fun _ => trivial
    · simp only [wp_ret, wp_bind, wp_ite, wp_opt, wp_need, wp_rd, slW_val, slW_own, stl_non, stl_bl, stl_int, stl_str, stl_tup, stl_lst, stl_dic, stl_ref, wp_stl_own, stW_own, stW_val, deref_non, deref_bl, deref_int, deref_str, deref_tup, deref_lst, deref_dic, deref_ref, deref_own, slC_own, slC_val, wp_op2, wp_op1, wp_bin, wp_un, wp_consM, wp_nilM, wp_opn, drf_nil, drf_one, drf_two, wp_tupM, wp_lstM, wp_newM, wp_stls_nil, wp_stls_cons, wp_tst, asB_bl, wp_notM, wp_andM, wp_orM, wp_andV, wp_orV, wp_notV, wp_iteM, wp_chain, wp_sl, wp_optN, wp_optS, intO_none, intO_int, wp_isT, wp_joinM, wp_mutM, wp_mutA, isOw_own, wp_up_own, wp_up_ref, wp_setIx, flW_nx, flW_rt, flW_bk, flW_ct, wp_seq, wp_pass, wp_brk, wp_cnt, wp_setV, wp_setO, wp_drp, wp_retM, wp_retN, wp_ofT, wp_setT, gT_tup, gTs_nil, gTs_cons, gN_eq, wp_nilP, wp_consP, wp_stlP_nil, wp_stlP_t, wp_stlP_f, wp_parM, wrP_nil, wrP_t, wrP_f, wp_forM, wp_walkM, itemsD_tup, itemsD_lst, wp_rng1, wp_rng2, r1W_int, r2W_int, rtW_rt, rtW_nx, foW_nx, foW_ct, foW_bk, foW_rt, wp_forL_nil, wp_forL_cons, wp_compM, wipe_s, wipe_z, wipe_ss, wipe_zs, wipe_sz, wp_tYes, wp_callM, wp_callP, permD, List.map_cons, List.map_nil, List.getD_cons_zero, List.getD_cons_succ, List.cons_append, List.nil_append, List.getElem?_cons_zero, List.getElem?_cons_succ, List.set_cons_zero, List.set_cons_succ, Option.map_some, Option.bind_some, Option.some.injEq, Option.isSome_some, exists_eq_left', exists_eq_left, exists_and_left, true_and, and_true, decide_eq_true_eq, List.length_cons, List.length_nil, if_true, if_false, addD_i, subD_i, negD_i, ltD_i, leD_i, gtD_i, geD_i, lenF_t, lenF_l, lenF_d, absF_i, intF_i, intF_b, tupF_t, tupF_l, lstF_t, lstF_l, ixD_l, ixD_t, at1_0, at2_1, at3_2, isL_l, isS_s, popF_0, eqD_i, neD_i, eqD_s, neD_s, slD_l, slD_t, setF_30, setF_31, setF_32, neD_00, neD_10, Nat.zero_le, Nat.reduceAdd, Nat.reduceLeDiff, Bool.false_eq_true, reduceIte, Prod.mk.injEq, and_assoc, eq_self, decide_true, decide_false, not_true_eq_false, not_false_eq_true, Bool.not_true, Bool.not_false, all_in]
      unfold reply
      by_cases hy : yes row pl = true
      · simp only [wp_ret, wp_bind, wp_ite, wp_opt, wp_need, wp_rd, slW_val, slW_own, stl_non, stl_bl, stl_int, stl_str, stl_tup, stl_lst, stl_dic, stl_ref, wp_stl_own, stW_own, stW_val, deref_non, deref_bl, deref_int, deref_str, deref_tup, deref_lst, deref_dic, deref_ref, deref_own, slC_own, slC_val, wp_op2, wp_op1, wp_bin, wp_un, wp_consM, wp_nilM, wp_opn, drf_nil, drf_one, drf_two, wp_tupM, wp_lstM, wp_newM, wp_stls_nil, wp_stls_cons, wp_tst, asB_bl, wp_notM, wp_andM, wp_orM, wp_andV, wp_orV, wp_notV, wp_iteM, wp_chain, wp_sl, wp_optN, wp_optS, intO_none, intO_int, wp_isT, wp_joinM, wp_mutM, wp_mutA, isOw_own, wp_up_own, wp_up_ref, wp_setIx, flW_nx, flW_rt, flW_bk, flW_ct, wp_seq, wp_pass, wp_brk, wp_cnt, wp_setV, wp_setO, wp_drp, wp_retM, wp_retN, wp_ofT, wp_setT, gT_tup, gTs_nil, gTs_cons, gN_eq, wp_nilP, wp_consP, wp_stlP_nil, wp_stlP_t, wp_stlP_f, wp_parM, wrP_nil, wrP_t, wrP_f, wp_forM, wp_walkM, itemsD_tup, itemsD_lst, wp_rng1, wp_rng2, r1W_int, r2W_int, rtW_rt, rtW_nx, foW_nx, foW_ct, foW_bk, foW_rt, wp_forL_nil, wp_forL_cons, wp_compM, wipe_s, wipe_z, wipe_ss, wipe_zs, wipe_sz, wp_tYes, wp_callM, wp_callP, permD, List.map_cons, List.map_nil, List.getD_cons_zero, List.getD_cons_succ, List.cons_append, List.nil_append, List.getElem?_cons_zero, List.getElem?_cons_succ, List.set_cons_zero, List.set_cons_succ, Option.map_some, Option.bind_some, Option.some.injEq, Option.isSome_some, exists_eq_left', exists_eq_left, exists_and_left, true_and, and_true, decide_eq_true_eq, List.length_cons, List.length_nil, if_true, if_false, addD_i, subD_i, negD_i, ltD_i, leD_i, gtD_i, geD_i, lenF_t, lenF_l, lenF_d, absF_i, intF_i, intF_b, tupF_t, tupF_l, lstF_t, lstF_l, ixD_l, ixD_t, at1_0, at2_1, at3_2, isL_l, isS_s, popF_0, eqD_i, neD_i, eqD_s, neD_s, slD_l, slD_t, setF_30, setF_31, setF_32, neD_00, neD_10, Nat.zero_le, Nat.reduceAdd, Nat.reduceLeDiff, Bool.false_eq_true, reduceIte, Prod.mk.injEq, and_assoc, eq_self, decide_true, decide_false, not_true_eq_false, not_false_eq_true, Bool.not_true, Bool.not_false, hy]
      · rw [Bool.not_eq_true] at hy; simp only [wp_ret, wp_bind, wp_ite, wp_opt, wp_need, wp_rd, slW_val, slW_own, stl_non, stl_bl, stl_int, stl_str, stl_tup, stl_lst, stl_dic, stl_ref, wp_stl_own, stW_own, stW_val, deref_non, deref_bl, deref_int, deref_str, deref_tup, deref_lst, deref_dic, deref_ref, deref_own, slC_own, slC_val, wp_op2, wp_op1, wp_bin, wp_un, wp_consM, wp_nilM, wp_opn, drf_nil, drf_one, drf_two, wp_tupM, wp_lstM, wp_newM, wp_stls_nil, wp_stls_cons, wp_tst, asB_bl, wp_notM, wp_andM, wp_orM, wp_andV, wp_orV, wp_notV, wp_iteM, wp_chain, wp_sl, wp_optN, wp_optS, intO_none, intO_int, wp_isT, wp_joinM, wp_mutM, wp_mutA, isOw_own, wp_up_own, wp_up_ref, wp_setIx, flW_nx, flW_rt, flW_bk, flW_ct, wp_seq, wp_pass, wp_brk, wp_cnt, wp_setV, wp_setO, wp_drp, wp_retM, wp_retN, wp_ofT, wp_setT, gT_tup, gTs_nil, gTs_cons, gN_eq, wp_nilP, wp_consP, wp_stlP_nil, wp_stlP_t, wp_stlP_f, wp_parM, wrP_nil, wrP_t, wrP_f, wp_forM, wp_walkM, itemsD_tup, itemsD_lst, wp_rng1, wp_rng2, r1W_int, r2W_int, rtW_rt, rtW_nx, foW_nx, foW_ct, foW_bk, foW_rt, wp_forL_nil, wp_forL_cons, wp_compM, wipe_s, wipe_z, wipe_ss, wipe_zs, wipe_sz, wp_tYes, wp_callM, wp_callP, permD, List.map_cons, List.map_nil, List.getD_cons_zero, List.getD_cons_succ, List.cons_append, List.nil_append, List.getElem?_cons_zero, List.getElem?_cons_succ, List.set_cons_zero, List.set_cons_succ, Option.map_some, Option.bind_some, Option.some.injEq, Option.isSome_some, exists_eq_left', exists_eq_left, exists_and_left, true_and, and_true, decide_eq_true_eq, List.length_cons, List.length_nil, if_true, if_false, addD_i, subD_i, negD_i, ltD_i, leD_i, gtD_i, geD_i, lenF_t, lenF_l, lenF_d, absF_i, intF_i, intF_b, tupF_t, tupF_l, lstF_t, lstF_l, ixD_l, ixD_t, at1_0, at2_1, at3_2, isL_l, isS_s, popF_0, eqD_i, neD_i, eqD_s, neD_s, slD_l, slD_t, setF_30, setF_31, setF_32, neD_00, neD_10, Nat.zero_le, Nat.reduceAdd, Nat.reduceLeDiff, Bool.false_eq_true, reduceIte, Prod.mk.injEq, and_assoc, eq_self, decide_true, decide_false, not_true_eq_false, not_false_eq_true, Bool.not_true, Bool.not_false, hy]
theorem said_ok {n : Nat} {l : List (Int × Ans)} {pl : List Int} {st : List D} {a : Ans} (nd : (l.map (·.1)).Nodup) (h : ((pl.length : Int) + 1, a) ∈ l) (hr : ∀ row, a = some row → row.length ≤ 100) :
    Cw (callF T (n + 1)) 7 [.tup (encH l), .tup (pl.map .int)] st fun d st' => d = .int (reply a (pl.length + 1) pl) ∧ st' = st := by
  refine c_7 ?_
  unfold b_7
  simp only [wp_ret, wp_bind, wp_ite, wp_opt, wp_need, wp_rd, slW_val, slW_own, stl_non, stl_bl, stl_int, stl_str, stl_tup, stl_lst, stl_dic, stl_ref, wp_stl_own, stW_own, stW_val, deref_non, deref_bl, deref_int, deref_str, deref_tup, deref_lst, deref_dic, deref_ref, deref_own, slC_own, slC_val, wp_op2, wp_op1, wp_bin, wp_un, wp_consM, wp_nilM, wp_opn, drf_nil, drf_one, drf_two, wp_tupM, wp_lstM, wp_newM, wp_stls_nil, wp_stls_cons, wp_tst, asB_bl, wp_notM, wp_andM, wp_orM, wp_andV, wp_orV, wp_notV, wp_iteM, wp_chain, wp_sl, wp_optN, wp_optS, intO_none, intO_int, wp_isT, wp_joinM, wp_mutM, wp_mutA, isOw_own, wp_up_own, wp_up_ref, wp_setIx, flW_nx, flW_rt, flW_bk, flW_ct, wp_seq, wp_pass, wp_brk, wp_cnt, wp_setV, wp_setO, wp_drp, wp_retM, wp_retN, wp_ofT, wp_setT, gT_tup, gTs_nil, gTs_cons, gN_eq, wp_nilP, wp_consP, wp_stlP_nil, wp_stlP_t, wp_stlP_f, wp_parM, wrP_nil, wrP_t, wrP_f, wp_forM, wp_walkM, itemsD_tup, itemsD_lst, wp_rng1, wp_rng2, r1W_int, r2W_int, rtW_rt, rtW_nx, foW_nx, foW_ct, foW_bk, foW_rt, wp_forL_nil, wp_forL_cons, wp_compM, wipe_s, wipe_z, wipe_ss, wipe_zs, wipe_sz, wp_tYes, wp_callM, wp_callP, permD, List.map_cons, List.map_nil, List.getD_cons_zero, List.getD_cons_succ, List.cons_append, List.nil_append, List.getElem?_cons_zero, List.getElem?_cons_succ, List.set_cons_zero, List.set_cons_succ, Option.map_some, Option.bind_some, Option.some.injEq, Option.isSome_some, exists_eq_left', exists_eq_left, exists_and_left, true_and, and_true, decide_eq_true_eq, List.length_cons, List.length_nil, if_true, if_false, addD_i, subD_i, negD_i, ltD_i, leD_i, gtD_i, geD_i, lenF_t, lenF_l, lenF_d, absF_i, intF_i, intF_b, tupF_t, tupF_l, lstF_t, lstF_l, ixD_l, ixD_t, at1_0, at2_1, at3_2, isL_l, isS_s, popF_0, eqD_i, neD_i, eqD_s, neD_s, slD_l, slD_t, setF_30, setF_31, setF_32, neD_00, neD_10, Nat.zero_le, Nat.reduceAdd, Nat.reduceLeDiff, Bool.false_eq_true, reduceIte, Prod.mk.injEq, and_assoc, eq_self, decide_true, decide_false, not_true_eq_false, not_false_eq_true, Bool.not_true, Bool.not_false, dic_enc, List.length_map, look_enc nd h, stl_enc, drf_enc]
  cases a with
  | none =>
    simp only [wp_ret, wp_bind, wp_ite, wp_opt, wp_need, wp_rd, slW_val, slW_own, stl_non, stl_bl, stl_int, stl_str, stl_tup, stl_lst, stl_dic, stl_ref, wp_stl_own, stW_own, stW_val, deref_non, deref_bl, deref_int, deref_str, deref_tup, deref_lst, deref_dic, deref_ref, deref_own, slC_own, slC_val, wp_op2, wp_op1, wp_bin, wp_un, wp_consM, wp_nilM, wp_opn, drf_nil, drf_one, drf_two, wp_tupM, wp_lstM, wp_newM, wp_stls_nil, wp_stls_cons, wp_tst, asB_bl, wp_notM, wp_andM, wp_orM, wp_andV, wp_orV, wp_notV, wp_iteM, wp_chain, wp_sl, wp_optN, wp_optS, intO_none, intO_int, wp_isT, wp_joinM, wp_mutM, wp_mutA, isOw_own, wp_up_own, wp_up_ref, wp_setIx, flW_nx, flW_rt, flW_bk, flW_ct, wp_seq, wp_pass, wp_brk, wp_cnt, wp_setV, wp_setO, wp_drp, wp_retM, wp_retN, wp_ofT, wp_setT, gT_tup, gTs_nil, gTs_cons, gN_eq, wp_nilP, wp_consP, wp_stlP_nil, wp_stlP_t, wp_stlP_f, wp_parM, wrP_nil, wrP_t, wrP_f, wp_forM, wp_walkM, itemsD_tup, itemsD_lst, wp_rng1, wp_rng2, r1W_int, r2W_int, rtW_rt, rtW_nx, foW_nx, foW_ct, foW_bk, foW_rt, wp_forL_nil, wp_forL_cons, wp_compM, wipe_s, wipe_z, wipe_ss, wipe_zs, wipe_sz, wp_tYes, wp_callM, wp_callP, permD, List.map_cons, List.map_nil, List.getD_cons_zero, List.getD_cons_succ, List.cons_append, List.nil_append, List.getElem?_cons_zero, List.getElem?_cons_succ, List.set_cons_zero, List.set_cons_succ, Option.map_some, Option.bind_some, Option.some.injEq, Option.isSome_some, exists_eq_left', exists_eq_left, exists_and_left, true_and, and_true, decide_eq_true_eq, List.length_cons, List.length_nil, if_true, if_false, addD_i, subD_i, negD_i, ltD_i, leD_i, gtD_i, geD_i, lenF_t, lenF_l, lenF_d, absF_i, intF_i, intF_b, tupF_t, tupF_l, lstF_t, lstF_l, ixD_l, ixD_t, at1_0, at2_1, at3_2, isL_l, isS_s, popF_0, eqD_i, neD_i, eqD_s, neD_s, slD_l, slD_t, setF_30, setF_31, setF_32, neD_00, neD_10, Nat.zero_le, Nat.reduceAdd, Nat.reduceLeDiff, Bool.false_eq_true, reduceIte, Prod.mk.injEq, and_assoc, eq_self, decide_true, decide_false, not_true_eq_false, not_false_eq_true, Bool.not_true, Bool.not_false, at_no0, no_all]
    all_goals first | exact ⟨rfl, rfl⟩ | rfl
  | some row =>
    simp only [wp_ret, wp_bind, wp_ite, wp_opt, wp_need, wp_rd, slW_val, slW_own, stl_non, stl_bl, stl_int, stl_str, stl_tup, stl_lst, stl_dic, stl_ref, wp_stl_own, stW_own, stW_val, deref_non, deref_bl, deref_int, deref_str, deref_tup, deref_lst, deref_dic, deref_ref, deref_own, slC_own, slC_val, wp_op2, wp_op1, wp_bin, wp_un, wp_consM, wp_nilM, wp_opn, drf_nil, drf_one, drf_two, wp_tupM, wp_lstM, wp_newM, wp_stls_nil, wp_stls_cons, wp_tst, asB_bl, wp_notM, wp_andM, wp_orM, wp_andV, wp_orV, wp_notV, wp_iteM, wp_chain, wp_sl, wp_optN, wp_optS, intO_none, intO_int, wp_isT, wp_joinM, wp_mutM, wp_mutA, isOw_own, wp_up_own, wp_up_ref, wp_setIx, flW_nx, flW_rt, flW_bk, flW_ct, wp_seq, wp_pass, wp_brk, wp_cnt, wp_setV, wp_setO, wp_drp, wp_retM, wp_retN, wp_ofT, wp_setT, gT_tup, gTs_nil, gTs_cons, gN_eq, wp_nilP, wp_consP, wp_stlP_nil, wp_stlP_t, wp_stlP_f, wp_parM, wrP_nil, wrP_t, wrP_f, wp_forM, wp_walkM, itemsD_tup, itemsD_lst, wp_rng1, wp_rng2, r1W_int, r2W_int, rtW_rt, rtW_nx, foW_nx, foW_ct, foW_bk, foW_rt, wp_forL_nil, wp_forL_cons, wp_compM, wipe_s, wipe_z, wipe_ss, wipe_zs, wipe_sz, wp_tYes, wp_callM, wp_callP, permD, List.map_cons, List.map_nil, List.getD_cons_zero, List.getD_cons_succ, List.cons_append, List.nil_append, List.getElem?_cons_zero, List.getElem?_cons_succ, List.set_cons_zero, List.set_cons_succ, Option.map_some, Option.bind_some, Option.some.injEq, Option.isSome_some, exists_eq_left', exists_eq_left, exists_and_left, true_and, and_true, decide_eq_true_eq, List.length_cons, List.length_nil, if_true, if_false, addD_i, subD_i, negD_i, ltD_i, leD_i, gtD_i, geD_i, lenF_t, lenF_l, lenF_d, absF_i, intF_i, intF_b, tupF_t, tupF_l, lstF_t, lstF_l, ixD_l, ixD_t, at1_0, at2_1, at3_2, isL_l, isS_s, popF_0, eqD_i, neD_i, eqD_s, neD_s, slD_l, slD_t, setF_30, setF_31, setF_32, neD_00, neD_10, Nat.zero_le, Nat.reduceAdd, Nat.reduceLeDiff, Bool.false_eq_true, reduceIte, Prod.mk.injEq, and_assoc, eq_self, decide_true, decide_false, not_true_eq_false, not_false_eq_true, Bool.not_true, Bool.not_false, at_enc0, at_enc1]
    refine wp_compP (out pl) (fun _ => .int 1) (by rfl) (by rw [List.length_map]; have := hr row rfl; omega) (fun x hx => ?_) ?_
    · obtain ⟨y, hy, rfl⟩ := List.mem_map.mp hx
      refine ⟨_, rfl, rfl, by simp only [wp_ret, wp_bind, wp_ite, wp_opt, wp_need, wp_rd, slW_val, slW_own, stl_non, stl_bl, stl_int, stl_str, stl_tup, stl_lst, stl_dic, stl_ref, wp_stl_own, stW_own, stW_val, deref_non, deref_bl, deref_int, deref_str, deref_tup, deref_lst, deref_dic, deref_ref, deref_own, slC_own, slC_val, wp_op2, wp_op1, wp_bin, wp_un, wp_consM, wp_nilM, wp_opn, drf_nil, drf_one, drf_two, wp_tupM, wp_lstM, wp_newM, wp_stls_nil, wp_stls_cons, wp_tst, asB_bl, wp_notM, wp_andM, wp_orM, wp_andV, wp_orV, wp_notV, wp_iteM, wp_chain, wp_sl, wp_optN, wp_optS, intO_none, intO_int, wp_isT, wp_joinM, wp_mutM, wp_mutA, isOw_own, wp_up_own, wp_up_ref, wp_setIx, flW_nx, flW_rt, flW_bk, flW_ct, wp_seq, wp_pass, wp_brk, wp_cnt, wp_setV, wp_setO, wp_drp, wp_retM, wp_retN, wp_ofT, wp_setT, gT_tup, gTs_nil, gTs_cons, gN_eq, wp_nilP, wp_consP, wp_stlP_nil, wp_stlP_t, wp_stlP_f, wp_parM, wrP_nil, wrP_t, wrP_f, wp_forM, wp_walkM, itemsD_tup, itemsD_lst, wp_rng1, wp_rng2, r1W_int, r2W_int, rtW_rt, rtW_nx, foW_nx, foW_ct, foW_bk, foW_rt, wp_forL_nil, wp_forL_cons, wp_compM, wipe_s, wipe_z, wipe_ss, wipe_zs, wipe_sz, wp_tYes, wp_callM, wp_callP, permD, List.map_cons, List.map_nil, List.getD_cons_zero, List.getD_cons_succ, List.cons_append, List.nil_append, List.getElem?_cons_zero, List.getElem?_cons_succ, List.set_cons_zero, List.set_cons_succ, Option.map_some, Option.bind_some, Option.some.injEq, Option.isSome_some, exists_eq_left', exists_eq_left, exists_and_left, true_and, and_true, decide_eq_true_eq, List.length_cons, List.length_nil, if_true, if_false, addD_i, subD_i, negD_i, ltD_i, leD_i, gtD_i, geD_i, lenF_t, lenF_l, lenF_d, absF_i, intF_i, intF_b, tupF_t, tupF_l, lstF_t, lstF_l, ixD_l, ixD_t, at1_0, at2_1, at3_2, isL_l, isS_s, popF_0, eqD_i, neD_i, eqD_s, neD_s, slD_l, slD_t, setF_30, setF_31, setF_32, neD_00, neD_10, Nat.zero_le, Nat.reduceAdd, Nat.reduceLeDiff, Bool.false_eq_true, reduceIte, Prod.mk.injEq, and_assoc, eq_self, decide_true, decide_false, not_true_eq_false, not_false_eq_true, Bool.not_true, Bool.not_false], ?_⟩
      simp only [wp_ret, wp_bind, wp_ite, wp_opt, wp_need, wp_rd, slW_val, slW_own, stl_non, stl_bl, stl_int, stl_str, stl_tup, stl_lst, stl_dic, stl_ref, wp_stl_own, stW_own, stW_val, deref_non, deref_bl, deref_int, deref_str, deref_tup, deref_lst, deref_dic, deref_ref, deref_own, slC_own, slC_val, wp_op2, wp_op1, wp_bin, wp_un, wp_consM, wp_nilM, wp_opn, drf_nil, drf_one, drf_two, wp_tupM, wp_lstM, wp_newM, wp_stls_nil, wp_stls_cons, wp_tst, asB_bl, wp_notM, wp_andM, wp_orM, wp_andV, wp_orV, wp_notV, wp_iteM, wp_chain, wp_sl, wp_optN, wp_optS, intO_none, intO_int, wp_isT, wp_joinM, wp_mutM, wp_mutA, isOw_own, wp_up_own, wp_up_ref, wp_setIx, flW_nx, flW_rt, flW_bk, flW_ct, wp_seq, wp_pass, wp_brk, wp_cnt, wp_setV, wp_setO, wp_drp, wp_retM, wp_retN, wp_ofT, wp_setT, gT_tup, gTs_nil, gTs_cons, gN_eq, wp_nilP, wp_consP, wp_stlP_nil, wp_stlP_t, wp_stlP_f, wp_parM, wrP_nil, wrP_t, wrP_f, wp_forM, wp_walkM, itemsD_tup, itemsD_lst, wp_rng1, wp_rng2, r1W_int, r2W_int, rtW_rt, rtW_nx, foW_nx, foW_ct, foW_bk, foW_rt, wp_forL_nil, wp_forL_cons, wp_compM, wipe_s, wipe_z, wipe_ss, wipe_zs, wipe_sz, wp_tYes, wp_callM, wp_callP, permD, List.map_cons, List.map_nil, List.getD_cons_zero, List.getD_cons_succ, List.cons_append, List.nil_append, List.getElem?_cons_zero, List.getElem?_cons_succ, List.set_cons_zero, List.set_cons_succ, Option.map_some, Option.bind_some, Option.some.injEq, Option.isSome_some, exists_eq_left', exists_eq_left, exists_and_left, true_and, and_true, decide_eq_true_eq, List.length_cons, List.length_nil, if_true, if_false, addD_i, subD_i, negD_i, ltD_i, leD_i, gtD_i, geD_i, lenF_t, lenF_l, lenF_d, absF_i, intF_i, intF_b, tupF_t, tupF_l, lstF_t, lstF_l, ixD_l, ixD_t, at1_0, at2_1, at3_2, isL_l, isS_s, popF_0, eqD_i, neD_i, eqD_s, neD_s, slD_l, slD_t, setF_30, setF_31, setF_32, neD_00, neD_10, Nat.zero_le, Nat.reduceAdd, Nat.reduceLeDiff, Bool.false_eq_true, reduceIte, Prod.mk.injEq, and_assoc, eq_self, decide_true, decide_false, not_true_eq_false, not_false_eq_true, Bool.not_true, Bool.not_false, ninD_ints]
      exact ⟨rfl, fun _ => trivial⟩
    · simp only [wp_ret, wp_bind, wp_ite, wp_opt, wp_need, wp_rd, slW_val, slW_own, stl_non, stl_bl, stl_int, stl_str, stl_tup, stl_lst, stl_dic, stl_ref, wp_stl_own, stW_own, stW_val, deref_non, deref_bl, deref_int, deref_str, deref_tup, deref_lst, deref_dic, deref_ref, deref_own, slC_own, slC_val, wp_op2, wp_op1, wp_bin, wp_un, wp_consM, wp_nilM, wp_opn, drf_nil, drf_one, drf_two, wp_tupM, wp_lstM, wp_newM, wp_stls_nil, wp_stls_cons, wp_tst, asB_bl, wp_notM, wp_andM, wp_orM, wp_andV, wp_orV, wp_notV, wp_iteM, wp_chain, wp_sl, wp_optN, wp_optS, intO_none, intO_int, wp_isT, wp_joinM, wp_mutM, wp_mutA, isOw_own, wp_up_own, wp_up_ref, wp_setIx, flW_nx, flW_rt, flW_bk, flW_ct, wp_seq, wp_pass, wp_brk, wp_cnt, wp_setV, wp_setO, wp_drp, wp_retM, wp_retN, wp_ofT, wp_setT, gT_tup, gTs_nil, gTs_cons, gN_eq, wp_nilP, wp_consP, wp_stlP_nil, wp_stlP_t, wp_stlP_f, wp_parM, wrP_nil, wrP_t, wrP_f, wp_forM, wp_walkM, itemsD_tup, itemsD_lst, wp_rng1, wp_rng2, r1W_int, r2W_int, rtW_rt, rtW_nx, foW_nx, foW_ct, foW_bk, foW_rt, wp_forL_nil, wp_forL_cons, wp_compM, wipe_s, wipe_z, wipe_ss, wipe_zs, wipe_sz, wp_tYes, wp_callM, wp_callP, permD, List.map_cons, List.map_nil, List.getD_cons_zero, List.getD_cons_succ, List.cons_append, List.nil_append, List.getElem?_cons_zero, List.getElem?_cons_succ, List.set_cons_zero, List.set_cons_succ, Option.map_some, Option.bind_some, Option.some.injEq, Option.isSome_some, exists_eq_left', exists_eq_left, exists_and_left, true_and, and_true, decide_eq_true_eq, List.length_cons, List.length_nil, if_true, if_false, addD_i, subD_i, negD_i, ltD_i, leD_i, gtD_i, geD_i, lenF_t, lenF_l, lenF_d, absF_i, intF_i, intF_b, tupF_t, tupF_l, lstF_t, lstF_l, ixD_l, ixD_t, at1_0, at2_1, at3_2, isL_l, isS_s, popF_0, eqD_i, neD_i, eqD_s, neD_s, slD_l, slD_t, setF_30, setF_31, setF_32, neD_00, neD_10, Nat.zero_le, Nat.reduceAdd, Nat.reduceLeDiff, Bool.false_eq_true, reduceIte, Prod.mk.injEq, and_assoc, eq_self, decide_true, decide_false, not_true_eq_false, not_false_eq_true, Bool.not_true, Bool.not_false, ones]
      unfold reply
      by_cases hy : yes row pl = true
      · simp only [wp_ret, wp_bind, wp_ite, wp_opt, wp_need, wp_rd, slW_val, slW_own, stl_non, stl_bl, stl_int, stl_str, stl_tup, stl_lst, stl_dic, stl_ref, wp_stl_own, stW_own, stW_val, deref_non, deref_bl, deref_int, deref_str, deref_tup, deref_lst, deref_dic, deref_ref, deref_own, slC_own, slC_val, wp_op2, wp_op1, wp_bin, wp_un, wp_consM, wp_nilM, wp_opn, drf_nil, drf_one, drf_two, wp_tupM, wp_lstM, wp_newM, wp_stls_nil, wp_stls_cons, wp_tst, asB_bl, wp_notM, wp_andM, wp_orM, wp_andV, wp_orV, wp_notV, wp_iteM, wp_chain, wp_sl, wp_optN, wp_optS, intO_none, intO_int, wp_isT, wp_joinM, wp_mutM, wp_mutA, isOw_own, wp_up_own, wp_up_ref, wp_setIx, flW_nx, flW_rt, flW_bk, flW_ct, wp_seq, wp_pass, wp_brk, wp_cnt, wp_setV, wp_setO, wp_drp, wp_retM, wp_retN, wp_ofT, wp_setT, gT_tup, gTs_nil, gTs_cons, gN_eq, wp_nilP, wp_consP, wp_stlP_nil, wp_stlP_t, wp_stlP_f, wp_parM, wrP_nil, wrP_t, wrP_f, wp_forM, wp_walkM, itemsD_tup, itemsD_lst, wp_rng1, wp_rng2, r1W_int, r2W_int, rtW_rt, rtW_nx, foW_nx, foW_ct, foW_bk, foW_rt, wp_forL_nil, wp_forL_cons, wp_compM, wipe_s, wipe_z, wipe_ss, wipe_zs, wipe_sz, wp_tYes, wp_callM, wp_callP, permD, List.map_cons, List.map_nil, List.getD_cons_zero, List.getD_cons_succ, List.cons_append, List.nil_append, List.getElem?_cons_zero, List.getElem?_cons_succ, List.set_cons_zero, List.set_cons_succ, Option.map_some, Option.bind_some, Option.some.injEq, Option.isSome_some, exists_eq_left', exists_eq_left, exists_and_left, true_and, and_true, decide_eq_true_eq, List.length_cons, List.length_nil, if_true, if_false, addD_i, subD_i, negD_i, ltD_i, leD_i, gtD_i, geD_i, lenF_t, lenF_l, lenF_d, absF_i, intF_i, intF_b, tupF_t, tupF_l, lstF_t, lstF_l, ixD_l, ixD_t, at1_0, at2_1, at3_2, isL_l, isS_s, popF_0, eqD_i, neD_i, eqD_s, neD_s, slD_l, slD_t, setF_30, setF_31, setF_32, neD_00, neD_10, Nat.zero_le, Nat.reduceAdd, Nat.reduceLeDiff, Bool.false_eq_true, reduceIte, Prod.mk.injEq, and_assoc, eq_self, decide_true, decide_false, not_true_eq_false, not_false_eq_true, Bool.not_true, Bool.not_false, hy]
      · rw [Bool.not_eq_true] at hy; simp only [wp_ret, wp_bind, wp_ite, wp_opt, wp_need, wp_rd, slW_val, slW_own, stl_non, stl_bl, stl_int, stl_str, stl_tup, stl_lst, stl_dic, stl_ref, wp_stl_own, stW_own, stW_val, deref_non, deref_bl, deref_int, deref_str, deref_tup, deref_lst, deref_dic, deref_ref, deref_own, slC_own, slC_val, wp_op2, wp_op1, wp_bin, wp_un, wp_consM, wp_nilM, wp_opn, drf_nil, drf_one, drf_two, wp_tupM, wp_lstM, wp_newM, wp_stls_nil, wp_stls_cons, wp_tst, asB_bl, wp_notM, wp_andM, wp_orM, wp_andV, wp_orV, wp_notV, wp_iteM, wp_chain, wp_sl, wp_optN, wp_optS, intO_none, intO_int, wp_isT, wp_joinM, wp_mutM, wp_mutA, isOw_own, wp_up_own, wp_up_ref, wp_setIx, flW_nx, flW_rt, flW_bk, flW_ct, wp_seq, wp_pass, wp_brk, wp_cnt, wp_setV, wp_setO, wp_drp, wp_retM, wp_retN, wp_ofT, wp_setT, gT_tup, gTs_nil, gTs_cons, gN_eq, wp_nilP, wp_consP, wp_stlP_nil, wp_stlP_t, wp_stlP_f, wp_parM, wrP_nil, wrP_t, wrP_f, wp_forM, wp_walkM, itemsD_tup, itemsD_lst, wp_rng1, wp_rng2, r1W_int, r2W_int, rtW_rt, rtW_nx, foW_nx, foW_ct, foW_bk, foW_rt, wp_forL_nil, wp_forL_cons, wp_compM, wipe_s, wipe_z, wipe_ss, wipe_zs, wipe_sz, wp_tYes, wp_callM, wp_callP, permD, List.map_cons, List.map_nil, List.getD_cons_zero, List.getD_cons_succ, List.cons_append, List.nil_append, List.getElem?_cons_zero, List.getElem?_cons_succ, List.set_cons_zero, List.set_cons_succ, Option.map_some, Option.bind_some, Option.some.injEq, Option.isSome_some, exists_eq_left', exists_eq_left, exists_and_left, true_and, and_true, decide_eq_true_eq, List.length_cons, List.length_nil, if_true, if_false, addD_i, subD_i, negD_i, ltD_i, leD_i, gtD_i, geD_i, lenF_t, lenF_l, lenF_d, absF_i, intF_i, intF_b, tupF_t, tupF_l, lstF_t, lstF_l, ixD_l, ixD_t, at1_0, at2_1, at3_2, isL_l, isS_s, popF_0, eqD_i, neD_i, eqD_s, neD_s, slD_l, slD_t, setF_30, setF_31, setF_32, neD_00, neD_10, Nat.zero_le, Nat.reduceAdd, Nat.reduceLeDiff, Bool.false_eq_true, reduceIte, Prod.mk.injEq, and_assoc, eq_self, decide_true, decide_false, not_true_eq_false, not_false_eq_true, Bool.not_true, Bool.not_false, hy]
/-! ### the bag -/
def cell (y : Int) : Int := 2 * (if y < 0 then -y else y) + (if y < 0 then 1 else 0)
def cellD : D → D
  | .int y => .int (cell y)
  | d => d
def farD : D → Bool
  | .int y => decide ((10 : Int) ^ (15 : Int).toNat < y)
  | _ => false
theorem cells_eq {ms : List Int} : (((ms.map D.int).filter fun _ => true).map cellD) = (ms.map cell).map .int := by
  rw [List.filter_eq_self.mpr (by simp), List.map_map, List.map_map]
  rfl
theorem far_eq {ms : List Int} : (((ms.map D.int).filter farD).map id) = (ms.filter fun y => decide ((10 : Int) ^ (15 : Int).toNat < y)).map .int := by
  rw [List.map_id, List.filter_map]
  rfl
theorem bag_ok {n : Nat} {ns : List Int} (hn : ns.length ≤ 63) : Cw (callF T (n + 1)) 1 [.lst (ns.map .int)] [] fun d st' => d = .ref 1 ∧ BagOk st' := by
  refine c_1 ?_
  unfold b_1
  obtain ⟨ms, ecut, hms⟩ := cutD_map (ns := ns) (lo := none) (hi := some 63)
  have hl := hms.length_le
  simp only [wp_ret, wp_bind, wp_ite, wp_opt, wp_need, wp_rd, slW_val, slW_own, stl_non, stl_bl, stl_int, stl_str, stl_tup, stl_lst, stl_dic, stl_ref, wp_stl_own, stW_own, stW_val, deref_non, deref_bl, deref_int, deref_str, deref_tup, deref_lst, deref_dic, deref_ref, deref_own, slC_own, slC_val, wp_op2, wp_op1, wp_bin, wp_un, wp_consM, wp_nilM, wp_opn, drf_nil, drf_one, drf_two, wp_tupM, wp_lstM, wp_newM, wp_stls_nil, wp_stls_cons, wp_tst, asB_bl, wp_notM, wp_andM, wp_orM, wp_andV, wp_orV, wp_notV, wp_iteM, wp_chain, wp_sl, wp_optN, wp_optS, intO_none, intO_int, wp_isT, wp_joinM, wp_mutM, wp_mutA, isOw_own, wp_up_own, wp_up_ref, wp_setIx, flW_nx, flW_rt, flW_bk, flW_ct, wp_seq, wp_pass, wp_brk, wp_cnt, wp_setV, wp_setO, wp_drp, wp_retM, wp_retN, wp_ofT, wp_setT, gT_tup, gTs_nil, gTs_cons, gN_eq, wp_nilP, wp_consP, wp_stlP_nil, wp_stlP_t, wp_stlP_f, wp_parM, wrP_nil, wrP_t, wrP_f, wp_forM, wp_walkM, itemsD_tup, itemsD_lst, wp_rng1, wp_rng2, r1W_int, r2W_int, rtW_rt, rtW_nx, foW_nx, foW_ct, foW_bk, foW_rt, wp_forL_nil, wp_forL_cons, wp_compM, wipe_s, wipe_z, wipe_ss, wipe_zs, wipe_sz, wp_tYes, wp_callM, wp_callP, permD, List.map_cons, List.map_nil, List.getD_cons_zero, List.getD_cons_succ, List.cons_append, List.nil_append, List.getElem?_cons_zero, List.getElem?_cons_succ, List.set_cons_zero, List.set_cons_succ, Option.map_some, Option.bind_some, Option.some.injEq, Option.isSome_some, exists_eq_left', exists_eq_left, exists_and_left, true_and, and_true, decide_eq_true_eq, List.length_cons, List.length_nil, if_true, if_false, addD_i, subD_i, negD_i, ltD_i, leD_i, gtD_i, geD_i, lenF_t, lenF_l, lenF_d, absF_i, intF_i, intF_b, tupF_t, tupF_l, lstF_t, lstF_l, ixD_l, ixD_t, at1_0, at2_1, at3_2, isL_l, isS_s, popF_0, eqD_i, neD_i, eqD_s, neD_s, slD_l, slD_t, setF_30, setF_31, setF_32, neD_00, neD_10, Nat.zero_le, Nat.reduceAdd, Nat.reduceLeDiff, Bool.false_eq_true, reduceIte, Prod.mk.injEq, and_assoc, eq_self, decide_true, decide_false, not_true_eq_false, not_false_eq_true, Bool.not_true, Bool.not_false, ecut]
  refine wp_compP (fun _ => true) cellD (by rfl) (by rw [List.length_map]; omega) (fun x hx => ?_) ?_
  · obtain ⟨y, hy, rfl⟩ := List.mem_map.mp hx
    refine ⟨_, rfl, rfl, by simp only [wp_ret, wp_bind, wp_ite, wp_opt, wp_need, wp_rd, slW_val, slW_own, stl_non, stl_bl, stl_int, stl_str, stl_tup, stl_lst, stl_dic, stl_ref, wp_stl_own, stW_own, stW_val, deref_non, deref_bl, deref_int, deref_str, deref_tup, deref_lst, deref_dic, deref_ref, deref_own, slC_own, slC_val, wp_op2, wp_op1, wp_bin, wp_un, wp_consM, wp_nilM, wp_opn, drf_nil, drf_one, drf_two, wp_tupM, wp_lstM, wp_newM, wp_stls_nil, wp_stls_cons, wp_tst, asB_bl, wp_notM, wp_andM, wp_orM, wp_andV, wp_orV, wp_notV, wp_iteM, wp_chain, wp_sl, wp_optN, wp_optS, intO_none, intO_int, wp_isT, wp_joinM, wp_mutM, wp_mutA, isOw_own, wp_up_own, wp_up_ref, wp_setIx, flW_nx, flW_rt, flW_bk, flW_ct, wp_seq, wp_pass, wp_brk, wp_cnt, wp_setV, wp_setO, wp_drp, wp_retM, wp_retN, wp_ofT, wp_setT, gT_tup, gTs_nil, gTs_cons, gN_eq, wp_nilP, wp_consP, wp_stlP_nil, wp_stlP_t, wp_stlP_f, wp_parM, wrP_nil, wrP_t, wrP_f, wp_forM, wp_walkM, itemsD_tup, itemsD_lst, wp_rng1, wp_rng2, r1W_int, r2W_int, rtW_rt, rtW_nx, foW_nx, foW_ct, foW_bk, foW_rt, wp_forL_nil, wp_forL_cons, wp_compM, wipe_s, wipe_z, wipe_ss, wipe_zs, wipe_sz, wp_tYes, wp_callM, wp_callP, permD, List.map_cons, List.map_nil, List.getD_cons_zero, List.getD_cons_succ, List.cons_append, List.nil_append, List.getElem?_cons_zero, List.getElem?_cons_succ, List.set_cons_zero, List.set_cons_succ, Option.map_some, Option.bind_some, Option.some.injEq, Option.isSome_some, exists_eq_left', exists_eq_left, exists_and_left, true_and, and_true, decide_eq_true_eq, List.length_cons, List.length_nil, if_true, if_false, addD_i, subD_i, negD_i, ltD_i, leD_i, gtD_i, geD_i, lenF_t, lenF_l, lenF_d, absF_i, intF_i, intF_b, tupF_t, tupF_l, lstF_t, lstF_l, ixD_l, ixD_t, at1_0, at2_1, at3_2, isL_l, isS_s, popF_0, eqD_i, neD_i, eqD_s, neD_s, slD_l, slD_t, setF_30, setF_31, setF_32, neD_00, neD_10, Nat.zero_le, Nat.reduceAdd, Nat.reduceLeDiff, Bool.false_eq_true, reduceIte, Prod.mk.injEq, and_assoc, eq_self, decide_true, decide_false, not_true_eq_false, not_false_eq_true, Bool.not_true, Bool.not_false], ?_⟩
    simp only [wp_ret, wp_bind, wp_ite, wp_opt, wp_need, wp_rd, slW_val, slW_own, stl_non, stl_bl, stl_int, stl_str, stl_tup, stl_lst, stl_dic, stl_ref, wp_stl_own, stW_own, stW_val, deref_non, deref_bl, deref_int, deref_str, deref_tup, deref_lst, deref_dic, deref_ref, deref_own, slC_own, slC_val, wp_op2, wp_op1, wp_bin, wp_un, wp_consM, wp_nilM, wp_opn, drf_nil, drf_one, drf_two, wp_tupM, wp_lstM, wp_newM, wp_stls_nil, wp_stls_cons, wp_tst, asB_bl, wp_notM, wp_andM, wp_orM, wp_andV, wp_orV, wp_notV, wp_iteM, wp_chain, wp_sl, wp_optN, wp_optS, intO_none, intO_int, wp_isT, wp_joinM, wp_mutM, wp_mutA, isOw_own, wp_up_own, wp_up_ref, wp_setIx, flW_nx, flW_rt, flW_bk, flW_ct, wp_seq, wp_pass, wp_brk, wp_cnt, wp_setV, wp_setO, wp_drp, wp_retM, wp_retN, wp_ofT, wp_setT, gT_tup, gTs_nil, gTs_cons, gN_eq, wp_nilP, wp_consP, wp_stlP_nil, wp_stlP_t, wp_stlP_f, wp_parM, wrP_nil, wrP_t, wrP_f, wp_forM, wp_walkM, itemsD_tup, itemsD_lst, wp_rng1, wp_rng2, r1W_int, r2W_int, rtW_rt, rtW_nx, foW_nx, foW_ct, foW_bk, foW_rt, wp_forL_nil, wp_forL_cons, wp_compM, wipe_s, wipe_z, wipe_ss, wipe_zs, wipe_sz, wp_tYes, wp_callM, wp_callP, permD, List.map_cons, List.map_nil, List.getD_cons_zero, List.getD_cons_succ, List.cons_append, List.nil_append, List.getElem?_cons_zero, List.getElem?_cons_succ, List.set_cons_zero, List.set_cons_succ, Option.map_some, Option.bind_some, Option.some.injEq, Option.isSome_some, exists_eq_left', exists_eq_left, exists_and_left, true_and, and_true, decide_eq_true_eq, List.length_cons, List.length_nil, if_true, if_false, addD_i, subD_i, negD_i, ltD_i, leD_i, gtD_i, geD_i, lenF_t, lenF_l, lenF_d, absF_i, intF_i, intF_b, tupF_t, tupF_l, lstF_t, lstF_l, ixD_l, ixD_t, at1_0, at2_1, at3_2, isL_l, isS_s, popF_0, eqD_i, neD_i, eqD_s, neD_s, slD_l, slD_t, setF_30, setF_31, setF_32, neD_00, neD_10, Nat.zero_le, Nat.reduceAdd, Nat.reduceLeDiff, Bool.false_eq_true, reduceIte, Prod.mk.injEq, and_assoc, eq_self, decide_true, decide_false, not_true_eq_false, not_false_eq_true, Bool.not_true, Bool.not_false, mulD_l (a := 2) (by decide)]
    exact fun _ => rfl
  · rw [cells_eq]
    simp only [wp_ret, wp_bind, wp_ite, wp_opt, wp_need, wp_rd, slW_val, slW_own, stl_non, stl_bl, stl_int, stl_str, stl_tup, stl_lst, stl_dic, stl_ref, wp_stl_own, stW_own, stW_val, deref_non, deref_bl, deref_int, deref_str, deref_tup, deref_lst, deref_dic, deref_ref, deref_own, slC_own, slC_val, wp_op2, wp_op1, wp_bin, wp_un, wp_consM, wp_nilM, wp_opn, drf_nil, drf_one, drf_two, wp_tupM, wp_lstM, wp_newM, wp_stls_nil, wp_stls_cons, wp_tst, asB_bl, wp_notM, wp_andM, wp_orM, wp_andV, wp_orV, wp_notV, wp_iteM, wp_chain, wp_sl, wp_optN, wp_optS, intO_none, intO_int, wp_isT, wp_joinM, wp_mutM, wp_mutA, isOw_own, wp_up_own, wp_up_ref, wp_setIx, flW_nx, flW_rt, flW_bk, flW_ct, wp_seq, wp_pass, wp_brk, wp_cnt, wp_setV, wp_setO, wp_drp, wp_retM, wp_retN, wp_ofT, wp_setT, gT_tup, gTs_nil, gTs_cons, gN_eq, wp_nilP, wp_consP, wp_stlP_nil, wp_stlP_t, wp_stlP_f, wp_parM, wrP_nil, wrP_t, wrP_f, wp_forM, wp_walkM, itemsD_tup, itemsD_lst, wp_rng1, wp_rng2, r1W_int, r2W_int, rtW_rt, rtW_nx, foW_nx, foW_ct, foW_bk, foW_rt, wp_forL_nil, wp_forL_cons, wp_compM, wipe_s, wipe_z, wipe_ss, wipe_zs, wipe_sz, wp_tYes, wp_callM, wp_callP, permD, List.map_cons, List.map_nil, List.getD_cons_zero, List.getD_cons_succ, List.cons_append, List.nil_append, List.getElem?_cons_zero, List.getElem?_cons_succ, List.set_cons_zero, List.set_cons_succ, Option.map_some, Option.bind_some, Option.some.injEq, Option.isSome_some, exists_eq_left', exists_eq_left, exists_and_left, true_and, and_true, decide_eq_true_eq, List.length_cons, List.length_nil, if_true, if_false, addD_i, subD_i, negD_i, ltD_i, leD_i, gtD_i, geD_i, lenF_t, lenF_l, lenF_d, absF_i, intF_i, intF_b, tupF_t, tupF_l, lstF_t, lstF_l, ixD_l, ixD_t, at1_0, at2_1, at3_2, isL_l, isS_s, popF_0, eqD_i, neD_i, eqD_s, neD_s, slD_l, slD_t, setF_30, setF_31, setF_32, neD_00, neD_10, Nat.zero_le, Nat.reduceAdd, Nat.reduceLeDiff, Bool.false_eq_true, reduceIte, Prod.mk.injEq, and_assoc, eq_self, decide_true, decide_false, not_true_eq_false, not_false_eq_true, Bool.not_true, Bool.not_false, List.length_map]
    refine wp_for (fun r s => ∃ (rest : List Int) (sv : Int) (a1 : Sl), r = rest.map .int ∧ (a1 = .un ∨ ∃ d, a1 = .val d) ∧ s = ⟨[.val (.lst (ns.map .int)), a1, .val (.lst ((ms.map cell).map .int)), .val (.int sv)], []⟩) ?_ ?_
      ⟨ms.map cell, _, .un, rfl, .inl rfl, rfl⟩
    · rintro x r s ⟨rest, sv, a1, hr, ha, rfl⟩
      cases rest with
      | nil => cases hr
      | cons y rest =>
        rw [List.map_cons] at hr
        cases hr
        refine ⟨_, rfl, ?_⟩
        simp only [wp_ret, wp_bind, wp_ite, wp_opt, wp_need, wp_rd, slW_val, slW_own, stl_non, stl_bl, stl_int, stl_str, stl_tup, stl_lst, stl_dic, stl_ref, wp_stl_own, stW_own, stW_val, deref_non, deref_bl, deref_int, deref_str, deref_tup, deref_lst, deref_dic, deref_ref, deref_own, slC_own, slC_val, wp_op2, wp_op1, wp_bin, wp_un, wp_consM, wp_nilM, wp_opn, drf_nil, drf_one, drf_two, wp_tupM, wp_lstM, wp_newM, wp_stls_nil, wp_stls_cons, wp_tst, asB_bl, wp_notM, wp_andM, wp_orM, wp_andV, wp_orV, wp_notV, wp_iteM, wp_chain, wp_sl, wp_optN, wp_optS, intO_none, intO_int, wp_isT, wp_joinM, wp_mutM, wp_mutA, isOw_own, wp_up_own, wp_up_ref, wp_setIx, flW_nx, flW_rt, flW_bk, flW_ct, wp_seq, wp_pass, wp_brk, wp_cnt, wp_setV, wp_setO, wp_drp, wp_retM, wp_retN, wp_ofT, wp_setT, gT_tup, gTs_nil, gTs_cons, gN_eq, wp_nilP, wp_consP, wp_stlP_nil, wp_stlP_t, wp_stlP_f, wp_parM, wrP_nil, wrP_t, wrP_f, wp_forM, wp_walkM, itemsD_tup, itemsD_lst, wp_rng1, wp_rng2, r1W_int, r2W_int, rtW_rt, rtW_nx, foW_nx, foW_ct, foW_bk, foW_rt, wp_forL_nil, wp_forL_cons, wp_compM, wipe_s, wipe_z, wipe_ss, wipe_zs, wipe_sz, wp_tYes, wp_callM, wp_callP, permD, List.map_cons, List.map_nil, List.getD_cons_zero, List.getD_cons_succ, List.cons_append, List.nil_append, List.getElem?_cons_zero, List.getElem?_cons_succ, List.set_cons_zero, List.set_cons_succ, Option.map_some, Option.bind_some, Option.some.injEq, Option.isSome_some, exists_eq_left', exists_eq_left, exists_and_left, true_and, and_true, decide_eq_true_eq, List.length_cons, List.length_nil, if_true, if_false, addD_i, subD_i, negD_i, ltD_i, leD_i, gtD_i, geD_i, lenF_t, lenF_l, lenF_d, absF_i, intF_i, intF_b, tupF_t, tupF_l, lstF_t, lstF_l, ixD_l, ixD_t, at1_0, at2_1, at3_2, isL_l, isS_s, popF_0, eqD_i, neD_i, eqD_s, neD_s, slD_l, slD_t, setF_30, setF_31, setF_32, neD_00, neD_10, Nat.zero_le, Nat.reduceAdd, Nat.reduceLeDiff, Bool.false_eq_true, reduceIte, Prod.mk.injEq, and_assoc, eq_self, decide_true, decide_false, not_true_eq_false, not_false_eq_true, Bool.not_true, Bool.not_false, mulD_r (b := 48271) (by decide), modD_i (b := 4294967291) (by decide)]
        exact ⟨rest, rfl, _, _, .inr ⟨_, rfl⟩, rfl⟩
    · rintro s ⟨rest, sv, a1, hr, ha, rfl⟩
      simp only [wp_ret, wp_bind, wp_ite, wp_opt, wp_need, wp_rd, slW_val, slW_own, stl_non, stl_bl, stl_int, stl_str, stl_tup, stl_lst, stl_dic, stl_ref, wp_stl_own, stW_own, stW_val, deref_non, deref_bl, deref_int, deref_str, deref_tup, deref_lst, deref_dic, deref_ref, deref_own, slC_own, slC_val, wp_op2, wp_op1, wp_bin, wp_un, wp_consM, wp_nilM, wp_opn, drf_nil, drf_one, drf_two, wp_tupM, wp_lstM, wp_newM, wp_stls_nil, wp_stls_cons, wp_tst, asB_bl, wp_notM, wp_andM, wp_orM, wp_andV, wp_orV, wp_notV, wp_iteM, wp_chain, wp_sl, wp_optN, wp_optS, intO_none, intO_int, wp_isT, wp_joinM, wp_mutM, wp_mutA, isOw_own, wp_up_own, wp_up_ref, wp_setIx, flW_nx, flW_rt, flW_bk, flW_ct, wp_seq, wp_pass, wp_brk, wp_cnt, wp_setV, wp_setO, wp_drp, wp_retM, wp_retN, wp_ofT, wp_setT, gT_tup, gTs_nil, gTs_cons, gN_eq, wp_nilP, wp_consP, wp_stlP_nil, wp_stlP_t, wp_stlP_f, wp_parM, wrP_nil, wrP_t, wrP_f, wp_forM, wp_walkM, itemsD_tup, itemsD_lst, wp_rng1, wp_rng2, r1W_int, r2W_int, rtW_rt, rtW_nx, foW_nx, foW_ct, foW_bk, foW_rt, wp_forL_nil, wp_forL_cons, wp_compM, wipe_s, wipe_z, wipe_ss, wipe_zs, wipe_sz, wp_tYes, wp_callM, wp_callP, permD, List.map_cons, List.map_nil, List.getD_cons_zero, List.getD_cons_succ, List.cons_append, List.nil_append, List.getElem?_cons_zero, List.getElem?_cons_succ, List.set_cons_zero, List.set_cons_succ, Option.map_some, Option.bind_some, Option.some.injEq, Option.isSome_some, exists_eq_left', exists_eq_left, exists_and_left, true_and, and_true, decide_eq_true_eq, List.length_cons, List.length_nil, if_true, if_false, addD_i, subD_i, negD_i, ltD_i, leD_i, gtD_i, geD_i, lenF_t, lenF_l, lenF_d, absF_i, intF_i, intF_b, tupF_t, tupF_l, lstF_t, lstF_l, ixD_l, ixD_t, at1_0, at2_1, at3_2, isL_l, isS_s, popF_0, eqD_i, neD_i, eqD_s, neD_s, slD_l, slD_t, setF_30, setF_31, setF_32, neD_00, neD_10, Nat.zero_le, Nat.reduceAdd, Nat.reduceLeDiff, Bool.false_eq_true, reduceIte, Prod.mk.injEq, and_assoc, eq_self, decide_true, decide_false, not_true_eq_false, not_false_eq_true, Bool.not_true, Bool.not_false]
      refine wp_compP farD id (by rcases ha with rfl | ⟨d, rfl⟩ <;> rfl) (by rw [List.length_map, List.length_map]; omega) (fun x hx => ?_) ?_
      · obtain ⟨y, hy, rfl⟩ := List.mem_map.mp hx
        refine ⟨_, rfl, rfl, by simp only [wp_ret, wp_bind, wp_ite, wp_opt, wp_need, wp_rd, slW_val, slW_own, stl_non, stl_bl, stl_int, stl_str, stl_tup, stl_lst, stl_dic, stl_ref, wp_stl_own, stW_own, stW_val, deref_non, deref_bl, deref_int, deref_str, deref_tup, deref_lst, deref_dic, deref_ref, deref_own, slC_own, slC_val, wp_op2, wp_op1, wp_bin, wp_un, wp_consM, wp_nilM, wp_opn, drf_nil, drf_one, drf_two, wp_tupM, wp_lstM, wp_newM, wp_stls_nil, wp_stls_cons, wp_tst, asB_bl, wp_notM, wp_andM, wp_orM, wp_andV, wp_orV, wp_notV, wp_iteM, wp_chain, wp_sl, wp_optN, wp_optS, intO_none, intO_int, wp_isT, wp_joinM, wp_mutM, wp_mutA, isOw_own, wp_up_own, wp_up_ref, wp_setIx, flW_nx, flW_rt, flW_bk, flW_ct, wp_seq, wp_pass, wp_brk, wp_cnt, wp_setV, wp_setO, wp_drp, wp_retM, wp_retN, wp_ofT, wp_setT, gT_tup, gTs_nil, gTs_cons, gN_eq, wp_nilP, wp_consP, wp_stlP_nil, wp_stlP_t, wp_stlP_f, wp_parM, wrP_nil, wrP_t, wrP_f, wp_forM, wp_walkM, itemsD_tup, itemsD_lst, wp_rng1, wp_rng2, r1W_int, r2W_int, rtW_rt, rtW_nx, foW_nx, foW_ct, foW_bk, foW_rt, wp_forL_nil, wp_forL_cons, wp_compM, wipe_s, wipe_z, wipe_ss, wipe_zs, wipe_sz, wp_tYes, wp_callM, wp_callP, permD, List.map_cons, List.map_nil, List.getD_cons_zero, List.getD_cons_succ, List.cons_append, List.nil_append, List.getElem?_cons_zero, List.getElem?_cons_succ, List.set_cons_zero, List.set_cons_succ, Option.map_some, Option.bind_some, Option.some.injEq, Option.isSome_some, exists_eq_left', exists_eq_left, exists_and_left, true_and, and_true, decide_eq_true_eq, List.length_cons, List.length_nil, if_true, if_false, addD_i, subD_i, negD_i, ltD_i, leD_i, gtD_i, geD_i, lenF_t, lenF_l, lenF_d, absF_i, intF_i, intF_b, tupF_t, tupF_l, lstF_t, lstF_l, ixD_l, ixD_t, at1_0, at2_1, at3_2, isL_l, isS_s, popF_0, eqD_i, neD_i, eqD_s, neD_s, slD_l, slD_t, setF_30, setF_31, setF_32, neD_00, neD_10, Nat.zero_le, Nat.reduceAdd, Nat.reduceLeDiff, Bool.false_eq_true, reduceIte, Prod.mk.injEq, and_assoc, eq_self, decide_true, decide_false, not_true_eq_false, not_false_eq_true, Bool.not_true, Bool.not_false], ?_⟩
        simp only [wp_ret, wp_bind, wp_ite, wp_opt, wp_need, wp_rd, slW_val, slW_own, stl_non, stl_bl, stl_int, stl_str, stl_tup, stl_lst, stl_dic, stl_ref, wp_stl_own, stW_own, stW_val, deref_non, deref_bl, deref_int, deref_str, deref_tup, deref_lst, deref_dic, deref_ref, deref_own, slC_own, slC_val, wp_op2, wp_op1, wp_bin, wp_un, wp_consM, wp_nilM, wp_opn, drf_nil, drf_one, drf_two, wp_tupM, wp_lstM, wp_newM, wp_stls_nil, wp_stls_cons, wp_tst, asB_bl, wp_notM, wp_andM, wp_orM, wp_andV, wp_orV, wp_notV, wp_iteM, wp_chain, wp_sl, wp_optN, wp_optS, intO_none, intO_int, wp_isT, wp_joinM, wp_mutM, wp_mutA, isOw_own, wp_up_own, wp_up_ref, wp_setIx, flW_nx, flW_rt, flW_bk, flW_ct, wp_seq, wp_pass, wp_brk, wp_cnt, wp_setV, wp_setO, wp_drp, wp_retM, wp_retN, wp_ofT, wp_setT, gT_tup, gTs_nil, gTs_cons, gN_eq, wp_nilP, wp_consP, wp_stlP_nil, wp_stlP_t, wp_stlP_f, wp_parM, wrP_nil, wrP_t, wrP_f, wp_forM, wp_walkM, itemsD_tup, itemsD_lst, wp_rng1, wp_rng2, r1W_int, r2W_int, rtW_rt, rtW_nx, foW_nx, foW_ct, foW_bk, foW_rt, wp_forL_nil, wp_forL_cons, wp_compM, wipe_s, wipe_z, wipe_ss, wipe_zs, wipe_sz, wp_tYes, wp_callM, wp_callP, permD, List.map_cons, List.map_nil, List.getD_cons_zero, List.getD_cons_succ, List.cons_append, List.nil_append, List.getElem?_cons_zero, List.getElem?_cons_succ, List.set_cons_zero, List.set_cons_succ, Option.map_some, Option.bind_some, Option.some.injEq, Option.isSome_some, exists_eq_left', exists_eq_left, exists_and_left, true_and, and_true, decide_eq_true_eq, List.length_cons, List.length_nil, if_true, if_false, addD_i, subD_i, negD_i, ltD_i, leD_i, gtD_i, geD_i, lenF_t, lenF_l, lenF_d, absF_i, intF_i, intF_b, tupF_t, tupF_l, lstF_t, lstF_l, ixD_l, ixD_t, at1_0, at2_1, at3_2, isL_l, isS_s, popF_0, eqD_i, neD_i, eqD_s, neD_s, slD_l, slD_t, setF_30, setF_31, setF_32, neD_00, neD_10, Nat.zero_le, Nat.reduceAdd, Nat.reduceLeDiff, Bool.false_eq_true, reduceIte, Prod.mk.injEq, and_assoc, eq_self, decide_true, decide_false, not_true_eq_false, not_false_eq_true, Bool.not_true, Bool.not_false, powD_i (a := 10) (b := 15) (by decide)]
        exact ⟨rfl, fun _ => rfl⟩
      · rw [far_eq]
        simp only [wp_ret, wp_bind, wp_ite, wp_opt, wp_need, wp_rd, slW_val, slW_own, stl_non, stl_bl, stl_int, stl_str, stl_tup, stl_lst, stl_dic, stl_ref, wp_stl_own, stW_own, stW_val, deref_non, deref_bl, deref_int, deref_str, deref_tup, deref_lst, deref_dic, deref_ref, deref_own, slC_own, slC_val, wp_op2, wp_op1, wp_bin, wp_un, wp_consM, wp_nilM, wp_opn, drf_nil, drf_one, drf_two, wp_tupM, wp_lstM, wp_newM, wp_stls_nil, wp_stls_cons, wp_tst, asB_bl, wp_notM, wp_andM, wp_orM, wp_andV, wp_orV, wp_notV, wp_iteM, wp_chain, wp_sl, wp_optN, wp_optS, intO_none, intO_int, wp_isT, wp_joinM, wp_mutM, wp_mutA, isOw_own, wp_up_own, wp_up_ref, wp_setIx, flW_nx, flW_rt, flW_bk, flW_ct, wp_seq, wp_pass, wp_brk, wp_cnt, wp_setV, wp_setO, wp_drp, wp_retM, wp_retN, wp_ofT, wp_setT, gT_tup, gTs_nil, gTs_cons, gN_eq, wp_nilP, wp_consP, wp_stlP_nil, wp_stlP_t, wp_stlP_f, wp_parM, wrP_nil, wrP_t, wrP_f, wp_forM, wp_walkM, itemsD_tup, itemsD_lst, wp_rng1, wp_rng2, r1W_int, r2W_int, rtW_rt, rtW_nx, foW_nx, foW_ct, foW_bk, foW_rt, wp_forL_nil, wp_forL_cons, wp_compM, wipe_s, wipe_z, wipe_ss, wipe_zs, wipe_sz, wp_tYes, wp_callM, wp_callP, permD, List.map_cons, List.map_nil, List.getD_cons_zero, List.getD_cons_succ, List.cons_append, List.nil_append, List.getElem?_cons_zero, List.getElem?_cons_succ, List.set_cons_zero, List.set_cons_succ, Option.map_some, Option.bind_some, Option.some.injEq, Option.isSome_some, exists_eq_left', exists_eq_left, exists_and_left, true_and, and_true, decide_eq_true_eq, List.length_cons, List.length_nil, if_true, if_false, addD_i, subD_i, negD_i, ltD_i, leD_i, gtD_i, geD_i, lenF_t, lenF_l, lenF_d, absF_i, intF_i, intF_b, tupF_t, tupF_l, lstF_t, lstF_l, ixD_l, ixD_t, at1_0, at2_1, at3_2, isL_l, isS_s, popF_0, eqD_i, neD_i, eqD_s, neD_s, slD_l, slD_t, setF_30, setF_31, setF_32, neD_00, neD_10, Nat.zero_le, Nat.reduceAdd, Nat.reduceLeDiff, Bool.false_eq_true, reduceIte, Prod.mk.injEq, and_assoc, eq_self, decide_true, decide_false, not_true_eq_false, not_false_eq_true, Bool.not_true, Bool.not_false]
        refine ⟨_, sv, 0, rfl, fun c hc => ?_, ?_⟩
        · have := of_decide_eq_true (List.mem_filter.mp hc).2
          have h2 : (0 : Int) ≤ (10 : Int) ^ (15 : Int).toNat := by decide
          omega
        · refine Nat.le_trans (List.length_filter_le _ _) ?_
          rw [List.length_map]; omega
/-! ### the law -/
theorem repr_i {v : Int} (h : -(2 ^ 60) < v ∧ v < 2 ^ 60) : reprF [.int v] = some (.str (D.py (.int v)).shown) := by
  refine reprF_of pl_int ?_
  unfold D.wt
  have : v.natAbs.log2 < 64 := by
    by_cases h0 : v.natAbs = 0
    · rw [h0]; decide
    · exact (Nat.log2_lt h0).mpr (by omega)
  rw [if_pos (by omega)]
  omega
theorem wts_le {xs : List D} {b : Nat} (h : ∀ z ∈ xs, z.wt ≤ b) : D.wts xs ≤ xs.length * (b + 2) := by
  induction xs with
  | nil => exact Nat.zero_le _
  | cons x xs ih =>
    unfold D.wts
    have h1 := h x (by simp)
    have h2 := ih fun z hz => h z (List.mem_cons_of_mem _ hz)
    rw [List.length_cons, Nat.add_mul, Nat.one_mul]
    omega
theorem wt_small {v : Int} (h : -1000 < v ∧ v < 1000) : (D.int v).wt ≤ 70 := by
  unfold D.wt
  have : v.natAbs.log2 < 64 := by
    by_cases h0 : v.natAbs = 0
    · rw [h0]; decide
    · exact (Nat.log2_lt h0).mpr (by omega)
  rw [if_pos (by omega)]
  omega
theorem wt_ans {w : Str} {hi : Int} {l : List (Int × Ans)} (h : HOk w hi l) (hh : hi ≤ 101) : (D.tup (encH l)).wt ≤ 16777216 := by
  unfold D.wt
  have hl := h.len
  have := wts_le (xs := encH l) (b := 10000) (fun z hz => by
    obtain ⟨p, hp, rfl⟩ := List.mem_map.mp hz
    obtain ⟨g1, g2, _⟩ := h.lt p hp
    have w1 := wt_small (v := p.1) (by omega)
    have w2 : (encA p.2).wt ≤ 7500 := by
      cases e : p.2 with
      | none => decide
      | some row =>
        obtain ⟨r1, r2⟩ := h.row p hp row e
        have := wts_le (xs := row.map D.int) (b := 70) (fun z hz => by
          obtain ⟨y, hy, rfl⟩ := List.mem_map.mp hz
          have := r2 y hy
          exact wt_small (by omega))
        rw [List.length_map] at this
        show 10 * (Str.ofString "all").length + 2 + 2 + ((D.wts (row.map .int) + 3) + 2 + 0) + 3 ≤ 7500
        have e3 : (Str.ofString "all").length = 3 := rfl
        rw [e3]
        omega
    show (D.int p.1).wt + 2 + ((encA p.2).wt + 2 + 0) + 3 ≤ 10000
    omega)
  have h3 : (encH l).length = l.length := by unfold encH; rw [List.length_map]
  rw [h3] at this
  omega
theorem pl_encH {l : List (Int × Ans)} : D.pl 60 (.tup (encH l)) = true := pl_tup fun z hz => by
  obtain ⟨p, _, rfl⟩ := List.mem_map.mp hz
  refine pl_tup fun z hz => ?_
  simp only [List.mem_cons, List.not_mem_nil, or_false] at hz
  rcases hz with rfl | rfl
  · exact pl_int
  · exact pl_encA _
theorem draw_k {n : Nat} {m : Int} {st : List D} {P : D → List D → Prop} (h : BagOk st) (h1 : 1 ≤ m) (h2 : m < 2 ^ 63) (k : ∀ z st', 0 ≤ z → z < m → BagOk st' → P (.int z) st') : Cw (callF T (n + 1)) 2 [.ref 1, .int m] st P :=
  (draw_ok h h1 h2).imp fun d st' ⟨z, e, q1, q2, q3⟩ => by rw [e]; exact k z st' q1 q2 q3
theorem uniq {l : List (Int × Ans)} {x : Int} {a b : Ans} (nd : (l.map (·.1)).Nodup) (h1 : (x, a) ∈ l) (h2 : (x, b) ∈ l) : a = b := by
  induction l with
  | nil => cases h1
  | cons p l ih =>
    rw [List.map_cons, List.nodup_cons] at nd
    rcases List.mem_cons.mp h1 with e1 | k1
    · rcases List.mem_cons.mp h2 with e2 | k2
      · rw [← e1] at e2; cases e2; rfl
      · subst e1
        exact absurd (show x ∈ l.map (·.1) from List.mem_map.mpr ⟨(x, b), k2, rfl⟩) nd.1
    · rcases List.mem_cons.mp h2 with e2 | k2
      · subst e2
        exact absurd (show x ∈ l.map (·.1) from List.mem_map.mpr ⟨(x, a), k1, rfl⟩) nd.1
      · exact ih nd.2 k1 k2
/-- the play that is made by the answers -/
def WOk (l : List (Int × Ans)) (wl : List Int) : Prop := ∀ (i : Nat) (v : Int), wl[i]? = some v → (v = i + 1 ∨ v = -(i + 1)) ∧ ∀ a, (((i : Int) + 1), a) ∈ l → v = reply a (i + 1) (wl.take i)
theorem WOk.add {l : List (Int × Ans)} {wl : List Int} (h : WOk l wl) {v : Int} (h1 : v = wl.length + 1 ∨ v = -(wl.length + 1)) (h2 : ∀ a, (((wl.length : Int) + 1), a) ∈ l → v = reply a (wl.length + 1) wl) : WOk l (wl ++ [v]) := fun i u hu => by
  by_cases hi : i < wl.length
  · rw [List.getElem?_append_left hi] at hu
    rw [List.take_append_of_le_length (by omega)]
    exact h i u hu
  · have hi2 : i < (wl ++ [v]).length := (List.getElem?_eq_some_iff.mp hu).1
    rw [List.length_append, List.length_singleton] at hi2
    obtain rfl : i = wl.length := by omega
    rw [List.getElem?_append_right (Nat.le_refl _), Nat.sub_self] at hu
    cases hu
    rw [List.take_append_of_le_length (Nat.le_refl _), List.take_length]
    exact ⟨h1, h2⟩
/-- a literal of an earlier letter stands in the whole play just if it stands in the play so far -/
theorem mem_take {l : List (Int × Ans)} {wl : List Int} (h : WOk l wl) {y : Int} {k : Nat} (hy : (1 ≤ y ∧ y < (k : Int) + 1) ∨ (1 ≤ -y ∧ -y < (k : Int) + 1)) : (y ∈ wl) = (y ∈ wl.take k) := by
  refine propext ⟨fun hm => ?_, fun hm => List.mem_of_mem_take hm⟩
  obtain ⟨i, hi⟩ := List.getElem?_of_mem hm
  have := (h i y hi).1
  refine List.mem_of_getElem? (i := i) ?_
  rw [List.getElem?_take_of_lt (by omega)]
  exact hi
theorem yes_take {l : List (Int × Ans)} {wl row : List Int} (h : WOk l wl) {k : Nat} (hr : ∀ y ∈ row, (1 ≤ y ∧ y < (k : Int) + 1) ∨ (1 ≤ -y ∧ -y < (k : Int) + 1)) : yes row wl = yes row (wl.take k) := by
  unfold yes
  induction row with
  | nil => rfl
  | cons y row ih =>
    rw [List.all_cons, List.all_cons, ih fun z hz => hr z (List.mem_cons_of_mem _ hz)]
    congr 1
    have := mem_take h (hr y (by simp))
    simp only [this]
theorem reply_val {a : Ans} {x : Int} {pl : List Int} : reply a x pl = x ∨ reply a x pl = -x := by
  unfold reply
  cases a with
  | none => exact .inr rfl
  | some row => dsimp only; split <;> simp
abbrev SL := Sl
theorem law_true (ns : List Int) (h : ns.length ≤ 63) : ∃ st, callF T fuel 8 [.lst (ns.map .int)] [] = some (.ok (.bl true), st) := by
  suffices hc : Cw (callF T (39 + 1)) 8 [.lst (ns.map .int)] [] fun d _ => d = .bl true by
    obtain ⟨d, st, h1, rfl⟩ := hc.ex
    exact ⟨st, h1⟩
  refine c_8 ?_
  unfold b_8
  simp only [wp_ret, wp_bind, wp_ite, wp_opt, wp_need, wp_rd, slW_val, slW_own, stl_non, stl_bl, stl_int, stl_str, stl_tup, stl_lst, stl_dic, stl_ref, wp_stl_own, stW_own, stW_val, deref_non, deref_bl, deref_int, deref_str, deref_tup, deref_lst, deref_dic, deref_ref, deref_own, slC_own, slC_val, wp_op2, wp_op1, wp_bin, wp_un, wp_consM, wp_nilM, wp_opn, drf_nil, drf_one, drf_two, wp_tupM, wp_lstM, wp_newM, wp_stls_nil, wp_stls_cons, wp_tst, asB_bl, wp_notM, wp_andM, wp_orM, wp_andV, wp_orV, wp_notV, wp_iteM, wp_chain, wp_sl, wp_optN, wp_optS, intO_none, intO_int, wp_isT, wp_joinM, wp_mutM, wp_mutA, isOw_own, wp_up_own, wp_up_ref, wp_setIx, flW_nx, flW_rt, flW_bk, flW_ct, wp_seq, wp_pass, wp_brk, wp_cnt, wp_setV, wp_setO, wp_drp, wp_retM, wp_retN, wp_ofT, wp_setT, gT_tup, gTs_nil, gTs_cons, gN_eq, wp_nilP, wp_consP, wp_stlP_nil, wp_stlP_t, wp_stlP_f, wp_parM, wrP_nil, wrP_t, wrP_f, wp_forM, wp_walkM, itemsD_tup, itemsD_lst, wp_rng1, wp_rng2, r1W_int, r2W_int, rtW_rt, rtW_nx, foW_nx, foW_ct, foW_bk, foW_rt, wp_forL_nil, wp_forL_cons, wp_compM, wipe_s, wipe_z, wipe_ss, wipe_zs, wipe_sz, wp_tYes, wp_callM, wp_callP, permD, List.map_cons, List.map_nil, List.getD_cons_zero, List.getD_cons_succ, List.cons_append, List.nil_append, List.getElem?_cons_zero, List.getElem?_cons_succ, List.set_cons_zero, List.set_cons_succ, Option.map_some, Option.bind_some, Option.some.injEq, Option.isSome_some, exists_eq_left', exists_eq_left, exists_and_left, true_and, and_true, decide_eq_true_eq, List.length_cons, List.length_nil, if_true, if_false, addD_i, subD_i, negD_i, ltD_i, leD_i, gtD_i, geD_i, lenF_t, lenF_l, lenF_d, absF_i, intF_i, intF_b, tupF_t, tupF_l, lstF_t, lstF_l, ixD_l, ixD_t, at1_0, at2_1, at3_2, isL_l, isS_s, popF_0, eqD_i, neD_i, eqD_s, neD_s, slD_l, slD_t, setF_30, setF_31, setF_32, neD_00, neD_10, Nat.zero_le, Nat.reduceAdd, Nat.reduceLeDiff, Bool.false_eq_true, reduceIte, Prod.mk.injEq, and_assoc, eq_self, decide_true, decide_false, not_true_eq_false, not_false_eq_true, Bool.not_true, Bool.not_false]
  refine (bag_ok (n := 38) h).imp fun d st1 hd => ?_
  obtain ⟨rfl, hb⟩ := hd
  simp only [wp_ret, wp_bind, wp_ite, wp_opt, wp_need, wp_rd, slW_val, slW_own, stl_non, stl_bl, stl_int, stl_str, stl_tup, stl_lst, stl_dic, stl_ref, wp_stl_own, stW_own, stW_val, deref_non, deref_bl, deref_int, deref_str, deref_tup, deref_lst, deref_dic, deref_ref, deref_own, slC_own, slC_val, wp_op2, wp_op1, wp_bin, wp_un, wp_consM, wp_nilM, wp_opn, drf_nil, drf_one, drf_two, wp_tupM, wp_lstM, wp_newM, wp_stls_nil, wp_stls_cons, wp_tst, asB_bl, wp_notM, wp_andM, wp_orM, wp_andV, wp_orV, wp_notV, wp_iteM, wp_chain, wp_sl, wp_optN, wp_optS, intO_none, intO_int, wp_isT, wp_joinM, wp_mutM, wp_mutA, isOw_own, wp_up_own, wp_up_ref, wp_setIx, flW_nx, flW_rt, flW_bk, flW_ct, wp_seq, wp_pass, wp_brk, wp_cnt, wp_setV, wp_setO, wp_drp, wp_retM, wp_retN, wp_ofT, wp_setT, gT_tup, gTs_nil, gTs_cons, gN_eq, wp_nilP, wp_consP, wp_stlP_nil, wp_stlP_t, wp_stlP_f, wp_parM, wrP_nil, wrP_t, wrP_f, wp_forM, wp_walkM, itemsD_tup, itemsD_lst, wp_rng1, wp_rng2, r1W_int, r2W_int, rtW_rt, rtW_nx, foW_nx, foW_ct, foW_bk, foW_rt, wp_forL_nil, wp_forL_cons, wp_compM, wipe_s, wipe_z, wipe_ss, wipe_zs, wipe_sz, wp_tYes, wp_callM, wp_callP, permD, List.map_cons, List.map_nil, List.getD_cons_zero, List.getD_cons_succ, List.cons_append, List.nil_append, List.getElem?_cons_zero, List.getElem?_cons_succ, List.set_cons_zero, List.set_cons_succ, Option.map_some, Option.bind_some, Option.some.injEq, Option.isSome_some, exists_eq_left', exists_eq_left, exists_and_left, true_and, and_true, decide_eq_true_eq, List.length_cons, List.length_nil, if_true, if_false, addD_i, subD_i, negD_i, ltD_i, leD_i, gtD_i, geD_i, lenF_t, lenF_l, lenF_d, absF_i, intF_i, intF_b, tupF_t, tupF_l, lstF_t, lstF_l, ixD_l, ixD_t, at1_0, at2_1, at3_2, isL_l, isS_s, popF_0, eqD_i, neD_i, eqD_s, neD_s, slD_l, slD_t, setF_30, setF_31, setF_32, neD_00, neD_10, Nat.zero_le, Nat.reduceAdd, Nat.reduceLeDiff, Bool.false_eq_true, reduceIte, Prod.mk.injEq, and_assoc, eq_self, decide_true, decide_false, not_true_eq_false, not_false_eq_true, Bool.not_true, Bool.not_false]
  refine ⟨by rfl, ?_⟩
  refine wp_forI (fun r s => ∃ (t0 : Int) (st' : List D) (a2 a3 a4 a5 a6 a7 a8 a9 a10 a11 a12 a13 a14 a15 : Sl), r = rngD t0 6 ∧ BagOk st' ∧
    s = ⟨[.val (.lst (ns.map .int)), .val (.ref 1), a2, a3, a4, a5, a6, a7, a8, a9, a10, a11, a12, a13, a14, a15, .un], st'⟩) ⟨0, st1, _, _, _, _, _, _, _, _, _, _, _, _, _, _, rfl, hb, rfl⟩ ?_ ?_
  · rintro I0 toI0 x r s ⟨t0, st', a2, a3, a4, a5, a6, a7, a8, a9, a10, a11, a12, a13, a14, a15, hr, hb, rfl⟩
    obtain ⟨rfl, rfl, hlt⟩ := rng_inv hr
    refine ⟨_, rfl, ?_⟩
    -- n
    rw [wp_seq]
    refine Wp.imp (P := fun f s' => f = .nx ∧ ∃ (m : Int) (st2 : List D), 1 ≤ m ∧ m ≤ 60 ∧ BagOk st2 ∧ s' = ⟨[.val (.lst (ns.map .int)), .val (.ref 1), .val (.int t0), .val (.int m), a4, a5, a6, a7, a8, a9, a10, a11, a12, a13, a14, a15, .un], st2⟩) ?_ ?_
    · simp only [wp_ret, wp_bind, wp_ite, wp_opt, wp_need, wp_rd, slW_val, slW_own, stl_non, stl_bl, stl_int, stl_str, stl_tup, stl_lst, stl_dic, stl_ref, wp_stl_own, stW_own, stW_val, deref_non, deref_bl, deref_int, deref_str, deref_tup, deref_lst, deref_dic, deref_ref, deref_own, slC_own, slC_val, wp_op2, wp_op1, wp_bin, wp_un, wp_consM, wp_nilM, wp_opn, drf_nil, drf_one, drf_two, wp_tupM, wp_lstM, wp_newM, wp_stls_nil, wp_stls_cons, wp_tst, asB_bl, wp_notM, wp_andM, wp_orM, wp_andV, wp_orV, wp_notV, wp_iteM, wp_chain, wp_sl, wp_optN, wp_optS, intO_none, intO_int, wp_isT, wp_joinM, wp_mutM, wp_mutA, isOw_own, wp_up_own, wp_up_ref, wp_setIx, flW_nx, flW_rt, flW_bk, flW_ct, wp_seq, wp_pass, wp_brk, wp_cnt, wp_setV, wp_setO, wp_drp, wp_retM, wp_retN, wp_ofT, wp_setT, gT_tup, gTs_nil, gTs_cons, gN_eq, wp_nilP, wp_consP, wp_stlP_nil, wp_stlP_t, wp_stlP_f, wp_parM, wrP_nil, wrP_t, wrP_f, wp_forM, wp_walkM, itemsD_tup, itemsD_lst, wp_rng1, wp_rng2, r1W_int, r2W_int, rtW_rt, rtW_nx, foW_nx, foW_ct, foW_bk, foW_rt, wp_forL_nil, wp_forL_cons, wp_compM, wipe_s, wipe_z, wipe_ss, wipe_zs, wipe_sz, wp_tYes, wp_callM, wp_callP, permD, List.map_cons, List.map_nil, List.getD_cons_zero, List.getD_cons_succ, List.cons_append, List.nil_append, List.getElem?_cons_zero, List.getElem?_cons_succ, List.set_cons_zero, List.set_cons_succ, Option.map_some, Option.bind_some, Option.some.injEq, Option.isSome_some, exists_eq_left', exists_eq_left, exists_and_left, true_and, and_true, decide_eq_true_eq, List.length_cons, List.length_nil, if_true, if_false, addD_i, subD_i, negD_i, ltD_i, leD_i, gtD_i, geD_i, lenF_t, lenF_l, lenF_d, absF_i, intF_i, intF_b, tupF_t, tupF_l, lstF_t, lstF_l, ixD_l, ixD_t, at1_0, at2_1, at3_2, isL_l, isS_s, popF_0, eqD_i, neD_i, eqD_s, neD_s, slD_l, slD_t, setF_30, setF_31, setF_32, neD_00, neD_10, Nat.zero_le, Nat.reduceAdd, Nat.reduceLeDiff, Bool.false_eq_true, reduceIte, Prod.mk.injEq, and_assoc, eq_self, decide_true, decide_false, not_true_eq_false, not_false_eq_true, Bool.not_true, Bool.not_false]
      split
      · refine draw_k hb (by omega) (by omega) fun z st2 _ _ hb2 => ?_
        simp only [wp_ret, wp_bind, wp_ite, wp_opt, wp_need, wp_rd, slW_val, slW_own, stl_non, stl_bl, stl_int, stl_str, stl_tup, stl_lst, stl_dic, stl_ref, wp_stl_own, stW_own, stW_val, deref_non, deref_bl, deref_int, deref_str, deref_tup, deref_lst, deref_dic, deref_ref, deref_own, slC_own, slC_val, wp_op2, wp_op1, wp_bin, wp_un, wp_consM, wp_nilM, wp_opn, drf_nil, drf_one, drf_two, wp_tupM, wp_lstM, wp_newM, wp_stls_nil, wp_stls_cons, wp_tst, asB_bl, wp_notM, wp_andM, wp_orM, wp_andV, wp_orV, wp_notV, wp_iteM, wp_chain, wp_sl, wp_optN, wp_optS, intO_none, intO_int, wp_isT, wp_joinM, wp_mutM, wp_mutA, isOw_own, wp_up_own, wp_up_ref, wp_setIx, flW_nx, flW_rt, flW_bk, flW_ct, wp_seq, wp_pass, wp_brk, wp_cnt, wp_setV, wp_setO, wp_drp, wp_retM, wp_retN, wp_ofT, wp_setT, gT_tup, gTs_nil, gTs_cons, gN_eq, wp_nilP, wp_consP, wp_stlP_nil, wp_stlP_t, wp_stlP_f, wp_parM, wrP_nil, wrP_t, wrP_f, wp_forM, wp_walkM, itemsD_tup, itemsD_lst, wp_rng1, wp_rng2, r1W_int, r2W_int, rtW_rt, rtW_nx, foW_nx, foW_ct, foW_bk, foW_rt, wp_forL_nil, wp_forL_cons, wp_compM, wipe_s, wipe_z, wipe_ss, wipe_zs, wipe_sz, wp_tYes, wp_callM, wp_callP, permD, List.map_cons, List.map_nil, List.getD_cons_zero, List.getD_cons_succ, List.cons_append, List.nil_append, List.getElem?_cons_zero, List.getElem?_cons_succ, List.set_cons_zero, List.set_cons_succ, Option.map_some, Option.bind_some, Option.some.injEq, Option.isSome_some, exists_eq_left', exists_eq_left, exists_and_left, true_and, and_true, decide_eq_true_eq, List.length_cons, List.length_nil, if_true, if_false, addD_i, subD_i, negD_i, ltD_i, leD_i, gtD_i, geD_i, lenF_t, lenF_l, lenF_d, absF_i, intF_i, intF_b, tupF_t, tupF_l, lstF_t, lstF_l, ixD_l, ixD_t, at1_0, at2_1, at3_2, isL_l, isS_s, popF_0, eqD_i, neD_i, eqD_s, neD_s, slD_l, slD_t, setF_30, setF_31, setF_32, neD_00, neD_10, Nat.zero_le, Nat.reduceAdd, Nat.reduceLeDiff, Bool.false_eq_true, reduceIte, Prod.mk.injEq, and_assoc, eq_self, decide_true, decide_false, not_true_eq_false, not_false_eq_true, Bool.not_true, Bool.not_false]
        split
        · exact ⟨60, by omega, by omega, st2, hb2, rfl⟩
        · refine draw_k hb2 (by omega) (by omega) fun z st3 _ _ hb3 => ?_
          simp only [wp_ret, wp_bind, wp_ite, wp_opt, wp_need, wp_rd, slW_val, slW_own, stl_non, stl_bl, stl_int, stl_str, stl_tup, stl_lst, stl_dic, stl_ref, wp_stl_own, stW_own, stW_val, deref_non, deref_bl, deref_int, deref_str, deref_tup, deref_lst, deref_dic, deref_ref, deref_own, slC_own, slC_val, wp_op2, wp_op1, wp_bin, wp_un, wp_consM, wp_nilM, wp_opn, drf_nil, drf_one, drf_two, wp_tupM, wp_lstM, wp_newM, wp_stls_nil, wp_stls_cons, wp_tst, asB_bl, wp_notM, wp_andM, wp_orM, wp_andV, wp_orV, wp_notV, wp_iteM, wp_chain, wp_sl, wp_optN, wp_optS, intO_none, intO_int, wp_isT, wp_joinM, wp_mutM, wp_mutA, isOw_own, wp_up_own, wp_up_ref, wp_setIx, flW_nx, flW_rt, flW_bk, flW_ct, wp_seq, wp_pass, wp_brk, wp_cnt, wp_setV, wp_setO, wp_drp, wp_retM, wp_retN, wp_ofT, wp_setT, gT_tup, gTs_nil, gTs_cons, gN_eq, wp_nilP, wp_consP, wp_stlP_nil, wp_stlP_t, wp_stlP_f, wp_parM, wrP_nil, wrP_t, wrP_f, wp_forM, wp_walkM, itemsD_tup, itemsD_lst, wp_rng1, wp_rng2, r1W_int, r2W_int, rtW_rt, rtW_nx, foW_nx, foW_ct, foW_bk, foW_rt, wp_forL_nil, wp_forL_cons, wp_compM, wipe_s, wipe_z, wipe_ss, wipe_zs, wipe_sz, wp_tYes, wp_callM, wp_callP, permD, List.map_cons, List.map_nil, List.getD_cons_zero, List.getD_cons_succ, List.cons_append, List.nil_append, List.getElem?_cons_zero, List.getElem?_cons_succ, List.set_cons_zero, List.set_cons_succ, Option.map_some, Option.bind_some, Option.some.injEq, Option.isSome_some, exists_eq_left', exists_eq_left, exists_and_left, true_and, and_true, decide_eq_true_eq, List.length_cons, List.length_nil, if_true, if_false, addD_i, subD_i, negD_i, ltD_i, leD_i, gtD_i, geD_i, lenF_t, lenF_l, lenF_d, absF_i, intF_i, intF_b, tupF_t, tupF_l, lstF_t, lstF_l, ixD_l, ixD_t, at1_0, at2_1, at3_2, isL_l, isS_s, popF_0, eqD_i, neD_i, eqD_s, neD_s, slD_l, slD_t, setF_30, setF_31, setF_32, neD_00, neD_10, Nat.zero_le, Nat.reduceAdd, Nat.reduceLeDiff, Bool.false_eq_true, reduceIte, Prod.mk.injEq, and_assoc, eq_self, decide_true, decide_false, not_true_eq_false, not_false_eq_true, Bool.not_true, Bool.not_false]
          exact ⟨1 + z, by omega, by omega, st3, hb3, rfl⟩
      · refine draw_k hb (by omega) (by omega) fun z st3 _ _ hb3 => ?_
        simp only [wp_ret, wp_bind, wp_ite, wp_opt, wp_need, wp_rd, slW_val, slW_own, stl_non, stl_bl, stl_int, stl_str, stl_tup, stl_lst, stl_dic, stl_ref, wp_stl_own, stW_own, stW_val, deref_non, deref_bl, deref_int, deref_str, deref_tup, deref_lst, deref_dic, deref_ref, deref_own, slC_own, slC_val, wp_op2, wp_op1, wp_bin, wp_un, wp_consM, wp_nilM, wp_opn, drf_nil, drf_one, drf_two, wp_tupM, wp_lstM, wp_newM, wp_stls_nil, wp_stls_cons, wp_tst, asB_bl, wp_notM, wp_andM, wp_orM, wp_andV, wp_orV, wp_notV, wp_iteM, wp_chain, wp_sl, wp_optN, wp_optS, intO_none, intO_int, wp_isT, wp_joinM, wp_mutM, wp_mutA, isOw_own, wp_up_own, wp_up_ref, wp_setIx, flW_nx, flW_rt, flW_bk, flW_ct, wp_seq, wp_pass, wp_brk, wp_cnt, wp_setV, wp_setO, wp_drp, wp_retM, wp_retN, wp_ofT, wp_setT, gT_tup, gTs_nil, gTs_cons, gN_eq, wp_nilP, wp_consP, wp_stlP_nil, wp_stlP_t, wp_stlP_f, wp_parM, wrP_nil, wrP_t, wrP_f, wp_forM, wp_walkM, itemsD_tup, itemsD_lst, wp_rng1, wp_rng2, r1W_int, r2W_int, rtW_rt, rtW_nx, foW_nx, foW_ct, foW_bk, foW_rt, wp_forL_nil, wp_forL_cons, wp_compM, wipe_s, wipe_z, wipe_ss, wipe_zs, wipe_sz, wp_tYes, wp_callM, wp_callP, permD, List.map_cons, List.map_nil, List.getD_cons_zero, List.getD_cons_succ, List.cons_append, List.nil_append, List.getElem?_cons_zero, List.getElem?_cons_succ, List.set_cons_zero, List.set_cons_succ, Option.map_some, Option.bind_some, Option.some.injEq, Option.isSome_some, exists_eq_left', exists_eq_left, exists_and_left, true_and, and_true, decide_eq_true_eq, List.length_cons, List.length_nil, if_true, if_false, addD_i, subD_i, negD_i, ltD_i, leD_i, gtD_i, geD_i, lenF_t, lenF_l, lenF_d, absF_i, intF_i, intF_b, tupF_t, tupF_l, lstF_t, lstF_l, ixD_l, ixD_t, at1_0, at2_1, at3_2, isL_l, isS_s, popF_0, eqD_i, neD_i, eqD_s, neD_s, slD_l, slD_t, setF_30, setF_31, setF_32, neD_00, neD_10, Nat.zero_le, Nat.reduceAdd, Nat.reduceLeDiff, Bool.false_eq_true, reduceIte, Prod.mk.injEq, and_assoc, eq_self, decide_true, decide_false, not_true_eq_false, not_false_eq_true, Bool.not_true, Bool.not_false]
        exact ⟨1 + z, by omega, by omega, st3, hb3, rfl⟩
    rintro f s' ⟨rfl, m, st2, hm1, hm2, hb2, rfl⟩
    -- owners, heard
    rw [flW_nx, wp_seq]
    refine Wp.imp (P := fun f s' => f = .nx ∧ ∃ (w : Str) (st3 : List D), (w.length : Int) = m ∧ BagOk st3 ∧ s' = ⟨[.val (.lst (ns.map .int)), .val (.ref 1), .val (.int t0), .val (.int m), .val (.str w), a5, a6, a7, a8, a9, a10, a11, a12, a13, a14, a15, .un], st3⟩) ?_ ?_
    · simp only [wp_ret, wp_bind, wp_ite, wp_opt, wp_need, wp_rd, slW_val, slW_own, stl_non, stl_bl, stl_int, stl_str, stl_tup, stl_lst, stl_dic, stl_ref, wp_stl_own, stW_own, stW_val, deref_non, deref_bl, deref_int, deref_str, deref_tup, deref_lst, deref_dic, deref_ref, deref_own, slC_own, slC_val, wp_op2, wp_op1, wp_bin, wp_un, wp_consM, wp_nilM, wp_opn, drf_nil, drf_one, drf_two, wp_tupM, wp_lstM, wp_newM, wp_stls_nil, wp_stls_cons, wp_tst, asB_bl, wp_notM, wp_andM, wp_orM, wp_andV, wp_orV, wp_notV, wp_iteM, wp_chain, wp_sl, wp_optN, wp_optS, intO_none, intO_int, wp_isT, wp_joinM, wp_mutM, wp_mutA, isOw_own, wp_up_own, wp_up_ref, wp_setIx, flW_nx, flW_rt, flW_bk, flW_ct, wp_seq, wp_pass, wp_brk, wp_cnt, wp_setV, wp_setO, wp_drp, wp_retM, wp_retN, wp_ofT, wp_setT, gT_tup, gTs_nil, gTs_cons, gN_eq, wp_nilP, wp_consP, wp_stlP_nil, wp_stlP_t, wp_stlP_f, wp_parM, wrP_nil, wrP_t, wrP_f, wp_forM, wp_walkM, itemsD_tup, itemsD_lst, wp_rng1, wp_rng2, r1W_int, r2W_int, rtW_rt, rtW_nx, foW_nx, foW_ct, foW_bk, foW_rt, wp_forL_nil, wp_forL_cons, wp_compM, wipe_s, wipe_z, wipe_ss, wipe_zs, wipe_sz, wp_tYes, wp_callM, wp_callP, permD, List.map_cons, List.map_nil, List.getD_cons_zero, List.getD_cons_succ, List.cons_append, List.nil_append, List.getElem?_cons_zero, List.getElem?_cons_succ, List.set_cons_zero, List.set_cons_succ, Option.map_some, Option.bind_some, Option.some.injEq, Option.isSome_some, exists_eq_left', exists_eq_left, exists_and_left, true_and, and_true, decide_eq_true_eq, List.length_cons, List.length_nil, if_true, if_false, addD_i, subD_i, negD_i, ltD_i, leD_i, gtD_i, geD_i, lenF_t, lenF_l, lenF_d, absF_i, intF_i, intF_b, tupF_t, tupF_l, lstF_t, lstF_l, ixD_l, ixD_t, at1_0, at2_1, at3_2, isL_l, isS_s, popF_0, eqD_i, neD_i, eqD_s, neD_s, slD_l, slD_t, setF_30, setF_31, setF_32, neD_00, neD_10, Nat.zero_le, Nat.reduceAdd, Nat.reduceLeDiff, Bool.false_eq_true, reduceIte, Prod.mk.injEq, and_assoc, eq_self, decide_true, decide_false, not_true_eq_false, not_false_eq_true, Bool.not_true, Bool.not_false]
      refine (owners_ok (n := 36) hb2 hm1 (by omega)).imp fun d st3 hd => ?_
      obtain ⟨w, rfl, hw, hb3⟩ := hd
      simp only [wp_ret, wp_bind, wp_ite, wp_opt, wp_need, wp_rd, slW_val, slW_own, stl_non, stl_bl, stl_int, stl_str, stl_tup, stl_lst, stl_dic, stl_ref, wp_stl_own, stW_own, stW_val, deref_non, deref_bl, deref_int, deref_str, deref_tup, deref_lst, deref_dic, deref_ref, deref_own, slC_own, slC_val, wp_op2, wp_op1, wp_bin, wp_un, wp_consM, wp_nilM, wp_opn, drf_nil, drf_one, drf_two, wp_tupM, wp_lstM, wp_newM, wp_stls_nil, wp_stls_cons, wp_tst, asB_bl, wp_notM, wp_andM, wp_orM, wp_andV, wp_orV, wp_notV, wp_iteM, wp_chain, wp_sl, wp_optN, wp_optS, intO_none, intO_int, wp_isT, wp_joinM, wp_mutM, wp_mutA, isOw_own, wp_up_own, wp_up_ref, wp_setIx, flW_nx, flW_rt, flW_bk, flW_ct, wp_seq, wp_pass, wp_brk, wp_cnt, wp_setV, wp_setO, wp_drp, wp_retM, wp_retN, wp_ofT, wp_setT, gT_tup, gTs_nil, gTs_cons, gN_eq, wp_nilP, wp_consP, wp_stlP_nil, wp_stlP_t, wp_stlP_f, wp_parM, wrP_nil, wrP_t, wrP_f, wp_forM, wp_walkM, itemsD_tup, itemsD_lst, wp_rng1, wp_rng2, r1W_int, r2W_int, rtW_rt, rtW_nx, foW_nx, foW_ct, foW_bk, foW_rt, wp_forL_nil, wp_forL_cons, wp_compM, wipe_s, wipe_z, wipe_ss, wipe_zs, wipe_sz, wp_tYes, wp_callM, wp_callP, permD, List.map_cons, List.map_nil, List.getD_cons_zero, List.getD_cons_succ, List.cons_append, List.nil_append, List.getElem?_cons_zero, List.getElem?_cons_succ, List.set_cons_zero, List.set_cons_succ, Option.map_some, Option.bind_some, Option.some.injEq, Option.isSome_some, exists_eq_left', exists_eq_left, exists_and_left, true_and, and_true, decide_eq_true_eq, List.length_cons, List.length_nil, if_true, if_false, addD_i, subD_i, negD_i, ltD_i, leD_i, gtD_i, geD_i, lenF_t, lenF_l, lenF_d, absF_i, intF_i, intF_b, tupF_t, tupF_l, lstF_t, lstF_l, ixD_l, ixD_t, at1_0, at2_1, at3_2, isL_l, isS_s, popF_0, eqD_i, neD_i, eqD_s, neD_s, slD_l, slD_t, setF_30, setF_31, setF_32, neD_00, neD_10, Nat.zero_le, Nat.reduceAdd, Nat.reduceLeDiff, Bool.false_eq_true, reduceIte, Prod.mk.injEq, and_assoc, eq_self, decide_true, decide_false, not_true_eq_false, not_false_eq_true, Bool.not_true, Bool.not_false]
      exact ⟨w, hw, st3, hb3, rfl⟩
    rintro f s' ⟨rfl, w, st3, hw, hb3, rfl⟩
    rw [flW_nx, wp_seq]
    refine Wp.imp (P := fun f s' => f = .nx ∧ ∃ (l : List (Int × Ans)) (st4 : List D), HOk w (w.length + 1) l ∧ BagOk st4 ∧ s' = ⟨[.val (.lst (ns.map .int)), .val (.ref 1), .val (.int t0), .val (.int m), .val (.str w), .val (.tup (encH l)), a6, a7, a8, a9, a10, a11, a12, a13, a14, a15, .un], st4⟩) ?_ ?_
    · have pk : ∀ (q : Int), 0 ≤ q → q ≤ 6 → Cw (callF T 39) 3 [.ref 1, .lst [.lst [.int 1], .lst [.int 1, .int (-1)], .lst [.int (-1)]]] st3 fun d st' => Cw (callF T 39) 6 [.ref 1, .str w, .int q, d] st' fun d st' => ∃ l, d = .tup (encH l) ∧ HOk w (w.length + 1) l ∧ BagOk st' := fun q q0 q1 => by
        refine (pick_ok (n := 37) hb3 (by simp) (by simp) (by simp [IsV])).imp fun d st4 hd => ?_
        obtain ⟨hd, hb4⟩ := hd
        obtain ⟨sg, rfl, g1, g2, g3⟩ : ∃ sg : List Int, d = .lst (sg.map .int) ∧ (∀ k ∈ sg, k = 1 ∨ k = -1) ∧ 0 < sg.length ∧ sg.length ≤ 10 := by
          simp only [List.mem_cons, List.not_mem_nil, or_false] at hd
          rcases hd with rfl | rfl | rfl
          · exact ⟨[1], rfl, by simp, by simp, by simp⟩
          · exact ⟨[1, -1], rfl, by simp, by simp, by simp⟩
          · exact ⟨[-1], rfl, by simp, by simp, by simp⟩
        exact own_ok (n := 36) hb4 (by omega) q0 (by omega) g1 g2 g3
      have fin : ∀ (q : Int), 0 ≤ q → q ≤ 6 → Cw (callF T 39) 3 [.ref 1, .lst [.lst [.int 1], .lst [.int 1, .int (-1)], .lst [.int (-1)]]] st3 fun d st' => IsV d ∧ Cw (callF T 39) 6 [.ref 1, .str w, .int q, d] st' fun d st' => ∃ l, d = .tup (encH l) ∧ HOk w (w.length + 1) l ∧ BagOk st' := fun q q0 q1 => by
        have h1 := pk q q0 q1
        have h2 := (pick_ok (n := 37) (xs := [.lst [.int 1], .lst [.int 1, .int (-1)], .lst [.int (-1)]]) hb3 (by simp) (by simp) (by simp [IsV]))
        obtain ⟨d, st', e, h1⟩ := h1.ex
        obtain ⟨d', st'', e', h2⟩ := h2.ex
        rw [e] at e'
        cases e'
        unfold Cw
        rw [e]
        refine ⟨?_, h1⟩
        have hv := h2.1
        simp only [List.mem_cons, List.not_mem_nil, or_false] at hv
        rcases hv with rfl | rfl | rfl <;> (intro i; nofun)
      simp only [wp_ret, wp_bind, wp_ite, wp_opt, wp_need, wp_rd, slW_val, slW_own, stl_non, stl_bl, stl_int, stl_str, stl_tup, stl_lst, stl_dic, stl_ref, wp_stl_own, stW_own, stW_val, deref_non, deref_bl, deref_int, deref_str, deref_tup, deref_lst, deref_dic, deref_ref, deref_own, slC_own, slC_val, wp_op2, wp_op1, wp_bin, wp_un, wp_consM, wp_nilM, wp_opn, drf_nil, drf_one, drf_two, wp_tupM, wp_lstM, wp_newM, wp_stls_nil, wp_stls_cons, wp_tst, asB_bl, wp_notM, wp_andM, wp_orM, wp_andV, wp_orV, wp_notV, wp_iteM, wp_chain, wp_sl, wp_optN, wp_optS, intO_none, intO_int, wp_isT, wp_joinM, wp_mutM, wp_mutA, isOw_own, wp_up_own, wp_up_ref, wp_setIx, flW_nx, flW_rt, flW_bk, flW_ct, wp_seq, wp_pass, wp_brk, wp_cnt, wp_setV, wp_setO, wp_drp, wp_retM, wp_retN, wp_ofT, wp_setT, gT_tup, gTs_nil, gTs_cons, gN_eq, wp_nilP, wp_consP, wp_stlP_nil, wp_stlP_t, wp_stlP_f, wp_parM, wrP_nil, wrP_t, wrP_f, wp_forM, wp_walkM, itemsD_tup, itemsD_lst, wp_rng1, wp_rng2, r1W_int, r2W_int, rtW_rt, rtW_nx, foW_nx, foW_ct, foW_bk, foW_rt, wp_forL_nil, wp_forL_cons, wp_compM, wipe_s, wipe_z, wipe_ss, wipe_zs, wipe_sz, wp_tYes, wp_callM, wp_callP, permD, List.map_cons, List.map_nil, List.getD_cons_zero, List.getD_cons_succ, List.cons_append, List.nil_append, List.getElem?_cons_zero, List.getElem?_cons_succ, List.set_cons_zero, List.set_cons_succ, Option.map_some, Option.bind_some, Option.some.injEq, Option.isSome_some, exists_eq_left', exists_eq_left, exists_and_left, true_and, and_true, decide_eq_true_eq, List.length_cons, List.length_nil, if_true, if_false, addD_i, subD_i, negD_i, ltD_i, leD_i, gtD_i, geD_i, lenF_t, lenF_l, lenF_d, absF_i, intF_i, intF_b, tupF_t, tupF_l, lstF_t, lstF_l, ixD_l, ixD_t, at1_0, at2_1, at3_2, isL_l, isS_s, popF_0, eqD_i, neD_i, eqD_s, neD_s, slD_l, slD_t, setF_30, setF_31, setF_32, neD_00, neD_10, Nat.zero_le, Nat.reduceAdd, Nat.reduceLeDiff, Bool.false_eq_true, reduceIte, Prod.mk.injEq, and_assoc, eq_self, decide_true, decide_false, not_true_eq_false, not_false_eq_true, Bool.not_true, Bool.not_false]
      split
      · refine (fin 6 (by omega) (by omega)).imp fun d st4 hd => ?_
        simp only [wp_ret, wp_bind, wp_ite, wp_opt, wp_need, wp_rd, slW_val, slW_own, stl_non, stl_bl, stl_int, stl_str, stl_tup, stl_lst, stl_dic, stl_ref, wp_stl_own, stW_own, stW_val, deref_non, deref_bl, deref_int, deref_str, deref_tup, deref_lst, deref_dic, deref_ref, deref_own, slC_own, slC_val, wp_op2, wp_op1, wp_bin, wp_un, wp_consM, wp_nilM, wp_opn, drf_nil, drf_one, drf_two, wp_tupM, wp_lstM, wp_newM, wp_stls_nil, wp_stls_cons, wp_tst, asB_bl, wp_notM, wp_andM, wp_orM, wp_andV, wp_orV, wp_notV, wp_iteM, wp_chain, wp_sl, wp_optN, wp_optS, intO_none, intO_int, wp_isT, wp_joinM, wp_mutM, wp_mutA, isOw_own, wp_up_own, wp_up_ref, wp_setIx, flW_nx, flW_rt, flW_bk, flW_ct, wp_seq, wp_pass, wp_brk, wp_cnt, wp_setV, wp_setO, wp_drp, wp_retM, wp_retN, wp_ofT, wp_setT, gT_tup, gTs_nil, gTs_cons, gN_eq, wp_nilP, wp_consP, wp_stlP_nil, wp_stlP_t, wp_stlP_f, wp_parM, wrP_nil, wrP_t, wrP_f, wp_forM, wp_walkM, itemsD_tup, itemsD_lst, wp_rng1, wp_rng2, r1W_int, r2W_int, rtW_rt, rtW_nx, foW_nx, foW_ct, foW_bk, foW_rt, wp_forL_nil, wp_forL_cons, wp_compM, wipe_s, wipe_z, wipe_ss, wipe_zs, wipe_sz, wp_tYes, wp_callM, wp_callP, permD, List.map_cons, List.map_nil, List.getD_cons_zero, List.getD_cons_succ, List.cons_append, List.nil_append, List.getElem?_cons_zero, List.getElem?_cons_succ, List.set_cons_zero, List.set_cons_succ, Option.map_some, Option.bind_some, Option.some.injEq, Option.isSome_some, exists_eq_left', exists_eq_left, exists_and_left, true_and, and_true, decide_eq_true_eq, List.length_cons, List.length_nil, if_true, if_false, addD_i, subD_i, negD_i, ltD_i, leD_i, gtD_i, geD_i, lenF_t, lenF_l, lenF_d, absF_i, intF_i, intF_b, tupF_t, tupF_l, lstF_t, lstF_l, ixD_l, ixD_t, at1_0, at2_1, at3_2, isL_l, isS_s, popF_0, eqD_i, neD_i, eqD_s, neD_s, slD_l, slD_t, setF_30, setF_31, setF_32, neD_00, neD_10, Nat.zero_le, Nat.reduceAdd, Nat.reduceLeDiff, Bool.false_eq_true, reduceIte, Prod.mk.injEq, and_assoc, eq_self, decide_true, decide_false, not_true_eq_false, not_false_eq_true, Bool.not_true, Bool.not_false, stl_v hd.1]
        refine hd.2.imp fun d st5 hd => ?_
        obtain ⟨l, rfl, hl, hb5⟩ := hd
        simp only [wp_ret, wp_bind, wp_ite, wp_opt, wp_need, wp_rd, slW_val, slW_own, stl_non, stl_bl, stl_int, stl_str, stl_tup, stl_lst, stl_dic, stl_ref, wp_stl_own, stW_own, stW_val, deref_non, deref_bl, deref_int, deref_str, deref_tup, deref_lst, deref_dic, deref_ref, deref_own, slC_own, slC_val, wp_op2, wp_op1, wp_bin, wp_un, wp_consM, wp_nilM, wp_opn, drf_nil, drf_one, drf_two, wp_tupM, wp_lstM, wp_newM, wp_stls_nil, wp_stls_cons, wp_tst, asB_bl, wp_notM, wp_andM, wp_orM, wp_andV, wp_orV, wp_notV, wp_iteM, wp_chain, wp_sl, wp_optN, wp_optS, intO_none, intO_int, wp_isT, wp_joinM, wp_mutM, wp_mutA, isOw_own, wp_up_own, wp_up_ref, wp_setIx, flW_nx, flW_rt, flW_bk, flW_ct, wp_seq, wp_pass, wp_brk, wp_cnt, wp_setV, wp_setO, wp_drp, wp_retM, wp_retN, wp_ofT, wp_setT, gT_tup, gTs_nil, gTs_cons, gN_eq, wp_nilP, wp_consP, wp_stlP_nil, wp_stlP_t, wp_stlP_f, wp_parM, wrP_nil, wrP_t, wrP_f, wp_forM, wp_walkM, itemsD_tup, itemsD_lst, wp_rng1, wp_rng2, r1W_int, r2W_int, rtW_rt, rtW_nx, foW_nx, foW_ct, foW_bk, foW_rt, wp_forL_nil, wp_forL_cons, wp_compM, wipe_s, wipe_z, wipe_ss, wipe_zs, wipe_sz, wp_tYes, wp_callM, wp_callP, permD, List.map_cons, List.map_nil, List.getD_cons_zero, List.getD_cons_succ, List.cons_append, List.nil_append, List.getElem?_cons_zero, List.getElem?_cons_succ, List.set_cons_zero, List.set_cons_succ, Option.map_some, Option.bind_some, Option.some.injEq, Option.isSome_some, exists_eq_left', exists_eq_left, exists_and_left, true_and, and_true, decide_eq_true_eq, List.length_cons, List.length_nil, if_true, if_false, addD_i, subD_i, negD_i, ltD_i, leD_i, gtD_i, geD_i, lenF_t, lenF_l, lenF_d, absF_i, intF_i, intF_b, tupF_t, tupF_l, lstF_t, lstF_l, ixD_l, ixD_t, at1_0, at2_1, at3_2, isL_l, isS_s, popF_0, eqD_i, neD_i, eqD_s, neD_s, slD_l, slD_t, setF_30, setF_31, setF_32, neD_00, neD_10, Nat.zero_le, Nat.reduceAdd, Nat.reduceLeDiff, Bool.false_eq_true, reduceIte, Prod.mk.injEq, and_assoc, eq_self, decide_true, decide_false, not_true_eq_false, not_false_eq_true, Bool.not_true, Bool.not_false]
        exact ⟨l, hl, st5, hb5, rfl⟩
      · refine (fin 3 (by omega) (by omega)).imp fun d st4 hd => ?_
        simp only [wp_ret, wp_bind, wp_ite, wp_opt, wp_need, wp_rd, slW_val, slW_own, stl_non, stl_bl, stl_int, stl_str, stl_tup, stl_lst, stl_dic, stl_ref, wp_stl_own, stW_own, stW_val, deref_non, deref_bl, deref_int, deref_str, deref_tup, deref_lst, deref_dic, deref_ref, deref_own, slC_own, slC_val, wp_op2, wp_op1, wp_bin, wp_un, wp_consM, wp_nilM, wp_opn, drf_nil, drf_one, drf_two, wp_tupM, wp_lstM, wp_newM, wp_stls_nil, wp_stls_cons, wp_tst, asB_bl, wp_notM, wp_andM, wp_orM, wp_andV, wp_orV, wp_notV, wp_iteM, wp_chain, wp_sl, wp_optN, wp_optS, intO_none, intO_int, wp_isT, wp_joinM, wp_mutM, wp_mutA, isOw_own, wp_up_own, wp_up_ref, wp_setIx, flW_nx, flW_rt, flW_bk, flW_ct, wp_seq, wp_pass, wp_brk, wp_cnt, wp_setV, wp_setO, wp_drp, wp_retM, wp_retN, wp_ofT, wp_setT, gT_tup, gTs_nil, gTs_cons, gN_eq, wp_nilP, wp_consP, wp_stlP_nil, wp_stlP_t, wp_stlP_f, wp_parM, wrP_nil, wrP_t, wrP_f, wp_forM, wp_walkM, itemsD_tup, itemsD_lst, wp_rng1, wp_rng2, r1W_int, r2W_int, rtW_rt, rtW_nx, foW_nx, foW_ct, foW_bk, foW_rt, wp_forL_nil, wp_forL_cons, wp_compM, wipe_s, wipe_z, wipe_ss, wipe_zs, wipe_sz, wp_tYes, wp_callM, wp_callP, permD, List.map_cons, List.map_nil, List.getD_cons_zero, List.getD_cons_succ, List.cons_append, List.nil_append, List.getElem?_cons_zero, List.getElem?_cons_succ, List.set_cons_zero, List.set_cons_succ, Option.map_some, Option.bind_some, Option.some.injEq, Option.isSome_some, exists_eq_left', exists_eq_left, exists_and_left, true_and, and_true, decide_eq_true_eq, List.length_cons, List.length_nil, if_true, if_false, addD_i, subD_i, negD_i, ltD_i, leD_i, gtD_i, geD_i, lenF_t, lenF_l, lenF_d, absF_i, intF_i, intF_b, tupF_t, tupF_l, lstF_t, lstF_l, ixD_l, ixD_t, at1_0, at2_1, at3_2, isL_l, isS_s, popF_0, eqD_i, neD_i, eqD_s, neD_s, slD_l, slD_t, setF_30, setF_31, setF_32, neD_00, neD_10, Nat.zero_le, Nat.reduceAdd, Nat.reduceLeDiff, Bool.false_eq_true, reduceIte, Prod.mk.injEq, and_assoc, eq_self, decide_true, decide_false, not_true_eq_false, not_false_eq_true, Bool.not_true, Bool.not_false, stl_v hd.1]
        refine hd.2.imp fun d st5 hd => ?_
        obtain ⟨l, rfl, hl, hb5⟩ := hd
        simp only [wp_ret, wp_bind, wp_ite, wp_opt, wp_need, wp_rd, slW_val, slW_own, stl_non, stl_bl, stl_int, stl_str, stl_tup, stl_lst, stl_dic, stl_ref, wp_stl_own, stW_own, stW_val, deref_non, deref_bl, deref_int, deref_str, deref_tup, deref_lst, deref_dic, deref_ref, deref_own, slC_own, slC_val, wp_op2, wp_op1, wp_bin, wp_un, wp_consM, wp_nilM, wp_opn, drf_nil, drf_one, drf_two, wp_tupM, wp_lstM, wp_newM, wp_stls_nil, wp_stls_cons, wp_tst, asB_bl, wp_notM, wp_andM, wp_orM, wp_andV, wp_orV, wp_notV, wp_iteM, wp_chain, wp_sl, wp_optN, wp_optS, intO_none, intO_int, wp_isT, wp_joinM, wp_mutM, wp_mutA, isOw_own, wp_up_own, wp_up_ref, wp_setIx, flW_nx, flW_rt, flW_bk, flW_ct, wp_seq, wp_pass, wp_brk, wp_cnt, wp_setV, wp_setO, wp_drp, wp_retM, wp_retN, wp_ofT, wp_setT, gT_tup, gTs_nil, gTs_cons, gN_eq, wp_nilP, wp_consP, wp_stlP_nil, wp_stlP_t, wp_stlP_f, wp_parM, wrP_nil, wrP_t, wrP_f, wp_forM, wp_walkM, itemsD_tup, itemsD_lst, wp_rng1, wp_rng2, r1W_int, r2W_int, rtW_rt, rtW_nx, foW_nx, foW_ct, foW_bk, foW_rt, wp_forL_nil, wp_forL_cons, wp_compM, wipe_s, wipe_z, wipe_ss, wipe_zs, wipe_sz, wp_tYes, wp_callM, wp_callP, permD, List.map_cons, List.map_nil, List.getD_cons_zero, List.getD_cons_succ, List.cons_append, List.nil_append, List.getElem?_cons_zero, List.getElem?_cons_succ, List.set_cons_zero, List.set_cons_succ, Option.map_some, Option.bind_some, Option.some.injEq, Option.isSome_some, exists_eq_left', exists_eq_left, exists_and_left, true_and, and_true, decide_eq_true_eq, List.length_cons, List.length_nil, if_true, if_false, addD_i, subD_i, negD_i, ltD_i, leD_i, gtD_i, geD_i, lenF_t, lenF_l, lenF_d, absF_i, intF_i, intF_b, tupF_t, tupF_l, lstF_t, lstF_l, ixD_l, ixD_t, at1_0, at2_1, at3_2, isL_l, isS_s, popF_0, eqD_i, neD_i, eqD_s, neD_s, slD_l, slD_t, setF_30, setF_31, setF_32, neD_00, neD_10, Nat.zero_le, Nat.reduceAdd, Nat.reduceLeDiff, Bool.false_eq_true, reduceIte, Prod.mk.injEq, and_assoc, eq_self, decide_true, decide_false, not_true_eq_false, not_false_eq_true, Bool.not_true, Bool.not_false]
        exact ⟨l, hl, st5, hb5, rfl⟩
    rintro f s' ⟨rfl, l, st4, hl, hb4, rfl⟩
    have hrep := reprF_of pl_encH (wt_ans hl (by omega))
    have hrow : ∀ {x a}, (x, a) ∈ l → ∀ row, a = some row → row.length ≤ 100 := fun {x a} hx row hr => (hl.row (x, a) hx row hr).1
    -- known, play
    rw [flW_nx, wp_seq]
    simp only [wp_ret, wp_bind, wp_ite, wp_opt, wp_need, wp_rd, slW_val, slW_own, stl_non, stl_bl, stl_int, stl_str, stl_tup, stl_lst, stl_dic, stl_ref, wp_stl_own, stW_own, stW_val, deref_non, deref_bl, deref_int, deref_str, deref_tup, deref_lst, deref_dic, deref_ref, deref_own, slC_own, slC_val, wp_op2, wp_op1, wp_bin, wp_un, wp_consM, wp_nilM, wp_opn, drf_nil, drf_one, drf_two, wp_tupM, wp_lstM, wp_newM, wp_stls_nil, wp_stls_cons, wp_tst, asB_bl, wp_notM, wp_andM, wp_orM, wp_andV, wp_orV, wp_notV, wp_iteM, wp_chain, wp_sl, wp_optN, wp_optS, intO_none, intO_int, wp_isT, wp_joinM, wp_mutM, wp_mutA, isOw_own, wp_up_own, wp_up_ref, wp_setIx, flW_nx, flW_rt, flW_bk, flW_ct, wp_seq, wp_pass, wp_brk, wp_cnt, wp_setV, wp_setO, wp_drp, wp_retM, wp_retN, wp_ofT, wp_setT, gT_tup, gTs_nil, gTs_cons, gN_eq, wp_nilP, wp_consP, wp_stlP_nil, wp_stlP_t, wp_stlP_f, wp_parM, wrP_nil, wrP_t, wrP_f, wp_forM, wp_walkM, itemsD_tup, itemsD_lst, wp_rng1, wp_rng2, r1W_int, r2W_int, rtW_rt, rtW_nx, foW_nx, foW_ct, foW_bk, foW_rt, wp_forL_nil, wp_forL_cons, wp_compM, wipe_s, wipe_z, wipe_ss, wipe_zs, wipe_sz, wp_tYes, wp_callM, wp_callP, permD, List.map_cons, List.map_nil, List.getD_cons_zero, List.getD_cons_succ, List.cons_append, List.nil_append, List.getElem?_cons_zero, List.getElem?_cons_succ, List.set_cons_zero, List.set_cons_succ, Option.map_some, Option.bind_some, Option.some.injEq, Option.isSome_some, exists_eq_left', exists_eq_left, exists_and_left, true_and, and_true, decide_eq_true_eq, List.length_cons, List.length_nil, if_true, if_false, addD_i, subD_i, negD_i, ltD_i, leD_i, gtD_i, geD_i, lenF_t, lenF_l, lenF_d, absF_i, intF_i, intF_b, tupF_t, tupF_l, lstF_t, lstF_l, ixD_l, ixD_t, at1_0, at2_1, at3_2, isL_l, isS_s, popF_0, eqD_i, neD_i, eqD_s, neD_s, slD_l, slD_t, setF_30, setF_31, setF_32, neD_00, neD_10, Nat.zero_le, Nat.reduceAdd, Nat.reduceLeDiff, Bool.false_eq_true, reduceIte, Prod.mk.injEq, and_assoc, eq_self, decide_true, decide_false, not_true_eq_false, not_false_eq_true, Bool.not_true, Bool.not_false, hrep]
    refine ⟨by rw [in62_of (by omega), in62_of (by omega)]; rfl, ?_⟩
    have pick2 : ∀ {st5 : List D} {zs : List Int} {P : D → List D → Prop}, BagOk st5 → (∀ k ∈ zs, k = 1 ∨ k = -1) → 0 < zs.length → zs.length < 100 → (∀ k st6, (k = 1 ∨ k = -1) → BagOk st6 → P (.int k) st6) → Cw (callF T 39) 3 [.ref 1, .lst (zs.map .int)] st5 P := fun {st5 zs P} hb h1 h2 h3 k =>
      (pick_is (n := 37) hb h2 (by omega)).imp fun d st6 ⟨z, e, q1, q2⟩ => by rw [e]; exact k z st6 (h1 z q1) q2
    -- the plays
    refine Wp.imp (P := fun f s' => f = .nx ∧ ∃ (st5 : List D) (a6 a9 a14 a15 : Sl), BagOk st5 ∧ s' = ⟨[.val (.lst (ns.map .int)), .val (.ref 1), .val (.int t0), .val (.int m), .val (.str w), .val (.tup (encH l)), a6, a7, .val (.str (D.tup (encH l)).py.shown), a9, a10, a11, a12, a13, a14, a15, .un], st5⟩) ?_ ?_
    · refine wp_forI (fun r s => ∃ (k0 : Int) (pl : List Int) (st5 : List D) (a6 a14 a15 : Sl), r = rngD k0 (m + 1) ∧ 1 ≤ k0 ∧ k0 ≤ m + 1 ∧ (pl.length : Int) = k0 - 1 ∧ BagOk st5 ∧ s = ⟨[.val (.lst (ns.map .int)), .val (.ref 1), .val (.int t0), .val (.int m), .val (.str w), .val (.tup (encH l)), a6, a7, .val (.str (D.tup (encH l)).py.shown), .val (.tup (pl.map .int)), a10, a11, a12, a13, a14, a15, .un], st5⟩) ⟨1, [], st4, a6, a14, a15, rfl, by omega, by omega, by simp, hb4, rfl⟩ ?_ ?_
      · rintro I toI x r s ⟨k0, pl, st5, a6, a14, a15, hr, h1, h2, h3, hb5, rfl⟩
        obtain ⟨rfl, rfl, hlt⟩ := rng_inv hr
        obtain ⟨c, e, hc⟩ := sAt_ix (w := w) (x := k0) (by omega) h1 (by omega)
        have hpl : (pl.map D.int).length + 1 ≤ 16777216 := by rw [List.length_map]; omega
        have cat : ∀ v : Int, addD (.tup (pl.map .int)) (.tup [.int v]) = some (.tup ((pl ++ [v]).map .int)) := fun v => by
          rw [addD_t hpl, List.map_append]; rfl
        refine ⟨_, rfl, ?_⟩
        rw [wp_iteM]
        refine Wp.imp (P := fun b s' => ∃ st6, BagOk st6 ∧ (b = true → sAt w k0 = true) ∧ s' = ⟨[.val (.lst (ns.map .int)), .val (.ref 1), .val (.int t0), .val (.int m), .val (.str w), .val (.tup (encH l)), .val (.int k0), a7, .val (.str (D.tup (encH l)).py.shown), .val (.tup (pl.map .int)), a10, a11, a12, a13, a14, a15, .un], st6⟩) ?_ ?_
        · simp only [wp_ret, wp_bind, wp_ite, wp_opt, wp_need, wp_rd, slW_val, slW_own, stl_non, stl_bl, stl_int, stl_str, stl_tup, stl_lst, stl_dic, stl_ref, wp_stl_own, stW_own, stW_val, deref_non, deref_bl, deref_int, deref_str, deref_tup, deref_lst, deref_dic, deref_ref, deref_own, slC_own, slC_val, wp_op2, wp_op1, wp_bin, wp_un, wp_consM, wp_nilM, wp_opn, drf_nil, drf_one, drf_two, wp_tupM, wp_lstM, wp_newM, wp_stls_nil, wp_stls_cons, wp_tst, asB_bl, wp_notM, wp_andM, wp_orM, wp_andV, wp_orV, wp_notV, wp_iteM, wp_chain, wp_sl, wp_optN, wp_optS, intO_none, intO_int, wp_isT, wp_joinM, wp_mutM, wp_mutA, isOw_own, wp_up_own, wp_up_ref, wp_setIx, flW_nx, flW_rt, flW_bk, flW_ct, wp_seq, wp_pass, wp_brk, wp_cnt, wp_setV, wp_setO, wp_drp, wp_retM, wp_retN, wp_ofT, wp_setT, gT_tup, gTs_nil, gTs_cons, gN_eq, wp_nilP, wp_consP, wp_stlP_nil, wp_stlP_t, wp_stlP_f, wp_parM, wrP_nil, wrP_t, wrP_f, wp_forM, wp_walkM, itemsD_tup, itemsD_lst, wp_rng1, wp_rng2, r1W_int, r2W_int, rtW_rt, rtW_nx, foW_nx, foW_ct, foW_bk, foW_rt, wp_forL_nil, wp_forL_cons, wp_compM, wipe_s, wipe_z, wipe_ss, wipe_zs, wipe_sz, wp_tYes, wp_callM, wp_callP, permD, List.map_cons, List.map_nil, List.getD_cons_zero, List.getD_cons_succ, List.cons_append, List.nil_append, List.getElem?_cons_zero, List.getElem?_cons_succ, List.set_cons_zero, List.set_cons_succ, Option.map_some, Option.bind_some, Option.some.injEq, Option.isSome_some, exists_eq_left', exists_eq_left, exists_and_left, true_and, and_true, decide_eq_true_eq, List.length_cons, List.length_nil, if_true, if_false, addD_i, subD_i, negD_i, ltD_i, leD_i, gtD_i, geD_i, lenF_t, lenF_l, lenF_d, absF_i, intF_i, intF_b, tupF_t, tupF_l, lstF_t, lstF_l, ixD_l, ixD_t, at1_0, at2_1, at3_2, isL_l, isS_s, popF_0, eqD_i, neD_i, eqD_s, neD_s, slD_l, slD_t, setF_30, setF_31, setF_32, neD_00, neD_10, Nat.zero_le, Nat.reduceAdd, Nat.reduceLeDiff, Bool.false_eq_true, reduceIte, Prod.mk.injEq, and_assoc, eq_self, decide_true, decide_false, not_true_eq_false, not_false_eq_true, Bool.not_true, Bool.not_false, e]
          split
          · rename_i hcs
            refine draw_k hb5 (by omega) (by omega) fun z st6 _ _ hb6 => ?_
            simp only [wp_ret, wp_bind, wp_ite, wp_opt, wp_need, wp_rd, slW_val, slW_own, stl_non, stl_bl, stl_int, stl_str, stl_tup, stl_lst, stl_dic, stl_ref, wp_stl_own, stW_own, stW_val, deref_non, deref_bl, deref_int, deref_str, deref_tup, deref_lst, deref_dic, deref_ref, deref_own, slC_own, slC_val, wp_op2, wp_op1, wp_bin, wp_un, wp_consM, wp_nilM, wp_opn, drf_nil, drf_one, drf_two, wp_tupM, wp_lstM, wp_newM, wp_stls_nil, wp_stls_cons, wp_tst, asB_bl, wp_notM, wp_andM, wp_orM, wp_andV, wp_orV, wp_notV, wp_iteM, wp_chain, wp_sl, wp_optN, wp_optS, intO_none, intO_int, wp_isT, wp_joinM, wp_mutM, wp_mutA, isOw_own, wp_up_own, wp_up_ref, wp_setIx, flW_nx, flW_rt, flW_bk, flW_ct, wp_seq, wp_pass, wp_brk, wp_cnt, wp_setV, wp_setO, wp_drp, wp_retM, wp_retN, wp_ofT, wp_setT, gT_tup, gTs_nil, gTs_cons, gN_eq, wp_nilP, wp_consP, wp_stlP_nil, wp_stlP_t, wp_stlP_f, wp_parM, wrP_nil, wrP_t, wrP_f, wp_forM, wp_walkM, itemsD_tup, itemsD_lst, wp_rng1, wp_rng2, r1W_int, r2W_int, rtW_rt, rtW_nx, foW_nx, foW_ct, foW_bk, foW_rt, wp_forL_nil, wp_forL_cons, wp_compM, wipe_s, wipe_z, wipe_ss, wipe_zs, wipe_sz, wp_tYes, wp_callM, wp_callP, permD, List.map_cons, List.map_nil, List.getD_cons_zero, List.getD_cons_succ, List.cons_append, List.nil_append, List.getElem?_cons_zero, List.getElem?_cons_succ, List.set_cons_zero, List.set_cons_succ, Option.map_some, Option.bind_some, Option.some.injEq, Option.isSome_some, exists_eq_left', exists_eq_left, exists_and_left, true_and, and_true, decide_eq_true_eq, List.length_cons, List.length_nil, if_true, if_false, addD_i, subD_i, negD_i, ltD_i, leD_i, gtD_i, geD_i, lenF_t, lenF_l, lenF_d, absF_i, intF_i, intF_b, tupF_t, tupF_l, lstF_t, lstF_l, ixD_l, ixD_t, at1_0, at2_1, at3_2, isL_l, isS_s, popF_0, eqD_i, neD_i, eqD_s, neD_s, slD_l, slD_t, setF_30, setF_31, setF_32, neD_00, neD_10, Nat.zero_le, Nat.reduceAdd, Nat.reduceLeDiff, Bool.false_eq_true, reduceIte, Prod.mk.injEq, and_assoc, eq_self, decide_true, decide_false, not_true_eq_false, not_false_eq_true, Bool.not_true, Bool.not_false]
            exact ⟨st6, hb6, fun _ => by rw [hc, decide_eq_true hcs], rfl⟩
          · exact ⟨st5, hb5, fun q => q.elim, rfl⟩
        · rintro b s' ⟨st6, hb6, hbs, rfl⟩
          split
          · rename_i hbt
            obtain ⟨a, ha⟩ := hl.all k0 h1 (by omega) (hbs hbt)
            have ha' : ((pl.length : Int) + 1, a) ∈ l := by rw [h3, Int.sub_add_cancel]; exact ha
            have hv := reply_val (a := a) (x := (pl.length : Int) + 1) (pl := pl)
            have hri := repr_i (v := reply a (pl.length + 1) pl) (by omega)
            simp only [wp_ret, wp_bind, wp_ite, wp_opt, wp_need, wp_rd, slW_val, slW_own, stl_non, stl_bl, stl_int, stl_str, stl_tup, stl_lst, stl_dic, stl_ref, wp_stl_own, stW_own, stW_val, deref_non, deref_bl, deref_int, deref_str, deref_tup, deref_lst, deref_dic, deref_ref, deref_own, slC_own, slC_val, wp_op2, wp_op1, wp_bin, wp_un, wp_consM, wp_nilM, wp_opn, drf_nil, drf_one, drf_two, wp_tupM, wp_lstM, wp_newM, wp_stls_nil, wp_stls_cons, wp_tst, asB_bl, wp_notM, wp_andM, wp_orM, wp_andV, wp_orV, wp_notV, wp_iteM, wp_chain, wp_sl, wp_optN, wp_optS, intO_none, intO_int, wp_isT, wp_joinM, wp_mutM, wp_mutA, isOw_own, wp_up_own, wp_up_ref, wp_setIx, flW_nx, flW_rt, flW_bk, flW_ct, wp_seq, wp_pass, wp_brk, wp_cnt, wp_setV, wp_setO, wp_drp, wp_retM, wp_retN, wp_ofT, wp_setT, gT_tup, gTs_nil, gTs_cons, gN_eq, wp_nilP, wp_consP, wp_stlP_nil, wp_stlP_t, wp_stlP_f, wp_parM, wrP_nil, wrP_t, wrP_f, wp_forM, wp_walkM, itemsD_tup, itemsD_lst, wp_rng1, wp_rng2, r1W_int, r2W_int, rtW_rt, rtW_nx, foW_nx, foW_ct, foW_bk, foW_rt, wp_forL_nil, wp_forL_cons, wp_compM, wipe_s, wipe_z, wipe_ss, wipe_zs, wipe_sz, wp_tYes, wp_callM, wp_callP, permD, List.map_cons, List.map_nil, List.getD_cons_zero, List.getD_cons_succ, List.cons_append, List.nil_append, List.getElem?_cons_zero, List.getElem?_cons_succ, List.set_cons_zero, List.set_cons_succ, Option.map_some, Option.bind_some, Option.some.injEq, Option.isSome_some, exists_eq_left', exists_eq_left, exists_and_left, true_and, and_true, decide_eq_true_eq, List.length_cons, List.length_nil, if_true, if_false, addD_i, subD_i, negD_i, ltD_i, leD_i, gtD_i, geD_i, lenF_t, lenF_l, lenF_d, absF_i, intF_i, intF_b, tupF_t, tupF_l, lstF_t, lstF_l, ixD_l, ixD_t, at1_0, at2_1, at3_2, isL_l, isS_s, popF_0, eqD_i, neD_i, eqD_s, neD_s, slD_l, slD_t, setF_30, setF_31, setF_32, neD_00, neD_10, Nat.zero_le, Nat.reduceAdd, Nat.reduceLeDiff, Bool.false_eq_true, reduceIte, Prod.mk.injEq, and_assoc, eq_self, decide_true, decide_false, not_true_eq_false, not_false_eq_true, Bool.not_true, Bool.not_false]
            refine (said_ok (n := 38) hl.nd ha' (hrow ha')).imp fun d st7 hd => ?_
            obtain ⟨rfl, rfl⟩ := hd
            simp only [wp_ret, wp_bind, wp_ite, wp_opt, wp_need, wp_rd, slW_val, slW_own, stl_non, stl_bl, stl_int, stl_str, stl_tup, stl_lst, stl_dic, stl_ref, wp_stl_own, stW_own, stW_val, deref_non, deref_bl, deref_int, deref_str, deref_tup, deref_lst, deref_dic, deref_ref, deref_own, slC_own, slC_val, wp_op2, wp_op1, wp_bin, wp_un, wp_consM, wp_nilM, wp_opn, drf_nil, drf_one, drf_two, wp_tupM, wp_lstM, wp_newM, wp_stls_nil, wp_stls_cons, wp_tst, asB_bl, wp_notM, wp_andM, wp_orM, wp_andV, wp_orV, wp_notV, wp_iteM, wp_chain, wp_sl, wp_optN, wp_optS, intO_none, intO_int, wp_isT, wp_joinM, wp_mutM, wp_mutA, isOw_own, wp_up_own, wp_up_ref, wp_setIx, flW_nx, flW_rt, flW_bk, flW_ct, wp_seq, wp_pass, wp_brk, wp_cnt, wp_setV, wp_setO, wp_drp, wp_retM, wp_retN, wp_ofT, wp_setT, gT_tup, gTs_nil, gTs_cons, gN_eq, wp_nilP, wp_consP, wp_stlP_nil, wp_stlP_t, wp_stlP_f, wp_parM, wrP_nil, wrP_t, wrP_f, wp_forM, wp_walkM, itemsD_tup, itemsD_lst, wp_rng1, wp_rng2, r1W_int, r2W_int, rtW_rt, rtW_nx, foW_nx, foW_ct, foW_bk, foW_rt, wp_forL_nil, wp_forL_cons, wp_compM, wipe_s, wipe_z, wipe_ss, wipe_zs, wipe_sz, wp_tYes, wp_callM, wp_callP, permD, List.map_cons, List.map_nil, List.getD_cons_zero, List.getD_cons_succ, List.cons_append, List.nil_append, List.getElem?_cons_zero, List.getElem?_cons_succ, List.set_cons_zero, List.set_cons_succ, Option.map_some, Option.bind_some, Option.some.injEq, Option.isSome_some, exists_eq_left', exists_eq_left, exists_and_left, true_and, and_true, decide_eq_true_eq, List.length_cons, List.length_nil, if_true, if_false, addD_i, subD_i, negD_i, ltD_i, leD_i, gtD_i, geD_i, lenF_t, lenF_l, lenF_d, absF_i, intF_i, intF_b, tupF_t, tupF_l, lstF_t, lstF_l, ixD_l, ixD_t, at1_0, at2_1, at3_2, isL_l, isS_s, popF_0, eqD_i, neD_i, eqD_s, neD_s, slD_l, slD_t, setF_30, setF_31, setF_32, neD_00, neD_10, Nat.zero_le, Nat.reduceAdd, Nat.reduceLeDiff, Bool.false_eq_true, reduceIte, Prod.mk.injEq, and_assoc, eq_self, decide_true, decide_false, not_true_eq_false, not_false_eq_true, Bool.not_true, Bool.not_false, modD_i (b := 3) (by decide)]
            split
            · refine (reply_ok (n := 38) hl.nd ha' (hrow ha')).imp fun d st7 hd => ?_
              obtain ⟨rfl, rfl⟩ := hd
              simp only [wp_ret, wp_bind, wp_ite, wp_opt, wp_need, wp_rd, slW_val, slW_own, stl_non, stl_bl, stl_int, stl_str, stl_tup, stl_lst, stl_dic, stl_ref, wp_stl_own, stW_own, stW_val, deref_non, deref_bl, deref_int, deref_str, deref_tup, deref_lst, deref_dic, deref_ref, deref_own, slC_own, slC_val, wp_op2, wp_op1, wp_bin, wp_un, wp_consM, wp_nilM, wp_opn, drf_nil, drf_one, drf_two, wp_tupM, wp_lstM, wp_newM, wp_stls_nil, wp_stls_cons, wp_tst, asB_bl, wp_notM, wp_andM, wp_orM, wp_andV, wp_orV, wp_notV, wp_iteM, wp_chain, wp_sl, wp_optN, wp_optS, intO_none, intO_int, wp_isT, wp_joinM, wp_mutM, wp_mutA, isOw_own, wp_up_own, wp_up_ref, wp_setIx, flW_nx, flW_rt, flW_bk, flW_ct, wp_seq, wp_pass, wp_brk, wp_cnt, wp_setV, wp_setO, wp_drp, wp_retM, wp_retN, wp_ofT, wp_setT, gT_tup, gTs_nil, gTs_cons, gN_eq, wp_nilP, wp_consP, wp_stlP_nil, wp_stlP_t, wp_stlP_f, wp_parM, wrP_nil, wrP_t, wrP_f, wp_forM, wp_walkM, itemsD_tup, itemsD_lst, wp_rng1, wp_rng2, r1W_int, r2W_int, rtW_rt, rtW_nx, foW_nx, foW_ct, foW_bk, foW_rt, wp_forL_nil, wp_forL_cons, wp_compM, wipe_s, wipe_z, wipe_ss, wipe_zs, wipe_sz, wp_tYes, wp_callM, wp_callP, permD, List.map_cons, List.map_nil, List.getD_cons_zero, List.getD_cons_succ, List.cons_append, List.nil_append, List.getElem?_cons_zero, List.getElem?_cons_succ, List.set_cons_zero, List.set_cons_succ, Option.map_some, Option.bind_some, Option.some.injEq, Option.isSome_some, exists_eq_left', exists_eq_left, exists_and_left, true_and, and_true, decide_eq_true_eq, List.length_cons, List.length_nil, if_true, if_false, addD_i, subD_i, negD_i, ltD_i, leD_i, gtD_i, geD_i, lenF_t, lenF_l, lenF_d, absF_i, intF_i, intF_b, tupF_t, tupF_l, lstF_t, lstF_l, ixD_l, ixD_t, at1_0, at2_1, at3_2, isL_l, isS_s, popF_0, eqD_i, neD_i, eqD_s, neD_s, slD_l, slD_t, setF_30, setF_31, setF_32, neD_00, neD_10, Nat.zero_le, Nat.reduceAdd, Nat.reduceLeDiff, Bool.false_eq_true, reduceIte, Prod.mk.injEq, and_assoc, eq_self, decide_true, decide_false, not_true_eq_false, not_false_eq_true, Bool.not_true, Bool.not_false, hri]
              refine (reply_ok (n := 38) hl.nd ha' (hrow ha')).imp fun d st7 hd => ?_
              obtain ⟨rfl, rfl⟩ := hd
              simp only [wp_ret, wp_bind, wp_ite, wp_opt, wp_need, wp_rd, slW_val, slW_own, stl_non, stl_bl, stl_int, stl_str, stl_tup, stl_lst, stl_dic, stl_ref, wp_stl_own, stW_own, stW_val, deref_non, deref_bl, deref_int, deref_str, deref_tup, deref_lst, deref_dic, deref_ref, deref_own, slC_own, slC_val, wp_op2, wp_op1, wp_bin, wp_un, wp_consM, wp_nilM, wp_opn, drf_nil, drf_one, drf_two, wp_tupM, wp_lstM, wp_newM, wp_stls_nil, wp_stls_cons, wp_tst, asB_bl, wp_notM, wp_andM, wp_orM, wp_andV, wp_orV, wp_notV, wp_iteM, wp_chain, wp_sl, wp_optN, wp_optS, intO_none, intO_int, wp_isT, wp_joinM, wp_mutM, wp_mutA, isOw_own, wp_up_own, wp_up_ref, wp_setIx, flW_nx, flW_rt, flW_bk, flW_ct, wp_seq, wp_pass, wp_brk, wp_cnt, wp_setV, wp_setO, wp_drp, wp_retM, wp_retN, wp_ofT, wp_setT, gT_tup, gTs_nil, gTs_cons, gN_eq, wp_nilP, wp_consP, wp_stlP_nil, wp_stlP_t, wp_stlP_f, wp_parM, wrP_nil, wrP_t, wrP_f, wp_forM, wp_walkM, itemsD_tup, itemsD_lst, wp_rng1, wp_rng2, r1W_int, r2W_int, rtW_rt, rtW_nx, foW_nx, foW_ct, foW_bk, foW_rt, wp_forL_nil, wp_forL_cons, wp_compM, wipe_s, wipe_z, wipe_ss, wipe_zs, wipe_sz, wp_tYes, wp_callM, wp_callP, permD, List.map_cons, List.map_nil, List.getD_cons_zero, List.getD_cons_succ, List.cons_append, List.nil_append, List.getElem?_cons_zero, List.getElem?_cons_succ, List.set_cons_zero, List.set_cons_succ, Option.map_some, Option.bind_some, Option.some.injEq, Option.isSome_some, exists_eq_left', exists_eq_left, exists_and_left, true_and, and_true, decide_eq_true_eq, List.length_cons, List.length_nil, if_true, if_false, addD_i, subD_i, negD_i, ltD_i, leD_i, gtD_i, geD_i, lenF_t, lenF_l, lenF_d, absF_i, intF_i, intF_b, tupF_t, tupF_l, lstF_t, lstF_l, ixD_l, ixD_t, at1_0, at2_1, at3_2, isL_l, isS_s, popF_0, eqD_i, neD_i, eqD_s, neD_s, slD_l, slD_t, setF_30, setF_31, setF_32, neD_00, neD_10, Nat.zero_le, Nat.reduceAdd, Nat.reduceLeDiff, Bool.false_eq_true, reduceIte, Prod.mk.injEq, and_assoc, eq_self, decide_true, decide_false, not_true_eq_false, not_false_eq_true, Bool.not_true, Bool.not_false, hri, cat]
              exact toI _ _ ⟨k0 + 1, _, _, _, _, _, rfl, by omega, by omega, by rw [List.length_append, List.length_singleton]; omega, hb6, rfl⟩
            · refine (reply_ok (n := 38) hl.nd ha' (hrow ha')).imp fun d st7 hd => ?_
              obtain ⟨rfl, rfl⟩ := hd
              simp only [wp_ret, wp_bind, wp_ite, wp_opt, wp_need, wp_rd, slW_val, slW_own, stl_non, stl_bl, stl_int, stl_str, stl_tup, stl_lst, stl_dic, stl_ref, wp_stl_own, stW_own, stW_val, deref_non, deref_bl, deref_int, deref_str, deref_tup, deref_lst, deref_dic, deref_ref, deref_own, slC_own, slC_val, wp_op2, wp_op1, wp_bin, wp_un, wp_consM, wp_nilM, wp_opn, drf_nil, drf_one, drf_two, wp_tupM, wp_lstM, wp_newM, wp_stls_nil, wp_stls_cons, wp_tst, asB_bl, wp_notM, wp_andM, wp_orM, wp_andV, wp_orV, wp_notV, wp_iteM, wp_chain, wp_sl, wp_optN, wp_optS, intO_none, intO_int, wp_isT, wp_joinM, wp_mutM, wp_mutA, isOw_own, wp_up_own, wp_up_ref, wp_setIx, flW_nx, flW_rt, flW_bk, flW_ct, wp_seq, wp_pass, wp_brk, wp_cnt, wp_setV, wp_setO, wp_drp, wp_retM, wp_retN, wp_ofT, wp_setT, gT_tup, gTs_nil, gTs_cons, gN_eq, wp_nilP, wp_consP, wp_stlP_nil, wp_stlP_t, wp_stlP_f, wp_parM, wrP_nil, wrP_t, wrP_f, wp_forM, wp_walkM, itemsD_tup, itemsD_lst, wp_rng1, wp_rng2, r1W_int, r2W_int, rtW_rt, rtW_nx, foW_nx, foW_ct, foW_bk, foW_rt, wp_forL_nil, wp_forL_cons, wp_compM, wipe_s, wipe_z, wipe_ss, wipe_zs, wipe_sz, wp_tYes, wp_callM, wp_callP, permD, List.map_cons, List.map_nil, List.getD_cons_zero, List.getD_cons_succ, List.cons_append, List.nil_append, List.getElem?_cons_zero, List.getElem?_cons_succ, List.set_cons_zero, List.set_cons_succ, Option.map_some, Option.bind_some, Option.some.injEq, Option.isSome_some, exists_eq_left', exists_eq_left, exists_and_left, true_and, and_true, decide_eq_true_eq, List.length_cons, List.length_nil, if_true, if_false, addD_i, subD_i, negD_i, ltD_i, leD_i, gtD_i, geD_i, lenF_t, lenF_l, lenF_d, absF_i, intF_i, intF_b, tupF_t, tupF_l, lstF_t, lstF_l, ixD_l, ixD_t, at1_0, at2_1, at3_2, isL_l, isS_s, popF_0, eqD_i, neD_i, eqD_s, neD_s, slD_l, slD_t, setF_30, setF_31, setF_32, neD_00, neD_10, Nat.zero_le, Nat.reduceAdd, Nat.reduceLeDiff, Bool.false_eq_true, reduceIte, Prod.mk.injEq, and_assoc, eq_self, decide_true, decide_false, not_true_eq_false, not_false_eq_true, Bool.not_true, Bool.not_false, hri]
              refine (reply_ok (n := 38) hl.nd ha' (hrow ha')).imp fun d st7 hd => ?_
              obtain ⟨rfl, rfl⟩ := hd
              simp only [wp_ret, wp_bind, wp_ite, wp_opt, wp_need, wp_rd, slW_val, slW_own, stl_non, stl_bl, stl_int, stl_str, stl_tup, stl_lst, stl_dic, stl_ref, wp_stl_own, stW_own, stW_val, deref_non, deref_bl, deref_int, deref_str, deref_tup, deref_lst, deref_dic, deref_ref, deref_own, slC_own, slC_val, wp_op2, wp_op1, wp_bin, wp_un, wp_consM, wp_nilM, wp_opn, drf_nil, drf_one, drf_two, wp_tupM, wp_lstM, wp_newM, wp_stls_nil, wp_stls_cons, wp_tst, asB_bl, wp_notM, wp_andM, wp_orM, wp_andV, wp_orV, wp_notV, wp_iteM, wp_chain, wp_sl, wp_optN, wp_optS, intO_none, intO_int, wp_isT, wp_joinM, wp_mutM, wp_mutA, isOw_own, wp_up_own, wp_up_ref, wp_setIx, flW_nx, flW_rt, flW_bk, flW_ct, wp_seq, wp_pass, wp_brk, wp_cnt, wp_setV, wp_setO, wp_drp, wp_retM, wp_retN, wp_ofT, wp_setT, gT_tup, gTs_nil, gTs_cons, gN_eq, wp_nilP, wp_consP, wp_stlP_nil, wp_stlP_t, wp_stlP_f, wp_parM, wrP_nil, wrP_t, wrP_f, wp_forM, wp_walkM, itemsD_tup, itemsD_lst, wp_rng1, wp_rng2, r1W_int, r2W_int, rtW_rt, rtW_nx, foW_nx, foW_ct, foW_bk, foW_rt, wp_forL_nil, wp_forL_cons, wp_compM, wipe_s, wipe_z, wipe_ss, wipe_zs, wipe_sz, wp_tYes, wp_callM, wp_callP, permD, List.map_cons, List.map_nil, List.getD_cons_zero, List.getD_cons_succ, List.cons_append, List.nil_append, List.getElem?_cons_zero, List.getElem?_cons_succ, List.set_cons_zero, List.set_cons_succ, Option.map_some, Option.bind_some, Option.some.injEq, Option.isSome_some, exists_eq_left', exists_eq_left, exists_and_left, true_and, and_true, decide_eq_true_eq, List.length_cons, List.length_nil, if_true, if_false, addD_i, subD_i, negD_i, ltD_i, leD_i, gtD_i, geD_i, lenF_t, lenF_l, lenF_d, absF_i, intF_i, intF_b, tupF_t, tupF_l, lstF_t, lstF_l, ixD_l, ixD_t, at1_0, at2_1, at3_2, isL_l, isS_s, popF_0, eqD_i, neD_i, eqD_s, neD_s, slD_l, slD_t, setF_30, setF_31, setF_32, neD_00, neD_10, Nat.zero_le, Nat.reduceAdd, Nat.reduceLeDiff, Bool.false_eq_true, reduceIte, Prod.mk.injEq, and_assoc, eq_self, decide_true, decide_false, not_true_eq_false, not_false_eq_true, Bool.not_true, Bool.not_false, hri, cat]
              exact toI _ _ ⟨k0 + 1, _, _, _, _, _, rfl, by omega, by omega, by rw [List.length_append, List.length_singleton]; omega, hb6, rfl⟩
          · simp only [wp_ret, wp_bind, wp_ite, wp_opt, wp_need, wp_rd, slW_val, slW_own, stl_non, stl_bl, stl_int, stl_str, stl_tup, stl_lst, stl_dic, stl_ref, wp_stl_own, stW_own, stW_val, deref_non, deref_bl, deref_int, deref_str, deref_tup, deref_lst, deref_dic, deref_ref, deref_own, slC_own, slC_val, wp_op2, wp_op1, wp_bin, wp_un, wp_consM, wp_nilM, wp_opn, drf_nil, drf_one, drf_two, wp_tupM, wp_lstM, wp_newM, wp_stls_nil, wp_stls_cons, wp_tst, asB_bl, wp_notM, wp_andM, wp_orM, wp_andV, wp_orV, wp_notV, wp_iteM, wp_chain, wp_sl, wp_optN, wp_optS, intO_none, intO_int, wp_isT, wp_joinM, wp_mutM, wp_mutA, isOw_own, wp_up_own, wp_up_ref, wp_setIx, flW_nx, flW_rt, flW_bk, flW_ct, wp_seq, wp_pass, wp_brk, wp_cnt, wp_setV, wp_setO, wp_drp, wp_retM, wp_retN, wp_ofT, wp_setT, gT_tup, gTs_nil, gTs_cons, gN_eq, wp_nilP, wp_consP, wp_stlP_nil, wp_stlP_t, wp_stlP_f, wp_parM, wrP_nil, wrP_t, wrP_f, wp_forM, wp_walkM, itemsD_tup, itemsD_lst, wp_rng1, wp_rng2, r1W_int, r2W_int, rtW_rt, rtW_nx, foW_nx, foW_ct, foW_bk, foW_rt, wp_forL_nil, wp_forL_cons, wp_compM, wipe_s, wipe_z, wipe_ss, wipe_zs, wipe_sz, wp_tYes, wp_callM, wp_callP, permD, List.map_cons, List.map_nil, List.getD_cons_zero, List.getD_cons_succ, List.cons_append, List.nil_append, List.getElem?_cons_zero, List.getElem?_cons_succ, List.set_cons_zero, List.set_cons_succ, Option.map_some, Option.bind_some, Option.some.injEq, Option.isSome_some, exists_eq_left', exists_eq_left, exists_and_left, true_and, and_true, decide_eq_true_eq, List.length_cons, List.length_nil, if_true, if_false, addD_i, subD_i, negD_i, ltD_i, leD_i, gtD_i, geD_i, lenF_t, lenF_l, lenF_d, absF_i, intF_i, intF_b, tupF_t, tupF_l, lstF_t, lstF_l, ixD_l, ixD_t, at1_0, at2_1, at3_2, isL_l, isS_s, popF_0, eqD_i, neD_i, eqD_s, neD_s, slD_l, slD_t, setF_30, setF_31, setF_32, neD_00, neD_10, Nat.zero_le, Nat.reduceAdd, Nat.reduceLeDiff, Bool.false_eq_true, reduceIte, Prod.mk.injEq, and_assoc, eq_self, decide_true, decide_false, not_true_eq_false, not_false_eq_true, Bool.not_true, Bool.not_false]
            refine pick2 (zs := [1, 1, -1]) hb6 (by simp) (by simp) (by simp) fun k st7 hk hb7 => ?_
            simp only [wp_ret, wp_bind, wp_ite, wp_opt, wp_need, wp_rd, slW_val, slW_own, stl_non, stl_bl, stl_int, stl_str, stl_tup, stl_lst, stl_dic, stl_ref, wp_stl_own, stW_own, stW_val, deref_non, deref_bl, deref_int, deref_str, deref_tup, deref_lst, deref_dic, deref_ref, deref_own, slC_own, slC_val, wp_op2, wp_op1, wp_bin, wp_un, wp_consM, wp_nilM, wp_opn, drf_nil, drf_one, drf_two, wp_tupM, wp_lstM, wp_newM, wp_stls_nil, wp_stls_cons, wp_tst, asB_bl, wp_notM, wp_andM, wp_orM, wp_andV, wp_orV, wp_notV, wp_iteM, wp_chain, wp_sl, wp_optN, wp_optS, intO_none, intO_int, wp_isT, wp_joinM, wp_mutM, wp_mutA, isOw_own, wp_up_own, wp_up_ref, wp_setIx, flW_nx, flW_rt, flW_bk, flW_ct, wp_seq, wp_pass, wp_brk, wp_cnt, wp_setV, wp_setO, wp_drp, wp_retM, wp_retN, wp_ofT, wp_setT, gT_tup, gTs_nil, gTs_cons, gN_eq, wp_nilP, wp_consP, wp_stlP_nil, wp_stlP_t, wp_stlP_f, wp_parM, wrP_nil, wrP_t, wrP_f, wp_forM, wp_walkM, itemsD_tup, itemsD_lst, wp_rng1, wp_rng2, r1W_int, r2W_int, rtW_rt, rtW_nx, foW_nx, foW_ct, foW_bk, foW_rt, wp_forL_nil, wp_forL_cons, wp_compM, wipe_s, wipe_z, wipe_ss, wipe_zs, wipe_sz, wp_tYes, wp_callM, wp_callP, permD, List.map_cons, List.map_nil, List.getD_cons_zero, List.getD_cons_succ, List.cons_append, List.nil_append, List.getElem?_cons_zero, List.getElem?_cons_succ, List.set_cons_zero, List.set_cons_succ, Option.map_some, Option.bind_some, Option.some.injEq, Option.isSome_some, exists_eq_left', exists_eq_left, exists_and_left, true_and, and_true, decide_eq_true_eq, List.length_cons, List.length_nil, if_true, if_false, addD_i, subD_i, negD_i, ltD_i, leD_i, gtD_i, geD_i, lenF_t, lenF_l, lenF_d, absF_i, intF_i, intF_b, tupF_t, tupF_l, lstF_t, lstF_l, ixD_l, ixD_t, at1_0, at2_1, at3_2, isL_l, isS_s, popF_0, eqD_i, neD_i, eqD_s, neD_s, slD_l, slD_t, setF_30, setF_31, setF_32, neD_00, neD_10, Nat.zero_le, Nat.reduceAdd, Nat.reduceLeDiff, Bool.false_eq_true, reduceIte, Prod.mk.injEq, and_assoc, eq_self, decide_true, decide_false, not_true_eq_false, not_false_eq_true, Bool.not_true, Bool.not_false, mulD_l (a := k0) (b := k) (by omega), cat]
            exact toI _ _ ⟨k0 + 1, _, _, _, _, _, rfl, by omega, by omega, by rw [List.length_append, List.length_singleton]; omega, hb7, rfl⟩
      · rintro s ⟨k0, pl, st5, a6, a14, a15, hr, h1, h2, h3, hb5, rfl⟩
        exact ⟨rfl, st5, a6, _, a14, a15, hb5, rfl⟩
    rintro f s' ⟨rfl, st5, a6, a9, a14, a15, hb5, rfl⟩
    simp only [wp_ret, wp_bind, wp_ite, wp_opt, wp_need, wp_rd, slW_val, slW_own, stl_non, stl_bl, stl_int, stl_str, stl_tup, stl_lst, stl_dic, stl_ref, wp_stl_own, stW_own, stW_val, deref_non, deref_bl, deref_int, deref_str, deref_tup, deref_lst, deref_dic, deref_ref, deref_own, slC_own, slC_val, wp_op2, wp_op1, wp_bin, wp_un, wp_consM, wp_nilM, wp_opn, drf_nil, drf_one, drf_two, wp_tupM, wp_lstM, wp_newM, wp_stls_nil, wp_stls_cons, wp_tst, asB_bl, wp_notM, wp_andM, wp_orM, wp_andV, wp_orV, wp_notV, wp_iteM, wp_chain, wp_sl, wp_optN, wp_optS, intO_none, intO_int, wp_isT, wp_joinM, wp_mutM, wp_mutA, isOw_own, wp_up_own, wp_up_ref, wp_setIx, flW_nx, flW_rt, flW_bk, flW_ct, wp_seq, wp_pass, wp_brk, wp_cnt, wp_setV, wp_setO, wp_drp, wp_retM, wp_retN, wp_ofT, wp_setT, gT_tup, gTs_nil, gTs_cons, gN_eq, wp_nilP, wp_consP, wp_stlP_nil, wp_stlP_t, wp_stlP_f, wp_parM, wrP_nil, wrP_t, wrP_f, wp_forM, wp_walkM, itemsD_tup, itemsD_lst, wp_rng1, wp_rng2, r1W_int, r2W_int, rtW_rt, rtW_nx, foW_nx, foW_ct, foW_bk, foW_rt, wp_forL_nil, wp_forL_cons, wp_compM, wipe_s, wipe_z, wipe_ss, wipe_zs, wipe_sz, wp_tYes, wp_callM, wp_callP, permD, List.map_cons, List.map_nil, List.getD_cons_zero, List.getD_cons_succ, List.cons_append, List.nil_append, List.getElem?_cons_zero, List.getElem?_cons_succ, List.set_cons_zero, List.set_cons_succ, Option.map_some, Option.bind_some, Option.some.injEq, Option.isSome_some, exists_eq_left', exists_eq_left, exists_and_left, true_and, and_true, decide_eq_true_eq, List.length_cons, List.length_nil, if_true, if_false, addD_i, subD_i, negD_i, ltD_i, leD_i, gtD_i, geD_i, lenF_t, lenF_l, lenF_d, absF_i, intF_i, intF_b, tupF_t, tupF_l, lstF_t, lstF_l, ixD_l, ixD_t, at1_0, at2_1, at3_2, isL_l, isS_s, popF_0, eqD_i, neD_i, eqD_s, neD_s, slD_l, slD_t, setF_30, setF_31, setF_32, neD_00, neD_10, Nat.zero_le, Nat.reduceAdd, Nat.reduceLeDiff, Bool.false_eq_true, reduceIte, Prod.mk.injEq, and_assoc, eq_self, decide_true, decide_false, not_true_eq_false, not_false_eq_true, Bool.not_true, Bool.not_false, hrep]
    refine ⟨by rw [in62_of (by omega), in62_of (by omega)]; rfl, ?_⟩
    -- the whole play
    refine Wp.imp (P := fun f s' => f = .nx ∧ ∃ (wl : List Int) (st6 : List D) (a6 a10 : Sl), (wl.length : Int) = m ∧ WOk l wl ∧ BagOk st6 ∧ s' = ⟨[.val (.lst (ns.map .int)), .val (.ref 1), .val (.int t0), .val (.int m), .val (.str w), .val (.tup (encH l)), a6, .val (.tup (wl.map .int)), .val (.str (D.tup (encH l)).py.shown), a9, a10, a11, a12, a13, a14, a15, .un], st6⟩) ?_ ?_
    · refine wp_forI (fun r s => ∃ (k0 : Int) (wl : List Int) (st6 : List D) (a6 a10 : Sl), r = rngD k0 (m + 1) ∧ 1 ≤ k0 ∧ k0 ≤ m + 1 ∧ (wl.length : Int) = k0 - 1 ∧ WOk l wl ∧ BagOk st6 ∧ s = ⟨[.val (.lst (ns.map .int)), .val (.ref 1), .val (.int t0), .val (.int m), .val (.str w), .val (.tup (encH l)), a6, .val (.tup (wl.map .int)), .val (.str (D.tup (encH l)).py.shown), a9, a10, a11, a12, a13, a14, a15, .un], st6⟩) ⟨1, [], st5, a6, a10, rfl, by omega, by omega, by simp, fun i v hv => by simp at hv, hb5, rfl⟩ ?_ ?_
      · rintro I toI x r s ⟨k0, wl, st6, a6, a10, hr, h1, h2, h3, hW, hb6, rfl⟩
        obtain ⟨rfl, rfl, hlt⟩ := rng_inv hr
        obtain ⟨c, e, hc⟩ := sAt_ix (w := w) (x := k0) (by omega) h1 (by omega)
        have hpl : (wl.map D.int).length + 1 ≤ 16777216 := by rw [List.length_map]; omega
        have cat : ∀ v : Int, addD (.tup (wl.map .int)) (.tup [.int v]) = some (.tup ((wl ++ [v]).map .int)) := fun v => by
          rw [addD_t hpl, List.map_append]; rfl
        refine ⟨_, rfl, ?_⟩
        simp only [wp_ret, wp_bind, wp_ite, wp_opt, wp_need, wp_rd, slW_val, slW_own, stl_non, stl_bl, stl_int, stl_str, stl_tup, stl_lst, stl_dic, stl_ref, wp_stl_own, stW_own, stW_val, deref_non, deref_bl, deref_int, deref_str, deref_tup, deref_lst, deref_dic, deref_ref, deref_own, slC_own, slC_val, wp_op2, wp_op1, wp_bin, wp_un, wp_consM, wp_nilM, wp_opn, drf_nil, drf_one, drf_two, wp_tupM, wp_lstM, wp_newM, wp_stls_nil, wp_stls_cons, wp_tst, asB_bl, wp_notM, wp_andM, wp_orM, wp_andV, wp_orV, wp_notV, wp_iteM, wp_chain, wp_sl, wp_optN, wp_optS, intO_none, intO_int, wp_isT, wp_joinM, wp_mutM, wp_mutA, isOw_own, wp_up_own, wp_up_ref, wp_setIx, flW_nx, flW_rt, flW_bk, flW_ct, wp_seq, wp_pass, wp_brk, wp_cnt, wp_setV, wp_setO, wp_drp, wp_retM, wp_retN, wp_ofT, wp_setT, gT_tup, gTs_nil, gTs_cons, gN_eq, wp_nilP, wp_consP, wp_stlP_nil, wp_stlP_t, wp_stlP_f, wp_parM, wrP_nil, wrP_t, wrP_f, wp_forM, wp_walkM, itemsD_tup, itemsD_lst, wp_rng1, wp_rng2, r1W_int, r2W_int, rtW_rt, rtW_nx, foW_nx, foW_ct, foW_bk, foW_rt, wp_forL_nil, wp_forL_cons, wp_compM, wipe_s, wipe_z, wipe_ss, wipe_zs, wipe_sz, wp_tYes, wp_callM, wp_callP, permD, List.map_cons, List.map_nil, List.getD_cons_zero, List.getD_cons_succ, List.cons_append, List.nil_append, List.getElem?_cons_zero, List.getElem?_cons_succ, List.set_cons_zero, List.set_cons_succ, Option.map_some, Option.bind_some, Option.some.injEq, Option.isSome_some, exists_eq_left', exists_eq_left, exists_and_left, true_and, and_true, decide_eq_true_eq, List.length_cons, List.length_nil, if_true, if_false, addD_i, subD_i, negD_i, ltD_i, leD_i, gtD_i, geD_i, lenF_t, lenF_l, lenF_d, absF_i, intF_i, intF_b, tupF_t, tupF_l, lstF_t, lstF_l, ixD_l, ixD_t, at1_0, at2_1, at3_2, isL_l, isS_s, popF_0, eqD_i, neD_i, eqD_s, neD_s, slD_l, slD_t, setF_30, setF_31, setF_32, neD_00, neD_10, Nat.zero_le, Nat.reduceAdd, Nat.reduceLeDiff, Bool.false_eq_true, reduceIte, Prod.mk.injEq, and_assoc, eq_self, decide_true, decide_false, not_true_eq_false, not_false_eq_true, Bool.not_true, Bool.not_false, e]
        split
        · rename_i hcs
          obtain ⟨a, ha⟩ := hl.all k0 h1 (by omega) (by rw [hc, decide_eq_true hcs])
          have ha' : ((wl.length : Int) + 1, a) ∈ l := by rw [h3, Int.sub_add_cancel]; exact ha
          refine (reply_ok (n := 38) hl.nd ha' (hrow ha')).imp fun d st7 hd => ?_
          obtain ⟨rfl, rfl⟩ := hd
          simp only [wp_ret, wp_bind, wp_ite, wp_opt, wp_need, wp_rd, slW_val, slW_own, stl_non, stl_bl, stl_int, stl_str, stl_tup, stl_lst, stl_dic, stl_ref, wp_stl_own, stW_own, stW_val, deref_non, deref_bl, deref_int, deref_str, deref_tup, deref_lst, deref_dic, deref_ref, deref_own, slC_own, slC_val, wp_op2, wp_op1, wp_bin, wp_un, wp_consM, wp_nilM, wp_opn, drf_nil, drf_one, drf_two, wp_tupM, wp_lstM, wp_newM, wp_stls_nil, wp_stls_cons, wp_tst, asB_bl, wp_notM, wp_andM, wp_orM, wp_andV, wp_orV, wp_notV, wp_iteM, wp_chain, wp_sl, wp_optN, wp_optS, intO_none, intO_int, wp_isT, wp_joinM, wp_mutM, wp_mutA, isOw_own, wp_up_own, wp_up_ref, wp_setIx, flW_nx, flW_rt, flW_bk, flW_ct, wp_seq, wp_pass, wp_brk, wp_cnt, wp_setV, wp_setO, wp_drp, wp_retM, wp_retN, wp_ofT, wp_setT, gT_tup, gTs_nil, gTs_cons, gN_eq, wp_nilP, wp_consP, wp_stlP_nil, wp_stlP_t, wp_stlP_f, wp_parM, wrP_nil, wrP_t, wrP_f, wp_forM, wp_walkM, itemsD_tup, itemsD_lst, wp_rng1, wp_rng2, r1W_int, r2W_int, rtW_rt, rtW_nx, foW_nx, foW_ct, foW_bk, foW_rt, wp_forL_nil, wp_forL_cons, wp_compM, wipe_s, wipe_z, wipe_ss, wipe_zs, wipe_sz, wp_tYes, wp_callM, wp_callP, permD, List.map_cons, List.map_nil, List.getD_cons_zero, List.getD_cons_succ, List.cons_append, List.nil_append, List.getElem?_cons_zero, List.getElem?_cons_succ, List.set_cons_zero, List.set_cons_succ, Option.map_some, Option.bind_some, Option.some.injEq, Option.isSome_some, exists_eq_left', exists_eq_left, exists_and_left, true_and, and_true, decide_eq_true_eq, List.length_cons, List.length_nil, if_true, if_false, addD_i, subD_i, negD_i, ltD_i, leD_i, gtD_i, geD_i, lenF_t, lenF_l, lenF_d, absF_i, intF_i, intF_b, tupF_t, tupF_l, lstF_t, lstF_l, ixD_l, ixD_t, at1_0, at2_1, at3_2, isL_l, isS_s, popF_0, eqD_i, neD_i, eqD_s, neD_s, slD_l, slD_t, setF_30, setF_31, setF_32, neD_00, neD_10, Nat.zero_le, Nat.reduceAdd, Nat.reduceLeDiff, Bool.false_eq_true, reduceIte, Prod.mk.injEq, and_assoc, eq_self, decide_true, decide_false, not_true_eq_false, not_false_eq_true, Bool.not_true, Bool.not_false, cat]
          exact toI _ _ ⟨k0 + 1, _, _, _, _, rfl, by omega, by omega, by rw [List.length_append, List.length_singleton]; omega, hW.add reply_val (fun b hb => by rw [uniq hl.nd hb ha']), hb6, rfl⟩
        · rename_i hcs
          refine pick2 (zs := [1, -1]) hb6 (by simp) (by simp) (by simp) fun k st7 hk hb7 => ?_
          simp only [wp_ret, wp_bind, wp_ite, wp_opt, wp_need, wp_rd, slW_val, slW_own, stl_non, stl_bl, stl_int, stl_str, stl_tup, stl_lst, stl_dic, stl_ref, wp_stl_own, stW_own, stW_val, deref_non, deref_bl, deref_int, deref_str, deref_tup, deref_lst, deref_dic, deref_ref, deref_own, slC_own, slC_val, wp_op2, wp_op1, wp_bin, wp_un, wp_consM, wp_nilM, wp_opn, drf_nil, drf_one, drf_two, wp_tupM, wp_lstM, wp_newM, wp_stls_nil, wp_stls_cons, wp_tst, asB_bl, wp_notM, wp_andM, wp_orM, wp_andV, wp_orV, wp_notV, wp_iteM, wp_chain, wp_sl, wp_optN, wp_optS, intO_none, intO_int, wp_isT, wp_joinM, wp_mutM, wp_mutA, isOw_own, wp_up_own, wp_up_ref, wp_setIx, flW_nx, flW_rt, flW_bk, flW_ct, wp_seq, wp_pass, wp_brk, wp_cnt, wp_setV, wp_setO, wp_drp, wp_retM, wp_retN, wp_ofT, wp_setT, gT_tup, gTs_nil, gTs_cons, gN_eq, wp_nilP, wp_consP, wp_stlP_nil, wp_stlP_t, wp_stlP_f, wp_parM, wrP_nil, wrP_t, wrP_f, wp_forM, wp_walkM, itemsD_tup, itemsD_lst, wp_rng1, wp_rng2, r1W_int, r2W_int, rtW_rt, rtW_nx, foW_nx, foW_ct, foW_bk, foW_rt, wp_forL_nil, wp_forL_cons, wp_compM, wipe_s, wipe_z, wipe_ss, wipe_zs, wipe_sz, wp_tYes, wp_callM, wp_callP, permD, List.map_cons, List.map_nil, List.getD_cons_zero, List.getD_cons_succ, List.cons_append, List.nil_append, List.getElem?_cons_zero, List.getElem?_cons_succ, List.set_cons_zero, List.set_cons_succ, Option.map_some, Option.bind_some, Option.some.injEq, Option.isSome_some, exists_eq_left', exists_eq_left, exists_and_left, true_and, and_true, decide_eq_true_eq, List.length_cons, List.length_nil, if_true, if_false, addD_i, subD_i, negD_i, ltD_i, leD_i, gtD_i, geD_i, lenF_t, lenF_l, lenF_d, absF_i, intF_i, intF_b, tupF_t, tupF_l, lstF_t, lstF_l, ixD_l, ixD_t, at1_0, at2_1, at3_2, isL_l, isS_s, popF_0, eqD_i, neD_i, eqD_s, neD_s, slD_l, slD_t, setF_30, setF_31, setF_32, neD_00, neD_10, Nat.zero_le, Nat.reduceAdd, Nat.reduceLeDiff, Bool.false_eq_true, reduceIte, Prod.mk.injEq, and_assoc, eq_self, decide_true, decide_false, not_true_eq_false, not_false_eq_true, Bool.not_true, Bool.not_false, mulD_l (a := k0) (b := k) (by omega), cat]
          refine toI _ _ ⟨k0 + 1, _, _, _, _, rfl, by omega, by omega, by rw [List.length_append, List.length_singleton]; omega, hW.add (by rcases hk with rfl | rfl <;> omega) (fun b hb => ?_), hb7, rfl⟩
          have := (hl.lt _ hb).2.2
          rw [h3, Int.sub_add_cancel, hc, decide_eq_false hcs] at this
          cases this
      · rintro s ⟨k0, wl, st6, a6, a10, hr, h1, h2, h3, hW, hb6, rfl⟩
        have := rng_end hr
        exact ⟨rfl, wl, st6, a6, a10, by omega, hW, hb6, rfl⟩
    rintro f s' ⟨rfl, wl, st6, a6, a10, hwl, hW, hb6, rfl⟩
    simp only [wp_ret, wp_bind, wp_ite, wp_opt, wp_need, wp_rd, slW_val, slW_own, stl_non, stl_bl, stl_int, stl_str, stl_tup, stl_lst, stl_dic, stl_ref, wp_stl_own, stW_own, stW_val, deref_non, deref_bl, deref_int, deref_str, deref_tup, deref_lst, deref_dic, deref_ref, deref_own, slC_own, slC_val, wp_op2, wp_op1, wp_bin, wp_un, wp_consM, wp_nilM, wp_opn, drf_nil, drf_one, drf_two, wp_tupM, wp_lstM, wp_newM, wp_stls_nil, wp_stls_cons, wp_tst, asB_bl, wp_notM, wp_andM, wp_orM, wp_andV, wp_orV, wp_notV, wp_iteM, wp_chain, wp_sl, wp_optN, wp_optS, intO_none, intO_int, wp_isT, wp_joinM, wp_mutM, wp_mutA, isOw_own, wp_up_own, wp_up_ref, wp_setIx, flW_nx, flW_rt, flW_bk, flW_ct, wp_seq, wp_pass, wp_brk, wp_cnt, wp_setV, wp_setO, wp_drp, wp_retM, wp_retN, wp_ofT, wp_setT, gT_tup, gTs_nil, gTs_cons, gN_eq, wp_nilP, wp_consP, wp_stlP_nil, wp_stlP_t, wp_stlP_f, wp_parM, wrP_nil, wrP_t, wrP_f, wp_forM, wp_walkM, itemsD_tup, itemsD_lst, wp_rng1, wp_rng2, r1W_int, r2W_int, rtW_rt, rtW_nx, foW_nx, foW_ct, foW_bk, foW_rt, wp_forL_nil, wp_forL_cons, wp_compM, wipe_s, wipe_z, wipe_ss, wipe_zs, wipe_sz, wp_tYes, wp_callM, wp_callP, permD, List.map_cons, List.map_nil, List.getD_cons_zero, List.getD_cons_succ, List.cons_append, List.nil_append, List.getElem?_cons_zero, List.getElem?_cons_succ, List.set_cons_zero, List.set_cons_succ, Option.map_some, Option.bind_some, Option.some.injEq, Option.isSome_some, exists_eq_left', exists_eq_left, exists_and_left, true_and, and_true, decide_eq_true_eq, List.length_cons, List.length_nil, if_true, if_false, addD_i, subD_i, negD_i, ltD_i, leD_i, gtD_i, geD_i, lenF_t, lenF_l, lenF_d, absF_i, intF_i, intF_b, tupF_t, tupF_l, lstF_t, lstF_l, ixD_l, ixD_t, at1_0, at2_1, at3_2, isL_l, isS_s, popF_0, eqD_i, neD_i, eqD_s, neD_s, slD_l, slD_t, setF_30, setF_31, setF_32, neD_00, neD_10, Nat.zero_le, Nat.reduceAdd, Nat.reduceLeDiff, Bool.false_eq_true, reduceIte, Prod.mk.injEq, and_assoc, eq_self, decide_true, decide_false, not_true_eq_false, not_false_eq_true, Bool.not_true, Bool.not_false]
    -- each answer
    refine wp_forI (fun r s => ∃ (rest : List (Int × Ans)) (a11 a12 a13 : Sl), r = encH rest ∧ (∀ p ∈ rest, p ∈ l) ∧ s = ⟨[.val (.lst (ns.map .int)), .val (.ref 1), .val (.int t0), .val (.int m), .val (.str w), .val (.tup (encH l)), a6, .val (.tup (wl.map .int)), .val (.str (D.tup (encH l)).py.shown), a9, a10, a11, a12, a13, a14, a15, .un], st6⟩) ⟨l, _, _, _, rfl, fun _ hp => hp, rfl⟩ ?_ ?_
    · rintro I toI x r s ⟨rest, a11, a12, a13, hr, hsub, rfl⟩
      cases rest with
      | nil => cases hr
      | cons p rest =>
        obtain ⟨px, pa⟩ := p
        have hp := hsub (px, pa) (by simp)
        obtain ⟨g1, g2, g3⟩ := hl.lt _ hp
        dsimp only at g1 g2 g3
        cases hr
        have hi : (px - 1).toNat < wl.length := by omega
        obtain ⟨v, hv⟩ : ∃ v, wl[(px - 1).toNat]? = some v := ⟨_, List.getElem?_eq_getElem hi⟩
        have hat : L2.atI (wl.map D.int) (px - 1) = some (.int v) := atI_at (k := (px - 1).toNat) (by omega) (by rw [List.getElem?_map, hv]; rfl)
        have epx : (((px - 1).toNat : Nat) : Int) + 1 = px := by omega
        have hval := (hW _ v hv).2 pa (by rw [epx]; exact hp)
        rw [epx] at hval
        refine ⟨_, rfl, ?_⟩
        cases pa with
        | none =>
          simp only [wp_ret, wp_bind, wp_ite, wp_opt, wp_need, wp_rd, slW_val, slW_own, stl_non, stl_bl, stl_int, stl_str, stl_tup, stl_lst, stl_dic, stl_ref, wp_stl_own, stW_own, stW_val, deref_non, deref_bl, deref_int, deref_str, deref_tup, deref_lst, deref_dic, deref_ref, deref_own, slC_own, slC_val, wp_op2, wp_op1, wp_bin, wp_un, wp_consM, wp_nilM, wp_opn, drf_nil, drf_one, drf_two, wp_tupM, wp_lstM, wp_newM, wp_stls_nil, wp_stls_cons, wp_tst, asB_bl, wp_notM, wp_andM, wp_orM, wp_andV, wp_orV, wp_notV, wp_iteM, wp_chain, wp_sl, wp_optN, wp_optS, intO_none, intO_int, wp_isT, wp_joinM, wp_mutM, wp_mutA, isOw_own, wp_up_own, wp_up_ref, wp_setIx, flW_nx, flW_rt, flW_bk, flW_ct, wp_seq, wp_pass, wp_brk, wp_cnt, wp_setV, wp_setO, wp_drp, wp_retM, wp_retN, wp_ofT, wp_setT, gT_tup, gTs_nil, gTs_cons, gN_eq, wp_nilP, wp_consP, wp_stlP_nil, wp_stlP_t, wp_stlP_f, wp_parM, wrP_nil, wrP_t, wrP_f, wp_forM, wp_walkM, itemsD_tup, itemsD_lst, wp_rng1, wp_rng2, r1W_int, r2W_int, rtW_rt, rtW_nx, foW_nx, foW_ct, foW_bk, foW_rt, wp_forL_nil, wp_forL_cons, wp_compM, wipe_s, wipe_z, wipe_ss, wipe_zs, wipe_sz, wp_tYes, wp_callM, wp_callP, permD, List.map_cons, List.map_nil, List.getD_cons_zero, List.getD_cons_succ, List.cons_append, List.nil_append, List.getElem?_cons_zero, List.getElem?_cons_succ, List.set_cons_zero, List.set_cons_succ, Option.map_some, Option.bind_some, Option.some.injEq, Option.isSome_some, exists_eq_left', exists_eq_left, exists_and_left, true_and, and_true, decide_eq_true_eq, List.length_cons, List.length_nil, if_true, if_false, addD_i, subD_i, negD_i, ltD_i, leD_i, gtD_i, geD_i, lenF_t, lenF_l, lenF_d, absF_i, intF_i, intF_b, tupF_t, tupF_l, lstF_t, lstF_l, ixD_l, ixD_t, at1_0, at2_1, at3_2, isL_l, isS_s, popF_0, eqD_i, neD_i, eqD_s, neD_s, slD_l, slD_t, setF_30, setF_31, setF_32, neD_00, neD_10, Nat.zero_le, Nat.reduceAdd, Nat.reduceLeDiff, Bool.false_eq_true, reduceIte, Prod.mk.injEq, and_assoc, eq_self, decide_true, decide_false, not_true_eq_false, not_false_eq_true, Bool.not_true, Bool.not_false, at_no0, no_all, drf_enc, hat]
          have hv2 : v = -px := hval
          rw [hv2]
          simp only [wp_ret, wp_bind, wp_ite, wp_opt, wp_need, wp_rd, slW_val, slW_own, stl_non, stl_bl, stl_int, stl_str, stl_tup, stl_lst, stl_dic, stl_ref, wp_stl_own, stW_own, stW_val, deref_non, deref_bl, deref_int, deref_str, deref_tup, deref_lst, deref_dic, deref_ref, deref_own, slC_own, slC_val, wp_op2, wp_op1, wp_bin, wp_un, wp_consM, wp_nilM, wp_opn, drf_nil, drf_one, drf_two, wp_tupM, wp_lstM, wp_newM, wp_stls_nil, wp_stls_cons, wp_tst, asB_bl, wp_notM, wp_andM, wp_orM, wp_andV, wp_orV, wp_notV, wp_iteM, wp_chain, wp_sl, wp_optN, wp_optS, intO_none, intO_int, wp_isT, wp_joinM, wp_mutM, wp_mutA, isOw_own, wp_up_own, wp_up_ref, wp_setIx, flW_nx, flW_rt, flW_bk, flW_ct, wp_seq, wp_pass, wp_brk, wp_cnt, wp_setV, wp_setO, wp_drp, wp_retM, wp_retN, wp_ofT, wp_setT, gT_tup, gTs_nil, gTs_cons, gN_eq, wp_nilP, wp_consP, wp_stlP_nil, wp_stlP_t, wp_stlP_f, wp_parM, wrP_nil, wrP_t, wrP_f, wp_forM, wp_walkM, itemsD_tup, itemsD_lst, wp_rng1, wp_rng2, r1W_int, r2W_int, rtW_rt, rtW_nx, foW_nx, foW_ct, foW_bk, foW_rt, wp_forL_nil, wp_forL_cons, wp_compM, wipe_s, wipe_z, wipe_ss, wipe_zs, wipe_sz, wp_tYes, wp_callM, wp_callP, permD, List.map_cons, List.map_nil, List.getD_cons_zero, List.getD_cons_succ, List.cons_append, List.nil_append, List.getElem?_cons_zero, List.getElem?_cons_succ, List.set_cons_zero, List.set_cons_succ, Option.map_some, Option.bind_some, Option.some.injEq, Option.isSome_some, exists_eq_left', exists_eq_left, exists_and_left, true_and, and_true, decide_eq_true_eq, List.length_cons, List.length_nil, if_true, if_false, addD_i, subD_i, negD_i, ltD_i, leD_i, gtD_i, geD_i, lenF_t, lenF_l, lenF_d, absF_i, intF_i, intF_b, tupF_t, tupF_l, lstF_t, lstF_l, ixD_l, ixD_t, at1_0, at2_1, at3_2, isL_l, isS_s, popF_0, eqD_i, neD_i, eqD_s, neD_s, slD_l, slD_t, setF_30, setF_31, setF_32, neD_00, neD_10, Nat.zero_le, Nat.reduceAdd, Nat.reduceLeDiff, Bool.false_eq_true, reduceIte, Prod.mk.injEq, and_assoc, eq_self, decide_true, decide_false, not_true_eq_false, not_false_eq_true, Bool.not_true, Bool.not_false]
          exact toI _ _ ⟨rest, _, _, _, rfl, fun q hq => hsub q (List.mem_cons_of_mem _ hq), rfl⟩
        | some row =>
          have hyt : yes row wl = yes row (wl.take (px - 1).toNat) := yes_take hW fun y hy => by
            have := (hl.row _ hp row rfl).2 y hy
            dsimp only at this
            omega
          have hlen := (hl.row _ hp row rfl).1
          have hv2 : v = if yes row wl = true then px else -px := by rw [hyt]; exact hval
          simp only [wp_ret, wp_bind, wp_ite, wp_opt, wp_need, wp_rd, slW_val, slW_own, stl_non, stl_bl, stl_int, stl_str, stl_tup, stl_lst, stl_dic, stl_ref, wp_stl_own, stW_own, stW_val, deref_non, deref_bl, deref_int, deref_str, deref_tup, deref_lst, deref_dic, deref_ref, deref_own, slC_own, slC_val, wp_op2, wp_op1, wp_bin, wp_un, wp_consM, wp_nilM, wp_opn, drf_nil, drf_one, drf_two, wp_tupM, wp_lstM, wp_newM, wp_stls_nil, wp_stls_cons, wp_tst, asB_bl, wp_notM, wp_andM, wp_orM, wp_andV, wp_orV, wp_notV, wp_iteM, wp_chain, wp_sl, wp_optN, wp_optS, intO_none, intO_int, wp_isT, wp_joinM, wp_mutM, wp_mutA, isOw_own, wp_up_own, wp_up_ref, wp_setIx, flW_nx, flW_rt, flW_bk, flW_ct, wp_seq, wp_pass, wp_brk, wp_cnt, wp_setV, wp_setO, wp_drp, wp_retM, wp_retN, wp_ofT, wp_setT, gT_tup, gTs_nil, gTs_cons, gN_eq, wp_nilP, wp_consP, wp_stlP_nil, wp_stlP_t, wp_stlP_f, wp_parM, wrP_nil, wrP_t, wrP_f, wp_forM, wp_walkM, itemsD_tup, itemsD_lst, wp_rng1, wp_rng2, r1W_int, r2W_int, rtW_rt, rtW_nx, foW_nx, foW_ct, foW_bk, foW_rt, wp_forL_nil, wp_forL_cons, wp_compM, wipe_s, wipe_z, wipe_ss, wipe_zs, wipe_sz, wp_tYes, wp_callM, wp_callP, permD, List.map_cons, List.map_nil, List.getD_cons_zero, List.getD_cons_succ, List.cons_append, List.nil_append, List.getElem?_cons_zero, List.getElem?_cons_succ, List.set_cons_zero, List.set_cons_succ, Option.map_some, Option.bind_some, Option.some.injEq, Option.isSome_some, exists_eq_left', exists_eq_left, exists_and_left, true_and, and_true, decide_eq_true_eq, List.length_cons, List.length_nil, if_true, if_false, addD_i, subD_i, negD_i, ltD_i, leD_i, gtD_i, geD_i, lenF_t, lenF_l, lenF_d, absF_i, intF_i, intF_b, tupF_t, tupF_l, lstF_t, lstF_l, ixD_l, ixD_t, at1_0, at2_1, at3_2, isL_l, isS_s, popF_0, eqD_i, neD_i, eqD_s, neD_s, slD_l, slD_t, setF_30, setF_31, setF_32, neD_00, neD_10, Nat.zero_le, Nat.reduceAdd, Nat.reduceLeDiff, Bool.false_eq_true, reduceIte, Prod.mk.injEq, and_assoc, eq_self, decide_true, decide_false, not_true_eq_false, not_false_eq_true, Bool.not_true, Bool.not_false, at_enc0, at_enc1, drf_enc]
          refine wp_compP (out wl) (fun _ => .int 1) (by rfl) (by rw [List.length_map]; omega) (fun x hx => ?_) ?_
          · obtain ⟨y, hy, rfl⟩ := List.mem_map.mp hx
            refine ⟨_, rfl, rfl, by simp only [wp_ret, wp_bind, wp_ite, wp_opt, wp_need, wp_rd, slW_val, slW_own, stl_non, stl_bl, stl_int, stl_str, stl_tup, stl_lst, stl_dic, stl_ref, wp_stl_own, stW_own, stW_val, deref_non, deref_bl, deref_int, deref_str, deref_tup, deref_lst, deref_dic, deref_ref, deref_own, slC_own, slC_val, wp_op2, wp_op1, wp_bin, wp_un, wp_consM, wp_nilM, wp_opn, drf_nil, drf_one, drf_two, wp_tupM, wp_lstM, wp_newM, wp_stls_nil, wp_stls_cons, wp_tst, asB_bl, wp_notM, wp_andM, wp_orM, wp_andV, wp_orV, wp_notV, wp_iteM, wp_chain, wp_sl, wp_optN, wp_optS, intO_none, intO_int, wp_isT, wp_joinM, wp_mutM, wp_mutA, isOw_own, wp_up_own, wp_up_ref, wp_setIx, flW_nx, flW_rt, flW_bk, flW_ct, wp_seq, wp_pass, wp_brk, wp_cnt, wp_setV, wp_setO, wp_drp, wp_retM, wp_retN, wp_ofT, wp_setT, gT_tup, gTs_nil, gTs_cons, gN_eq, wp_nilP, wp_consP, wp_stlP_nil, wp_stlP_t, wp_stlP_f, wp_parM, wrP_nil, wrP_t, wrP_f, wp_forM, wp_walkM, itemsD_tup, itemsD_lst, wp_rng1, wp_rng2, r1W_int, r2W_int, rtW_rt, rtW_nx, foW_nx, foW_ct, foW_bk, foW_rt, wp_forL_nil, wp_forL_cons, wp_compM, wipe_s, wipe_z, wipe_ss, wipe_zs, wipe_sz, wp_tYes, wp_callM, wp_callP, permD, List.map_cons, List.map_nil, List.getD_cons_zero, List.getD_cons_succ, List.cons_append, List.nil_append, List.getElem?_cons_zero, List.getElem?_cons_succ, List.set_cons_zero, List.set_cons_succ, Option.map_some, Option.bind_some, Option.some.injEq, Option.isSome_some, exists_eq_left', exists_eq_left, exists_and_left, true_and, and_true, decide_eq_true_eq, List.length_cons, List.length_nil, if_true, if_false, addD_i, subD_i, negD_i, ltD_i, leD_i, gtD_i, geD_i, lenF_t, lenF_l, lenF_d, absF_i, intF_i, intF_b, tupF_t, tupF_l, lstF_t, lstF_l, ixD_l, ixD_t, at1_0, at2_1, at3_2, isL_l, isS_s, popF_0, eqD_i, neD_i, eqD_s, neD_s, slD_l, slD_t, setF_30, setF_31, setF_32, neD_00, neD_10, Nat.zero_le, Nat.reduceAdd, Nat.reduceLeDiff, Bool.false_eq_true, reduceIte, Prod.mk.injEq, and_assoc, eq_self, decide_true, decide_false, not_true_eq_false, not_false_eq_true, Bool.not_true, Bool.not_false], ?_⟩
            simp only [wp_ret, wp_bind, wp_ite, wp_opt, wp_need, wp_rd, slW_val, slW_own, stl_non, stl_bl, stl_int, stl_str, stl_tup, stl_lst, stl_dic, stl_ref, wp_stl_own, stW_own, stW_val, deref_non, deref_bl, deref_int, deref_str, deref_tup, deref_lst, deref_dic, deref_ref, deref_own, slC_own, slC_val, wp_op2, wp_op1, wp_bin, wp_un, wp_consM, wp_nilM, wp_opn, drf_nil, drf_one, drf_two, wp_tupM, wp_lstM, wp_newM, wp_stls_nil, wp_stls_cons, wp_tst, asB_bl, wp_notM, wp_andM, wp_orM, wp_andV, wp_orV, wp_notV, wp_iteM, wp_chain, wp_sl, wp_optN, wp_optS, intO_none, intO_int, wp_isT, wp_joinM, wp_mutM, wp_mutA, isOw_own, wp_up_own, wp_up_ref, wp_setIx, flW_nx, flW_rt, flW_bk, flW_ct, wp_seq, wp_pass, wp_brk, wp_cnt, wp_setV, wp_setO, wp_drp, wp_retM, wp_retN, wp_ofT, wp_setT, gT_tup, gTs_nil, gTs_cons, gN_eq, wp_nilP, wp_consP, wp_stlP_nil, wp_stlP_t, wp_stlP_f, wp_parM, wrP_nil, wrP_t, wrP_f, wp_forM, wp_walkM, itemsD_tup, itemsD_lst, wp_rng1, wp_rng2, r1W_int, r2W_int, rtW_rt, rtW_nx, foW_nx, foW_ct, foW_bk, foW_rt, wp_forL_nil, wp_forL_cons, wp_compM, wipe_s, wipe_z, wipe_ss, wipe_zs, wipe_sz, wp_tYes, wp_callM, wp_callP, permD, List.map_cons, List.map_nil, List.getD_cons_zero, List.getD_cons_succ, List.cons_append, List.nil_append, List.getElem?_cons_zero, List.getElem?_cons_succ, List.set_cons_zero, List.set_cons_succ, Option.map_some, Option.bind_some, Option.some.injEq, Option.isSome_some, exists_eq_left', exists_eq_left, exists_and_left, true_and, and_true, decide_eq_true_eq, List.length_cons, List.length_nil, if_true, if_false, addD_i, subD_i, negD_i, ltD_i, leD_i, gtD_i, geD_i, lenF_t, lenF_l, lenF_d, absF_i, intF_i, intF_b, tupF_t, tupF_l, lstF_t, lstF_l, ixD_l, ixD_t, at1_0, at2_1, at3_2, isL_l, isS_s, popF_0, eqD_i, neD_i, eqD_s, neD_s, slD_l, slD_t, setF_30, setF_31, setF_32, neD_00, neD_10, Nat.zero_le, Nat.reduceAdd, Nat.reduceLeDiff, Bool.false_eq_true, reduceIte, Prod.mk.injEq, and_assoc, eq_self, decide_true, decide_false, not_true_eq_false, not_false_eq_true, Bool.not_true, Bool.not_false, ninD_ints]
            exact ⟨rfl, fun _ => trivial⟩
          · simp only [wp_ret, wp_bind, wp_ite, wp_opt, wp_need, wp_rd, slW_val, slW_own, stl_non, stl_bl, stl_int, stl_str, stl_tup, stl_lst, stl_dic, stl_ref, wp_stl_own, stW_own, stW_val, deref_non, deref_bl, deref_int, deref_str, deref_tup, deref_lst, deref_dic, deref_ref, deref_own, slC_own, slC_val, wp_op2, wp_op1, wp_bin, wp_un, wp_consM, wp_nilM, wp_opn, drf_nil, drf_one, drf_two, wp_tupM, wp_lstM, wp_newM, wp_stls_nil, wp_stls_cons, wp_tst, asB_bl, wp_notM, wp_andM, wp_orM, wp_andV, wp_orV, wp_notV, wp_iteM, wp_chain, wp_sl, wp_optN, wp_optS, intO_none, intO_int, wp_isT, wp_joinM, wp_mutM, wp_mutA, isOw_own, wp_up_own, wp_up_ref, wp_setIx, flW_nx, flW_rt, flW_bk, flW_ct, wp_seq, wp_pass, wp_brk, wp_cnt, wp_setV, wp_setO, wp_drp, wp_retM, wp_retN, wp_ofT, wp_setT, gT_tup, gTs_nil, gTs_cons, gN_eq, wp_nilP, wp_consP, wp_stlP_nil, wp_stlP_t, wp_stlP_f, wp_parM, wrP_nil, wrP_t, wrP_f, wp_forM, wp_walkM, itemsD_tup, itemsD_lst, wp_rng1, wp_rng2, r1W_int, r2W_int, rtW_rt, rtW_nx, foW_nx, foW_ct, foW_bk, foW_rt, wp_forL_nil, wp_forL_cons, wp_compM, wipe_s, wipe_z, wipe_ss, wipe_zs, wipe_sz, wp_tYes, wp_callM, wp_callP, permD, List.map_cons, List.map_nil, List.getD_cons_zero, List.getD_cons_succ, List.cons_append, List.nil_append, List.getElem?_cons_zero, List.getElem?_cons_succ, List.set_cons_zero, List.set_cons_succ, Option.map_some, Option.bind_some, Option.some.injEq, Option.isSome_some, exists_eq_left', exists_eq_left, exists_and_left, true_and, and_true, decide_eq_true_eq, List.length_cons, List.length_nil, if_true, if_false, addD_i, subD_i, negD_i, ltD_i, leD_i, gtD_i, geD_i, lenF_t, lenF_l, lenF_d, absF_i, intF_i, intF_b, tupF_t, tupF_l, lstF_t, lstF_l, ixD_l, ixD_t, at1_0, at2_1, at3_2, isL_l, isS_s, popF_0, eqD_i, neD_i, eqD_s, neD_s, slD_l, slD_t, setF_30, setF_31, setF_32, neD_00, neD_10, Nat.zero_le, Nat.reduceAdd, Nat.reduceLeDiff, Bool.false_eq_true, reduceIte, Prod.mk.injEq, and_assoc, eq_self, decide_true, decide_false, not_true_eq_false, not_false_eq_true, Bool.not_true, Bool.not_false, ones, hat]
            by_cases hy : yes row wl = true
            · rw [if_pos hy] at hv2
              simp only [wp_ret, wp_bind, wp_ite, wp_opt, wp_need, wp_rd, slW_val, slW_own, stl_non, stl_bl, stl_int, stl_str, stl_tup, stl_lst, stl_dic, stl_ref, wp_stl_own, stW_own, stW_val, deref_non, deref_bl, deref_int, deref_str, deref_tup, deref_lst, deref_dic, deref_ref, deref_own, slC_own, slC_val, wp_op2, wp_op1, wp_bin, wp_un, wp_consM, wp_nilM, wp_opn, drf_nil, drf_one, drf_two, wp_tupM, wp_lstM, wp_newM, wp_stls_nil, wp_stls_cons, wp_tst, asB_bl, wp_notM, wp_andM, wp_orM, wp_andV, wp_orV, wp_notV, wp_iteM, wp_chain, wp_sl, wp_optN, wp_optS, intO_none, intO_int, wp_isT, wp_joinM, wp_mutM, wp_mutA, isOw_own, wp_up_own, wp_up_ref, wp_setIx, flW_nx, flW_rt, flW_bk, flW_ct, wp_seq, wp_pass, wp_brk, wp_cnt, wp_setV, wp_setO, wp_drp, wp_retM, wp_retN, wp_ofT, wp_setT, gT_tup, gTs_nil, gTs_cons, gN_eq, wp_nilP, wp_consP, wp_stlP_nil, wp_stlP_t, wp_stlP_f, wp_parM, wrP_nil, wrP_t, wrP_f, wp_forM, wp_walkM, itemsD_tup, itemsD_lst, wp_rng1, wp_rng2, r1W_int, r2W_int, rtW_rt, rtW_nx, foW_nx, foW_ct, foW_bk, foW_rt, wp_forL_nil, wp_forL_cons, wp_compM, wipe_s, wipe_z, wipe_ss, wipe_zs, wipe_sz, wp_tYes, wp_callM, wp_callP, permD, List.map_cons, List.map_nil, List.getD_cons_zero, List.getD_cons_succ, List.cons_append, List.nil_append, List.getElem?_cons_zero, List.getElem?_cons_succ, List.set_cons_zero, List.set_cons_succ, Option.map_some, Option.bind_some, Option.some.injEq, Option.isSome_some, exists_eq_left', exists_eq_left, exists_and_left, true_and, and_true, decide_eq_true_eq, List.length_cons, List.length_nil, if_true, if_false, addD_i, subD_i, negD_i, ltD_i, leD_i, gtD_i, geD_i, lenF_t, lenF_l, lenF_d, absF_i, intF_i, intF_b, tupF_t, tupF_l, lstF_t, lstF_l, ixD_l, ixD_t, at1_0, at2_1, at3_2, isL_l, isS_s, popF_0, eqD_i, neD_i, eqD_s, neD_s, slD_l, slD_t, setF_30, setF_31, setF_32, neD_00, neD_10, Nat.zero_le, Nat.reduceAdd, Nat.reduceLeDiff, Bool.false_eq_true, reduceIte, Prod.mk.injEq, and_assoc, eq_self, decide_true, decide_false, not_true_eq_false, not_false_eq_true, Bool.not_true, Bool.not_false, hy, hv2]
              exact toI _ _ ⟨rest, _, _, _, rfl, fun q hq => hsub q (List.mem_cons_of_mem _ hq), rfl⟩
            · rw [if_neg hy] at hv2
              rw [Bool.not_eq_true] at hy
              simp only [wp_ret, wp_bind, wp_ite, wp_opt, wp_need, wp_rd, slW_val, slW_own, stl_non, stl_bl, stl_int, stl_str, stl_tup, stl_lst, stl_dic, stl_ref, wp_stl_own, stW_own, stW_val, deref_non, deref_bl, deref_int, deref_str, deref_tup, deref_lst, deref_dic, deref_ref, deref_own, slC_own, slC_val, wp_op2, wp_op1, wp_bin, wp_un, wp_consM, wp_nilM, wp_opn, drf_nil, drf_one, drf_two, wp_tupM, wp_lstM, wp_newM, wp_stls_nil, wp_stls_cons, wp_tst, asB_bl, wp_notM, wp_andM, wp_orM, wp_andV, wp_orV, wp_notV, wp_iteM, wp_chain, wp_sl, wp_optN, wp_optS, intO_none, intO_int, wp_isT, wp_joinM, wp_mutM, wp_mutA, isOw_own, wp_up_own, wp_up_ref, wp_setIx, flW_nx, flW_rt, flW_bk, flW_ct, wp_seq, wp_pass, wp_brk, wp_cnt, wp_setV, wp_setO, wp_drp, wp_retM, wp_retN, wp_ofT, wp_setT, gT_tup, gTs_nil, gTs_cons, gN_eq, wp_nilP, wp_consP, wp_stlP_nil, wp_stlP_t, wp_stlP_f, wp_parM, wrP_nil, wrP_t, wrP_f, wp_forM, wp_walkM, itemsD_tup, itemsD_lst, wp_rng1, wp_rng2, r1W_int, r2W_int, rtW_rt, rtW_nx, foW_nx, foW_ct, foW_bk, foW_rt, wp_forL_nil, wp_forL_cons, wp_compM, wipe_s, wipe_z, wipe_ss, wipe_zs, wipe_sz, wp_tYes, wp_callM, wp_callP, permD, List.map_cons, List.map_nil, List.getD_cons_zero, List.getD_cons_succ, List.cons_append, List.nil_append, List.getElem?_cons_zero, List.getElem?_cons_succ, List.set_cons_zero, List.set_cons_succ, Option.map_some, Option.bind_some, Option.some.injEq, Option.isSome_some, exists_eq_left', exists_eq_left, exists_and_left, true_and, and_true, decide_eq_true_eq, List.length_cons, List.length_nil, if_true, if_false, addD_i, subD_i, negD_i, ltD_i, leD_i, gtD_i, geD_i, lenF_t, lenF_l, lenF_d, absF_i, intF_i, intF_b, tupF_t, tupF_l, lstF_t, lstF_l, ixD_l, ixD_t, at1_0, at2_1, at3_2, isL_l, isS_s, popF_0, eqD_i, neD_i, eqD_s, neD_s, slD_l, slD_t, setF_30, setF_31, setF_32, neD_00, neD_10, Nat.zero_le, Nat.reduceAdd, Nat.reduceLeDiff, Bool.false_eq_true, reduceIte, Prod.mk.injEq, and_assoc, eq_self, decide_true, decide_false, not_true_eq_false, not_false_eq_true, Bool.not_true, Bool.not_false, hy, hv2]
              exact toI _ _ ⟨rest, _, _, _, rfl, fun q hq => hsub q (List.mem_cons_of_mem _ hq), rfl⟩
    · rintro s ⟨rest, a11, a12, a13, hr, hsub, rfl⟩
      exact toI0 _ _ ⟨_, st6, _, _, _, _, _, _, _, _, _, _, _, _, _, _, rfl, hb6, rfl⟩
  · rintro s ⟨t0, st', a2, a3, a4, a5, a6, a7, a8, a9, a10, a11, a12, a13, a14, a15, hr, hb, rfl⟩
    simp only [wp_ret, wp_bind, wp_ite, wp_opt, wp_need, wp_rd, slW_val, slW_own, stl_non, stl_bl, stl_int, stl_str, stl_tup, stl_lst, stl_dic, stl_ref, wp_stl_own, stW_own, stW_val, deref_non, deref_bl, deref_int, deref_str, deref_tup, deref_lst, deref_dic, deref_ref, deref_own, slC_own, slC_val, wp_op2, wp_op1, wp_bin, wp_un, wp_consM, wp_nilM, wp_opn, drf_nil, drf_one, drf_two, wp_tupM, wp_lstM, wp_newM, wp_stls_nil, wp_stls_cons, wp_tst, asB_bl, wp_notM, wp_andM, wp_orM, wp_andV, wp_orV, wp_notV, wp_iteM, wp_chain, wp_sl, wp_optN, wp_optS, intO_none, intO_int, wp_isT, wp_joinM, wp_mutM, wp_mutA, isOw_own, wp_up_own, wp_up_ref, wp_setIx, flW_nx, flW_rt, flW_bk, flW_ct, wp_seq, wp_pass, wp_brk, wp_cnt, wp_setV, wp_setO, wp_drp, wp_retM, wp_retN, wp_ofT, wp_setT, gT_tup, gTs_nil, gTs_cons, gN_eq, wp_nilP, wp_consP, wp_stlP_nil, wp_stlP_t, wp_stlP_f, wp_parM, wrP_nil, wrP_t, wrP_f, wp_forM, wp_walkM, itemsD_tup, itemsD_lst, wp_rng1, wp_rng2, r1W_int, r2W_int, rtW_rt, rtW_nx, foW_nx, foW_ct, foW_bk, foW_rt, wp_forL_nil, wp_forL_cons, wp_compM, wipe_s, wipe_z, wipe_ss, wipe_zs, wipe_sz, wp_tYes, wp_callM, wp_callP, permD, List.map_cons, List.map_nil, List.getD_cons_zero, List.getD_cons_succ, List.cons_append, List.nil_append, List.getElem?_cons_zero, List.getElem?_cons_succ, List.set_cons_zero, List.set_cons_succ, Option.map_some, Option.bind_some, Option.some.injEq, Option.isSome_some, exists_eq_left', exists_eq_left, exists_and_left, true_and, and_true, decide_eq_true_eq, List.length_cons, List.length_nil, if_true, if_false, addD_i, subD_i, negD_i, ltD_i, leD_i, gtD_i, geD_i, lenF_t, lenF_l, lenF_d, absF_i, intF_i, intF_b, tupF_t, tupF_l, lstF_t, lstF_l, ixD_l, ixD_t, at1_0, at2_1, at3_2, isL_l, isS_s, popF_0, eqD_i, neD_i, eqD_s, neD_s, slD_l, slD_t, setF_30, setF_31, setF_32, neD_00, neD_10, Nat.zero_le, Nat.reduceAdd, Nat.reduceLeDiff, Bool.false_eq_true, reduceIte, Prod.mk.injEq, and_assoc, eq_self, decide_true, decide_false, not_true_eq_false, not_false_eq_true, Bool.not_true, Bool.not_false]
end Zk46

open PySem PySem.W PyProof.Rows in
set_option maxRecDepth 100000 in
set_option maxHeartbeats 0 in
theorem PySem.Challenge.cw_eachsome_k46_whole_plain_answers_along_p_holds : PySem.Challenge.rw_eachsome_k46_whole_plain_answers_along_p.Holds := by
  w_on; o_law; k_head; (case hw => w_witness2)
  k_fill
  refine Ea.walk_g (l := PySem.Challenge.rw_eachsome_k46_whole_plain_answers_along_p) (n := 63) (k := Zk46.fuel + 1) (x := "script") (sp := fun w => Ea.SpF (Zk46.en _) (Ea.callF Zk46.T Zk46.fuel) 1 8) rfl (by decide) rfl ⟨rfl, by decide, by decide⟩ (fun w h Y => PySem.W.kIn_of Y) ?F fun w H a ns hl hO hS => let ⟨st, h⟩ := Zk46.law_true ns hl; Ea.spf_law hO hS h
  case F =>
    intro w mg fa h KX G hmg
    refine' Zk46.all_mk KX G hmg ?a0 ?l0 ?c0 ?k0 ?a1 ?l1 ?c1 ?k1 ?a2 ?l2 ?c2 ?k2 ?a3 ?l3 ?c3 ?k3 ?a4 ?l4 ?c4 ?k4 ?a5 ?l5 ?c5 ?k5 ?a6 ?l6 ?c6 ?k6 ?a7 ?l7 ?c7 ?k7 ?a8 ?l8 ?c8 ?k8 ?z_abs ?z_all ?z_dict ?z_int ?z_len ?z_list ?z_range ?z_repr ?z_sorted ?z_tuple
    (case a0 => k_is)
    (case l0 => k_is)
    (case c0 => k_is)
    (case k0 => k_is)
    (case a1 => k_is)
    (case l1 => k_is)
    (case c1 => k_is)
    (case k1 => k_is)
    (case a2 => k_is)
    (case l2 => k_is)
    (case c2 => k_is)
    (case k2 => k_is)
    (case a3 => k_is)
    (case l3 => k_is)
    (case c3 => k_is)
    (case k3 => k_is)
    (case a4 => k_is)
    (case l4 => k_is)
    (case c4 => k_is)
    (case k4 => k_is)
    (case a5 => k_is)
    (case l5 => k_is)
    (case c5 => k_is)
    (case k5 => k_is)
    (case a6 => k_is)
    (case l6 => k_is)
    (case c6 => k_is)
    (case k6 => k_is)
    (case a7 => k_is)
    (case l7 => k_is)
    (case c7 => k_is)
    (case k7 => k_is)
    (case a8 => k_is)
    (case l8 => k_is)
    (case c8 => k_is)
    (case k8 => k_is)
    (case z_abs => k_is)
    (case z_all => k_is)
    (case z_dict => k_is)
    (case z_int => k_is)
    (case z_len => k_is)
    (case z_list => k_is)
    (case z_range => k_is)
    (case z_repr => k_is)
    (case z_sorted => k_is)
    (case z_tuple => k_is)
