import PyProof.Rows.All
import Wide.All
import OpenK.AllK
import Wide.FinOn
import HandS.ForMost
import HandS.ForExc
import HandS.Lambda
import HandS.EndTab
import HandS.ExcInit
import HandS.SortOrd
import HandS.Deep
import HandS.Star
import HandS.TupAny
import HandS.Zip
import HandS.IsInst
import HandS.Wide
import KE.KExcSuper
import HandS.Strs
import HandS.ExcOwn
import HandS.CallSlots
import HandS.WordsExc
import HandS.Defaults
import HandS.Style
import HandS.Exc
import HandS.ExcSuper
import HandS.SortInts
import PyProof.Rows.SortStr
import HandS.SetFor
import HandS.SetKeys
import HandS.ExcField
import HandS.HeadHook4
import HandS.HeadWalk
import HandS.Head2
import PySem.Challenge.RW_gridlights_k10_whole_word_squares
set_option Elab.async false
set_option linter.all false
set_option maxRecDepth 100000
set_option maxHeartbeats 4000000
/-! Ev: a small language for the part of Python that the program uses, and what it yields, in plain data. -/
namespace Ev
open PySem

/-- what a name owns alone: it may change -/
inductive Own where
  | lst (xs : List PyData)
/-- what stands in a name's slot: nothing, a shared value (nothing in it changes), an own object, the caller's object -/
inductive Slot where
  | un | sh (d : PyData) | ow (o : Own) | br (o : Own)
abbrev Gam := List Slot
structure Exn where
  cls : String
  arg : PyData
inductive Arg where
  | sh (d : PyData) | by (o : Own)
/-- an expression's end: a shared value, a new object that nobody else has, an exception, none that is told -/
inductive RE where
  | ok (d : PyData) (g : Gam) | fr (o : Own) (g : Gam) | ex (x : Exn) (g : Gam) | bad
inductive RL where
  | ok (ds : List PyData) (g : Gam) | ex (x : Exn) (g : Gam) | bad
inductive RO where
  | ok (i : Option Int) (g : Gam) | bad
inductive RS where
  | nx (g : Gam) | rt (d : PyData) (g : Gam) | rf (o : Own) (g : Gam) | bk (g : Gam) | ct (g : Gam) | ex (x : Exn) (g : Gam) | bad
/-- a call's end, with what stands in the objects that were lent -/
inductive RF where
  | ok (d : PyData) (bs : List Own) | fr (o : Own) (bs : List Own) | ex (x : Exn) (bs : List Own) | bad

def Own.d : Own → PyData
  | .lst xs => .list xs
/-- as a shared value -/
def RE.sh : RE → RE
  | .fr o g => .ok o.d g
  | r => r
def RE.andThen (r : RE) (f : PyData → Gam → RE) : RE := match r with
  | .ok d g => f d g
  | .fr o g => f o.d g
  | .ex x g => .ex x g
  | .bad => .bad
def RL.andThen (r : RL) (f : List PyData → Gam → RE) : RE := match r with
  | .ok d g => f d g
  | .ex x g => .ex x g
  | .bad => .bad
def RE.thenS (r : RE) (f : PyData → Gam → RS) : RS := match r with
  | .ok d g => f d g
  | .fr o g => f o.d g
  | .ex x g => .ex x g
  | .bad => .bad
def ofO (g : Gam) : Option PyData → RE
  | some d => .ok d g
  | none => .bad

/-! ### operators -/
inductive BOp where
  | add | sub | mul | fdiv | mod | pow
inductive COp where
  | lt | le | gt | ge | eq | ne | isIn | notIn | isN | notN
/-- a target -/
inductive Tg where
  | nm (i : Nat) | tp (ts : List Tg)
/-! ### plain operations -/
def truth : PyData → Option Bool
  | .bool b => some b
  | _ => none
def small (i : Int) : Bool := decide (-(2 ^ 64) < i) && decide (i < 2 ^ 64)
/-- two texts as code points, less -/
def ltS (a b : Str) : Bool := decide (a.cps.toList < b.cps.toList)
/-- + of two values: the bool tells a new list -/
def addD : PyData → PyData → Option (Bool × PyData)
  | .int i, .int j => some (false, .int (i + j))
  | .str a, .str b => if a.length + b.length ≤ sizeLine then some (false, .str (a ++ b)) else none
  | .tuple xs, .tuple ys => if xs.length + ys.length ≤ sizeLine then some (false, .tuple (xs ++ ys)) else none
  | .list xs, .list ys => if xs.length + ys.length ≤ sizeLine then some (true, .list (xs ++ ys)) else none
  | _, _ => none
def binD : BOp → PyData → PyData → Option (Bool × PyData)
  | .add, a, b => addD a b
  | .sub, .int i, .int j => some (false, .int (i - j))
  | .mul, .int i, .int j => if small i then some (false, .int (i * j)) else none
  | .fdiv, .int i, .int j => if j ≠ 0 ∧ j.natAbs < 1073741824 then some (false, .int (i.fdiv j)) else none
  | .mod, .int i, .int j => if j ≠ 0 then some (false, .int (i.fmod j)) else none
  | .pow, .int i, .int j => if 0 ≤ j ∧ j ≤ 1000000 ∧ i.natAbs < 2 ^ 64 then some (false, .int (i ^ j.toNat)) else none
  | _, _, _ => none

/-! ### order of data: numbers, texts, tuples of them -/
mutual
def ltD : PyData → PyData → Option Bool
  | .int i, .int j => some (decide (i < j))
  | .str a, .str b => some (ltS a b)
  | .tuple xs, .tuple ys => ltL xs ys
  | _, _ => none
def ltL : List PyData → List PyData → Option Bool
  | [], [] => some false
  | [], _ :: _ => some true
  | _ :: _, [] => some false
  | x :: xs, y :: ys => if PyData.eqv x y then ltL xs ys else ltD x y
end
theorem ltL_cons (x y : PyData) (xs ys : List PyData) : ltL (x :: xs) (y :: ys) = if PyData.eqv x y then ltL xs ys else ltD x y := rfl
def flatAll (xs : List PyData) : Bool := xs.all fun | .int _ => true | .str _ => true | _ => false
def notO (x : Option Bool) : Option Bool := x.map (!·)
/-- of two values: lt, le, gt, ge of numbers and texts; lt of tuples -/
def cmpD : COp → PyData → PyData → Option Bool
  | .lt, .int i, .int j => some (decide (i < j))
  | .le, .int i, .int j => some (decide (i ≤ j))
  | .gt, .int i, .int j => some (decide (j < i))
  | .ge, .int i, .int j => some (decide (j ≤ i))
  | .lt, .str a, .str b => some (ltS a b)
  | .le, .str a, .str b => some (!ltS b a)
  | .gt, .str a, .str b => some (ltS b a)
  | .ge, .str a, .str b => some (!ltS a b)
  | .lt, .tuple xs, .tuple ys => if flatAll xs && flatAll ys then ltL xs ys else none
  | .eq, a, b => if SeqAt.shaped a && SeqAt.shaped b then some (PyData.eqv a b) else none
  | .ne, a, b => if SeqAt.shaped a && SeqAt.shaped b then some (!PyData.eqv a b) else none
  | .isIn, a, .list ys => if SeqAt.shaped a && SeqAt.shaped (.list ys) then some (ys.any fun z => PyData.eqv z a) else none
  | .isIn, a, .tuple ys => if SeqAt.shaped a && SeqAt.shaped (.tuple ys) then some (ys.any fun z => PyData.eqv z a) else none
  | .isIn, .str a, .str b => some (Txt.contains b a)
  | .notIn, a, .list ys => if SeqAt.shaped a && SeqAt.shaped (.list ys) then some (!ys.any fun z => PyData.eqv z a) else none
  | .notIn, a, .tuple ys => if SeqAt.shaped a && SeqAt.shaped (.tuple ys) then some (!ys.any fun z => PyData.eqv z a) else none
  | .notIn, .str a, .str b => some (!Txt.contains b a)
  | .isN, a, .none => some (match a with | .none => true | _ => false)
  | .notN, a, .none => some (match a with | .none => false | _ => true)
  | _, _, _ => none
def chD (c : Nat) : PyData := .str ⟨#[c]⟩
def idxD : PyData → PyData → Option PyData
  | .list xs, .int i => L2.atI xs i
  | .tuple xs, .int i => L2.atI xs i
  | .str z, .int i => if z.length ≤ sizeLine then (L2.atI z.cps.toList i).map chD else none
  | _, _ => none
def cutD {α : Type} (xs : List α) (lo hi : Option Int) : List α :=
  (xs.drop (HT.sIx xs.length 0 lo)).take (HT.sIx xs.length xs.length hi - HT.sIx xs.length 0 lo)
/-- a slice; the bool tells a new list -/
def slcD (lo hi : Option Int) : PyData → Option (Bool × PyData)
  | .list xs => some (true, .list (cutD xs lo hi))
  | .tuple xs => some (false, .tuple (cutD xs lo hi))
  | .str z => if z.length ≤ sizeLine then some (false, .str (L2.cutS z lo hi)) else none
  | _ => none
def revD : PyData → Option (Bool × PyData)
  | .list xs => some (true, .list xs.reverse)
  | .tuple xs => some (false, .tuple xs.reverse)
  | _ => none
/-- the make of data -/
def kindD : PyData → Nat
  | .int _ => 0
  | .str _ => 1
  | .tuple _ => 2
  | _ => 3
mutual
/-- an order of all data; of numbers, texts and alike tuples of them it is Python's -/
def ordD : PyData → PyData → Ordering
  | .int i, .int j => if i < j then .lt else if j < i then .gt else .eq
  | .str a, .str b => if ltS a b then .lt else if ltS b a then .gt else .eq
  | .tuple xs, .tuple ys => ordL xs ys
  | a, b => if kindD a < kindD b then .lt else if kindD b < kindD a then .gt else .eq
def ordL : List PyData → List PyData → Ordering
  | [], [] => .eq
  | [], _ :: _ => .lt
  | _ :: _, [] => .gt
  | x :: xs, y :: ys => match ordD x y with
    | .eq => ordL xs ys
    | o => o
end
def tlt (a b : PyData) : Bool := ordD a b == .lt
def insD (x : PyData) : List PyData → List PyData
  | [] => [x]
  | y :: r => if tlt y x then y :: insD x r else x :: y :: r
def isortD : List PyData → List PyData
  | [] => []
  | x :: r => insD x (isortD r)
mutual
/-- the make of data, for an order: 1 a number, 2 a text, tuples of the same makes as far as they go -/
def alike : PyData → PyData → Bool
  | .int _, .int _ => true
  | .str _, .str _ => true
  | .tuple xs, .tuple ys => alikeL xs ys
  | _, _ => false
def alikeL : List PyData → List PyData → Bool
  | x :: xs, y :: ys => alike x y && alikeL xs ys
  | _, _ => true
end
def flatTup : PyData → Bool
  | .tuple ys => flatAll ys && !ys.isEmpty
  | _ => false
/-- all of one make -/
def sortable (xs : List PyData) : Bool :=
  xs.all (fun x => kindD x == 0) || xs.all (fun x => kindD x == 1) || (xs.all flatTup && xs.all fun x => xs.all fun y => alike x y)
def sortD (xs : List PyData) : Option (List PyData) := if sortable xs then some (isortD xs) else none
def dedupS : List PyData → List PyData
  | [] => []
  | x :: r => if (dedupS r).any (fun y => PyData.eqv y x) then dedupS r else x :: dedupS r
def allStr (xs : List PyData) : Bool := xs.all fun | .str _ => true | _ => false
def boolsD : List PyData → Option (List Bool)
  | [] => some []
  | .bool b :: r => (boolsD r).map (b :: ·)
  | _ :: _ => none
def strsD : List PyData → Option (List Str)
  | [] => some []
  | .str b :: r => (strsD r).map (b :: ·)
  | _ :: _ => none
/-! ### built-in functions of a value; the bool tells a new list -/
abbrev U1 := PyData → Option (Bool × PyData)
def lenD : U1
  | .list xs => some (false, .int xs.length)
  | .tuple xs => some (false, .int xs.length)
  | .str z => if z.length ≤ sizeLine then some (false, .int z.length) else none
  | _ => none
def tupD : U1
  | .list xs => some (false, .tuple xs)
  | .tuple xs => some (false, .tuple xs)
  | _ => none
def lstD : U1
  | .list xs => some (true, .list xs)
  | .tuple xs => some (true, .list xs)
  | .str z => if z.length ≤ sizeLine then some (true, .list (z.cps.toList.map chD)) else none
  | _ => none
def srtD : U1
  | .list xs => (sortD xs).map fun ys => (true, .list ys)
  | _ => none
def allD : U1
  | .list xs => (boolsD xs).map fun bs => (false, .bool (bs.all id))
  | _ => none
def anyD : U1
  | .list xs => (boolsD xs).map fun bs => (false, .bool (bs.any id))
  | _ => none
def intD : U1
  | .int i => some (false, .int i)
  | _ => none
def absD : U1
  | .int i => some (false, .int (if i < 0 then -i else i))
  | _ => none
/-- sorted(set(xs)) -/
def srtSetD : U1
  | .list xs => if sortable xs && flatAll xs && decide (xs.length < 4095) then some (true, .list (isortD (dedupS xs))) else none
  | .tuple xs => if sortable xs && flatAll xs && decide (xs.length < 4095) then some (true, .list (isortD (dedupS xs))) else none
  | _ => none
/-- len(set(xs)) -/
def lenSetD : U1
  | .list xs => if flatAll xs && decide (xs.length < 4095) then some (false, .int (dedupS xs).length) else none
  | .tuple xs => if flatAll xs && decide (xs.length < 4095) then some (false, .int (dedupS xs).length) else none
  | _ => none
def isiD : String → U1
  | "int", d => some (false, .bool (match d with | .int _ => true | .bool _ => true | _ => false))
  | "bool", d => some (false, .bool (match d with | .bool _ => true | _ => false))
  | "str", d => some (false, .bool (match d with | .str _ => true | _ => false))
  | "tuple", d => some (false, .bool (match d with | .tuple _ => true | _ => false))
  | "list", d => some (false, .bool (match d with | .list _ => true | _ => false))
  | _, _ => none
def maxD : PyData → PyData → Option (Bool × PyData)
  | .int i, .int j => some (false, .int (if j > i then j else i))
  | _, _ => none
def minD : PyData → PyData → Option (Bool × PyData)
  | .int i, .int j => some (false, .int (if j < i then j else i))
  | _, _ => none
def joinD : PyData → PyData → Option PyData
  | .str a, .list xs => (strsD xs).bind fun ys => if (ys.map (·.length)).sum + ys.length * a.length ≤ 16777216 then some (.str (Txt.join a ys)) else none
  | .str a, .tuple xs => (strsD xs).bind fun ys => if (ys.map (·.length)).sum + ys.length * a.length ≤ 16777216 then some (.str (Txt.join a ys)) else none
  | _, _ => none
def swD : PyData → PyData → Option PyData
  | .str a, .str b => some (.bool (Txt.startswith a b))
  | _, _ => none
/-! ### slots -/
/-- a slot is stored into; a lent object's name never is -/
def put (g : Gam) (i : Nat) (s : Slot) : Option Gam := match g[i]? with
  | some (.br _) => none
  | some _ => some (g.set i s)
  | none => none
mutual
def tgD : Tg → PyData → Gam → Option Gam
  | .nm i, d, g => put g i (.sh d)
  | .tp ts, .tuple ds, g => tgL ts ds g
  | .tp _, _, _ => none
def tgL : List Tg → List PyData → Gam → Option Gam
  | [], [], g => some g
  | t :: ts, d :: ds, g => (tgD t d g).bind fun g => tgL ts ds g
  | _, _, _ => none
end
def wipeG (g : Gam) : List Nat → Gam
  | [] => g
  | i :: r => (wipeG g r).set i .un
/-- behind a comprehension: its own names are as they were -/
def backG (g0 g : Gam) (own : List Nat) : Gam := own.foldl (fun h i => match g0[i]? with | some s => h.set i s | none => h) g
/-- no lent or own object stands at a comprehension's own names -/
def freeOf (g : Gam) (own : List Nat) : Bool := own.all fun i => match g[i]? with | some .un => true | some (.sh _) => true | _ => false

/-! ### what expressions yield -/
abbrev ME := Gam → RE
abbrev ML := Gam → RL
abbrev MO := Gam → RO
abbrev MS := Gam → RS
def ofB (g : Gam) : Option (Bool × PyData) → RE
  | some (false, d) => .ok d g
  | some (true, .list xs) => .fr (.lst xs) g
  | _ => .bad
def lends (g : Gam) : Nat → Option Own := fun i => match g[i]? with
  | some (.ow o) => some o
  | some (.br o) => some o
  | _ => none
def retake (g : Gam) (i : Nat) (o : Own) : Option Gam := match g[i]? with
  | some (.ow _) => some (g.set i (.ow o))
  | some (.br _) => some (g.set i (.br o))
  | _ => none
/-- the arguments of a call as they are written -/
inductive AV where
  | sh (d : PyData) | byr (i : Nat) | byt (o : Own)
inductive RA where
  | ok (as : List AV) (g : Gam) | ex (x : Exn) (g : Gam) | bad
abbrev MA := Gam → RA
def argsOf (g : Gam) : List AV → Option (List Arg)
  | [] => some []
  | .sh d :: r => (argsOf g r).map (.sh d :: ·)
  | .byt o :: r => (argsOf g r).map (.by o :: ·)
  | .byr i :: r => (lends g i).bind fun o => (argsOf g r).map (.by o :: ·)
/-- behind a call: the lent objects as they stand -/
def takeBack : List AV → List Own → Gam → Option Gam
  | [], [], g => some g
  | .sh _ :: r, bs, g => takeBack r bs g
  | .byt _ :: r, _ :: bs, g => takeBack r bs g
  | .byr i :: r, b :: bs, g => (retake g i b).bind fun g => takeBack r bs g
  | _, _, _ => none
def byrs : List AV → List Nat
  | [] => []
  | .byr i :: r => i :: byrs r
  | _ :: r => byrs r
/-- a value that is only looked at: an own object stays one's own -/
def peek (g : Gam) (i : Nat) : Option PyData := match g[i]? with
  | some (.sh d) => some d
  | some (.ow o) => some o.d
  | some (.br o) => some o.d
  | _ => none

/-! ### expressions -/
def eVar (i : Nat) : ME := fun g => match g[i]? with
  | some (.sh d) => .ok d g
  | _ => .bad
/-- looked at -/
def pVar (i : Nat) : ME := fun g => ofO g (peek g i)
def eCst (d : PyData) : ME := fun g => .ok d g
def lNil : ML := fun g => .ok [] g
def RL.cons (d : PyData) : RL → RL
  | .ok ds g => .ok (d :: ds) g
  | r => r
def RL.app (xs : List PyData) : RL → RL
  | .ok ds g => .ok (xs ++ ds) g
  | r => r
def RE.thenL (r : RE) (f : PyData → Gam → RL) : RL := match r with
  | .ok d g => f d g
  | .fr o g => f o.d g
  | .ex x g => .ex x g
  | .bad => .bad
def lCons (e : ME) (l : ML) : ML := fun g => (e g).thenL fun d g => (l g).cons d
def seqD : PyData → Option (List PyData)
  | .list xs => some xs
  | .tuple xs => some xs
  | _ => none
def lStar (e : ME) (l : ML) : ML := fun g => (e g).thenL fun d g => match seqD d with
  | some xs => (l g).app xs
  | none => .bad
def eTup (l : ML) : ME := fun g => (l g).andThen fun ds g => if ds.length ≤ sizeLine then .ok (.tuple ds) g else .bad
def eLst (l : ML) : ME := fun g => (l g).andThen fun ds g => if ds.length ≤ sizeLine then .fr (.lst ds) g else .bad
def bind2 (a b : ME) (k : PyData → PyData → Gam → RE) : ME := fun g => (a g).andThen fun x g => (b g).andThen fun y g => k x y g
/-- the left one is a name's, looked at when the right one is there -/
def bindV (i : Nat) (b : ME) (k : PyData → PyData → Gam → RE) : ME := fun g => match peek g i with
  | some _ => (b g).andThen fun y g => match peek g i with
    | some x => k x y g
    | none => .bad
  | none => .bad
def eBin (o : BOp) (a b : ME) : ME := bind2 a b fun x y g => ofB g (binD o x y)
def eNeg (a : ME) : ME := fun g => (a g).andThen fun x g => match x with | .int i => .ok (.int (-i)) g | _ => .bad
def eNot (a : ME) : ME := fun g => (a g).andThen fun x g => match x with | .bool b => .ok (.bool (!b)) g | _ => .bad
def kCmp (o : COp) : PyData → PyData → Gam → RE := fun x y g => ofO g ((cmpD o x y).map .bool)
def eCmp (o : COp) (a b : ME) : ME := bind2 a b (kCmp o)
def eCmpV (o : COp) (i : Nat) (b : ME) : ME := bindV i b (kCmp o)
def eChn (o p : COp) (a b c : ME) : ME := fun g => (a g).andThen fun x g => (b g).andThen fun y g => match cmpD o x y with
  | some true => (c g).andThen fun z g => kCmp p y z g
  | some false => .ok (.bool false) g
  | none => .bad
def andK (b : ME) : PyData → Gam → RE := fun x g => match x with
  | .bool true => b g
  | .bool false => .ok (.bool false) g
  | _ => .bad
def orK (b : ME) : PyData → Gam → RE := fun x g => match x with
  | .bool false => b g
  | .bool true => .ok (.bool true) g
  | _ => .bad
def eAnd (a b : ME) : ME := fun g => (a g).andThen (andK b)
def eOr (a b : ME) : ME := fun g => (a g).andThen (orK b)
def ifK (a b : ME) : PyData → Gam → RE := fun x g => match x with
  | .bool true => a g
  | .bool false => b g
  | _ => .bad
def eIf (c a b : ME) : ME := fun g => (c g).andThen (ifK a b)
def kIdx : PyData → PyData → Gam → RE := fun x y g => ofO g (idxD x y)
def eIdx (a b : ME) : ME := bind2 a b kIdx
def eIdxV (i : Nat) (b : ME) : ME := bindV i b kIdx
def oNone : MO := fun g => .ok none g
def oSome (e : ME) : MO := fun g => match (e g).sh with
  | .ok (.int i) g => .ok (some i) g
  | _ => .bad
def RO.andThen (r : RO) (f : Option Int → Gam → RE) : RE := match r with
  | .ok o g => f o g
  | .bad => .bad
def eSlc (a : ME) (lo hi : MO) : ME := fun g => (a g).andThen fun x g => (lo g).andThen fun l g => (hi g).andThen fun h g => ofB g (slcD l h x)
def eRev (a : ME) : ME := fun g => (a g).andThen fun x g => ofB g (revD x)
def aNil : MA := fun g => .ok [] g
def RA.cons (a : AV) : RA → RA
  | .ok as g => .ok (a :: as) g
  | r => r
def aSh (e : ME) (l : MA) : MA := fun g => match (e g).sh with
  | .ok d g => (l g).cons (.sh d)
  | .ex x g => .ex x g
  | _ => .bad
def aByr (i : Nat) (l : MA) : MA := fun g => match lends g i with
  | some _ => (l g).cons (.byr i)
  | none => .bad
def aByt (e : ME) (l : MA) : MA := fun g => match e g with
  | .fr o g => (l g).cons (.byt o)
  | .ex x g => .ex x g
  | _ => .bad
/-- the arguments, as they are bound: n of them -/
def callBack (avs : List AV) (g : Gam) : RF → RE
  | .ok d bs => (match takeBack avs bs g with | some g => .ok d g | none => .bad)
  | .fr o bs => (match takeBack avs bs g with | some g => .fr o g | none => .bad)
  | .ex x bs => (match takeBack avs bs g with | some g => .ex x g | none => .bad)
  | .bad => .bad
def callEnd (n : Nat) (f : List Arg → RF) (avs : List AV) (g : Gam) : RE := if avs.length = n ∧ (byrs avs).Nodup then match argsOf g avs with
  | some as => callBack avs g (f as)
  | none => .bad else .bad
/-- a call of a def with n parameters -/
def eCall (n : Nat) (f : List Arg → RF) (l : MA) : ME := fun g => match l g with
  | .ok avs g => callEnd n f avs g
  | .ex x g => .ex x g
  | .bad => .bad
/-- shared arguments only, put into the parameters' order -/
def permL {α : Type} (js : List Nat) (xs : List α) : List α := js.filterMap fun j => xs[j]?
def callSh (n : Nat) (f : List Arg → RF) (as : List PyData) (g : Gam) : RE := if as.length = n then match f (as.map .sh) with
  | .ok d [] => .ok d g
  | .fr o [] => .fr o g
  | .ex x [] => .ex x g
  | _ => .bad else .bad
/-- f(.., k = v, ..): what is written, then the keywords' values -/
def eCallK (n m mk : Nat) (f : List Arg → RF) (js : List Nat) (l kl : ML) : ME := fun g => (l g).andThen fun ds g => (kl g).andThen fun es g => if ds.length = m ∧ es.length = mk then callSh n f (permL js (ds ++ es)) g else .bad
def eU (f : U1) (a : ME) : ME := fun g => (a g).andThen fun x g => ofB g (f x)
def eB2 (f : PyData → PyData → Option (Bool × PyData)) (a b : ME) : ME := bind2 a b fun x y g => ofB g (f x y)
def eM2 (f : PyData → PyData → Option PyData) (a b : ME) : ME := fun g => (a g).andThen fun x g => match x with
  | .str z => (b g).andThen fun y g => ofO g (f (.str z) y)
  | _ => .bad
/-- the loop of a comprehension: what is made so far, turned -/
def compGo (turn : PyData → Gam → Option (Option PyData × Gam)) : List PyData → Gam → List PyData → Option (List PyData × Gam)
  | [], g, acc => some (acc.reverse, g)
  | x :: xs, g, acc => (turn x g).bind fun r => match r.1 with
    | some d => compGo turn xs r.2 (d :: acc)
    | none => compGo turn xs r.2 acc
/-- one turn: target, test, item; no exceptions -/
def compTurn (own : List Nat) (t : Tg) (c : ME) (e : ME) (x : PyData) (g : Gam) : Option (Option PyData × Gam) :=
  (tgD t x (wipeG g own)).bind fun g => match (c g).sh with
  | .ok (.bool true) g => (match (e g).sh with
    | .ok d g => some (some d, g)
    | _ => none)
  | .ok (.bool false) g => some (none, g)
  | _ => none
def eYes : ME := eCst (.bool true)
def compEnd (own : List Nat) (g0 : Gam) : Option (List PyData × Gam) → RE
  | some (ds, g) => if ds.length < sizeLine then .fr (.lst ds) (backG g0 g own) else .bad
  | none => .bad
/-! what is walked -/
def RL.ofO (g : Gam) : Option (List PyData) → RL
  | some ds => .ok ds g
  | none => .bad
def itemsD : PyData → Option (List PyData)
  | .list xs => some xs
  | .tuple xs => some xs
  | .str z => some (z.cps.toList.map chD)
  | _ => none
def rngD (a b : Int) : Option (List PyData) := if a < 2 ^ 62 ∧ -(2 ^ 62) ≤ a ∧ b < 2 ^ 62 ∧ -(2 ^ 62) ≤ b then some ((List.range (b - a).toNat).map fun (k : Nat) => .int (a + k)) else none
def iSeq (e : ME) : ML := fun g => (e g).thenL fun d g => .ofO g (itemsD d)
def iRng (e : ME) : ML := fun g => (e g).thenL fun d g => match d with
  | .int n => .ofO g (rngD 0 n)
  | _ => .bad
def iRng2 (e f : ME) : ML := fun g => (e g).thenL fun d g => (f g).thenL fun d2 g => match d, d2 with
  | .int m, .int n => .ofO g (rngD m n)
  | _, _ => .bad
def zipD : PyData → PyData → Option (List PyData)
  | .list xs, .list ys => some (List.zipWith (fun x y => .tuple [x, y]) xs ys)
  | .tuple xs, .tuple ys => some (List.zipWith (fun x y => .tuple [x, y]) xs ys)
  | _, _ => none
def iZip (e f : ME) : ML := fun g => (e g).thenL fun d g => (f g).thenL fun d2 g => .ofO g (zipD d d2)
def enumD : PyData → Option (List PyData)
  | .list xs => some ((List.range xs.length).zipWith (fun (k : Nat) x => .tuple [.int k, x]) xs)
  | _ => none
def iEnum (e : ME) : ML := fun g => (e g).thenL fun d g => .ofO g (enumD d)
def eComp (own : List Nat) (t : Tg) (l : ML) (c e : ME) : ME := fun g => (l g).andThen fun items g =>
  if freeOf g own then compEnd own g (compGo (compTurn own t c e) items g []) else .bad
def eRefused (c : String) (e : ME) : ME := fun g => match e g with
  | .ok _ g => .ok (.str (Str.ofString "")) g
  | .fr _ g => .ok (.str (Str.ofString "")) g
  | .ex x g => if x.cls = c then .ok x.arg g else .bad
  | .bad => .bad

/-! ### statements -/
def nxO : Option Gam → RS
  | some g => .nx g
  | none => .bad
def forGo (t : Tg) (body : MS) : List PyData → Gam → RS
  | [], g => .nx g
  | x :: xs, g => match tgD t x g with
    | none => .bad
    | some g => match body g with
      | .nx g => forGo t body xs g
      | .ct g => forGo t body xs g
      | .bk g => .nx g
      | r => r
def whGo (c : ME) (body : MS) : Nat → Gam → RS
  | 0, _ => .bad
  | n + 1, g => match (c g).sh with
    | .ok (.bool true) g => (match body g with
      | .nx g => whGo c body n g
      | .ct g => whGo c body n g
      | .bk g => .nx g
      | r => r)
    | .ok (.bool false) g => .nx g
    | .ex x g => .ex x g
    | _ => .bad
/-- x[k] = v of a list -/
def setD (xs : List PyData) (k : Int) (v : PyData) : Option (List PyData) := (L2.ixN xs.length k).map fun j => xs.set j v
/-- an own object is shared from here on -/
def frz (g : Gam) (i : Nat) : Gam := match g[i]? with
  | some (.ow o) => g.set i (.sh o.d)
  | _ => g
def sFrz (is : List Nat) (m : MS) : MS := fun g => m (is.foldl frz g)
def sAsg (i : Nat) (e : ME) : MS := fun g => match e g with
  | .ok d g => nxO (put g i (.sh d))
  | .fr o g => nxO (put g i (.ow o))
  | .ex x g => .ex x g
  | .bad => .bad
def sAsgT (t : Tg) (e : ME) : MS := fun g => (e g).thenS fun d g => nxO (tgD t d g)
/-- a, b = e, f -/
def sPar (i j : Nat) (e f : ME) : MS := fun g => (e g).thenS fun x g => (f g).thenS fun y g => nxO ((put g i (.sh x)).bind fun g => put g j (.sh y))
def sAug (i : Nat) (o : BOp) (e : ME) : MS := fun g => match g[i]? with
  | some (.sh x) => (e g).thenS fun y g => (match binD o x y with
    | some (false, d) => nxO (put g i (.sh d))
    | _ => .bad)
  | _ => .bad
def hasOwn (g : Gam) (i : Nat) (k : RS) : RS := match lends g i with
  | some _ => k
  | none => .bad
def setIEnd (i : Nat) (v : PyData) : PyData → Gam → RS := fun j g => match j, lends g i with
  | .int j, some (.lst xs) => (match setD xs j v with
    | some ys => nxO (retake g i (.lst ys))
    | none => .bad)
  | _, _ => .bad
def sSetI (i : Nat) (k e : ME) : MS := fun g => (e g).thenS fun v g => hasOwn g i ((k g).thenS (setIEnd i v))
def sExpr (e : ME) : MS := fun g => (e g).thenS fun _ g => .nx g
def appEnd (i : Nat) : PyData → Gam → RS := fun v g => match lends g i with
  | some (.lst xs) => if xs.length < sizeLine then nxO (retake g i (.lst (xs ++ [v]))) else .bad
  | _ => .bad
def sApp (i : Nat) (e : ME) : MS := fun g => hasOwn g i ((e g).thenS (appEnd i))
/-- a new list is laid behind -/
def extEnd (i : Nat) : RE → RS
  | .fr (.lst ys) g => (match lends g i with
    | some (.lst xs) => if xs.length + ys.length ≤ sizeLine then nxO (retake g i (.lst (xs ++ ys))) else .bad
    | _ => .bad)
  | .ex x g => .ex x g
  | _ => .bad
def sExt (i : Nat) (e : ME) : MS := fun g => hasOwn g i (extEnd i (e g))
def sIf (c : ME) (a b : MS) : MS := fun g => (c g).thenS fun x g => match x with
  | .bool true => a g
  | .bool false => b g
  | _ => .bad
def RL.thenS (r : RL) (f : List PyData → Gam → RS) : RS := match r with
  | .ok ds g => f ds g
  | .ex x g => .ex x g
  | .bad => .bad
def sFor (t : Tg) (l : ML) (b : MS) : MS := fun g => (l g).thenS fun items g => forGo t b items g
/-- the turns of a while at most -/
def turnsW : Nat := 1000000
def sWhl (c : ME) (b : MS) : MS := whGo c b turnsW
def sRet (e : ME) : MS := fun g => match e g with
  | .ok d g => .rt d g
  | .fr o g => .rf o g
  | .ex x g => .ex x g
  | .bad => .bad
def sRetN : MS := fun g => .rt .none g
def sRaise (c : String) (e : ME) : MS := fun g => (e g).thenS fun d g => .ex ⟨c, d⟩ g
def sBrk : MS := fun g => .bk g
def sCnt : MS := fun g => .ct g
def sNop : MS := fun g => .nx g
def RS.thenSs (r : RS) (f : MS) : RS := match r with
  | .nx g => f g
  | x => x
def sSeq (a b : MS) : MS := fun g => (a g).thenSs b

/-! ### defs -/
def startG : List Bool → List Arg → Option Gam
  | [], [] => some []
  | false :: r, .sh d :: as => (startG r as).map (.sh d :: ·)
  | true :: r, .by o :: as => (startG r as).map (.br o :: ·)
  | _, _ => none
/-- what stands in the lent objects at the end -/
def lentAt : List Bool → Gam → Option (List Own)
  | [], _ => some []
  | false :: r, _ :: g => lentAt r g
  | true :: r, .br o :: g => (lentAt r g).map (o :: ·)
  | _, _ => none
def endF (brf : List Bool) : RS → RF
  | .nx g => (match lentAt brf g with | some bs => .ok .none bs | none => .bad)
  | .rt d g => (match lentAt brf g with | some bs => .ok d bs | none => .bad)
  | .rf o g => (match lentAt brf g with | some bs => .fr o bs | none => .bad)
  | .ex x g => (match lentAt brf g with | some bs => .ex x bs | none => .bad)
  | _ => .bad
def runD (brf : List Bool) (n : Nat) (body : MS) (as : List Arg) : RF := match startG brf as with
  | none => .bad
  | some g => endF brf (body (g ++ List.replicate n .un))
end Ev

set_option Elab.async false
set_option linter.all false
set_option maxRecDepth 100000
set_option maxHeartbeats 4000000
/-! EvU: how the combinators run, for the plain mathematics of a law. -/
namespace Ev
open PySem
/-! ### slots -/
theorem wipeU_len : ∀ (g : Gam) (own : List Nat), (wipeG g own).length = g.length
  | g, [] => rfl
  | g, i :: r => by
    show ((wipeG g r).set i .un).length = _
    rw [List.length_set, wipeU_len g r]
theorem wipeU_get : ∀ (g : Gam) (own : List Nat) (j : Nat), (wipeG g own)[j]? = if j ∈ own then (g[j]?).map fun _ => Slot.un else g[j]?
  | g, [], j => by simp [wipeG]
  | g, i :: r, j => by
    show ((wipeG g r).set i .un)[j]? = _
    rw [List.getElem?_set]
    by_cases h : i = j
    · subst h
      rw [if_pos rfl, if_pos List.mem_cons_self, wipeU_len]
      by_cases k : i < g.length
      · rw [if_pos k, List.getElem?_eq_getElem k]; rfl
      · rw [if_neg k, List.getElem?_eq_none (by omega)]; rfl
    · rw [if_neg h, wipeU_get g r j]
      have e : (j ∈ i :: r) ↔ j ∈ r := by
        rw [List.mem_cons]
        exact ⟨fun z => z.resolve_left fun q => h q.symm, .inr⟩
      by_cases k : j ∈ r
      · rw [if_pos k, if_pos (e.mpr k)]
      · rw [if_neg k, if_neg fun z => k (e.mp z)]
/-- alike but at the own names -/
def Alike (own : List Nat) (g h : Gam) : Prop := g.length = h.length ∧ ∀ j, j ∉ own → g[j]? = h[j]?
theorem Alike.refl (own : List Nat) (g : Gam) : Alike own g g := ⟨rfl, fun _ _ => rfl⟩
theorem Alike.symm {own : List Nat} {g h : Gam} (a : Alike own g h) : Alike own h g := ⟨a.1.symm, fun j n => (a.2 j n).symm⟩
theorem Alike.trans {own : List Nat} {g h k : Gam} (a : Alike own g h) (b : Alike own h k) : Alike own g k := ⟨a.1.trans b.1, fun j n => (a.2 j n).trans (b.2 j n)⟩
theorem Alike.wipe {own : List Nat} {g h : Gam} (a : Alike own g h) : wipeG g own = wipeG h own := by
  refine List.ext_getElem? fun j => ?_
  rw [wipeU_get, wipeU_get]
  by_cases k : j ∈ own
  · rw [if_pos k, if_pos k]
    by_cases l : j < g.length
    · rw [List.getElem?_eq_getElem l, List.getElem?_eq_getElem (a.1 ▸ l)]; rfl
    · rw [List.getElem?_eq_none (by omega), List.getElem?_eq_none (by have := a.1; omega)]
  · rw [if_neg k, if_neg k, a.2 j k]
theorem foldlU_len (g0 : Gam) : ∀ (own : List Nat) (g : Gam), (own.foldl (fun h i => match g0[i]? with | some s => h.set i s | none => h) g).length = g.length
  | [], g => rfl
  | i :: r, g => by
    rw [List.foldl_cons, foldlU_len g0 r]
    cases g0[i]? with
    | some s => exact List.length_set
    | none => rfl
theorem backU_get (g0 : Gam) : ∀ (own : List Nat) (g : Gam) (j : Nat), g.length = g0.length → (backG g0 g own)[j]? = if j ∈ own then g0[j]? else g[j]?
  | [], g, j, _ => by simp [backG]
  | i :: r, g, j, hl => by
    have hi : ∀ s, g0[i]? = some s → i < g.length := fun s e => by rw [hl]; exact (List.getElem?_eq_some_iff.mp e).1
    have step : backG g0 g (i :: r) = backG g0 (match g0[i]? with | some s => g.set i s | none => g) r := rfl
    rw [step]
    rw [backU_get g0 r _ j (by cases g0[i]? with | some s => exact List.length_set.trans hl | none => exact hl)]
    by_cases k : j ∈ r
    · rw [if_pos k, if_pos (List.mem_cons_of_mem _ k)]
    · rw [if_neg k]
      by_cases e : j = i
      · subst e
        rw [if_pos List.mem_cons_self]
        cases q : g0[j]? with
        | some s => simp only []; rw [List.getElem?_set, if_pos rfl, if_pos (hi s q)]
        | none => simp only []; exact List.getElem?_eq_none (by rw [hl]; exact List.getElem?_eq_none_iff.mp q)
      · rw [if_neg (by rw [List.mem_cons]; exact fun z => z.elim e k)]
        cases g0[i]? with
        | some s => simp only []; rw [List.getElem?_set, if_neg fun z => e z.symm]
        | none => rfl
theorem Alike.back {own : List Nat} {g0 g : Gam} (a : Alike own g g0) : backG g0 g own = g0 := by
  refine List.ext_getElem? fun j => ?_
  rw [backU_get g0 own g j a.1]
  by_cases k : j ∈ own
  · rw [if_pos k]
  · rw [if_neg k, a.2 j k]
/-! ### comprehensions -/
theorem compGo_pure {own : List Nat} {t : Tg} {c e : ME} {r : PyData → Option PyData} {g0 : Gam} : ∀ {items : List PyData} {g : Gam} (acc : List PyData), Alike own g g0 →
    (∀ x ∈ items, ∃ g1, compTurn own t c e x g0 = some (r x, g1) ∧ Alike own g1 g0) → ∃ g2, compGo (compTurn own t c e) items g acc = some (acc.reverse ++ items.filterMap r, g2) ∧ Alike own g2 g0
  | [], g, acc, a, _ => ⟨g, by simp [compGo], a⟩
  | x :: xs, g, acc, a, h => by
    obtain ⟨g1, e1, a1⟩ := h x List.mem_cons_self
    have e1' : compTurn own t c e x g = some (r x, g1) := by
      have z : compTurn own t c e x g = compTurn own t c e x g0 := by
        unfold compTurn
        rw [a.wipe]
      rw [z, e1]
    have hr : ∀ y ∈ xs, ∃ g1, compTurn own t c e y g0 = some (r y, g1) ∧ Alike own g1 g0 := fun y m => h y (List.mem_cons_of_mem _ m)
    cases q : r x with
    | none =>
      obtain ⟨g2, e2, a2⟩ := compGo_pure acc a1 hr
      refine ⟨g2, ?_, a2⟩
      unfold compGo
      rw [e1', Option.bind_some]
      simp only [q]
      rw [e2, List.filterMap_cons_none q]
    | some d =>
      obtain ⟨g2, e2, a2⟩ := compGo_pure (d :: acc) a1 hr
      refine ⟨g2, ?_, a2⟩
      unfold compGo
      rw [e1', Option.bind_some]
      simp only [q]
      rw [e2, List.filterMap_cons_some q, List.reverse_cons, List.append_assoc]
      rfl
/-- a comprehension whose turns change nothing but their own names -/
theorem comp_pure {own : List Nat} {t : Tg} {l : ML} {c e : ME} {g : Gam} {items : List PyData} (r : PyData → Option PyData) (hl : l g = .ok items g) (hf : freeOf g own = true)
    (ht : ∀ x ∈ items, ∃ g1, compTurn own t c e x g = some (r x, g1) ∧ Alike own g1 g) (hz : (items.filterMap r).length < sizeLine) : eComp own t l c e g = .fr (.lst (items.filterMap r)) g := by
  obtain ⟨g2, e2, a2⟩ := compGo_pure (acc := []) (Alike.refl own g) ht
  unfold eComp
  rw [hl]
  show (if freeOf g own then compEnd own g (compGo (compTurn own t c e) items g []) else .bad) = _
  rw [if_pos hf, e2]
  show (if (items.filterMap r).length < sizeLine then RE.fr (.lst (items.filterMap r)) (backG g g2 own) else .bad) = _
  rw [if_pos hz, a2.back]
/-- each item is mapped -/
theorem comp_map {own : List Nat} {t : Tg} {l : ML} {e : ME} {g : Gam} {items : List PyData} (f : PyData → PyData) (hl : l g = .ok items g) (hf : freeOf g own = true)
    (ht : ∀ x ∈ items, ∃ g1, compTurn own t eYes e x g = some (some (f x), g1) ∧ Alike own g1 g) (hz : items.length < sizeLine) : eComp own t l eYes e g = .fr (.lst (items.map f)) g := by
  have q := comp_pure (fun x => some (f x)) hl hf ht (by rw [List.filterMap_eq_map']; simpa using hz)
  rw [q, List.filterMap_eq_map']
/-- a comprehension with a state: J holds of what stands outside -/
theorem comp_state {own : List Nat} {t : Tg} {c e : ME} {J : Nat → Gam → Prop} {R : PyData → Prop} : ∀ {items : List PyData} {g : Gam} (k : Nat) (acc : List PyData), J k g →
    (∀ i x g, items[i]? = some x → J (k + i) g → ∃ d g1, compTurn own t c e x g = some (some d, g1) ∧ R d ∧ J (k + i + 1) g1) →
    ∃ ds g2, compGo (compTurn own t c e) items g acc = some (acc.reverse ++ ds, g2) ∧ ds.length = items.length ∧ (∀ d ∈ ds, R d) ∧ J (k + items.length) g2
  | [], g, k, acc, j, _ => ⟨[], g, by simp [compGo], rfl, (fun _ m => absurd m (by simp)), j⟩
  | x :: xs, g, k, acc, j, h => by
    obtain ⟨d, g1, e1, rd, j1⟩ := h 0 x g rfl j
    obtain ⟨ds, g2, e2, l2, r2, j2⟩ := comp_state (k + 1) (d :: acc) j1 fun i y g' hy jy => by
      obtain ⟨u, v, a1, a2, a3⟩ := h (i + 1) y g' (by simpa using hy) (by rw [show k + (i + 1) = k + 1 + i by omega]; exact jy)
      exact ⟨u, v, a1, a2, by rw [show k + 1 + i + 1 = k + (i + 1) + 1 by omega]; exact a3⟩
    refine ⟨d :: ds, g2, ?_, by simp [l2], fun z m => ?_, ?_⟩
    · unfold compGo
      rw [e1, Option.bind_some]
      simp only []
      rw [e2, List.reverse_cons, List.append_assoc]
      rfl
    · rcases List.mem_cons.mp m with rfl | m
      · exact rd
      · exact r2 z m
    · rw [List.length_cons, Nat.add_comm xs.length 1, ← Nat.add_assoc]
      exact j2
theorem comp_run {own : List Nat} {t : Tg} {l : ML} {c e : ME} {g g1 g2 : Gam} {items ds : List PyData} (hl : l g = .ok items g1) (hf : Ev.freeOf g1 own = true) (hc : compGo (compTurn own t c e) items g1 [] = some (ds, g2)) (hz : ds.length < sizeLine) :
    eComp own t l c e g = .fr (.lst ds) (backG g1 g2 own) := by
  unfold eComp
  rw [hl]
  show (if Ev.freeOf g1 own then compEnd own g1 (compGo (compTurn own t c e) items g1 []) else .bad) = _
  rw [if_pos hf, hc]
  exact if_pos hz
/-! ### loops -/
theorem for_state {t : Tg} {b : MS} {J : Nat → Gam → Prop} : ∀ {items : List PyData} {g : Gam} (k : Nat), J k g →
    (∀ i x g, items[i]? = some x → J (k + i) g → ∃ g1 g2, tgD t x g = some g1 ∧ b g1 = .nx g2 ∧ J (k + i + 1) g2) → ∃ g2, forGo t b items g = .nx g2 ∧ J (k + items.length) g2
  | [], g, k, j, _ => ⟨g, rfl, j⟩
  | x :: xs, g, k, j, h => by
    obtain ⟨g1, g2, e1, e2, j2⟩ := h 0 x g rfl j
    obtain ⟨g3, e3, j3⟩ := for_state (b := b) (t := t) (items := xs) (g := g2) (k + 1) j2 fun i y g' hy jy => by
      obtain ⟨u, v, a1, a2, a3⟩ := h (i + 1) y g' (by simpa using hy) (by rw [show k + (i + 1) = k + 1 + i by omega]; exact jy)
      exact ⟨u, v, a1, a2, by rw [show k + 1 + i + 1 = k + (i + 1) + 1 by omega]; exact a3⟩
    refine ⟨g3, ?_, by rw [List.length_cons, show k + (xs.length + 1) = k + 1 + xs.length by omega]; exact j3⟩
    unfold forGo
    rw [e1]
    simp only []
    rw [e2]
    exact e3
/-! ### statements, one after another -/
theorem end_seq {brf : List Bool} {a b : MS} {g g1 : Gam} {r : RF} (h : a g = .nx g1) (k : endF brf (b g1) = r) : endF brf (sSeq a b g) = r := by
  unfold sSeq
  rw [h]
  exact k
/-- the first of two leaves the def -/
theorem end_seqR {brf : List Bool} {a b : MS} {g g1 : Gam} {d : PyData} {r : RF} (h : a g = .rt d g1) (k : endF brf (.rt d g1) = r) : endF brf (sSeq a b g) = r := by
  unfold sSeq
  rw [h]
  exact k
theorem end_seqX {brf : List Bool} {a b : MS} {g g1 : Gam} {x : Exn} {r : RF} (h : a g = .ex x g1) (k : endF brf (.ex x g1) = r) : endF brf (sSeq a b g) = r := by
  unfold sSeq
  rw [h]
  exact k
theorem seq_nx {a b : MS} {g g1 : Gam} {r : RS} (h : a g = .nx g1) (k : b g1 = r) : sSeq a b g = r := by
  unfold sSeq
  rw [h]
  exact k
theorem asg_ok {i : Nat} {e : ME} {g g1 g2 : Gam} {d : PyData} (h : e g = .ok d g1) (k : put g1 i (.sh d) = some g2) : sAsg i e g = .nx g2 := by
  unfold sAsg
  rw [h]
  show nxO (put g1 i (.sh d)) = _
  rw [k]
  rfl
theorem asg_fr {i : Nat} {e : ME} {g g1 g2 : Gam} {o : Own} (h : e g = .fr o g1) (k : put g1 i (.ow o) = some g2) : sAsg i e g = .nx g2 := by
  unfold sAsg
  rw [h]
  show nxO (put g1 i (.ow o)) = _
  rw [k]
  rfl
theorem for_run {t : Tg} {l : ML} {b : MS} {g g1 : Gam} {items : List PyData} {r : RS} (h : l g = .ok items g1) (k : forGo t b items g1 = r) : sFor t l b g = r := by
  unfold sFor
  rw [h]
  exact k
theorem ret_ok {brf : List Bool} {e : ME} {g g1 : Gam} {d : PyData} {bs : List Own} (h : e g = .ok d g1) (k : lentAt brf g1 = some bs) : endF brf (sRet e g) = .ok d bs := by
  unfold sRet
  rw [h]
  show (match lentAt brf g1 with | some bs => RF.ok d bs | none => .bad) = _
  rw [k]
theorem ret_fr {brf : List Bool} {e : ME} {g g1 : Gam} {o : Own} {bs : List Own} (h : e g = .fr o g1) (k : lentAt brf g1 = some bs) : endF brf (sRet e g) = .fr o bs := by
  unfold sRet
  rw [h]
  show (match lentAt brf g1 with | some bs => RF.fr o bs | none => .bad) = _
  rw [k]
theorem m2_fr {f : PyData → PyData → Option PyData} {a b : ME} {g g1 g2 : Gam} {z : Str} {o : Own} {d : PyData} (ha : a g = .ok (.str z) g1) (hb : b g1 = .fr o g2) (hd : f (.str z) o.d = some d) : eM2 f a b g = .ok d g2 := by
  unfold eM2
  rw [ha]
  show (b g1).andThen (fun y g => ofO g (f (.str z) y)) = _
  rw [hb]
  show ofO g2 (f (.str z) o.d) = _
  rw [hd]
  rfl
theorem m2_ok {f : PyData → PyData → Option PyData} {a b : ME} {g g1 g2 : Gam} {z : Str} {y d : PyData} (ha : a g = .ok (.str z) g1) (hb : b g1 = .ok y g2) (hd : f (.str z) y = some d) : eM2 f a b g = .ok d g2 := by
  unfold eM2
  rw [ha]
  show (b g1).andThen (fun y g => ofO g (f (.str z) y)) = _
  rw [hb]
  show ofO g2 (f (.str z) y) = _
  rw [hd]
  rfl
theorem u_fr {f : U1} {a : ME} {g g1 : Gam} {o : Own} {d : PyData} (ha : a g = .fr o g1) (hd : f o.d = some (false, d)) : eU f a g = .ok d g1 := by
  unfold eU
  rw [ha]
  show ofB g1 (f o.d) = _
  rw [hd]
  rfl
theorem u_ok {f : U1} {a : ME} {g g1 : Gam} {x d : PyData} (ha : a g = .ok x g1) (hd : f x = some (false, d)) : eU f a g = .ok d g1 := by
  unfold eU
  rw [ha]
  show ofB g1 (f x) = _
  rw [hd]
  rfl
theorem u_okL {f : U1} {a : ME} {g g1 : Gam} {x : PyData} {ys : List PyData} (ha : a g = .ok x g1) (hd : f x = some (true, .list ys)) : eU f a g = .fr (.lst ys) g1 := by
  unfold eU
  rw [ha]
  show ofB g1 (f x) = _
  rw [hd]
  rfl
theorem u_frL {f : U1} {a : ME} {g g1 : Gam} {o : Own} {ys : List PyData} (ha : a g = .fr o g1) (hd : f o.d = some (true, .list ys)) : eU f a g = .fr (.lst ys) g1 := by
  unfold eU
  rw [ha]
  show ofB g1 (f o.d) = _
  rw [hd]
  rfl
/-! ### tests that leave all as it is -/
theorem and_pure {a b : ME} {g : Gam} {x y : Bool} (ha : a g = .ok (.bool x) g) (hb : x = true → b g = .ok (.bool y) g) : eAnd a b g = .ok (.bool (x && y)) g := by
  unfold eAnd
  rw [ha]
  cases x with
  | true => exact hb rfl
  | false => rfl
theorem or_pure {a b : ME} {g : Gam} {x y : Bool} (ha : a g = .ok (.bool x) g) (hb : x = false → b g = .ok (.bool y) g) : eOr a b g = .ok (.bool (x || y)) g := by
  unfold eOr
  rw [ha]
  cases x with
  | false => exact hb rfl
  | true => rfl
theorem not_pure {a : ME} {g g1 : Gam} {x : Bool} (ha : a g = .ok (.bool x) g1) : eNot a g = .ok (.bool (!x)) g1 := by
  unfold eNot
  rw [ha]
  rfl
theorem chn_le {a b c : ME} {g : Gam} {i j k : Int} (ha : a g = .ok (.int i) g) (hb : b g = .ok (.int j) g) (hc : c g = .ok (.int k) g) : eChn .le .le a b c g = .ok (.bool (decide (i ≤ j) && decide (j ≤ k))) g := by
  unfold eChn
  rw [ha]
  show (b g).andThen _ = _
  rw [hb]
  show (match some (decide (i ≤ j)) with | some true => (c g).andThen fun z g => kCmp .le (.int j) z g | some false => .ok (.bool false) g | none => .bad) = _
  by_cases h : i ≤ j
  · rw [decide_eq_true h]
    show (c g).andThen _ = _
    rw [hc]
    rfl
  · rw [decide_eq_false h]
    rfl
/-! ### texts -/
theorem glue_fold (z : Array Nat) (hz : z = #[]) : ∀ (rest : List Str) (acc : Array Nat), (rest.foldl (fun acc p => acc ++ z ++ p.cps) acc).toList = acc.toList ++ rest.flatMap fun p => p.cps.toList
  | [], acc => by simp
  | x :: r, acc => by
    rw [List.foldl_cons, glue_fold z hz r]
    subst hz
    simp
theorem join0 (ys : List Str) : Txt.join (Str.ofString "") ys = ⟨(ys.flatMap fun p => p.cps.toList).toArray⟩ := by
  unfold Txt.join Builtin.Str.glued
  congr 1
  apply Array.toList_inj.mp
  have z0 : (Str.ofString "").cps = #[] := by rfl
  rw [glue_fold _ z0]
  cases ys with
  | nil => rfl
  | cons y r => simp
theorem join_chars (cs : List Nat) : Txt.join (Str.ofString "") (cs.map fun c => (⟨#[c]⟩ : Str)) = ⟨cs.toArray⟩ := by
  rw [join0]
  congr 1
  congr 1
  induction cs with
  | nil => rfl
  | cons c r ih => simp [List.flatMap_cons, ih]
theorem sw_eq (x y : Str) : Txt.startswith x y = (x.cps.toList.take y.cps.size == y.cps.toList) := by
  unfold Txt.startswith
  rw [StrLaws.subAt_eq, List.drop_zero]
  by_cases h : 0 + y.length ≤ x.length
  · rw [decide_eq_true h, Bool.true_and]
    rfl
  · rw [decide_eq_false h, Bool.false_and]
    symm
    rw [beq_eq_false_iff_ne]
    intro e
    have q := congrArg List.length e
    rw [List.length_take] at q
    have a1 : x.cps.toList.length = x.length := Array.length_toList
    have a2 : y.cps.toList.length = y.length := Array.length_toList
    have a3 : y.cps.size = y.length := rfl
    omega
end Ev

set_option Elab.async false
set_option linter.all false
set_option maxRecDepth 100000
set_option maxHeartbeats 4000000
/-! EvB: heaps, what slots stand for, what is kept. -/
namespace Ev
open PySem PySem.Spec PyProof.Rows L2

/-! ### heaps -/
def NotTbl (o : HO) : Prop := ∀ ps, o ≠ .tbl ps
/-- what the one holds the other holds, tables apart -/
def LeH (F F' : L2.Hp) : Prop := ∀ b o, F b = some o → NotTbl o → F' b = some o
theorem LeH.refl (F : L2.Hp) : LeH F F := fun _ _ h _ => h
theorem LeH.trans {F F' F2 : L2.Hp} (a : LeH F F') (b : LeH F' F2) : LeH F F2 := fun c o h n => b c o (a c o h n) n
theorem nt_lst {xs : List V} : NotTbl (.lst xs) := fun _ h => by cases h
theorem nt_tup {xs : List V} : NotTbl (.tup xs) := fun _ h => by cases h
theorem nt_frz {o : Obj} {u : HO} : NotTbl (.frz o u) := fun _ h => by cases h
theorem nt_xd {fs : List (Str × V)} : NotTbl (.xd fs) := fun _ h => by cases h
theorem sqL_le {K : PySem.W.Frag} {F F' : L2.Hp} {a : Addr} {xs : List V} (l : LeH F F') (h : SqL K F a xs) : SqL K F' a xs := by
  rcases h with (h | ⟨o, h⟩) | h
  · exact .inl (.inl (l _ _ h nt_lst))
  · exact .inl (.inr ⟨o, l _ _ h nt_frz⟩)
  · exact .inr h
theorem sqT_le {K : PySem.W.Frag} {F F' : L2.Hp} {a : Addr} {xs : List V} (l : LeH F F') (h : SqT K F a xs) : SqT K F' a xs := by
  rcases h with (h | ⟨o, h⟩) | h
  · exact .inl (.inl (l _ _ h nt_tup))
  · exact .inl (.inr ⟨o, l _ _ h nt_frz⟩)
  · exact .inr h
mutual
theorem dp_le {K : PySem.W.Frag} {F F' : L2.Hp} (l : LeH F F') : ∀ (d : PyData) (v : V), Dp K F v d → Dp K F' v d
  | .none, _, h => by cases h; exact .non
  | .bool b, _, h => by cases h; exact .bl b
  | .int i, _, h => by cases h; exact .int i
  | .str x, _, h => by cases h; exact .str x
  | .list ds, _, h => by
    cases h with
    | lst hs ha => exact .lst (sqL_le l hs) (dpAll_le l ds _ ha)
  | .tuple ds, _, h => by
    cases h with
    | tup hs ha => exact .tup (sqT_le l hs) (dpAll_le l ds _ ha)
  | .dict _, _, h => nomatch h
theorem dpAll_le {K : PySem.W.Frag} {F F' : L2.Hp} (l : LeH F F') : ∀ (ds : List PyData) (vs : List V), DpAll K F vs ds → DpAll K F' vs ds
  | [], _, h => by cases h; exact .nil
  | d :: ds, _, h => by
    cases h with
    | cons h1 h2 => exact .cons (dp_le l d _ h1) (dpAll_le l ds _ h2)
end
theorem dpAll_len {K : PySem.W.Frag} {F : L2.Hp} : ∀ {vs : List V} {ds : List PyData}, DpAll K F vs ds → vs.length = ds.length
  | [], [], _ => rfl
  | _ :: vs, _ :: ds, h => by cases h with | cons _ h2 => simp [dpAll_len h2]
theorem dpAll_get {K : PySem.W.Frag} {F : L2.Hp} : ∀ {vs : List V} {ds : List PyData} {i : Nat} {d : PyData}, DpAll K F vs ds → ds[i]? = some d → ∃ v, vs[i]? = some v ∧ Dp K F v d
  | [], [], i, d, _, e => by simp at e
  | v :: vs, x :: ds, 0, d, h, e => by
    cases h with
    | cons h1 h2 => exact ⟨v, rfl, by simp at e; subst e; exact h1⟩
  | v :: vs, x :: ds, i + 1, d, h, e => by
    cases h with
    | cons h1 h2 =>
      obtain ⟨w, e1, e2⟩ := dpAll_get h2 (i := i) (by simpa using e)
      exact ⟨w, by simpa using e1, e2⟩
theorem dpAll_app {K : PySem.W.Frag} {F : L2.Hp} : ∀ {vs : List V} {ds : List PyData} {ws : List V} {es : List PyData}, DpAll K F vs ds → DpAll K F ws es → DpAll K F (vs ++ ws) (ds ++ es)
  | [], [], _, _, _, h => h
  | _ :: vs, _ :: ds, _, _, h, h' => by cases h with | cons h1 h2 => exact .cons h1 (dpAll_app h2 h')
theorem dpAll_set {K : PySem.W.Frag} {F : L2.Hp} : ∀ {vs : List V} {ds : List PyData} {i : Nat} {v : V} {d : PyData}, DpAll K F vs ds → Dp K F v d → DpAll K F (vs.set i v) (ds.set i d)
  | [], [], _, _, _, _, _ => .nil
  | _ :: vs, _ :: ds, 0, _, _, h, h' => by cases h with | cons h1 h2 => exact .cons h' h2
  | _ :: vs, _ :: ds, i + 1, _, _, h, h' => by cases h with | cons h1 h2 => exact .cons h1 (dpAll_set h2 h')
theorem dpAll_drop {K : PySem.W.Frag} {F : L2.Hp} : ∀ {vs : List V} {ds : List PyData} (n : Nat), DpAll K F vs ds → DpAll K F (vs.drop n) (ds.drop n)
  | _, _, 0, h => h
  | [], [], _ + 1, _ => .nil
  | _ :: vs, _ :: ds, n + 1, h => by cases h with | cons h1 h2 => exact dpAll_drop n h2
theorem dpAll_take {K : PySem.W.Frag} {F : L2.Hp} : ∀ {vs : List V} {ds : List PyData} (n : Nat), DpAll K F vs ds → DpAll K F (vs.take n) (ds.take n)
  | _, _, 0, h => .nil
  | [], [], _ + 1, _ => .nil
  | _ :: vs, _ :: ds, n + 1, h => by cases h with | cons h1 h2 => exact .cons h1 (dpAll_take n h2)

def hide (P : List Addr) (H : L2.Hp) : L2.Hp := fun b => if b ∈ P then none else H b
theorem hide_in {P : List Addr} {H : L2.Hp} {b : Addr} (h : b ∈ P) : hide P H b = none := if_pos h
theorem hide_out {P : List Addr} {H : L2.Hp} {b : Addr} (h : b ∉ P) : hide P H b = H b := if_neg h
theorem hide_some {P : List Addr} {H : L2.Hp} {b : Addr} {o : HO} (h : hide P H b = some o) : b ∉ P ∧ H b = some o := by
  unfold hide at h
  split at h
  · cases h
  · exact ⟨by assumption, h⟩
theorem hide_le {P : List Addr} {H : L2.Hp} : LeH (hide P H) H := fun _ _ h _ => (hide_some h).2
theorem hide_sub {P P' : List Addr} {H : L2.Hp} (s : ∀ b ∈ P, b ∈ P') : LeH (hide P' H) (hide P H) := fun b o h _ => by
  obtain ⟨h1, h2⟩ := hide_some h
  rw [hide_out fun z => h1 (s b z)]
  exact h2
/-- nothing stands there, or a table -/
def Free (H : L2.Hp) (b : Addr) : Prop := ∀ o, H b = some o → ¬ NotTbl o
theorem Free.of {H : L2.Hp} {b : Addr} (h : H b = none) : Free H b := fun o e => by rw [h] at e; cases e
theorem Free.not {H : L2.Hp} {b : Addr} {o : HO} (h : Free H b) (e : H b = some o) (n : NotTbl o) : False := h o e n
/-- all that isn't hidden stays, tables apart -/
def Grow (P : List Addr) (H H' : L2.Hp) : Prop := ∀ b o, b ∉ P → H b = some o → NotTbl o → H' b = some o
theorem Grow.refl (P : List Addr) (H : L2.Hp) : Grow P H H := fun _ o _ h _ => h
theorem Grow.at {P : List Addr} {H H' : L2.Hp} (g : Grow P H H') {b : Addr} {o : HO} (hb : b ∉ P) (h : H b = some o) (n : NotTbl o) : H' b = some o := g b o hb h n
theorem Grow.trans {P : List Addr} {H H1 H2 : L2.Hp} (a : Grow P H H1) (b : Grow P H1 H2) : Grow P H H2 := fun c o hc h n => b c o hc (a c o hc h n) n
theorem Grow.sub {P P' : List Addr} {H H' : L2.Hp} (g : Grow P H H') (s : ∀ b ∈ P, b ∈ P') : Grow P' H H' := fun b o hb h => g b o (fun z => hb (s b z)) h
theorem Grow.le {P : List Addr} {H H' : L2.Hp} (g : Grow P H H') : LeH (hide P H) (hide P H') := fun b o h n => by
  obtain ⟨h1, h2⟩ := hide_some h
  rw [hide_out h1]
  exact g.at h1 h2 n
/-- further ones hidden, that are new -/
theorem Grow.leNew {P P' : List Addr} {H H' : L2.Hp} (g : Grow P H H') (n : ∀ b ∈ P', b ∈ P ∨ Free H b) : LeH (hide P H) (hide P' H') := fun b o h q => by
  obtain ⟨h1, h2⟩ := hide_some h
  rw [hide_out fun z => by
    rcases n b z with y | y
    · exact h1 y
    · exact y.not h2 q]
  exact g.at h1 h2 q
theorem Grow.upd {P : List Addr} {H : L2.Hp} {p : Addr} {o : HO} (h : H p = none) : Grow P H (upd H p o) := fun b u _ e _ => by rw [upd_ne (ne_of_none e h)]; exact e
theorem Grow.put {P : List Addr} {H : L2.Hp} {p : Addr} {o : HO} (h : p ∈ P) : Grow P H (L2.upd H p o) := fun b u hb e _ => by rw [upd_ne fun z => hb (by rw [z]; exact h)]; exact e
theorem Grow.free {P : List Addr} {H H' : L2.Hp} (g : Grow P H H') {a : Addr} (ha : a ∉ P) (h : Free H' a) : Free H a := fun o e n => h o (g a o ha e n) n

/-! ### own objects, slots -/
def OwnAt (K : PySem.W.Frag) (P : List Addr) (H : L2.Hp) (a : Addr) : Own → Prop
  | .lst ds => ∃ vs, H a = some (.lst vs) ∧ DpAll K (hide P H) vs ds
def isOwn : Slot → Prop
  | .ow _ => True
  | .br _ => True
  | _ => False
def SlotOk (K : PySem.W.Frag) (S P : List Addr) (H : L2.Hp) (x : Option (Option V)) : Slot → Prop
  | .un => True
  | .sh d => ∃ v, x = some (some v) ∧ Dp K (hide P H) v d
  | .ow o => ∃ a, x = some (some (.ref a)) ∧ a ∈ S ∧ OwnAt K P H a o
  | .br o => ∃ a, x = some (some (.ref a)) ∧ a ∈ S ∧ OwnAt K P H a o
/-- what stands fast through a def: the written part, the tables, the exceptions' classes, the heap at the entry, what was hidden there, what was lent -/
structure Gh where
  K : PySem.W.Frag
  Ts : List (Addr × Str)
  exc : String → Option (Addr × Str)
  H0 : L2.Hp
  P0 : List Addr
  T0 : List Addr
  L : Nat → Option Addr
/-- S: the addresses that own slots may have; P: all that is hidden -/
structure Iv (G : Gh) (S P : List Addr) (g : Gam) (σ : L2.St) (H : L2.Hp) : Prop where
  len : g.length = σ.length
  slot : ∀ (i : Nat) (s : Slot), g[i]? = some s → SlotOk G.K S P H σ[i]? s
  dis : ∀ (i j : Nat) (s t : Slot) (a : Addr), i ≠ j → g[i]? = some s → g[j]? = some t → isOwn s → isOwn t → σ[i]? = some (some (.ref a)) → σ[j]? = some (some (.ref a)) → False
  src : ∀ (i : Nat) (o : Own) (a : Addr), g[i]? = some (.ow o) → σ[i]? = some (some (.ref a)) → a ∉ G.P0 ∧ Free G.H0 a
  lent : ∀ (i : Nat) (o : Own) (a : Addr), g[i]? = some (.br o) → σ[i]? = some (some (.ref a)) → G.L i = some a ∧ a ∈ G.T0
  grow : Grow G.P0 G.H0 H
  keep : ∀ b ∈ G.P0, b ∉ G.T0 → H b = G.H0 b
  sS : ∀ b ∈ S, b ∈ P
  sP : ∀ b ∈ G.P0, b ∈ P
  new : ∀ b ∈ P, b ∈ G.P0 ∨ Free G.H0 b
  mem : ∀ b ∈ P, ∃ xs, H b = some (.lst xs)
  sT : ∀ b ∈ G.T0, b ∈ G.P0
  tabs : LamX.Tabs G.Ts H
section
variable {G : Gh} {S P : List Addr} {g : Gam} {σ : L2.St} {H H' : L2.Hp}
theorem OwnAt.le {K : PySem.W.Frag} {P' : List Addr} {a : Addr} {o : Own} (h : OwnAt K P H a o) (e : H' a = H a) (l : LeH (hide P H) (hide P' H')) : OwnAt K P' H' a o := by
  cases o with
  | lst ds =>
    obtain ⟨vs, e1, e2⟩ := h
    exact ⟨vs, e.trans e1, dpAll_le l _ _ e2⟩
/-- tables behind a step that keeps all but lists -/
theorem tabs_keep {T : List (Addr × Str)} (t : LamX.Tabs T H) (k : ∀ b o, H b = some o → (∀ xs, o ≠ .lst xs) → H' b = some o) : LamX.Tabs T H' := fun p hp => by
  obtain ⟨ps, h1, h2, h3⟩ := t p hp
  refine ⟨ps, k _ _ h1 (fun xs z => by cases z), h2, fun pos cv hc => ?_⟩
  obtain ⟨c, e1, e2⟩ := h3 pos cv hc
  exact ⟨c, e1, k _ _ e2 fun xs z => by unfold LamX.CodeO at z; cases z⟩
theorem Iv.notF (I : Iv G S P g σ H) {a : Addr} (h : Free H a) : a ∉ P := fun z => by
  obtain ⟨xs, e⟩ := I.mem a z
  exact h.not e nt_lst
theorem Iv.notP (I : Iv G S P g σ H) {a : Addr} (h : H a = none) : a ∉ P := I.notF (.of h)
/-- a new object -/
theorem Iv.alloc (I : Iv G S P g σ H) {p : Addr} {o : HO} (hp : H p = none) : Iv G S P g σ (upd H p o) := by
  have ne : ∀ b ∈ P, b ≠ p := fun b hb z => I.notP hp (z ▸ hb)
  have gr : Grow P H (upd H p o) := .upd hp
  have own : ∀ {a : Addr} {w : Own}, a ∈ S → OwnAt G.K P H a w → OwnAt G.K P (upd H p o) a w := fun hs h => h.le (upd_ne (ne _ (I.sS _ hs))) gr.le
  refine ⟨I.len, fun i s e => ?_, I.dis, I.src, I.lent, I.grow.trans (.upd hp), fun b hb ht => ?_, I.sS, I.sP, I.new, fun b hb => ?_, I.sT, tabs_keep I.tabs fun b u e _ => by rw [upd_ne (ne_of_none e hp)]; exact e⟩
  · have q := I.slot i s e
    cases s with
    | un => trivial
    | sh d => obtain ⟨v, e1, e2⟩ := q; exact ⟨v, e1, dp_le gr.le _ _ e2⟩
    | ow w => obtain ⟨a, e1, e2, e3⟩ := q; exact ⟨a, e1, e2, own e2 e3⟩
    | br w => obtain ⟨a, e1, e2, e3⟩ := q; exact ⟨a, e1, e2, own e2 e3⟩
  · rw [upd_ne (ne b (I.sP b hb))]; exact I.keep b hb ht
  · rw [upd_ne (ne b hb)]; exact I.mem b hb
/-- a further object hidden that none of the slots needs: it was new -/
theorem Iv.hideNew (I : Iv G S P g σ H) {a : Addr} (ha : H a = none) (I' : Iv G S P g σ H') (gr : Grow P H H') (hl : ∃ xs, H' a = some (.lst xs)) (sl : ∀ (i : Nat) (d : PyData), g[i]? = some (.sh d) → ∃ v, σ[i]? = some (some v) ∧ Dp G.K (hide (a :: P) H') v d)
    (ol : ∀ (i : Nat) (o : Own) (b : Addr), g[i]? = some (.ow o) ∨ g[i]? = some (.br o) → σ[i]? = some (some (.ref b)) → OwnAt G.K (a :: P) H' b o) : Iv G S (a :: P) g σ H' := by
  refine ⟨I'.len, fun i s e => ?_, I'.dis, I'.src, I'.lent, I'.grow, I'.keep, fun b hb => .tail _ (I'.sS b hb), fun b hb => .tail _ (I'.sP b hb), fun b hb => ?_, fun b hb => ?_, I'.sT, I'.tabs⟩
  · have q := I'.slot i s e
    cases s with
    | un => trivial
    | sh d => exact sl i d e
    | ow w => obtain ⟨b, e1, e2, e3⟩ := q; exact ⟨b, e1, e2, ol i w b (.inl e) e1⟩
    | br w => obtain ⟨b, e1, e2, e3⟩ := q; exact ⟨b, e1, e2, ol i w b (.inr e) e1⟩
  · rcases List.mem_cons.mp hb with z | z
    · right
      rw [z]
      exact I.grow.free (fun y => I.notP ha (I.sP _ y)) (.of ha)
    · exact I'.new b z
  · rcases List.mem_cons.mp hb with z | z
    · rw [z]; exact hl
    · exact I'.mem b z
/-- a hidden object shown -/
theorem Iv.drop {a : Addr} (I : Iv G S (a :: P) g σ H) (hS : ∀ b ∈ S, b ∈ P) (hP : ∀ b ∈ G.P0, b ∈ P) : Iv G S P g σ H := by
  have l : LeH (hide (a :: P) H) (hide P H) := hide_sub fun b hb => .tail _ hb
  have own : ∀ {a : Addr} {w : Own}, OwnAt G.K _ H a w → OwnAt G.K P H a w := fun h => h.le rfl l
  refine ⟨I.len, fun i s e => ?_, I.dis, I.src, I.lent, I.grow, I.keep, hS, hP, fun b hb => I.new b (.tail _ hb), fun b hb => I.mem b (.tail _ hb), I.sT, I.tabs⟩
  have q := I.slot i s e
  cases s with
  | un => trivial
  | sh d => obtain ⟨v, e1, e2⟩ := q; exact ⟨v, e1, dp_le l _ _ e2⟩
  | ow w => obtain ⟨a, e1, e2, e3⟩ := q; exact ⟨a, e1, e2, own e3⟩
  | br w => obtain ⟨a, e1, e2, e3⟩ := q; exact ⟨a, e1, e2, own e3⟩
/-- a new list, hidden at once -/
theorem Iv.allocH (I : Iv G S P g σ H) {p : Addr} {xs : List V} (hp : H p = none) : Iv G S (p :: P) g σ (upd H p (.lst xs)) := by
  have ne : ∀ b ∈ P, b ≠ p := fun b hb z => I.notP hp (z ▸ hb)
  have l : LeH (hide P H) (hide (p :: P) (upd H p (.lst xs))) := (Grow.upd (P := P) hp).leNew fun b hb => by
    rcases List.mem_cons.mp hb with z | z
    · exact .inr (z ▸ .of hp)
    · exact .inl z
  refine I.hideNew hp (I.alloc hp) (.upd hp) ⟨xs, upd_same⟩ (fun i d e => ?_) (fun i o b e eb => ?_)
  · obtain ⟨v, e1, e2⟩ := I.slot i _ e
    exact ⟨v, e1, dp_le l _ _ e2⟩
  · have key : ∀ a', σ[i]? = some (some (.ref a')) → a' ∈ S → OwnAt G.K P H a' o → OwnAt G.K (p :: P) (upd H p (.lst xs)) b o := fun a' e1 e2 e3 => by
      rw [eb] at e1
      cases e1
      exact e3.le (upd_ne (ne _ (I.sS _ e2))) l
    rcases e with e | e
    · obtain ⟨a', e1, e2, e3⟩ := I.slot i _ e; exact key a' e1 e2 e3
    · obtain ⟨a', e1, e2, e3⟩ := I.slot i _ e; exact key a' e1 e2 e3
theorem Grow.leS (gr : Grow S H H') (I : Iv G S P g σ H') : LeH (hide P H) (hide P H') := (gr.sub I.sS).le
/-- hidden ones shown that were new -/
theorem Iv.dropN {P' : List Addr} (I : Iv G S P' g σ H) (sub : ∀ b ∈ P, b ∈ P') (hS : ∀ b ∈ S, b ∈ P) (hP : ∀ b ∈ G.P0, b ∈ P) : Iv G S P g σ H := by
  have l : LeH (hide P' H) (hide P H) := hide_sub sub
  have own : ∀ {a : Addr} {w : Own}, OwnAt G.K _ H a w → OwnAt G.K P H a w := fun h => h.le rfl l
  refine ⟨I.len, fun i s e => ?_, I.dis, I.src, I.lent, I.grow, I.keep, hS, hP, fun b hb => I.new b (sub b hb), fun b hb => I.mem b (sub b hb), I.sT, I.tabs⟩
  have q := I.slot i s e
  cases s with
  | un => trivial
  | sh d => obtain ⟨v, e1, e2⟩ := q; exact ⟨v, e1, dp_le l _ _ e2⟩
  | ow w => obtain ⟨a, e1, e2, e3⟩ := q; exact ⟨a, e1, e2, own e3⟩
  | br w => obtain ⟨a, e1, e2, e3⟩ := q; exact ⟨a, e1, e2, own e3⟩
end
end Ev

set_option Elab.async false
set_option linter.all false
set_option maxRecDepth 100000
set_option maxHeartbeats 4000000
/-! EvC: what an expression's run is to reach; judgements; operators. -/
namespace Ev
open PySem PySem.Spec PyProof.Rows L2
/-- an exception of the language at its class, its dict -/
def ExnAt (G : Gh) (P : List Addr) (x : Exn) (cls : Value) (d : Option Addr) (H : L2.Hp) : Prop :=
  ∃ C f dd v, G.exc x.cls = some (C, f) ∧ cls = .ref C ∧ d = some dd ∧ H dd = some (.xd [(f, v)]) ∧ Dp G.K (hide P H) v x.arg
/-- a value that is looked at: shared, or an own list -/
def DpP (K : PySem.W.Frag) (P : List Addr) (H : L2.Hp) (v : V) (d : PyData) : Prop :=
  Dp K (hide P H) v d ∨ ∃ a ds, v = .ref a ∧ d = .list ds ∧ a ∈ P ∧ OwnAt K P H a (.lst ds)
theorem DpP.list {K : PySem.W.Frag} {P : List Addr} {H : L2.Hp} {v : V} {ds : List PyData} (h : DpP K P H v (.list ds)) : ∃ a vs, v = .ref a ∧ SqL K H a vs ∧ DpAll K (hide P H) vs ds := by
  rcases h with h | ⟨a, es, e1, e2, _, vs, e3, e4⟩
  · cases h with
    | lst hs ha => exact ⟨_, _, rfl, sqL_le hide_le hs, ha⟩
  · cases e2
    exact ⟨a, vs, e1, .of e3, e4⟩
theorem DpP.dp {K : PySem.W.Frag} {P : List Addr} {H : L2.Hp} {v : V} {d : PyData} (h : DpP K P H v d) : Dp K H v d := by
  rcases h with h | ⟨a, es, e1, e2, _, vs, e3, e4⟩
  · exact dp_le hide_le _ _ h
  · subst e1 e2
    exact .lst (.of e3) (dpAll_le hide_le _ _ e4)
theorem DpP.sh {K : PySem.W.Frag} {P : List Addr} {H : L2.Hp} {v : V} {d : PyData} (h : DpP K P H v d) (n : ∀ ds, d ≠ .list ds) : Dp K (hide P H) v d := by
  rcases h with h | ⟨a, es, e1, e2, _, vs, e3, e4⟩
  · exact h
  · exact absurd e2 (n _)
theorem dp_tuple {K : PySem.W.Frag} {P : List Addr} {H : L2.Hp} {v : V} {ds : List PyData} (h : Dp K (hide P H) v (.tuple ds)) : ∃ a vs, v = .ref a ∧ SqT K H a vs ∧ DpAll K (hide P H) vs ds := by
  cases h with
  | tup hs ha => exact ⟨_, _, rfl, sqT_le hide_le hs, ha⟩
theorem dp_int {K : PySem.W.Frag} {F : L2.Hp} {v : V} {i : Int} (h : Dp K F v (.int i)) : v = .int i := by cases h; rfl
theorem dp_str {K : PySem.W.Frag} {F : L2.Hp} {v : V} {i : Str} (h : Dp K F v (.str i)) : v = .str i := by cases h; rfl
theorem dp_bool {K : PySem.W.Frag} {F : L2.Hp} {v : V} {i : Bool} (h : Dp K F v (.bool i)) : v = .bl i := by cases h; rfl
theorem dp_none {K : PySem.W.Frag} {F : L2.Hp} {v : V} (h : Dp K F v .none) : v = .non := by cases h; rfl
theorem dp_dict {K : PySem.W.Frag} {F : L2.Hp} {v : V} {x : List (PyData × PyData)} (h : Dp K F v (.dict x)) : False := nomatch h

section
variable (G : Gh) (W : WX) (S P : List Addr) (σ : L2.St)
def Post (H : L2.Hp) (Q : VK) : RE → Prop
  | .ok d g' => ∀ v H', Iv G S P g' σ H' → Grow S H H' → Dp G.K (hide P H') v d → Q v H'
  | .fr o g' => ∀ a H', a ∉ P → a ∉ S → Free H a → Iv G S (a :: P) g' σ H' → Grow S H H' → OwnAt G.K (a :: P) H' a o → Q (.ref a) H'
  | .ex x g' => ∀ cls d H', Iv G S P g' σ H' → Grow S H H' → ExnAt G P x cls d H' → W cls d σ H'
  | .bad => False
def PostP (H : L2.Hp) (Q : VK) : RE → Prop
  | .ok d g' => ∀ v H', Iv G S P g' σ H' → Grow S H H' → DpP G.K P H' v d → Q v H'
  | .fr o g' => ∀ v H', Iv G S P g' σ H' → Grow S H H' → Dp G.K (hide P H') v o.d → Q v H'
  | .ex x g' => ∀ cls d H', Iv G S P g' σ H' → Grow S H H' → ExnAt G P x cls d H' → W cls d σ H'
  | .bad => False
def PostL (H : L2.Hp) (Q : List V → L2.Hp → Prop) : RL → Prop
  | .ok ds g' => ∀ vs H', Iv G S P g' σ H' → Grow S H H' → DpAll G.K (hide P H') vs ds → Q vs H'
  | .ex x g' => ∀ cls d H', Iv G S P g' σ H' → Grow S H H' → ExnAt G P x cls d H' → W cls d σ H'
  | .bad => False
def PostO (H : L2.Hp) (Q : Option Int → L2.Hp → Prop) : RO → Prop
  | .ok o g' => ∀ H', Iv G S P g' σ H' → Grow S H H' → Q o H'
  | .bad => False
end
section
variable (G : Gh) (W : WX)
def tF (f : ME) : TE := fun σ H Q => ∃ S P g, Iv G S P g σ H ∧ Post G W S P σ H Q (f g)
def tP (f : ME) : TE := fun σ H Q => ∃ S P g, Iv G S P g σ H ∧ PostP G W S P σ H Q (f g)
def tL (f : ML) : TA := fun σ H Q => ∃ S P g, Iv G S P g σ H ∧ PostL G W S P σ H Q (f g)
def tO (f : MO) : TO := fun σ H Q => ∃ S P g, Iv G S P g σ H ∧ PostO G S P σ H Q (f g)
end
section
variable {G : Gh} {W : WX} {S P : List Addr} {σ : L2.St} {H H1 : L2.Hp} {Q Q' : VK} {g : Gam}
theorem Post.mono {r : RE} (h : Post G W S P σ H Q r) (m : ∀ v H, Q v H → Q' v H) : Post G W S P σ H Q' r := by
  cases r with
  | ok d g' => exact fun v H' a b c => m _ _ (h v H' a b c)
  | fr o g' => exact fun v H' a a2 b c e f => m _ _ (h v H' a a2 b c e f)
  | ex x g' => exact h
  | bad => exact h
theorem PostP.mono {r : RE} (h : PostP G W S P σ H Q r) (m : ∀ v H, Q v H → Q' v H) : PostP G W S P σ H Q' r := by
  cases r with
  | ok d g' => exact fun v H' a b c => m _ _ (h v H' a b c)
  | fr o g' => exact fun v H' a b c => m _ _ (h v H' a b c)
  | ex x g' => exact h
  | bad => exact h
theorem Post.rebase {r : RE} (gr : Grow S H H1) (h : Post G W S P σ H Q r) : Post G W S P σ H1 Q r := by
  cases r with
  | ok d g' => exact fun v H' a b c => h v H' a (gr.trans b) c
  | fr o g' => exact fun v H' a a2 b c e f => h v H' a a2 (gr.free a2 b) c (gr.trans e) f
  | ex x g' => exact fun v H' Q a b c => h v H' Q a (gr.trans b) c
  | bad => exact h
/-- a new own list is shared from here on -/
theorem own_dp {K : PySem.W.Frag} {a : Addr} {o : Own} (n : a ∉ P) (h : OwnAt K (a :: P) H a o) : Dp K (hide P H) (.ref a) o.d := by
  cases o with
  | lst ds =>
    obtain ⟨vs, e1, e2⟩ := h
    exact .lst (.of (by rw [hide_out n]; exact e1)) (dpAll_le (hide_sub fun b hb => .tail _ hb) _ _ e2)
theorem Post.ofP {r : RE} (I : Iv G S P g σ H) (h : PostP G W S P σ H Q r) : Post G W S P σ H Q r := by
  cases r with
  | ok d g' => exact fun v H' a b c => h v H' a b (.inl c)
  | fr o g' => exact fun a H' n n2 e J gr ow => h (.ref a) H' (J.drop I.sS I.sP) gr (own_dp n ow)
  | ex x g' => exact h
  | bad => exact h
theorem tF_of_tP {f : ME} (h : tP G W f σ H Q) : tF G W f σ H Q := by
  obtain ⟨S, P, g, I, h⟩ := h
  exact ⟨S, P, g, I, .ofP I h⟩
theorem tF_mono {f : ME} (m : ∀ v H, Q v H → Q' v H) (h : tF G W f σ H Q) : tF G W f σ H Q' := by
  obtain ⟨S, P, g, I, h⟩ := h
  exact ⟨S, P, g, I, h.mono m⟩
theorem tP_mono {f : ME} (m : ∀ v H, Q v H → Q' v H) (h : tP G W f σ H Q) : tP G W f σ H Q' := by
  obtain ⟨S, P, g, I, h⟩ := h
  exact ⟨S, P, g, I, h.mono m⟩
theorem pe_imp {X : Cx} {e : Expr} {t t' : TE} (h : PE X e t) (i : ∀ σ H Q, t' σ H Q → t σ H Q) : PE X e t' := ⟨fun pins s σ H Q I hq => h.run pins s σ H Q I (i σ H Q hq)⟩
theorem pt_imp {X : Cx} {e : Expr} {t t' : TT} (h : PT X e t) (i : ∀ σ H Q, t' σ H Q → t σ H Q) : PT X e t' := ⟨fun pins s σ H Q I hq => h.run pins s σ H Q I (i σ H Q hq)⟩
theorem pw_imp {X : Cx} {e : Expr} {t t' : TT} (h : PW X e t) (i : ∀ σ H Q, t' σ H Q → t σ H Q) : PW X e t' := ⟨fun wh pins s σ H Q I hq => h.run wh pins s σ H Q I (i σ H Q hq)⟩
theorem pa_imp {X : Cx} {e : List Expr} {t t' : TA} (h : PA X e t) (i : ∀ σ H Q, t' σ H Q → t σ H Q) : PA X e t' := ⟨fun pos pins s σ H Q I hq => h.run pos pins s σ H Q I (i σ H Q hq)⟩
theorem ps_imp {X : Cx} {e : Stmt} {t t' : TS} (h : PS X e t) (i : ∀ D σ H, t' D σ H → t D σ H) : PS X e t' := ⟨fun pins s σ H D I hq => h.run pins s σ H D I (i D σ H hq)⟩
theorem pss_imp {X : Cx} {e : List Stmt} {t t' : TS} (h : PSs X e t) (i : ∀ D σ H, t' D σ H → t D σ H) : PSs X e t' := ⟨fun pins s σ H D I hq => h.run pins s σ H D I (i D σ H hq)⟩
theorem pp_of {X : Cx} {e : Expr} {f : ME} (h : PE X e (tF G W f)) : PE X e (tP G W f) := pe_imp h fun _ _ _ => tF_of_tP

/-! ### one after another -/
theorem Post.andThen {r : RE} {k : PyData → Gam → RE} (I : Iv G S P g σ H) (h : Post G W S P σ H Q (r.andThen k)) :
    Post G W S P σ H (fun v H1 => ∃ d g1, Iv G S P g1 σ H1 ∧ Grow S H H1 ∧ Dp G.K (hide P H1) v d ∧ Post G W S P σ H1 Q (k d g1)) r := by
  cases r with
  | ok d g' => exact fun v H' a b c => ⟨d, g', a, b, c, .rebase b h⟩
  | fr o g' => exact fun a H' n n2 e J gr ow => ⟨o.d, g', J.drop I.sS I.sP, gr, own_dp n ow, .rebase gr h⟩
  | ex x g' => exact h
  | bad => exact h
theorem PostP.andThen {r : RE} {k : PyData → Gam → RE} (h : Post G W S P σ H Q (r.andThen k)) :
    PostP G W S P σ H (fun v H1 => ∃ d g1, Iv G S P g1 σ H1 ∧ Grow S H H1 ∧ DpP G.K P H1 v d ∧ Post G W S P σ H1 Q (k d g1)) r := by
  cases r with
  | ok d g' => exact fun v H' a b c => ⟨d, g', a, b, c, .rebase b h⟩
  | fr o g' => exact fun v H' a b c => ⟨o.d, g', a, b, .inl c, .rebase b h⟩
  | ex x g' => exact h
  | bad => exact h
theorem PostL.andThen {r : RL} {k : List PyData → Gam → RE} (h : Post G W S P σ H Q (r.andThen k)) :
    PostL G W S P σ H (fun v H1 => ∃ d g1, Iv G S P g1 σ H1 ∧ Grow S H H1 ∧ DpAll G.K (hide P H1) v d ∧ Post G W S P σ H1 Q (k d g1)) r := by
  cases r with
  | ok d g' => exact fun v H' a b c => ⟨d, g', a, b, c, .rebase b h⟩
  | ex x g' => exact h
  | bad => exact h
theorem PostO.andThen {r : RO} {k : Option Int → Gam → RE} (h : Post G W S P σ H Q (r.andThen k)) :
    PostO G S P σ H (fun o H1 => ∃ g1, Iv G S P g1 σ H1 ∧ Grow S H H1 ∧ Post G W S P σ H1 Q (k o g1)) r := by
  cases r with
  | ok d g' => exact fun H' a b => ⟨g', a, b, .rebase b h⟩
  | bad => exact h
/-- a binary step: both values, behind both -/
def At2 (G : Gh) (W : WX) (σ : L2.St) (Q : VK) (k : PyData → PyData → Gam → RE) (x y : V) (H2 : L2.Hp) : Prop :=
  ∃ S P g a b, Iv G S P g σ H2 ∧ DpP G.K P H2 x a ∧ DpP G.K P H2 y b ∧ Post G W S P σ H2 Q (k a b g)
theorem tF_bind2 {fa fb : ME} {k : PyData → PyData → Gam → RE} (h : tF G W (bind2 fa fb k) σ H Q) : tF G W fa σ H fun x H1 => tP G W fb σ H1 fun y H2 => At2 G W σ Q k x y H2 := by
  obtain ⟨S, P, g, I, h⟩ := h
  refine ⟨S, P, g, I, (Post.andThen I h).mono ?_⟩
  rintro x H1 ⟨d, g1, I1, gr1, dx, h1⟩
  refine ⟨S, P, g1, I1, (PostP.andThen h1).mono ?_⟩
  rintro y H2 ⟨e, g2, I2, gr2, dy, h2⟩
  exact ⟨S, P, g2, d, e, I2, .inl (dp_le (gr2.leS I2) _ _ dx), dy, h2⟩
theorem peek_dp {i : Nat} {d : PyData} (I : Iv G S P g σ H) (h : peek g i = some d) : ∃ v, σ[i]? = some (some v) ∧ DpP G.K P H v d := by
  unfold peek at h
  cases e : g[i]? with
  | none => rw [e] at h; cases h
  | some s =>
    have q := I.slot i s e
    rw [e] at h
    cases s with
    | un => cases h
    | sh d' => cases h; obtain ⟨v, e1, e2⟩ := q; exact ⟨v, e1, .inl e2⟩
    | ow o => cases h; obtain ⟨a, e1, e2, e3⟩ := q; cases o with | lst ds => exact ⟨_, e1, .inr ⟨a, ds, rfl, rfl, I.sS _ e2, e3⟩⟩
    | br o => cases h; obtain ⟨a, e1, e2, e3⟩ := q; cases o with | lst ds => exact ⟨_, e1, .inr ⟨a, ds, rfl, rfl, I.sS _ e2, e3⟩⟩
theorem tF_bindV {i : Nat} {fb : ME} {k : PyData → PyData → Gam → RE} (h : tF G W (bindV i fb k) σ H Q) : tVar i σ H fun x H1 => tP G W fb σ H1 fun y H2 => At2 G W σ Q k x y H2 := by
  obtain ⟨S, P, g, I, h⟩ := h
  unfold bindV at h
  cases e : peek g i with
  | none => rw [e] at h; exact h.elim
  | some d0 =>
    rw [e] at h
    obtain ⟨v, e1, _⟩ := peek_dp I e
    refine ⟨v, e1, S, P, g, I, (PostP.andThen h).mono ?_⟩
    rintro y H2 ⟨e, g2, I2, gr2, dy, h2⟩
    cases q : peek g2 i with
    | none => rw [q] at h2; exact h2.elim
    | some d =>
      rw [q] at h2
      obtain ⟨v', e1', dx⟩ := peek_dp I2 q
      rw [e1] at e1'; cases e1'
      exact ⟨S, P, g2, d, e, I2, dx, dy, h2⟩
theorem tF_bind1 {fa : ME} {k : PyData → Gam → RE} (h : tF G W (fun g => (fa g).andThen k) σ H Q) : tF G W fa σ H fun x H1 => ∃ S P g a, Iv G S P g σ H1 ∧ Dp G.K (hide P H1) x a ∧ Post G W S P σ H1 Q (k a g) := by
  obtain ⟨S, P, g, I, h⟩ := h
  refine ⟨S, P, g, I, (Post.andThen I h).mono ?_⟩
  rintro x H1 ⟨d, g1, I1, gr1, dx, h1⟩
  exact ⟨S, P, g1, d, I1, dx, h1⟩
theorem tP_bind1 {fa : ME} {k : PyData → Gam → RE} (h : tF G W (fun g => (fa g).andThen k) σ H Q) : tP G W fa σ H fun x H1 => ∃ S P g a, Iv G S P g σ H1 ∧ DpP G.K P H1 x a ∧ Post G W S P σ H1 Q (k a g) := by
  obtain ⟨S, P, g, I, h⟩ := h
  refine ⟨S, P, g, I, (PostP.andThen h).mono ?_⟩
  rintro x H1 ⟨d, g1, I1, gr1, dx, h1⟩
  exact ⟨S, P, g1, d, I1, dx, h1⟩

/-! ### ends -/
theorem Post.okNow {d : PyData} {v : V} (h : Post G W S P σ H Q (.ok d g)) (I : Iv G S P g σ H) (dv : Dp G.K (hide P H) v d) : Q v H := h v H I (.refl S H) dv
theorem Post.okNew {ds : List PyData} {vs : List V} {p : Addr} (h : Post G W S P σ H Q (.ok (.tuple ds) g)) (I : Iv G S P g σ H) (hp : H p = none) (dv : DpAll G.K (hide P H) vs ds) : Q (.ref p) (upd H p (.tup vs)) := by
  have np := I.notP hp
  refine h _ _ (I.alloc hp) (.upd hp) (.tup (.of ?_) (dpAll_le (Grow.upd hp).le _ _ dv))
  rw [hide_out np]
  exact upd_same
theorem Post.okNewL {ds : List PyData} {vs : List V} {p : Addr} (h : Post G W S P σ H Q (.ok (.list ds) g)) (I : Iv G S P g σ H) (hp : H p = none) (dv : DpAll G.K (hide P H) vs ds) : Q (.ref p) (upd H p (.lst vs)) := by
  have np := I.notP hp
  refine h _ _ (I.alloc hp) (.upd hp) (.lst (.of ?_) (dpAll_le (Grow.upd hp).le _ _ dv))
  rw [hide_out np]
  exact upd_same
theorem leNewP {p : Addr} {o : HO} (hp : H p = none) : LeH (hide P H) (hide (p :: P) (upd H p o)) := (Grow.upd (P := P) hp).leNew fun b hb => by
  rcases List.mem_cons.mp hb with z | z
  · exact .inr (z ▸ .of hp)
  · exact .inl z
theorem Post.frNew {ds : List PyData} {vs : List V} {p : Addr} (h : Post G W S P σ H Q (.fr (.lst ds) g)) (I : Iv G S P g σ H) (hp : H p = none) (dv : DpAll G.K (hide P H) vs ds) : Q (.ref p) (upd H p (.lst vs)) := by
  refine h p _ (I.notP hp) (fun z => I.notP hp (I.sS _ z)) (.of hp) (I.allocH hp) (.upd hp) ⟨vs, upd_same, dpAll_le (leNewP hp) _ _ dv⟩
end
end Ev

set_option Elab.async false
set_option linter.all false
set_option maxRecDepth 100000
set_option maxHeartbeats 4000000
/-! EvT: t < u of tuples of numbers and texts. -/
namespace Ev
open PySem PySem.Spec PyProof.Rows L2
/-- values that stand for numbers and texts -/
inductive FlatAre : List Value → List PyData → Prop where
  | nil : FlatAre [] []
  | int (i : Int) (t : Tok) {us : List Value} {ds : List PyData} (h : FlatAre us ds) : FlatAre (.int i t :: us) (.int i :: ds)
  | str (z : Str) (t : Tok) {us : List Value} {ds : List PyData} (h : FlatAre us ds) : FlatAre (.str z t :: us) (.str z :: ds)
theorem FlatAre.length : ∀ {us : List Value} {ds : List PyData}, FlatAre us ds → us.length = ds.length
  | _, _, .nil => rfl
  | _, _, .int _ _ h => by simp [h.length]
  | _, _, .str _ _ h => by simp [h.length]
theorem flat_of {K : PySem.W.Frag} {F : L2.Hp} : ∀ {ds : List PyData} {vs : List V} {us : List Value}, flatAll ds = true → DpAll K F vs ds → Vals vs us → FlatAre us ds
  | [], _, _, _, h, r => by cases h; cases r; exact .nil
  | d :: ds, _, _, f, h, r => by
    cases h with
    | cons h1 h2 =>
      cases r with
      | cons r1 r2 =>
        unfold flatAll at f
        rw [List.all_cons, Bool.and_eq_true] at f
        have ih := flat_of (ds := ds) f.2 h2 r2
        cases d with
        | int i => cases h1; obtain ⟨t, rfl⟩ := r1; exact .int i t ih
        | str z => cases h1; obtain ⟨t, rfl⟩ := r1; exact .str z t ih
        | none => exact absurd f.1 (by simp)
        | bool _ => exact absurd f.1 (by simp)
        | list _ => exact absurd f.1 (by simp)
        | tuple _ => exact absurd f.1 (by simp)
        | dict _ => exact absurd f.1 (by simp)
/-- one of each compare -/
structure Two (A : Around) (s : Shared) (u v : Value) (e : Bool) (l : Option Bool) : Prop where
  eq : SeqAt.EqAt A s u v e
  lt : e = false → ∀ b, l = some b → ∀ (prog : Program) (w : World) (E Q : Value → Shared → Prop), Q (.bool b) s → wpAny (model prog w) A (richCompare .Lt u v) Q E s
theorem two_ii (A : Around) (s : Shared) (a c : Int) (t u : Tok) : Two A s (.int a t) (.int c u) (PyData.eqv (.int a) (.int c)) (ltD (.int a) (.int c)) :=
  ⟨SeqAt.EqAt.int_int a t c u, fun _ b h prog w E Q q => by cases h; exact HT.rcLt_int A s a t c u prog w E Q q⟩
theorem two_ss (A : Around) (s : Shared) (a c : Str) (t u : Tok) : Two A s (.str a t) (.str c u) (PyData.eqv (.str a) (.str c)) (ltD (.str a) (.str c)) :=
  ⟨SeqAt.EqAt.str_str a t c u, fun _ b h prog w E Q q => by
    cases h
    exact (PyProof.Rows.lt_str q : wpAny (model prog w) A (compareOp .Lt (.str a t) (.str c u)) Q E s)⟩
theorem two_is (A : Around) (s : Shared) (a : Int) (c : Str) (t u : Tok) : Two A s (.int a t) (.str c u) (PyData.eqv (.int a) (.str c)) (ltD (.int a) (.str c)) :=
  ⟨SeqAt.EqAt.int_str a t c u, fun _ b h => by cases h⟩
theorem two_si (A : Around) (s : Shared) (a : Str) (c : Int) (t u : Tok) : Two A s (.str a t) (.int c u) (PyData.eqv (.str a) (.int c)) (ltD (.str a) (.int c)) :=
  ⟨SeqAt.EqAt.str_int a t c u, fun _ b h => by cases h⟩
def One (u : Value) (d : PyData) : Prop := (∃ i t, u = .int i t ∧ d = .int i) ∨ ∃ z t, u = .str z t ∧ d = .str z
theorem FlatAre.cons_inv {u : Value} {us : List Value} {ds : List PyData} (h : FlatAre (u :: us) ds) : ∃ d r, ds = d :: r ∧ One u d ∧ FlatAre us r := by
  cases h with
  | int i t h => exact ⟨_, _, rfl, .inl ⟨i, t, rfl, rfl⟩, h⟩
  | str z t h => exact ⟨_, _, rfl, .inr ⟨z, t, rfl, rfl⟩, h⟩
theorem FlatAre.nil_inv {ds : List PyData} (h : FlatAre [] ds) : ds = [] := by cases h; rfl
theorem two_of {u v : Value} {d e : PyData} (A : Around) (s : Shared) (h : One u d) (k : One v e) : Two A s u v (PyData.eqv d e) (ltD d e) := by
  rcases h with ⟨i, t, rfl, rfl⟩ | ⟨i, t, rfl, rfl⟩ <;> rcases k with ⟨j, t', rfl, rfl⟩ | ⟨j, t', rfl, rfl⟩
  · exact two_ii A s i j t t'
  · exact two_is A s i j t t'
  · exact two_si A s i j t t'
  · exact two_ss A s i j t t'
section
open PySem.SeqAt
open PySem.AutoSeq1 (wpAny_loadPart')
open PySem.MeetsSeq PySem.MeetsSeq2 PySem.MeetsSeq3
theorem tuple_lt_flat (l b : Addr) (items items2 : Array Value) (n n2 : Nat) (dd dd2 : Option Addr) (sl sl2 : Array (Option Value)) (ns ms : List PyData) (r : Bool) (hi : FlatAre items.toList ns) (hj : FlatAre items2.toList ms) (hl : ltL ns ms = some r) :
    Meets (Builtin.«tuple.__lt__» ⟨[.ref l, .ref b], []⟩)
      (fun _ R s => s.heap.get? l = some { cls := .type "tuple", dict := dd, data := .seq items n, slots := sl } ∧ s.heap.get? b = some { cls := .type "tuple", dict := dd2, data := .seq items2 n2, slots := sl2 } ∧
        R (.ok (.ret (.bool r))) s) :=
  .of_wp fun prog w A R s h => by
    obtain ⟨hp, g, d, tk, os⟩ := s; obtain ⟨hl', hb, h⟩ := h
    have f2 := AutoSeq1.sub_tuple_tuple
    have z1 : items.size = ns.length := by rw [← hi.length]; simp
    have z2 : items2.size = ms.length := by rw [← hj.length]; simp
    wp_walk using wpAny_loadPart' hl', wpAny_loadPart' hb, wpAny_forIn_list _ (fun rest b s' => b.1 = none ∧ s' = ⟨hp, g, d, tk, os⟩ ∧ ∃ (vs ws : List Value) (ns' ms' : List PyData), rest = vs.zip ws ∧
      FlatAre vs ns' ∧ FlatAre ws ms' ∧ ns'.length + items2.size = ms'.length + items.size ∧ ltL ns' ms' = some r) _
    case turn =>
      rintro ⟨y, x⟩ rest b s' ⟨hb', rfl, vs, ws, ns', ms', hz, hvi, hwi, hlen, hR⟩
      cases vs with
      | nil => rw [List.zip_nil_left] at hz; cases hz
      | cons vy vs =>
        cases ws with
        | nil => rw [List.zip_nil_right] at hz; cases hz
        | cons wx ws =>
          rw [List.zip_cons_cons] at hz
          injection hz with hyx hrest
          injection hyx with hy hx
          subst hy hx
          obtain ⟨dy, ns2, rfl, oy, hvi'⟩ := hvi.cons_inv
          obtain ⟨dx, ms2, rfl, ox, hwi'⟩ := hwi.cons_inv
          rw [ltL_cons] at hR
          simp only [List.length_cons] at hlen
          have T := two_of A.in1 ⟨hp, g, d, tk, os⟩ oy ox
          refine wpAny_bind (T.eq prog w _ _ ?_)
          cases e : PyData.eqv dy dx with
          | true =>
            rw [e, if_pos rfl] at hR
            wp_walk
            exact ⟨rfl, rfl, _, _, _, _, hrest, hvi', hwi', by omega, hR⟩
          | false =>
            rw [e, if_neg Bool.false_ne_true] at hR
            have hri := T.lt e r hR prog w
            wp_walk using hri
            exact ⟨_, rfl, by simpa using h⟩
    case fin =>
      rintro ⟨b1, b2⟩ s' ⟨hb', rfl, vs, ws, ns', ms', hz, hvi, hwi, hlen, hR⟩
      simp only at hb'
      subst hb'
      have hv : r = decide (items.size < items2.size) := by
        cases vs with
        | nil =>
          cases hvi.nil_inv
          cases ws with
          | nil =>
            cases hwi.nil_inv
            simp only [List.length_nil] at hlen
            have : r = false := by cases r with | false => rfl | true => cases hR
            rw [this]
            exact (decide_eq_false (by omega)).symm
          | cons c u =>
            obtain ⟨dx, ms2, rfl, ox, hwi'⟩ := hwi.cons_inv
            simp only [List.length_nil, List.length_cons] at hlen
            have : r = true := by cases r with | true => rfl | false => cases hR
            rw [this]
            exact (decide_eq_true (by omega)).symm
        | cons a t =>
          obtain ⟨dy, ns2, rfl, oy, hvi'⟩ := hvi.cons_inv
          cases ws with
          | nil =>
            cases hwi.nil_inv
            simp only [List.length_nil, List.length_cons] at hlen
            have : r = false := by cases r with | false => rfl | true => cases hR
            rw [this]
            exact (decide_eq_false (by omega)).symm
          | cons c u =>
            rw [List.zip_cons_cons] at hz
            cases hz
      rw [hv] at h
      wp_walk
      exact ⟨_, rfl, by simpa [Builtin.Tuple.tupleCompareSizes] using h⟩
    case h =>
      exact ⟨rfl, rfl, items.toList, items2.toList, ns, ms, rfl, hi, hj, by omega, hl⟩
end
theorem lt_tupFlat {prog : Program} {w : World} {A : Around} {E : Value → Shared → Prop} {s : Shared} {l b : Addr} {items items2 : Array Value} {ns ms : List PyData} {r : Bool} {Q : Value → Shared → Prop} (hl : IsTup s.heap l items) (hb : IsTup s.heap b items2) (hi : FlatAre items.toList ns) (hj : FlatAre items2.toList ms)
    (hr : ltL ns ms = some r) (hu : A.units < cLine) (h : Q (.bool r) s) : wpAny (model prog w) A (compareOp .Lt (.ref l) (.ref b)) Q E s := by
  obtain ⟨⟨cls, dd, data, sl⟩, ho, hc, n, hd⟩ := id hl
  obtain ⟨⟨cls2, dd2, data2, sl2⟩, ho2, hc2, n2, hd2⟩ := id hb
  simp only at hc hd hc2 hd2
  subst hc hd hc2 hd2
  exact richCompare_meets_room (op := .Lt) ⟨_, ho, rfl⟩ ⟨_, ho2, rfl⟩ PySem.F.slot_tuple_lt PySem.F.entry_tuple_lt (PySem.F.args_tuple_lt_2 _ _) (tuple_lt_flat l b items items2 n n2 dd dd2 sl sl2 ns ms r hi hj hr)
    ⟨ho, ho2, show Value.bool r ≠ Value.notImplemented ∧ Q (.bool r) s from ⟨(fun x => nomatch x), h⟩⟩ hu
/-- t < u -/
def rLtF (K : PySem.W.Frag) : R2 := fun x y H Q => ∃ (P : List Addr) (ns ms : List PyData) (r : Bool), Dp K (hide P H) x (.tuple ns) ∧ Dp K (hide P H) y (.tuple ms) ∧ flatAll ns = true ∧ flatAll ms = true ∧ ltL ns ms = some r ∧ Q (.bl r) H
theorem op_ltF {X : Cx} (hu : X.A.units < cLine) : OpR X (compareOp .Lt) (rLtF X.K) := by
  intro pins s σ H x y v u Q I rx ry h
  obtain ⟨P, ns, ms, r, hx, hy, f1, f2, hr, q⟩ := h
  obtain ⟨a, vs, rfl, ha, da⟩ := dp_tuple hx
  obtain ⟨b, ws, rfl, hb, db⟩ := dp_tuple hy
  cases rx
  cases ry
  obtain ⟨its, r1, p1, _⟩ := I.tuple ha
  obtain ⟨its2, r2, p2, _⟩ := I.tuple hb
  exact lt_tupFlat p1 p2 (flat_of f1 da r1) (flat_of f2 db r2) hr hu ⟨.bl r, H, I, rfl, q⟩
end Ev

set_option Elab.async false
set_option linter.all false
set_option maxRecDepth 100000
set_option maxHeartbeats 4000000
/-! EvD: operators, comparisons, names, displays. -/
namespace Ev
open PySem PySem.Spec PyProof.Rows L2

/-! ### list + list, both read -/
def rCatL (K : PySem.W.Frag) : R2 := fun x y H Q => ∃ l b xs zs, x = .ref l ∧ y = .ref b ∧ SqL K H l xs ∧ SqL K H b zs ∧ xs.length + zs.length ≤ sizeLine ∧ ∀ p, H p = none → Q (.ref p) (upd H p (.lst (xs ++ zs)))
theorem op_catL {X : Cx} : OpR X (binaryOp .Add) (rCatL X.K) := by
  intro pins s σ H x y v u Q I rx ry h
  obtain ⟨l, b, xs, zs, rfl, rfl, hH, hB, hz, q⟩ := h
  cases rx
  cases ry
  obtain ⟨its, r, ⟨⟨cls, dd, data, sl⟩, n, e, hc, hd, hdt⟩, z⟩ := I.list hH
  obtain ⟨its2, r2, ⟨⟨cls2, dd2, data2, sl2⟩, n2, e2, hc2, hd2, hdt2⟩, z2⟩ := I.list hB
  simp only at hc hd hdt hc2 hd2 hdt2
  subst hc hd hdt hc2 hd2 hdt2
  have hl := r.length
  have hl2 := r2.length
  have ea : its.toArray ++ its2.toArray = (its ++ its2).toArray := by simp
  have hsz : its.toArray.size + its2.toArray.size ≤ sizeLine := by rw [List.size_toArray, List.size_toArray]; omega
  refine concat_meets ⟨_, e, rfl⟩ ⟨_, e2, rfl⟩ noFill_list_add seq_list_add PySem.F.slot_list_add PySem.F.entry_list_add (PySem.F.args_list_add_2 _ _) (list_addW l b its.toArray its2.toArray n n2 _ _ sl sl2 hsz) ⟨e, e2, ?_⟩
  rw [ea]
  exact ⟨.ref _, _, I.lnew (t' := s.toks) (r.append r2) (by rw [List.length_append]; omega), rfl, q _ I.fresh⟩

section
variable {X : Cx} {G : Gh} {W : WX} {S P : List Addr} {σ : L2.St} {H H1 : L2.Hp} {Q Q' : VK} {g : Gam} {pos : Pos}
abbrev pyB : BOp → Operator
  | .add => .Add | .sub => .Sub | .mul => .Mult | .fdiv => .FloorDiv | .mod => .Mod | .pow => .Pow
abbrev pyC : COp → CmpOp
  | .lt => .Lt | .le => .LtE | .gt => .Gt | .ge => .GtE | .eq => .Eq | .ne => .NotEq | .isIn => .In | .notIn => .NotIn | .isN => .Is | .notN => .IsNot
def R2of (G : Gh) (W : WX) (k : PyData → PyData → Gam → RE) : R2 := fun x y H Q => ∃ σ, At2 G W σ Q k x y H
theorem op_bin (hK : X.K = G.K) (o : BOp) : OpR X (binaryOp (pyB o)) (R2of G W fun a b g => ofB g (binD o a b)) := by
  intro pins s σ H x y v u Q I rx ry ⟨σ', S, P, g, a, b, Iv, da, db, h⟩
  have da' := da.dp
  have db' := db.dp
  cases o with
  | add =>
    cases a with
    | int i => cases b with
      | int j => exact op_add pins s σ H x y v u Q I rx ry ⟨i, j, dp_int da', dp_int db', Post.okNow h Iv (.int _)⟩
      | _ => exact False.elim h
    | str i => cases b with
      | str j =>
        have h : Post G W S P σ' H Q (ofB g (if i.length + j.length ≤ sizeLine then some (false, .str (i ++ j)) else none)) := h
        by_cases z : i.length + j.length ≤ sizeLine
        · rw [if_pos z] at h
          exact op_add_str pins s σ H x y v u Q I rx ry ⟨i, j, dp_str da', dp_str db', z, Post.okNow h Iv (.str _)⟩
        · rw [if_neg z] at h; exact False.elim h
      | _ => exact False.elim h
    | tuple as => cases b with
      | tuple bs =>
        have h : Post G W S P σ' H Q (ofB g (if as.length + bs.length ≤ sizeLine then some (false, .tuple (as ++ bs)) else none)) := h
        by_cases z : as.length + bs.length ≤ sizeLine
        · rw [if_pos z] at h
          have da2 := da.sh (fun _ z => by cases z)
          have db2 := db.sh (fun _ z => by cases z)
          obtain ⟨ad, vs, rfl, q1, q2⟩ := dp_tuple da2
          obtain ⟨bd, ws, rfl, q3, q4⟩ := dp_tuple db2
          have l1 := dpAll_len q2
          have l2 := dpAll_len q4
          refine op_catA pins s σ H _ _ v u Q I rx ry ⟨ad, bd, vs, ws, rfl, rfl, hK ▸ q1, hK ▸ q3, by omega, fun e => ?_, fun n e => ?_, fun n1 n2 p hp => Post.okNew h Iv hp (dpAll_app q2 q4)⟩
          · subst e
            have : as = [] := by cases as <;> simp_all
            subst this
            exact Post.okNow h Iv db2
          · subst e
            have : bs = [] := by cases bs <;> simp_all
            subst this
            rw [List.append_nil] at h
            exact Post.okNow h Iv da2
        · rw [if_neg z] at h; exact False.elim h
      | _ => exact False.elim h
    | list as => cases b with
      | list bs =>
        have h : Post G W S P σ' H Q (ofB g (if as.length + bs.length ≤ sizeLine then some (true, .list (as ++ bs)) else none)) := h
        by_cases z : as.length + bs.length ≤ sizeLine
        · rw [if_pos z] at h
          obtain ⟨ad, vs, rfl, q1, q2⟩ := da.list
          obtain ⟨bd, ws, rfl, q3, q4⟩ := db.list
          have l1 := dpAll_len q2
          have l2 := dpAll_len q4
          exact op_catL pins s σ H _ _ v u Q I rx ry ⟨ad, bd, vs, ws, rfl, rfl, hK ▸ q1, hK ▸ q3, by omega, fun p hp => Post.frNew h Iv hp (dpAll_app q2 q4)⟩
        · rw [if_neg z] at h; exact False.elim h
      | _ => exact False.elim h
    | none => exact False.elim h
    | bool _ => exact False.elim h
    | dict _ => exact False.elim h
  | sub =>
    cases a with
    | int i => cases b with
      | int j => exact op_sub pins s σ H x y v u Q I rx ry ⟨i, j, dp_int da', dp_int db', Post.okNow h Iv (.int _)⟩
      | _ => exact False.elim h
    | _ => exact False.elim h
  | mul =>
    cases a with
    | int i => cases b with
      | int j =>
        have h : Post G W S P σ' H Q (ofB g (if small i then some (false, .int (i * j)) else none)) := h
        by_cases z : small i = true
        · rw [if_pos z] at h
          unfold small at z
          simp only [Bool.and_eq_true, decide_eq_true_eq] at z
          exact op_mul pins s σ H x y v u Q I rx ry ⟨i, j, dp_int da', dp_int db', .inl z, Post.okNow h Iv (.int _)⟩
        · rw [if_neg z] at h; exact False.elim h
      | _ => exact False.elim h
    | _ => exact False.elim h
  | fdiv =>
    cases a with
    | int i => cases b with
      | int j =>
        have h : Post G W S P σ' H Q (ofB g (if j ≠ 0 ∧ j.natAbs < 1073741824 then some (false, .int (i.fdiv j)) else none)) := h
        by_cases z : j ≠ 0 ∧ j.natAbs < 1073741824
        · rw [if_pos z] at h
          exact op_fdivN pins s σ H x y v u Q I rx ry ⟨i, j, dp_int da', dp_int db', z, Post.okNow h Iv (.int _)⟩
        · rw [if_neg z] at h; exact False.elim h
      | _ => exact False.elim h
    | _ => exact False.elim h
  | mod =>
    cases a with
    | int i => cases b with
      | int j =>
        have h : Post G W S P σ' H Q (ofB g (if j ≠ 0 then some (false, .int (i.fmod j)) else none)) := h
        by_cases z : j ≠ 0
        · rw [if_pos z] at h
          exact op_modN pins s σ H x y v u Q I rx ry ⟨i, j, dp_int da', dp_int db', z, Post.okNow h Iv (.int _)⟩
        · rw [if_neg z] at h; exact False.elim h
      | _ => exact False.elim h
    | _ => exact False.elim h
  | pow =>
    cases a with
    | int i => cases b with
      | int j =>
        have h : Post G W S P σ' H Q (ofB g (if 0 ≤ j ∧ j ≤ 1000000 ∧ i.natAbs < 2 ^ 64 then some (false, .int (i ^ j.toNat)) else none)) := h
        by_cases z : 0 ≤ j ∧ j ≤ 1000000 ∧ i.natAbs < 2 ^ 64
        · rw [if_pos z] at h
          exact op_pow pins s σ H x y v u Q I rx ry ⟨i, j, dp_int da', dp_int db', z, Post.okNow h Iv (.int _)⟩
        · rw [if_neg z] at h; exact False.elim h
      | _ => exact False.elim h
    | _ => exact False.elim h

theorem post_bool {c : Bool} {x : V} {Q : VK} (h : Post G W S P σ H Q (.ok (.bool c) g)) (I : Iv G S P g σ H) : Q (.bl c) H := h.okNow I (.bl c)
theorem op_cmp (hK : X.K = G.K) (hu : X.A.units + 65 < cLine) (o : COp) : OpR X (compareOp (pyC o)) (R2of G W (kCmp o)) := by
  intro pins s σ H x y v u Q I rx ry ⟨σ', S, P, g, a, b, Iv, da, db, h⟩
  have da' := da.dp
  have db' := db.dp
  have key : ∀ c, cmpD o a b = some c → Q (.bl c) H := fun c e => by
    unfold kCmp at h
    rw [e] at h
    exact Post.okNow h Iv (.bl c)
  have nokey : cmpD o a b = none → False := fun e => by
    unfold kCmp at h
    rw [e] at h
    exact h
  have eqn : ∀ (A B : Bool), (if A && B then (1 : Nat) else 0) = (if A && B then 1 else 0) := fun _ _ => rfl
  cases o with
  | lt =>
    cases a with
    | int i => cases b with
      | int j => exact op_lt pins s σ H x y v u Q I rx ry ⟨i, j, dp_int da', dp_int db', key _ rfl⟩
      | _ => exact (nokey rfl).elim
    | str i => cases b with
      | str j => exact op_lt_str pins s σ H x y v u Q I rx ry ⟨i, j, dp_str da', dp_str db', key _ rfl⟩
      | _ => exact (nokey rfl).elim
    | tuple as => cases b with
      | tuple bs =>
        have e0 : cmpD .lt (.tuple as) (.tuple bs) = if flatAll as && flatAll bs then ltL as bs else none := rfl
        cases f : (flatAll as && flatAll bs) with
        | false => rw [f] at e0; exact (nokey e0).elim
        | true =>
          rw [f, if_pos rfl] at e0
          cases r : ltL as bs with
          | none => exact (nokey (e0.trans r)).elim
          | some c =>
            obtain ⟨f1, f2⟩ := Bool.and_eq_true _ _ ▸ f
            exact op_ltF (by omega) pins s σ H x y v u Q I rx ry ⟨P, as, bs, c, hK ▸ da.sh (fun _ z => by cases z), hK ▸ db.sh (fun _ z => by cases z), f1, f2, r, key _ (e0.trans r)⟩
      | _ => exact (nokey rfl).elim
    | _ => exact (nokey rfl).elim
  | le =>
    cases a with
    | int i => cases b with
      | int j => exact op_le pins s σ H x y v u Q I rx ry ⟨i, j, dp_int da', dp_int db', key _ rfl⟩
      | _ => exact (nokey rfl).elim
    | str i => cases b with
      | str j => exact op_le_str pins s σ H x y v u Q I rx ry ⟨i, j, dp_str da', dp_str db', key _ rfl⟩
      | _ => exact (nokey rfl).elim
    | _ => exact (nokey rfl).elim
  | gt =>
    cases a with
    | int i => cases b with
      | int j => exact op_gt pins s σ H x y v u Q I rx ry ⟨i, j, dp_int da', dp_int db', key _ rfl⟩
      | _ => exact (nokey rfl).elim
    | str i => cases b with
      | str j => exact op_gt_str pins s σ H x y v u Q I rx ry ⟨i, j, dp_str da', dp_str db', key _ rfl⟩
      | _ => exact (nokey rfl).elim
    | _ => exact (nokey rfl).elim
  | ge =>
    cases a with
    | int i => cases b with
      | int j => exact op_ge pins s σ H x y v u Q I rx ry ⟨i, j, dp_int da', dp_int db', key _ rfl⟩
      | _ => exact (nokey rfl).elim
    | str i => cases b with
      | str j => exact op_ge_str pins s σ H x y v u Q I rx ry ⟨i, j, dp_str da', dp_str db', key _ rfl⟩
      | _ => exact (nokey rfl).elim
    | _ => exact (nokey rfl).elim
  | eq =>
    have e0 : cmpD .eq a b = if SeqAt.shaped a && SeqAt.shaped b then some (PyData.eqv a b) else none := by cases a <;> cases b <;> rfl
    cases f : (SeqAt.shaped a && SeqAt.shaped b) with
    | false => rw [f] at e0; exact (nokey e0).elim
    | true =>
      rw [f, if_pos rfl] at e0
      obtain ⟨f1, f2⟩ := Bool.and_eq_true _ _ ▸ f
      exact op_eqD (by omega) pins s σ H x y v u Q I rx ry ⟨a, b, hK ▸ da', hK ▸ db', f1, f2, key _ e0⟩
  | ne =>
    have e0 : cmpD .ne a b = if SeqAt.shaped a && SeqAt.shaped b then some (!PyData.eqv a b) else none := by cases a <;> cases b <;> rfl
    cases f : (SeqAt.shaped a && SeqAt.shaped b) with
    | false => rw [f] at e0; exact (nokey e0).elim
    | true =>
      rw [f, if_pos rfl] at e0
      obtain ⟨f1, f2⟩ := Bool.and_eq_true _ _ ▸ f
      exact op_neD (by omega) pins s σ H x y v u Q I rx ry ⟨a, b, hK ▸ da', hK ▸ db', f1, f2, key _ e0⟩
  | isIn =>
    cases b with
    | list ys =>
      have e0 : cmpD .isIn a (.list ys) = if SeqAt.shaped a && SeqAt.shaped (.list ys) then some (ys.any fun z => PyData.eqv z a) else none := by cases a <;> rfl
      cases f : (SeqAt.shaped a && SeqAt.shaped (.list ys)) with
      | false => rw [f] at e0; exact (nokey e0).elim
      | true =>
        rw [f, if_pos rfl] at e0
        obtain ⟨f1, f2⟩ := Bool.and_eq_true _ _ ▸ f
        exact op_inD hu pins s σ H x y v u Q I rx ry ⟨a, ys, hK ▸ da', hK ▸ db', f1, f2, key _ e0⟩
    | tuple ys =>
      have e0 : cmpD .isIn a (.tuple ys) = if SeqAt.shaped a && SeqAt.shaped (.tuple ys) then some (ys.any fun z => PyData.eqv z a) else none := by cases a <;> rfl
      cases f : (SeqAt.shaped a && SeqAt.shaped (.tuple ys)) with
      | false => rw [f] at e0; exact (nokey e0).elim
      | true =>
        rw [f, if_pos rfl] at e0
        obtain ⟨f1, f2⟩ := Bool.and_eq_true _ _ ▸ f
        have da2 : Dp X.K H x a := hK ▸ da'
        have db2 : Dp X.K H y (.tuple ys) := hK ▸ db'
        obtain ⟨as, r1⟩ := Dp.reads I a x v da2 rx
        obtain ⟨bs, r2⟩ := Dp.reads I (.tuple ys) y u db2 ry
        exact SeqAt.in_tuple_reads r2 r1 (SeqAt.canLay_of_shaped f2) (SeqAt.canLay_of_shaped f1) (room_in_shaped f1 hu) ⟨.bl _, H, I, rfl, key _ e0⟩
    | str j => cases a with
      | str i => exact op_in_str pins s σ H x y v u Q I rx ry ⟨i, j, dp_str da', dp_str db', key _ rfl⟩
      | _ => exact (nokey rfl).elim
    | _ => cases a <;> exact (nokey rfl).elim
  | notIn =>
    cases b with
    | list ys =>
      have e0 : cmpD .notIn a (.list ys) = if SeqAt.shaped a && SeqAt.shaped (.list ys) then some (!ys.any fun z => PyData.eqv z a) else none := by cases a <;> rfl
      cases f : (SeqAt.shaped a && SeqAt.shaped (.list ys)) with
      | false => rw [f] at e0; exact (nokey e0).elim
      | true =>
        rw [f, if_pos rfl] at e0
        obtain ⟨f1, f2⟩ := Bool.and_eq_true _ _ ▸ f
        exact op_notInD hu pins s σ H x y v u Q I rx ry ⟨a, ys, hK ▸ da', hK ▸ db', f1, f2, key _ e0⟩
    | tuple ys =>
      have e0 : cmpD .notIn a (.tuple ys) = if SeqAt.shaped a && SeqAt.shaped (.tuple ys) then some (!ys.any fun z => PyData.eqv z a) else none := by cases a <;> rfl
      cases f : (SeqAt.shaped a && SeqAt.shaped (.tuple ys)) with
      | false => rw [f] at e0; exact (nokey e0).elim
      | true =>
        rw [f, if_pos rfl] at e0
        obtain ⟨f1, f2⟩ := Bool.and_eq_true _ _ ▸ f
        have da2 : Dp X.K H x a := hK ▸ da'
        have db2 : Dp X.K H y (.tuple ys) := hK ▸ db'
        obtain ⟨as, r1⟩ := Dp.reads I a x v da2 rx
        obtain ⟨bs, r2⟩ := Dp.reads I (.tuple ys) y u db2 ry
        exact SeqAt.notIn_tuple_reads r2 r1 (SeqAt.canLay_of_shaped f2) (SeqAt.canLay_of_shaped f1) (room_in_shaped f1 hu) ⟨.bl _, H, I, rfl, key _ e0⟩
    | str j => cases a with
      | str i => exact op_notIn_str pins s σ H x y v u Q I rx ry ⟨i, j, dp_str da', dp_str db', key _ rfl⟩
      | _ => exact (nokey rfl).elim
    | _ => cases a <;> exact (nokey rfl).elim
  | isN =>
    cases b with
    | none =>
      refine op_isN pins s σ H x y v u Q I rx ry ⟨dp_none db', ?_⟩
      have e : decide (x = .non) = (match a with | .none => true | _ => false) := by
        cases a with
        | none => cases da'; rfl
        | bool _ => cases da'; rfl
        | int _ => cases da'; rfl
        | str _ => cases da'; rfl
        | list _ => cases da'; rfl
        | tuple _ => cases da'; rfl
        | dict _ => cases da'
      rw [e]
      exact key _ (by cases a <;> rfl)
    | _ => cases a <;> exact (nokey rfl).elim
  | notN =>
    cases b with
    | none =>
      refine op_notN pins s σ H x y v u Q I rx ry ⟨dp_none db', ?_⟩
      have e : (!decide (x = .non)) = (match a with | .none => false | _ => true) := by
        cases a with
        | none => cases da'; rfl
        | bool _ => cases da'; rfl
        | int _ => cases da'; rfl
        | str _ => cases da'; rfl
        | list _ => cases da'; rfl
        | tuple _ => cases da'; rfl
        | dict _ => cases da'
      rw [e]
      exact key _ (by cases a <;> rfl)
    | _ => cases a <;> exact (nokey rfl).elim
end
end Ev

set_option Elab.async false
set_option linter.all false
set_option maxRecDepth 100000
set_option maxHeartbeats 4000000
/-! EvE: expressions. -/
namespace Ev
open PySem PySem.Spec PyProof.Rows L2
section
variable {X : Cx} {G : Gh} {W : WX} {S P : List Addr} {σ : L2.St} {H H1 : L2.Hp} {Q Q' : VK} {g : Gam} {pos : Pos} {a b c : Expr} {fa fb fc : ME}
/-! ### names, constants -/
theorem pe_nm {i : Nat} {x : Str} (h : PE X (.Name x pos) (tVar i)) : PE X (.Name x pos) (tF G W (eVar i)) := pe_imp h fun σ H Q ⟨S, P, g, I, q⟩ => by
  unfold eVar at q
  cases e : g[i]? with
  | none => rw [e] at q; exact q.elim
  | some s =>
    rw [e] at q
    cases s with
    | sh d =>
      obtain ⟨v, e1, e2⟩ := I.slot i _ e
      exact ⟨v, e1, Post.okNow q I e2⟩
    | _ => exact q.elim
theorem pp_nm {i : Nat} {x : Str} (h : PE X (.Name x pos) (tVar i)) : PE X (.Name x pos) (tP G W (pVar i)) := pe_imp h fun σ H Q ⟨S, P, g, I, q⟩ => by
  unfold pVar at q
  cases e : peek g i with
  | none => rw [e] at q; exact q.elim
  | some d =>
    rw [e] at q
    obtain ⟨v, e1, e2⟩ := peek_dp I e
    exact ⟨v, e1, q v H I (.refl S H) e2⟩
theorem pe_c {e : Expr} {v : V} {d : PyData} (h : PE X e (tC v)) (hd : ∀ K F, Dp K F v d) : PE X e (tF G W (eCst d)) := pe_imp h fun σ H Q ⟨S, P, g, I, q⟩ => Post.okNow q I (hd _ _)
theorem pe_ci {i : Int} {j} : PE X (.Constant (.int i) j pos) (tF G W (eCst (.int i))) := pe_c pe_int fun _ _ => .int i
theorem pe_cs {i : Str} {j} : PE X (.Constant (.str i) j pos) (tF G W (eCst (.str i))) := pe_c pe_str fun _ _ => .str i
theorem pe_cb {i : Bool} {j} : PE X (.Constant (.bool i) j pos) (tF G W (eCst (.bool i))) := pe_c pe_bl fun _ _ => .bl i
theorem pe_cn {j} : PE X (.Constant .none j pos) (tF G W (eCst .none)) := pe_c pe_non fun _ _ => .non

/-! ### lists of arguments -/
section
variable {QL : List V → L2.Hp → Prop} {es : List Expr} {l : ML}
theorem PostL.mono {QL QL' : List V → L2.Hp → Prop} {r : RL} (h : PostL G W S P σ H QL r) (m : ∀ v H, QL v H → QL' v H) : PostL G W S P σ H QL' r := by
  cases r with
  | ok d g' => exact fun v H' a b c => m _ _ (h v H' a b c)
  | ex x g' => exact h
  | bad => exact h
theorem PostL.rebase {r : RL} (gr : Grow S H H1) (h : PostL G W S P σ H QL r) : PostL G W S P σ H1 QL r := by
  cases r with
  | ok d g' => exact fun v H' a b c => h v H' a (gr.trans b) c
  | ex x g' => exact fun v H' Q a b c => h v H' Q a (gr.trans b) c
  | bad => exact h
theorem Post.thenL {r : RE} {k : PyData → Gam → RL} (I : Iv G S P g σ H) (h : PostL G W S P σ H QL (r.thenL k)) :
    Post G W S P σ H (fun v H1 => ∃ d g1, Iv G S P g1 σ H1 ∧ Grow S H H1 ∧ Dp G.K (hide P H1) v d ∧ PostL G W S P σ H1 QL (k d g1)) r := by
  cases r with
  | ok d g' => exact fun v H' a b c => ⟨d, g', a, b, c, .rebase b h⟩
  | fr o g' => exact fun a H' n n2 e J gr ow => ⟨o.d, g', J.drop I.sS I.sP, gr, own_dp n ow, .rebase gr h⟩
  | ex x g' => exact h
  | bad => exact h
theorem pl_nil : PA X [] (tL G W lNil) := pa_imp pa_nil fun σ H Q ⟨S, P, g, I, q⟩ => q [] H I (.refl S H) .nil
theorem pl_cons (ha : PE X a (tF G W fa)) (hl : PA X es (tL G W l)) (hs : starEach (a :: es) X.env = (false, eval a X.env) :: starEach es X.env := by rfl) : PA X (a :: es) (tL G W (lCons fa l)) :=
  pa_imp (pa_cons ha hl hs) fun σ H Q ⟨S, P, g, I, q⟩ => ⟨S, P, g, I, (Post.thenL I q).mono fun v H1 ⟨d, g1, I1, gr, dv, q1⟩ => ⟨S, P, g1, I1, by
    cases e : l g1 with
    | ok ds g2 =>
      rw [e] at q1
      exact fun vs H2 I2 gr2 dvs => q1 (v :: vs) H2 I2 gr2 (.cons (dp_le (gr2.leS I2) _ _ dv) dvs)
    | ex x g2 => rw [e] at q1; exact q1
    | bad => rw [e] at q1; exact q1⟩⟩
theorem seqD_dp {d : PyData} {xs : List PyData} {v : V} (h : seqD d = some xs) (dv : Dp G.K (hide P H) v d) : ∃ p vs, v = V.ref p ∧ (SqT G.K H p vs ∨ SqL G.K H p vs) ∧ DpAll G.K (hide P H) vs xs := by
  cases d with
  | list ds => cases h; obtain ⟨p, vs, e, q1, q2⟩ := DpP.list (.inl dv); exact ⟨p, vs, e, .inr q1, q2⟩
  | tuple ds => cases h; obtain ⟨p, vs, e, q1, q2⟩ := dp_tuple dv; exact ⟨p, vs, e, .inl q1, q2⟩
  | _ => cases h
theorem pl_star {p : Pos} (hK : X.K = G.K) (ha : PE X a (tF G W fa)) (hl : PA X es (tL G W l)) (hs : starEach (.Starred a p :: es) X.env = (true, eval a X.env) :: starEach es X.env := by rfl) : PA X (.Starred a p :: es) (tL G W (lStar fa l)) :=
  pa_imp (StX.pa_star ha hl hs) fun σ H Q ⟨S, P, g, I, q⟩ => ⟨S, P, g, I, (Post.thenL I q).mono fun v H1 ⟨d, g1, I1, gr, dv, q1⟩ => by
    cases e0 : seqD d with
    | none => rw [e0] at q1; exact q1.elim
    | some xs =>
      rw [e0] at q1
      obtain ⟨p, vs, rfl, h1, h2⟩ := seqD_dp e0 dv
      refine ⟨p, vs, rfl, by rw [hK]; exact h1, S, P, g1, I1, ?_⟩
      cases e : l g1 with
      | ok ds g2 =>
        rw [e] at q1
        exact fun ws H2 I2 gr2 dvs => q1 (vs ++ ws) H2 I2 gr2 (dpAll_app (dpAll_le (gr2.leS I2) _ _ h2) dvs)
      | ex x g2 => rw [e] at q1; exact q1
      | bad => rw [e] at q1; exact q1⟩
theorem tL_then {k : List PyData → Gam → RE} (h : tF G W (fun g => (l g).andThen k) σ H Q) : tL G W l σ H fun vs H1 => ∃ S P g ds, Iv G S P g σ H1 ∧ DpAll G.K (hide P H1) vs ds ∧ Post G W S P σ H1 Q (k ds g) := by
  obtain ⟨S, P, g, I, h⟩ := h
  refine ⟨S, P, g, I, (PostL.andThen h).mono ?_⟩
  rintro vs H1 ⟨ds, g1, I1, gr, dv, q⟩
  exact ⟨S, P, g1, ds, I1, dv, q⟩
theorem pe_eTup {x1} (h : PA X es (tL G W l)) : PE X (.Tuple es x1 pos) (tF G W (eTup l)) := pe_imp (pe_tup h) fun σ H Q q => by
  obtain ⟨S, P, g, I, q⟩ := tL_then q
  refine ⟨S, P, g, I, q.mono ?_⟩
  rintro vs H1 ⟨S, P, g1, ds, I1, dv, q1⟩
  by_cases z : ds.length ≤ sizeLine
  · rw [if_pos z] at q1
    exact ⟨by rw [dpAll_len dv]; exact z, fun p hp => Post.okNew q1 I1 hp dv⟩
  · rw [if_neg z] at q1; exact q1.elim
theorem pe_eLst (h : PA X es (tL G W l)) : PE X (.List es pos) (tF G W (eLst l)) := pe_imp (pe_lst h) fun σ H Q q => by
  obtain ⟨S, P, g, I, q⟩ := tL_then q
  refine ⟨S, P, g, I, q.mono ?_⟩
  rintro vs H1 ⟨S, P, g1, ds, I1, dv, q1⟩
  by_cases z : ds.length ≤ sizeLine
  · rw [if_pos z] at q1
    exact ⟨by rw [dpAll_len dv]; exact z, fun p hp => Post.frNew q1 I1 hp dv⟩
  · rw [if_neg z] at q1; exact q1.elim
end

/-! ### operators -/
theorem tOp_bind2 {r : R2} {k : PyData → PyData → Gam → RE} (m : ∀ σ x y H Q, At2 G W σ Q k x y H → r x y H Q) : ∀ σ H Q, tF G W (bind2 fa fb k) σ H Q → tOp r (tF G W fa) (tP G W fb) σ H Q := fun σ H Q h =>
  tF_mono (fun x H1 q => tP_mono (fun y H2 q => m _ _ _ _ _ q) q) (tF_bind2 h)
theorem tOp_bindV {i : Nat} {r : R2} {k : PyData → PyData → Gam → RE} (m : ∀ σ x y H Q, At2 G W σ Q k x y H → r x y H Q) : ∀ σ H Q, tF G W (bindV i fb k) σ H Q → tOp r (tVar i) (tP G W fb) σ H Q := fun σ H Q h => by
  obtain ⟨v, e, q⟩ := tF_bindV h
  exact ⟨v, e, tP_mono (fun y H2 q => m _ _ _ _ _ q) q⟩
theorem pe_eBin (hK : X.K = G.K) (o : BOp) (ha : PE X a (tF G W fa)) (hb : PE X b (tP G W fb)) : PE X (.BinOp a (pyB o) b pos) (tF G W (eBin o fa fb)) :=
  pe_imp (pe_op (op_bin (W := W) hK o) ha hb) (tOp_bind2 fun σ x y H Q q => ⟨σ, q⟩)
theorem pe_eCmp (hK : X.K = G.K) (hu : X.A.units + 65 < cLine) (o : COp) (ha : PE X a (tF G W fa)) (hb : PE X b (tP G W fb)) (hm : behindInMarks (pyC o) b = false := by rfl) : PE X (.Compare a [pyC o] [b] pos) (tF G W (eCmp o fa fb)) :=
  pe_imp (pe_cmpR (op_cmp (W := W) hK hu o) ha hb hm) (tOp_bind2 fun σ x y H Q q => ⟨σ, q⟩)
theorem pe_eCmpV {i : Nat} {x : Str} {p : Pos} (hK : X.K = G.K) (hu : X.A.units + 65 < cLine) (o : COp) (ha : PE X (.Name x p) (tVar i)) (hb : PE X b (tP G W fb)) (hm : behindInMarks (pyC o) b = false := by rfl) :
    PE X (.Compare (.Name x p) [pyC o] [b] pos) (tF G W (eCmpV o i fb)) :=
  pe_imp (pe_cmpR (op_cmp (W := W) hK hu o) ha hb hm) (tOp_bindV fun σ x y H Q q => ⟨σ, q⟩)
theorem tB_of {f : ME} {e : Expr} (h : PE X e (tF G W f)) (he : ∀ whole, isTrue e X.env whole = (do let v ← whole; standAt e.pos; holding [v] (truthy v)) := by intro _; rfl) : PT X e (tB (tF G W f)) := pt_val h he
theorem pt_eCmp (hK : X.K = G.K) (hu : X.A.units + 65 < cLine) (o : COp) (ha : PE X a (tF G W fa)) (hb : PE X b (tP G W fb)) (hm : behindInMarks (pyC o) b = false := by rfl) : PT X (.Compare a [pyC o] [b] pos) (tB (tF G W (eCmp o fa fb))) :=
  pt_imp (pt_cmpR (op_cmp (W := W) hK hu o) ha hb hm) fun σ H Q h => tOp_bind2 (fun σ x y H Q q => ⟨σ, q⟩) σ H _ h
theorem pt_eCmpV {i : Nat} {x : Str} {p : Pos} (hK : X.K = G.K) (hu : X.A.units + 65 < cLine) (o : COp) (ha : PE X (.Name x p) (tVar i)) (hb : PE X b (tP G W fb)) (hm : behindInMarks (pyC o) b = false := by rfl) :
    PT X (.Compare (.Name x p) [pyC o] [b] pos) (tB (tF G W (eCmpV o i fb))) :=
  pt_imp (pt_cmpR (op_cmp (W := W) hK hu o) ha hb hm) fun σ H Q h => tOp_bindV (fun σ x y H Q q => ⟨σ, q⟩) σ H _ h
theorem tChain_of (hK : X.K = G.K) (o p : COp) : ∀ σ H Q, tF G W (eChn o p fa fb fc) σ H Q → tChain (R2of G W (kCmp o)) (R2of G W (kCmp p)) (tF G W fa) (tF G W fb) (tP G W fc) σ H Q := fun σ H Q h => by
  refine tF_mono (fun x H1 q => ?_) (tF_bind1 h)
  obtain ⟨S, P, g1, d, I1, dx, q⟩ := q
  refine ⟨S, P, g1, I1, (Post.andThen I1 q).mono ?_⟩
  rintro y H2 ⟨e, g2, I2, gr2, dy, q2⟩
  have dx2 : Dp G.K (hide P H2) x d := dp_le (gr2.leS I2) _ _ dx
  refine ⟨σ, S, P, g2, d, e, I2, .inl dx2, .inl dy, ?_⟩
  unfold kCmp
  cases r : cmpD o d e with
  | none => rw [r] at q2; exact q2
  | some k =>
    rw [r] at q2
    intro v H3 I3 gr3 dv
    have ev : v = .bl k := dp_bool dv
    refine ⟨k, ev, ?_⟩
    cases k with
    | true =>
      rw [if_pos rfl]
      have q3 := Post.rebase gr3 q2
      refine ⟨S, P, g2, I3, (PostP.andThen q3).mono ?_⟩
      rintro w H4 ⟨f, g4, I4, gr4, dw, q4⟩
      exact ⟨σ, S, P, g4, e, f, I4, .inl (dp_le ((gr3.trans gr4).leS I4) _ _ dy), dw, q4⟩
    | false =>
      rw [if_neg Bool.false_ne_true]
      exact q2 (.bl false) H3 I3 gr3 (.bl false)
theorem pe_eChn (hK : X.K = G.K) (hu : X.A.units + 65 < cLine) (o p : COp) (ha : PE X a (tF G W fa)) (hb : PE X b (tF G W fb)) (hc : PE X c (tP G W fc)) (hm : lastMarks [pyC o, pyC p] [b, c] = false := by rfl) : PE X (.Compare a [pyC o, pyC p] [b, c] pos) (tF G W (eChn o p fa fb fc)) :=
  pe_imp (pe_chain (op_cmp (W := W) hK hu o) (op_cmp (W := W) hK hu p) ha hb hc hm) (tChain_of hK o p)
theorem pt_eChn (hK : X.K = G.K) (hu : X.A.units + 65 < cLine) (o p : COp) (ha : PE X a (tF G W fa)) (hb : PE X b (tF G W fb)) (hc : PE X c (tP G W fc)) (hm : lastMarks [pyC o, pyC p] [b, c] = false := by rfl) : PT X (.Compare a [pyC o, pyC p] [b, c] pos) (tB (tF G W (eChn o p fa fb fc))) :=
  pt_imp (pt_chain (op_cmp (W := W) hK hu o) (op_cmp (W := W) hK hu p) ha hb hc hm) fun σ H Q h => tChain_of hK o p σ H _ h

/-! ### not, and, or, if -/
theorem bool_of {x : V} {d : PyData} {k : Bool → Gam → RE} (dx : Dp G.K (hide P H) x d) (q : Post G W S P σ H Q (match d with | .bool b => k b g | _ => .bad)) : ∃ b, x = .bl b ∧ Post G W S P σ H Q (k b g) := by
  cases d with
  | bool b => exact ⟨b, dp_bool dx, q⟩
  | _ => exact q.elim
theorem pe_eNot (ha : PE X a (tF G W fa)) : PE X (.UnaryOp .Not a pos) (tF G W (eNot fa)) := pe_imp (pe_not ha) fun σ H Q h => tF_mono (fun x H1 ⟨S, P, g, d, I, dx, q⟩ => by
  cases d with
  | bool b => exact ⟨b, dp_bool dx, Post.okNow q I (.bl _)⟩
  | _ => exact q.elim) (tF_bind1 h)
theorem pt_eNot (ha : PT X a (tB (tF G W fa))) : PT X (.UnaryOp .Not a pos) (tB (tF G W (eNot fa))) := pt_imp (pt_not ha) fun σ H Q h => tF_mono (fun x H1 ⟨S, P, g, d, I, dx, q⟩ => by
  cases d with
  | bool b =>
    refine ⟨b, dp_bool dx, ?_⟩
    obtain ⟨c, e, q⟩ := Post.okNow q I (.bl _)
    cases e
    exact q
  | _ => exact q.elim) (tF_bind1 h)
theorem pe_eNeg (ha : PE X a (tF G W fa)) : PE X (.UnaryOp .USub a pos) (tF G W (eNeg fa)) := pe_imp (pe_un un_neg ha) fun σ H Q h => tF_mono (fun x H1 ⟨S, P, g, d, I, dx, q⟩ => by
  cases d with
  | int b => exact ⟨b, dp_int dx, Post.okNow q I (.int _)⟩
  | _ => exact q.elim) (tF_bind1 h)
theorem and_core : ∀ σ H Q, tF G W (eAnd fa fb) σ H Q → tF G W fa σ H fun x H1 => ∃ c, x = .bl c ∧ if c = true then tF G W fb σ H1 Q else Q (.bl false) H1 := fun σ H Q h => tF_mono (fun x H1 ⟨S, P, g, d, I, dx, q⟩ => by
  cases d with
  | bool b =>
    refine ⟨b, dp_bool dx, ?_⟩
    cases b with
    | true => rw [if_pos rfl]; exact ⟨S, P, g, I, q⟩
    | false => rw [if_neg Bool.false_ne_true]; exact Post.okNow q I (.bl _)
  | _ => exact q.elim) (tF_bind1 h)
theorem or_core : ∀ σ H Q, tF G W (eOr fa fb) σ H Q → tF G W fa σ H fun x H1 => ∃ c, x = .bl c ∧ if c = true then Q (.bl true) H1 else tF G W fb σ H1 Q := fun σ H Q h => tF_mono (fun x H1 ⟨S, P, g, d, I, dx, q⟩ => by
  cases d with
  | bool b =>
    refine ⟨b, dp_bool dx, ?_⟩
    cases b with
    | true => rw [if_pos rfl]; exact Post.okNow q I (.bl _)
    | false => rw [if_neg Bool.false_ne_true]; exact ⟨S, P, g, I, q⟩
  | _ => exact q.elim) (tF_bind1 h)
variable {rest : List Expr}
theorem pe_eOne {op} (ha : PE X a (tF G W fa)) : PE X (.BoolOp op [a] pos) (tF G W fa) := pe_one ha
theorem pe_eAnd (ha : PE X a (tF G W fa)) (hb : PE X (.BoolOp .And (b :: rest) pos) (tF G W fb)) : PE X (.BoolOp .And (a :: b :: rest) pos) (tF G W (eAnd fa fb)) := pe_imp (pe_and ha hb) and_core
theorem pe_eOr (ha : PE X a (tF G W fa)) (hb : PE X (.BoolOp .Or (b :: rest) pos) (tF G W fb)) : PE X (.BoolOp .Or (a :: b :: rest) pos) (tF G W (eOr fa fb)) := pe_imp (pe_or ha hb) or_core
theorem pw_eAnd1 (ha : PT X a (tB (tF G W fa))) : PW X (.BoolOp .And [a] pos) (tB (tF G W fa)) := pw_and1 ha
theorem pw_eOr1 (ha : PT X a (tB (tF G W fa))) : PW X (.BoolOp .Or [a] pos) (tB (tF G W fa)) := pw_or1 ha
theorem pw_eAnd (ha : PT X a (tB (tF G W fa))) (hb : PW X (.BoolOp .And (b :: rest) pos) (tB (tF G W fb))) : PW X (.BoolOp .And (a :: b :: rest) pos) (tB (tF G W (eAnd fa fb))) :=
  pw_imp (pw_and ha hb) fun σ H Q h => tF_mono (fun x H1 ⟨c, e, q⟩ => by
    refine ⟨c, e, ?_⟩
    cases c with
    | true => rw [if_pos rfl] at q ⊢; exact q
    | false =>
      rw [if_neg Bool.false_ne_true] at q ⊢
      obtain ⟨k, e, q⟩ := q
      cases e
      exact q) (and_core σ H _ h)
theorem pw_eOr (ha : PT X a (tB (tF G W fa))) (hb : PW X (.BoolOp .Or (b :: rest) pos) (tB (tF G W fb))) : PW X (.BoolOp .Or (a :: b :: rest) pos) (tB (tF G W (eOr fa fb))) :=
  pw_imp (pw_or ha hb) fun σ H Q h => tF_mono (fun x H1 ⟨c, e, q⟩ => by
    refine ⟨c, e, ?_⟩
    cases c with
    | false => rw [if_neg Bool.false_ne_true] at q ⊢; exact q
    | true =>
      rw [if_pos rfl] at q ⊢
      obtain ⟨k, e, q⟩ := q
      cases e
      exact q) (or_core σ H _ h)
theorem pe_eIf (hc : PT X c (tB (tF G W fc))) (ha : PE X a (tF G W fa)) (hb : PE X b (tF G W fb)) : PE X (.IfExp c a b pos) (tF G W (eIf fc fa fb)) := pe_imp (pe_ifExp hc ha hb) fun σ H Q h => tF_mono (fun x H1 ⟨S, P, g, d, I, dx, q⟩ => by
  cases d with
  | bool b =>
    refine ⟨b, dp_bool dx, ?_⟩
    cases b with
    | true => rw [if_pos rfl]; exact ⟨S, P, g, I, q⟩
    | false => rw [if_neg Bool.false_ne_true]; exact ⟨S, P, g, I, q⟩
  | _ => exact q.elim) (tF_bind1 h)
end
end Ev

set_option Elab.async false
set_option linter.all false
set_option maxRecDepth 100000
set_option maxHeartbeats 4000000
/-! EvF: subscripts, slices, built-in functions, methods of texts. -/
namespace Ev
open PySem PySem.Spec PyProof.Rows L2
section
variable {X : Cx} {G : Gh} {W : WX} {S P : List Addr} {σ : L2.St} {H H1 : L2.Hp} {Q Q' : VK} {g : Gam} {pos : Pos} {a b c : Expr} {fa fb fc : ME}
theorem atI_dp {vs : List V} {ds : List PyData} {i : Int} {d : PyData} {K : PySem.W.Frag} {F : L2.Hp} (h : DpAll K F vs ds) (e : L2.atI ds i = some d) : ∃ v, L2.atI vs i = some v ∧ Dp K F v d := by
  unfold L2.atI at e ⊢
  rw [dpAll_len h]
  cases r : L2.ixN ds.length i with
  | none => rw [r] at e; cases e
  | some j => rw [r] at e; exact dpAll_get h e
theorem ix_D (hK : X.K = G.K) : IxR X (R2of G W kIdx) := by
  intro value slice pins s σ H x y v u Q I rx ry ⟨σ', S, P, g, a, b, Iv, da, db, h⟩ hs
  have nokey : idxD a b = none → False := fun e => by unfold kIdx at h; rw [e] at h; exact h
  have key : ∀ d w, idxD a b = some d → Dp G.K (hide P H) w d → Q w H := fun d w e dw => by
    unfold kIdx at h
    rw [e] at h
    exact Post.okNow h Iv dw
  cases b with
  | int i =>
    have ey : y = .int i := dp_int db.dp
    cases a with
    | list ds =>
      obtain ⟨p, vs, rfl, q1, q2⟩ := da.list
      cases e : L2.atI ds i with
      | none => exact (nokey e).elim
      | some d =>
        obtain ⟨w, e1, e2⟩ := atI_dp q2 e
        exact ix_list value slice pins s σ H _ y v u Q I rx ry ⟨p, vs, i, w, rfl, ey, by rw [hK]; exact q1, e1, key d w e e2⟩ hs
    | tuple ds =>
      obtain ⟨p, vs, rfl, q1, q2⟩ := dp_tuple (da.sh fun _ z => by cases z)
      cases e : L2.atI ds i with
      | none => exact (nokey e).elim
      | some d =>
        obtain ⟨w, e1, e2⟩ := atI_dp q2 e
        exact ix_tup value slice pins s σ H _ y v u Q I rx ry ⟨p, vs, i, w, rfl, ey, by rw [hK]; exact q1, e1, key d w e e2⟩ hs
    | str z =>
      have ex : x = .str z := dp_str da.dp
      have e0 : idxD (.str z) (.int i) = if z.length ≤ sizeLine then (L2.atI z.cps.toList i).map chD else none := rfl
      by_cases hz : z.length ≤ sizeLine
      · rw [if_pos hz] at e0
        cases e : L2.atI z.cps.toList i with
        | none => rw [e] at e0; exact (nokey e0).elim
        | some c =>
          rw [e] at e0
          exact ix_str value slice pins s σ H x y v u Q I rx ry ⟨z, i, c, ex, ey, hz, e, key _ _ e0 (.str _)⟩ hs
      · rw [if_neg hz] at e0; exact (nokey e0).elim
    | _ => exact (nokey rfl).elim
  | _ => cases a <;> exact (nokey rfl).elim
theorem pe_eIdx (hK : X.K = G.K) (ha : PE X a (tF G W fa)) (hb : PE X b (tF G W fb)) (hs : PlainIx b := by intro _ _; rfl) : PE X (.Subscript a b pos) (tF G W (eIdx fa fb)) :=
  pe_imp (pe_ix (ix_D (W := W) hK) ha (pp_of hb) hs) (tOp_bind2 fun σ x y H Q q => ⟨σ, q⟩)
theorem pe_eIdxV {i : Nat} {x : Str} {p : Pos} (hK : X.K = G.K) (ha : PE X (.Name x p) (tVar i)) (hb : PE X b (tF G W fb)) (hs : PlainIx b := by intro _ _; rfl) : PE X (.Subscript (.Name x p) b pos) (tF G W (eIdxV i fb)) :=
  pe_imp (pe_ix (ix_D (W := W) hK) ha (pp_of hb) hs) (tOp_bindV fun σ x y H Q q => ⟨σ, q⟩)

/-! ### slices -/
section
variable {lo hi : Option Expr} {fl fh : MO}
theorem po_oNone : PO X none (tO G oNone) := ⟨fun pins s σ H Q I ⟨S, P, g, Iv, q⟩ => po_none.run pins s σ H Q I (q H Iv (.refl S H))⟩
theorem po_oSome {e : Expr} {f : ME} (h : PE X e (tF G W f)) : PO X (some e) (tO G (oSome f)) := ⟨fun pins s σ H Q I ⟨S, P, g, Iv, q⟩ => (po_some h).run pins s σ H Q I ⟨S, P, g, Iv, by
  unfold oSome at q
  cases r : f g with
  | ok d g' =>
    rw [r] at q
    cases d with
    | int i => exact fun v H' a b c => ⟨i, dp_int c, q H' a b⟩
    | _ => exact q.elim
  | fr o g' => rw [r] at q; cases o; exact q.elim
  | ex x g' => rw [r] at q; exact q.elim
  | bad => rw [r] at q; exact q⟩⟩
theorem PostO.mono {Qo Qo' : Option Int → L2.Hp → Prop} {r : RO} (h : PostO G S P σ H Qo r) (m : ∀ v H, Qo v H → Qo' v H) : PostO G S P σ H Qo' r := by
  cases r with
  | ok d g' => exact fun H' a b => m _ _ (h H' a b)
  | bad => exact h
theorem dpAll_cut {K : PySem.W.Frag} {F : L2.Hp} {vs : List V} {ds : List PyData} (l h : Option Int) (d : DpAll K F vs ds) : DpAll K F (L2.cutV vs l h) (cutD ds l h) := by
  unfold L2.cutV cutD
  rw [dpAll_len d]
  exact dpAll_take _ (dpAll_drop _ d)
def rSlc (G : Gh) (W : WX) : V → Option Int → Option Int → L2.Hp → VK → Prop := fun x lo hi H Q => ∃ σ S P g a, Iv G S P g σ H ∧ DpP G.K P H x a ∧ Post G W S P σ H Q (ofB g (slcD lo hi a))
theorem sl_D (hK : X.K = G.K) : SlR X (rSlc G W) := by
  intro pins s σ H x v vl vu lo hi sl Q I rx hs pl pu ⟨σ', S, P, g, a, Iv, da, h⟩
  cases a with
  | list ds =>
    obtain ⟨p, vs, rfl, q1, q2⟩ := da.list
    exact sl_list pins s σ H _ v vl vu lo hi sl Q I rx hs pl pu ⟨p, vs, rfl, by rw [hK]; exact q1, fun p hp => Post.frNew h Iv hp (dpAll_cut lo hi q2)⟩
  | tuple ds =>
    have d2 := da.sh fun _ z => by cases z
    obtain ⟨p, vs, rfl, q1, q2⟩ := dp_tuple d2
    refine sl_tupA pins s σ H _ v vl vu lo hi sl Q I rx hs pl pu ⟨p, vs, rfl, by rw [hK]; exact q1, fun z => ?_, fun _ p hp => Post.okNew h Iv hp (dpAll_cut lo hi q2)⟩
    rw [dpAll_len q2] at z
    have h : Post G W S P σ' H Q (.ok (.tuple (cutD ds lo hi)) g) := h
    have e : cutD ds lo hi = ds := by
      unfold cutD
      rw [z.1, z.2]
      simp
    rw [e] at h
    exact Post.okNow h Iv d2
  | str z =>
    have h : Post G W S P σ' H Q (ofB g (if z.length ≤ sizeLine then some (false, .str (L2.cutS z lo hi)) else none)) := h
    by_cases hz : z.length ≤ sizeLine
    · rw [if_pos hz] at h
      exact sl_str pins s σ H x v vl vu lo hi sl Q I rx hs pl pu ⟨z, dp_str da.dp, hz, Post.okNow h Iv (.str _)⟩
    · rw [if_neg hz] at h; exact h.elim
  | _ => exact h.elim
theorem pe_eSlc {p2 : Pos} (hK : X.K = G.K) (ha : PE X a (tF G W fa)) (hl : PO X lo (tO G fl)) (hh : PO X hi (tO G fh)) : PE X (.Subscript a (.Slice lo hi none p2) pos) (tF G W (eSlc fa fl fh)) :=
  pe_imp (pe_slice (sl_D (W := W) hK) ha hl hh) fun σ H Q h => tF_mono (fun x H1 ⟨S, P, g, d, I, dx, q⟩ => ⟨S, P, g, I, (PostO.andThen q).mono fun l H2 ⟨g2, I2, gr2, q2⟩ => ⟨S, P, g2, I2, (PostO.andThen q2).mono fun u H3 ⟨g3, I3, gr3, q3⟩ =>
    ⟨σ, S, P, g3, d, I3, .inl (dp_le ((gr2.trans gr3).leS I3) _ _ dx), q3⟩⟩⟩) (tF_bind1 h)
end

/-! ### built-in functions -/
def rU1 (G : Gh) (W : WX) (f : U1) : List V → L2.Hp → VK → Prop := fun xs H Q => ∃ σ S P g x a, xs = [x] ∧ Iv G S P g σ H ∧ DpP G.K P H x a ∧ Post G W S P σ H Q (ofB g (f a))
theorem pa_1 (ha : PE X a (tP G W fa)) (hs : starEach [a] X.env = (false, eval a X.env) :: starEach [] X.env := by rfl) : PA X [a] (tCons (tP G W fa) tNil) := pa_cons ha pa_nil hs
theorem tCB_of {f : U1} : ∀ σ H Q, tF G W (eU f fa) σ H Q → tCB (rU1 G W f) (tCons (tP G W fa) tNil) σ H Q := fun σ H Q h =>
  tP_mono (fun x H1 ⟨S, P, g, a, I, dx, q⟩ => ⟨σ, S, P, g, x, a, rfl, I, dx, q⟩) (tP_bind1 h)
theorem cr_len (hK : X.K = G.K) : CallR X (.builtin "len") (rU1 G W lenD) := by
  rintro pins s σ H xs us Q I r ⟨σ', S, P, g, x, a, rfl, Iv, da, h⟩
  cases a with
  | list ds =>
    obtain ⟨p, vs, rfl, q1, q2⟩ := da.list
    exact call_len_seq pins s σ H _ us Q I r ⟨p, vs, rfl, .inl (by rw [hK]; exact q1), by rw [dpAll_len q2]; exact Post.okNow h Iv (.int _)⟩
  | tuple ds =>
    obtain ⟨p, vs, rfl, q1, q2⟩ := dp_tuple (da.sh fun _ z => by cases z)
    exact call_len_seq pins s σ H _ us Q I r ⟨p, vs, rfl, .inr (by rw [hK]; exact q1), by rw [dpAll_len q2]; exact Post.okNow h Iv (.int _)⟩
  | str z =>
    have h : Post G W S P σ' H Q (ofB g (if z.length ≤ sizeLine then some (false, .int z.length) else none)) := h
    by_cases hz : z.length ≤ sizeLine
    · rw [if_pos hz] at h
      exact call_len_str pins s σ H _ us Q I r ⟨z, by rw [dp_str da.dp], hz, Post.okNow h Iv (.int _)⟩
    · rw [if_neg hz] at h; exact h.elim
  | _ => exact h.elim
theorem cr_tup (hK : X.K = G.K) : CallR X (.type "tuple") (rU1 G W tupD) := by
  rintro pins s σ H xs us Q I r ⟨σ', S, P, g, x, a, rfl, Iv, da, h⟩
  cases a with
  | list ds =>
    obtain ⟨p, vs, rfl, q1, q2⟩ := da.list
    exact call_tuple_of pins s σ H _ us Q I r ⟨p, vs, rfl, .inl ⟨by rw [hK]; exact q1, fun l hl => Post.okNew h Iv hl q2⟩⟩
  | tuple ds =>
    have d2 := da.sh fun _ z => by cases z
    obtain ⟨p, vs, rfl, q1, q2⟩ := dp_tuple d2
    exact call_tuple_of pins s σ H _ us Q I r ⟨p, vs, rfl, .inr ⟨by rw [hK]; exact q1, Post.okNow h Iv d2⟩⟩
  | _ => exact h.elim
theorem vals_bools : ∀ {ds : List PyData} {bs : List Bool} {vs : List V} {K : PySem.W.Frag} {F : L2.Hp}, boolsD ds = some bs → DpAll K F vs ds → vs = bs.map V.bl
  | [], _, _, _, _, e, h => by cases e; cases h; rfl
  | d :: ds, bs, _, _, _, e, h => by
    cases h with
    | cons h1 h2 =>
      cases d with
      | bool b =>
        cases r : boolsD ds with
        | none => simp [boolsD, r] at e
        | some cs =>
          simp [boolsD, r] at e
          subst e
          rw [dp_bool h1, vals_bools r h2]
          rfl
      | _ => cases e
theorem cr_allD (hK : X.K = G.K) (hc : X.calm = true) : CallR X (.builtin "all") (rU1 G W allD) := by
  rintro pins s σ H xs us Q I r ⟨σ', S, P, g, x, a, rfl, Iv, da, h⟩
  cases a with
  | list ds =>
    obtain ⟨p, vs, rfl, q1, q2⟩ := da.list
    have h : Post G W S P σ' H Q (ofB g ((boolsD ds).map fun bs => (false, .bool (bs.all id)))) := h
    cases e : boolsD ds with
    | none => rw [e] at h; exact h.elim
    | some bs =>
      rw [e] at h
      exact cr_all hc pins s σ H _ us Q I r ⟨p, bs, rfl, by rw [hK, ← vals_bools e q2]; exact q1, Post.okNow h Iv (.bl _)⟩
  | _ => exact h.elim
theorem cr_anyD (hK : X.K = G.K) (hc : X.calm = true) : CallR X (.builtin "any") (rU1 G W anyD) := by
  rintro pins s σ H xs us Q I r ⟨σ', S, P, g, x, a, rfl, Iv, da, h⟩
  cases a with
  | list ds =>
    obtain ⟨p, vs, rfl, q1, q2⟩ := da.list
    have h : Post G W S P σ' H Q (ofB g ((boolsD ds).map fun bs => (false, .bool (bs.any id)))) := h
    cases e : boolsD ds with
    | none => rw [e] at h; exact h.elim
    | some bs =>
      rw [e] at h
      exact cr_any hc pins s σ H _ us Q I r ⟨p, bs, rfl, by rw [hK, ← vals_bools e q2]; exact q1, Post.okNow h Iv (.bl _)⟩
  | _ => exact h.elim
theorem cr_intD : CallR X (.type "int") (rU1 G W intD) := by
  rintro pins s σ H xs us Q I r ⟨σ', S, P, g, x, a, rfl, Iv, da, h⟩
  cases a with
  | int i => exact call_int1 pins s σ H _ us Q I r (.inl ⟨i, by rw [dp_int da.dp], Post.okNow h Iv (.int _)⟩)
  | _ => exact h.elim
theorem cr_absD : CallR X (.builtin "abs") (rU1 G W absD) := by
  rintro pins s σ H xs us Q I r ⟨σ', S, P, g, x, a, rfl, Iv, da, h⟩
  cases a with
  | int i => exact call_abs pins s σ H _ us Q I r ⟨i, by rw [dp_int da.dp], Post.okNow h Iv (.int _)⟩
  | _ => exact h.elim
/-- a built-in function's call, a built-in class's -/
theorem pe_eU {f : U1} {x : Str} {id : String} {p : Pos} (hc : CallR X (.builtin id) (rU1 G W f)) (ha : PE X a (tP G W fa)) (hg : Gl X x) (hm : X.mg x = none) (hv : bootBuiltins x = some (.builtin id)) (hn : x ≠ "__name__" := by decide) (hdb : (x == ("__debug__" : Str)) = false := by decide)
    (hs : starEach [a] X.env = (false, eval a X.env) :: starEach [] X.env := by rfl) (hp : (backTo pos (starEach [] X.env)).any (·.1) = false := by rfl) : PE X (.Call (.Name x p) [a] [] pos) (tF G W (eU f fa)) :=
  pe_imp (pe_callB hc hg hm hv (pa_1 ha hs) hn hdb hs hp) tCB_of
theorem pe_eT {f : U1} {x : Str} {id : String} {p : Pos} (hc : CallR X (.type id) (rU1 G W f)) (ha : PE X a (tP G W fa)) (hg : Gl X x) (hm : X.mg x = none) (hv : bootBuiltins x = some (.type id)) (hn : x ≠ "__name__" := by decide) (hdb : (x == ("__debug__" : Str)) = false := by decide)
    (hs : starEach [a] X.env = (false, eval a X.env) :: starEach [] X.env := by rfl) (hp : (backTo pos (starEach [] X.env)).any (·.1) = false := by rfl) : PE X (.Call (.Name x p) [a] [] pos) (tF G W (eU f fa)) :=
  pe_imp (pe_callTy hc hg hm hv (pa_1 ha hs) hn hdb hs hp) tCB_of
/-! two arguments -/
def rU2 (G : Gh) (W : WX) (f : PyData → PyData → Option (Bool × PyData)) : List V → L2.Hp → VK → Prop := fun xs H Q => ∃ σ x y, xs = [x, y] ∧ At2 G W σ Q (fun a b g => ofB g (f a b)) x y H
theorem cr_maxD (hc : X.calm = true) : CallR X (.builtin "max") (rU2 G W maxD) := by
  rintro pins s σ H xs us Q I r ⟨σ', x, y, rfl, S, P, g, a, b, Iv, da, db, h⟩
  cases a with
  | int i => cases b with
    | int j => exact call_max2 hc pins s σ H _ us Q I r ⟨i, j, by rw [dp_int da.dp, dp_int db.dp], Post.okNow h Iv (.int _)⟩
    | _ => exact h.elim
  | _ => exact h.elim
theorem cr_minD (hc : X.calm = true) : CallR X (.builtin "min") (rU2 G W minD) := by
  rintro pins s σ H xs us Q I r ⟨σ', x, y, rfl, S, P, g, a, b, Iv, da, db, h⟩
  cases a with
  | int i => cases b with
    | int j => exact call_min2 hc pins s σ H _ us Q I r ⟨i, j, by rw [dp_int da.dp, dp_int db.dp], Post.okNow h Iv (.int _)⟩
    | _ => exact h.elim
  | _ => exact h.elim
theorem pe_eB2 {f : PyData → PyData → Option (Bool × PyData)} {x : Str} {id : String} {p : Pos} (hc : CallR X (.builtin id) (rU2 G W f)) (ha : PE X a (tF G W fa)) (hb : PE X b (tF G W fb)) (hg : Gl X x) (hm : X.mg x = none) (hv : bootBuiltins x = some (.builtin id)) (hn : x ≠ "__name__" := by decide) (hdb : (x == ("__debug__" : Str)) = false := by decide)
    (hs : starEach [a, b] X.env = (false, eval a X.env) :: starEach [b] X.env := by rfl) (hs2 : starEach [b] X.env = (false, eval b X.env) :: starEach [] X.env := by rfl) (hp : (backTo pos (starEach [b] X.env)).any (·.1) = false := by rfl) : PE X (.Call (.Name x p) [a, b] [] pos) (tF G W (eB2 f fa fb)) :=
  pe_imp (pe_callB hc hg hm hv (pa_cons ha (pa_cons (pp_of hb) pa_nil hs2) hs) hn hdb hs hp) fun σ H Q h => tF_mono (fun x H1 q => tP_mono (fun y H2 q => ⟨σ, x, y, rfl, q⟩) q) (tF_bind2 h)
/-! isinstance(x, T) -/
theorem tyx_of {K : PySem.W.Frag} {d : PyData} {x : V} {t : String} (dx : Dp K H x d) (ht : (match d with | .none => "NoneType" | .bool _ => "bool" | .int _ => "int" | .str _ => "str" | .list _ => "list" | .tuple _ => "tuple" | .dict _ => "dict") = t) : TyX K H x (.type t) := by
  subst ht
  cases d with
  | none => cases dx; exact .base .non
  | bool b => cases dx; exact .base (.bl b)
  | int i => cases dx; exact .base (.int i)
  | str z => cases dx; exact .base (.str z)
  | list ds =>
    cases dx with
    | lst hs ha =>
      rcases hs with (h | ⟨o, h⟩) | ⟨o, its, n, hk, hc, _⟩
      · exact .base (.lst h)
      · exact .base (.frz h)
      · exact .kList hk hc
  | tuple ds =>
    cases dx with
    | tup hs ha =>
      rcases hs with (h | ⟨o, h⟩) | ⟨o, its, n, hk, hc, _⟩
      · exact .base (.tup h)
      · exact .fTuple h
      · exact .kTuple hk hc
  | dict _ => exact (dp_dict dx).elim

abbrev tyN : PyData → String
  | .none => "NoneType" | .bool _ => "bool" | .int _ => "int" | .str _ => "str" | .list _ => "list" | .tuple _ => "tuple" | .dict _ => "dict"
theorem kitIs {t : String} (ht : t = "int" ∨ t = "bool" ∨ t = "str" ∨ t = "tuple" ∨ t = "list") (d : PyData) (nd : ∀ x, d ≠ .dict x) : ∃ b, kitB (tyN d) t = some b ∧ isiD t d = some (false, .bool b) := by
  rcases ht with rfl | rfl | rfl | rfl | rfl <;> cases d <;> first
    | exact absurd rfl (nd _)
    | exact ⟨true, (by dsimp only [tyN]; decide +kernel), rfl⟩
    | exact ⟨false, (by dsimp only [tyN]; decide +kernel), rfl⟩
theorem cr_isiD {t : String} (hK : X.K = G.K) (ht : t = "int" ∨ t = "bool" ∨ t = "str" ∨ t = "tuple" ∨ t = "list") : CallR X (.builtin "isinstance") (fun xs H Q => ∃ σ S P g x a, xs = [x, .ty t] ∧ Iv G S P g σ H ∧ DpP G.K P H x a ∧ Post G W S P σ H Q (ofB g (isiD t a))) := by
  rintro pins s σ H xs us Q I r ⟨σ', S, P, g, x, a, rfl, Iv, da, h⟩
  have nd : ∀ z, a ≠ .dict z := fun z e => by rw [e] at da; exact dp_dict da.dp
  obtain ⟨b, e1, e2⟩ := kitIs ht a nd
  rw [e2] at h
  have da2 : Dp X.K H x a := hK ▸ da.dp
  exact call_isi pins s σ H _ us Q I r ⟨x, .ty t, .type (tyN a), .type t, b, rfl, .ty t, tyx_of da2 (by cases a <;> rfl), kit_ty e1, Post.okNow h Iv (.bl _)⟩
theorem pe_isi {t : String} {x : Str} {p p2 : Pos} (hK : X.K = G.K) (ht : t = "int" ∨ t = "bool" ∨ t = "str" ∨ t = "tuple" ∨ t = "list") (ha : PE X a (tP G W fa)) (hg : Gl X "isinstance") (hm : X.mg "isinstance" = none) (hg2 : Gl X x) (hm2 : X.mg x = none) (hv2 : bootBuiltins x = some (.type t))
    (hn2 : x ≠ "__name__" := by decide) (hdb2 : (x == ("__debug__" : Str)) = false := by decide)
    (hv : bootBuiltins "isinstance" = some (.builtin "isinstance") := by decide +kernel)
    (hs : starEach [a, .Name x p2] X.env = (false, eval a X.env) :: starEach [.Name x p2] X.env := by rfl) (hs2 : starEach [.Name x p2] X.env = (false, eval (.Name x p2) X.env) :: starEach [] X.env := by rfl) (hp : (backTo pos (starEach [.Name x p2] X.env)).any (·.1) = false := by rfl) :
    PE X (.Call (.Name "isinstance" p) [a, .Name x p2] [] pos) (tF G W (eU (isiD t) fa)) :=
  pe_imp (pe_callB (cr_isiD (W := W) (t := t) hK ht) hg hm hv (pa_cons ha (pa_cons (pe_bltn hg2 hm2 hv2 (show RelV (.ty t) (.type t) from rfl) hn2 hdb2) pa_nil hs2) hs) (by decide) (by decide) hs hp) fun σ H Q h =>
    tP_mono (fun x H1 ⟨S, P, g, a, I, dx, q⟩ => ⟨σ, S, P, g, x, a, rfl, I, dx, q⟩) (tP_bind1 h)

/-! ### methods of texts -/
theorem vals_strs : ∀ {ds : List PyData} {bs : List Str} {vs : List V} {K : PySem.W.Frag} {F : L2.Hp}, strsD ds = some bs → DpAll K F vs ds → vs = bs.map V.str
  | [], _, _, _, _, e, h => by cases e; cases h; rfl
  | d :: ds, bs, _, _, _, e, h => by
    cases h with
    | cons h1 h2 =>
      cases d with
      | str b =>
        cases r : strsD ds with
        | none => simp [strsD, r] at e
        | some cs =>
          simp [strsD, r] at e
          subst e
          rw [dp_str h1, vals_strs r h2]
          rfl
      | _ => cases e
def rM2 (G : Gh) (W : WX) (f : PyData → PyData → Option PyData) : V → List V → L2.Hp → VK → Prop := fun x xs H Q => ∃ σ y, xs = [y] ∧ At2 G W σ Q (fun a b g => ofO g (f a b)) x y H
theorem mt_joinD (hK : X.K = G.K) : MtR X "str.join" (rM2 G W joinD) := by
  rintro pins s σ H x xs v us Q I rx rxs ⟨σ', y, rfl, S, P, g, a, b, Iv, da, db, h⟩
  have fin : ∀ (z : Str) (ds : List PyData) (p : Addr) (vs : List V), x = .str z → y = .ref p → (SqL X.K H p vs ∨ SqT X.K H p vs) → DpAll G.K (hide P H) vs ds →
      Post G W S P σ' H Q (ofO g ((strsD ds).bind fun ys => if (ys.map (·.length)).sum + ys.length * z.length ≤ 16777216 then some (.str (Txt.join z ys)) else none)) →
      wpAny (model X.prog X.w) X.A (call (.builtin "str.join") (v :: us)) (EP X pins σ Q) X.xe s := fun z ds p vs ex ey hq dq h => by
    cases e : strsD ds with
    | none => rw [e] at h; exact h.elim
    | some ys =>
      rw [e] at h
      have h : Post G W S P σ' H Q (ofO g (if (ys.map (·.length)).sum + ys.length * z.length ≤ 16777216 then some (.str (Txt.join z ys)) else none)) := h
      by_cases hz : (ys.map (·.length)).sum + ys.length * z.length ≤ 16777216
      · rw [if_pos hz] at h
        refine mt_join pins s σ H x _ v us Q I rx rxs ⟨z, p, ys, ex, by rw [ey], ?_, hz, Post.okNow h Iv (.str _)⟩
        rw [← vals_strs e dq]
        exact hq
      · rw [if_neg hz] at h; exact h.elim
  cases a with
  | str z =>
    cases b with
    | list ds =>
      obtain ⟨p, vs, ey, q1, q2⟩ := db.list
      exact fin z ds p vs (dp_str da.dp) ey (.inl (by rw [hK]; exact q1)) q2 h
    | tuple ds =>
      obtain ⟨p, vs, ey, q1, q2⟩ := dp_tuple (db.sh fun _ z => by cases z)
      exact fin z ds p vs (dp_str da.dp) ey (.inr (by rw [hK]; exact q1)) q2 h
    | _ => exact h.elim
  | _ => exact h.elim
theorem mt_swD : MtR X "str.startswith" (rM2 G W swD) := by
  rintro pins s σ H x xs v us Q I rx rxs ⟨σ', y, rfl, S, P, g, a, b, Iv, da, db, h⟩
  cases a with
  | str z => cases b with
    | str w => exact mt_startswith pins s σ H x _ v us Q I rx rxs ⟨z, w, dp_str da.dp, by rw [dp_str db.dp], Post.okNow h Iv (.bl _)⟩
    | _ => exact h.elim
  | _ => exact h.elim
theorem tM1_of {f : PyData → PyData → Option PyData} : ∀ σ H Q, tF G W (eM2 f fa fb) σ H Q → tM1 (rM2 G W f) (tF G W fa) (tP G W fb) σ H Q := fun σ H Q h => tF_mono (fun x H1 ⟨S, P, g, d, I, dx, q⟩ => by
  cases d with
  | str z =>
    have ex := dp_str dx
    refine ⟨⟨z, ex⟩, S, P, g, I, (PostP.andThen q).mono ?_⟩
    rintro y H2 ⟨e, g2, I2, gr2, dy, q2⟩
    exact ⟨σ, y, rfl, S, P, g2, .str z, e, I2, .inl (dp_le (gr2.leS I2) _ _ dx), dy, q2⟩
  | _ => exact q.elim) (tF_bind1 h)
theorem pe_eM2 {f : PyData → PyData → Option PyData} {id : String} {name : Str} {apos : Pos} (slot : PySem.Slot "str" name id) (hty : typeOf (.builtin id) = pure (.type "method_descriptor")) (hm : MtR X id (rM2 G W f)) (ha : PE X a (tF G W fa)) (hb : PE X b (tP G W fb))
    (hs : starEach [b] X.env = [(false, eval b X.env)] := by rfl) (hbase : attributeBase a name X.env (eval a X.env) = eval a X.env := by rfl) (hline : (apos.endLine == pos.line) = true := by rfl) :
    PE X (.Call (.Attribute a name apos) [b] [] pos) (tF G W (eM2 f fa fb)) := pe_imp (pe_m1 slot hty hm ha hb hs hbase hline) tM1_of
end
end Ev

set_option Elab.async false
set_option linter.all false
set_option maxRecDepth 100000
set_option maxHeartbeats 4000000
/-! EvG: targets, walks, comprehensions. -/
namespace Ev
open PySem PySem.Spec PyProof.Rows L2
section
variable {X : Cx} {G : Gh} {W : WX} {S P : List Addr} {σ : L2.St} {H H1 : L2.Hp} {Q Q' : VK} {g : Gam} {pos : Pos} {a b c : Expr} {fa fb fc : ME}
/-! ### stores -/
theorem set_get {α : Type} {l : List α} {i j : Nat} {x : α} (h : i < l.length) : (l.set i x)[j]? = if j = i then some x else l[j]? := by
  by_cases e : j = i
  · subst e; rw [if_pos rfl, List.getElem?_set_self h]
  · rw [if_neg e, List.getElem?_set_ne (Ne.symm e)]
/-- a slot that holds nothing of its own -/
theorem Iv.slotSet {g' : Gam} {i : Nat} {s : Slot} {x : Option V} (I : Iv G S P g σ H) (hi : i < g.length) (hs : ¬ isOwn s) (hx : SlotOk G.K S P H (some x) s) : Iv G S P (g.set i s) (σ.set i x) H := by
  have hσ : i < σ.length := by rw [← I.len]; exact hi
  have at' : ∀ j t, (g.set i s)[j]? = some t → (j = i ∧ t = s) ∨ (j ≠ i ∧ g[j]? = some t ∧ (σ.set i x)[j]? = σ[j]?) := fun j t e => by
    rw [set_get hi] at e
    by_cases ej : j = i
    · rw [if_pos ej] at e; cases e; exact .inl ⟨ej, rfl⟩
    · rw [if_neg ej] at e; exact .inr ⟨ej, e, by rw [set_get hσ, if_neg ej]⟩
  refine ⟨by rw [List.length_set, List.length_set]; exact I.len, fun j t e => ?_, fun j k t u ad hjk e1 e2 o1 o2 a1 a2 => ?_, fun j o ad e a1 => ?_, fun j o ad e a1 => ?_, I.grow, I.keep, I.sS, I.sP, I.new, I.mem, I.sT, I.tabs⟩
  · rcases at' j t e with ⟨rfl, rfl⟩ | ⟨hj, e1, e2⟩
    · rw [set_get hσ, if_pos rfl]; exact hx
    · rw [e2]; exact I.slot j t e1
  · rcases at' j t e1 with ⟨_, rfl⟩ | ⟨hj, f1, f2⟩
    · exact hs o1
    · rcases at' k u e2 with ⟨_, rfl⟩ | ⟨hk, f3, f4⟩
      · exact hs o2
      · rw [f2] at a1; rw [f4] at a2
        exact I.dis j k t u ad hjk f1 f3 o1 o2 a1 a2
  · rcases at' j _ e with ⟨_, rfl⟩ | ⟨hj, f1, f2⟩
    · exact (hs trivial).elim
    · rw [f2] at a1; exact I.src j o ad f1 a1
  · rcases at' j _ e with ⟨_, rfl⟩ | ⟨hj, f1, f2⟩
    · exact (hs trivial).elim
    · rw [f2] at a1; exact I.lent j o ad f1 a1
theorem put_some {g g' : Gam} {i : Nat} {s : Slot} (h : put g i s = some g') : i < g.length ∧ g' = g.set i s := by
  unfold put at h
  split at h
  · cases h
  · rename_i e
    cases h
    exact ⟨(List.getElem?_eq_some_iff.mp e).1, rfl⟩
  · cases h
theorem Iv.setSh {g' : Gam} {i : Nat} {d : PyData} {v : V} (I : Iv G S P g σ H) (h : put g i (.sh d) = some g') (dv : Dp G.K (hide P H) v d) : Iv G S P g' (σ.set i (some v)) H := by
  obtain ⟨hi, rfl⟩ := put_some h
  exact I.slotSet (g' := g) hi (fun z => z) ⟨v, rfl, dv⟩
theorem SlotOk.more {K : PySem.W.Frag} {S' : List Addr} {x : Option (Option V)} {s : Slot} (h : SlotOk K S P H x s) (m : ∀ b ∈ S, b ∈ S') : SlotOk K S' P H x s := by
  cases s with
  | un => trivial
  | sh d => exact h
  | ow o => obtain ⟨a, e1, e2, e3⟩ := h; exact ⟨a, e1, m _ e2, e3⟩
  | br o => obtain ⟨a, e1, e2, e3⟩ := h; exact ⟨a, e1, m _ e2, e3⟩
theorem SlotOk.own_in {K : PySem.W.Frag} {x : Option (Option V)} {s : Slot} {ad : Addr} (h : SlotOk K S P H x s) (o : isOwn s) (e : x = some (some (.ref ad))) : ad ∈ S := by
  cases s with
  | un => exact o.elim
  | sh d => exact o.elim
  | ow w => obtain ⟨a, e1, e2, e3⟩ := h; rw [e] at e1; cases e1; exact e2
  | br w => obtain ⟨a, e1, e2, e3⟩ := h; rw [e] at e1; cases e1; exact e2
theorem Iv.setOw {g' : Gam} {i : Nat} {o : Own} {ad : Addr} (I : Iv G S (ad :: P) g σ H) (hS : ∀ b ∈ S, b ∈ P) (hP : ∀ b ∈ G.P0, b ∈ P) (n : ad ∉ P) (h : put g i (.ow o) = some g') (ow : OwnAt G.K (ad :: P) H ad o) : Iv G (ad :: S) (ad :: P) g' (σ.set i (some (.ref ad))) H := by
  obtain ⟨hi, rfl⟩ := put_some h
  have hσ : i < σ.length := by rw [← I.len]; exact hi
  have hn : ad ∉ G.P0 ∧ Free G.H0 ad := ⟨fun z => n (hP _ z), (I.new ad List.mem_cons_self).resolve_left fun z => n (hP _ z)⟩
  have nS : ad ∉ S := fun z => n (hS _ z)
  have at' : ∀ j t, (g.set i (.ow o))[j]? = some t → (j = i ∧ t = .ow o) ∨ (j ≠ i ∧ g[j]? = some t ∧ (σ.set i (some (.ref ad)))[j]? = σ[j]?) := fun j t e => by
    rw [set_get hi] at e
    by_cases ej : j = i
    · rw [if_pos ej] at e; cases e; exact .inl ⟨ej, rfl⟩
    · rw [if_neg ej] at e; exact .inr ⟨ej, e, by rw [set_get hσ, if_neg ej]⟩
  have atI : (σ.set i (some (V.ref ad)))[i]? = some (some (.ref ad)) := by rw [set_get hσ, if_pos rfl]
  refine ⟨by rw [List.length_set, List.length_set]; exact I.len, fun j t e => ?_, fun j k t u a2 hjk e1 e2 o1 o2 a3 a4 => ?_, fun j o2 a2 e a1 => ?_, fun j o2 a2 e a1 => ?_, I.grow, I.keep, fun b hb => ?_, I.sP, I.new, I.mem, I.sT, I.tabs⟩
  · rcases at' j t e with ⟨rfl, rfl⟩ | ⟨hj, e1, e2⟩
    · rw [atI]; exact ⟨ad, rfl, List.mem_cons_self, ow⟩
    · rw [e2]; exact (I.slot j t e1).more fun b hb => .tail _ hb
  · rcases at' j t e1 with ⟨rfl, rfl⟩ | ⟨hj, f1, f2⟩
    · rcases at' k u e2 with ⟨rfl, _⟩ | ⟨hk, f3, f4⟩
      · exact hjk rfl
      · rw [atI] at a3; cases a3
        rw [f4] at a4
        exact nS ((I.slot k u f3).own_in o2 a4)
    · rcases at' k u e2 with ⟨rfl, _⟩ | ⟨hk, f3, f4⟩
      · rw [atI] at a4; cases a4
        rw [f2] at a3
        exact nS ((I.slot j t f1).own_in o1 a3)
      · rw [f2] at a3; rw [f4] at a4
        exact I.dis j k t u a2 hjk f1 f3 o1 o2 a3 a4
  · rcases at' j _ e with ⟨rfl, q⟩ | ⟨hj, f1, f2⟩
    · rw [atI] at a1; cases a1; exact hn
    · rw [f2] at a1; exact I.src j o2 a2 f1 a1
  · rcases at' j _ e with ⟨rfl, q⟩ | ⟨hj, f1, f2⟩
    · cases q
    · rw [f2] at a1; exact I.lent j o2 a2 f1 a1
  · rcases List.mem_cons.mp hb with z | z
    · rw [z]; exact List.mem_cons_self
    · exact I.sS b z

/-! ### targets -/
mutual
def Tg.nms : Tg → List Nat
  | .nm i => [i]
  | .tp ts => nmsL ts
def nmsL : List Tg → List Nat
  | [] => []
  | t :: ts => t.nms ++ nmsL ts
end
/-- slots but those of some names stay -/
def Keeps (ns : List Nat) (σ σ' : L2.St) : Prop := σ'.length = σ.length ∧ ∀ j, j ∉ ns → σ'[j]? = σ[j]?
def tG (G : Gh) (t : Tg) : TG := fun v σ H Q => ∃ S P g d g', Iv G S P g σ H ∧ Dp G.K (hide P H) v d ∧ tgD t d g = some g' ∧ ∀ σ', Keeps t.nms σ σ' → Iv G S P g' σ' H → Q σ' H
def tGs (G : Gh) (ts : List Tg) : TGs := fun vs σ H Q => ∃ S P g ds g', Iv G S P g σ H ∧ DpAll G.K (hide P H) vs ds ∧ tgL ts ds g = some g' ∧ ∀ σ', Keeps (nmsL ts) σ σ' → Iv G S P g' σ' H → Q σ' H
theorem pg_imp {t : Expr} {u u' : TG} (h : PG X t u) (i : ∀ v σ H Q, u' v σ H Q → u v σ H Q) : PG X t u' := ⟨fun pins s σ H v w Q I r q => h.run pins s σ H v w Q I r (i _ _ _ _ q)⟩
theorem pgs_imp {t : List Expr} {u u' : TGs} (h : PGs X t u) (i : ∀ v σ H Q, u' v σ H Q → u v σ H Q) : PGs X t u' := ⟨fun pins s σ H v w Q I r q => h.run pins s σ H v w Q I r (i _ _ _ _ q)⟩
theorem pg_nm {i : Nat} {e : Expr} (h : PG X e (gName i)) : PG X e (tG G (.nm i)) := pg_imp h fun v σ H Q ⟨S, P, g, d, g', I, dv, e, q⟩ => by
  refine q _ ⟨List.length_set .., fun j hj => ?_⟩ (I.setSh e dv)
  have hj : j ≠ i := fun z => hj (by rw [z]; exact List.mem_cons_self)
  exact List.getElem?_set_ne (Ne.symm hj)
theorem pgs_n : PGs X [] (tGs G []) := pgs_imp pgs_nil fun vs σ H Q ⟨S, P, g, ds, g', I, dv, e, q⟩ => by
  cases ds with
  | nil => cases dv; cases e; exact ⟨rfl, q σ ⟨rfl, fun _ _ => rfl⟩ I⟩
  | cons _ _ => cases e
theorem pgs_c {e : Expr} {es : List Expr} {t : Tg} {ts : List Tg} (h : PG X e (tG G t)) (h2 : PGs X es (tGs G ts)) (hs : (assignEach (e :: es) X.env).map (·.2) = assign e X.env :: (assignEach es X.env).map (·.2) := by rfl) : PGs X (e :: es) (tGs G (t :: ts)) :=
  pgs_imp (pgs_cons h h2 hs) fun vs σ H Q ⟨S, P, g, ds, g', I, dv, e, q⟩ => by
    cases ds with
    | nil => cases e
    | cons d ds =>
      cases dv with
      | cons d1 d2 =>
        have e : (tgD t d g).bind (fun g => tgL ts ds g) = some g' := e
        cases r : tgD t d g with
        | none => rw [r] at e; cases e
        | some g1 =>
          rw [r] at e
          refine ⟨_, _, rfl, S, P, g, d, g1, I, d1, r, fun σ1 k1 I1 => ⟨S, P, g1, ds, g', I1, d2, e, fun σ2 k2 I2 => q σ2 ⟨k2.1.trans k1.1, fun j hj => ?_⟩ I2⟩⟩
          rw [show nmsL (t :: ts) = t.nms ++ nmsL ts from rfl, List.mem_append, not_or] at hj
          rw [k2.2 j hj.2, k1.2 j hj.1]
theorem pg_tp {es : List Expr} {k : Nat} {ts : List Tg} {n : Nat} (hK : X.K = G.K) (hc : X.calm = true) (h : PGs X es (tGs G ts)) (hl : ts.length = n := by rfl) (hn : (assignEach es X.env).length = n := by rfl) (hst : (assignEach es X.env).findIdx? (·.1) = none := by rfl) : PG X (.Tuple es k pos) (tG G (.tp ts)) :=
  pg_imp (pg_tup (n := n) hc h hn hst) fun v σ H Q ⟨S, P, g, d, g', I, dv, e, q⟩ => by
    cases d with
    | tuple ds =>
      obtain ⟨ad, vs, rfl, q1, q2⟩ := dp_tuple dv
      have e : tgL ts ds g = some g' := e
      have len : ∀ (ts : List Tg) (ds : List PyData) (g g' : Gam), tgL ts ds g = some g' → ds.length = ts.length := by
        intro ts
        induction ts with
        | nil => intro ds g g' e; cases ds with | nil => rfl | cons _ _ => cases e
        | cons t ts ih =>
          intro ds g g' e
          cases ds with
          | nil => cases e
          | cons d ds =>
            have e : (tgD t d g).bind (fun g => tgL ts ds g) = some g' := e
            cases r : tgD t d g with
            | none => rw [r] at e; cases e
            | some g1 => rw [r] at e; simp [ih ds g1 g' e]
      exact ⟨ad, vs, rfl, by rw [hK]; exact q1, by rw [dpAll_len q2, len ts ds g g' e, hl], S, P, g, ds, g', I, q2, e, q⟩
    | _ => cases e

/-! ### walks -/
/-- the walk yields these, whatever else is done meanwhile -/
def ItOk (K : PySem.W.Frag) (P : List Addr) (H : L2.Hp) (J : It) (items : List PyData) : Prop :=
  ∀ P' H', LeH (hide P H) (hide P' H') → (∀ b ∈ P', ∃ xs, H' b = some (.lst xs)) → ∀ i,
    (∀ d, items[i]? = some d → J.go i H' ∧ ∀ x H2, J.yld i H' x H2 → (H2 = H' ∨ ∃ p o, H' p = none ∧ H2 = upd H' p o) ∧ Dp K (hide P' H2) x d) ∧ (items.length ≤ i → J.stop i H')
def PostI (G : Gh) (W : WX) (S P : List Addr) (σ : L2.St) (H : L2.Hp) (R : It → L2.Hp → Prop) : RL → Prop
  | .ok items g' => ∀ J H', Iv G S P g' σ H' → Grow S H H' → ItOk G.K P H' J items → R J H'
  | .ex x g' => ∀ cls d H', Iv G S P g' σ H' → Grow S H H' → ExnAt G P x cls d H' → W cls d σ H'
  | .bad => False
def tI (G : Gh) (W : WX) (l : ML) : TI := fun σ H R => ∃ S P g, Iv G S P g σ H ∧ PostI G W S P σ H R (l g)
theorem PostI.rebase {R : It → L2.Hp → Prop} {r : RL} (gr : Grow S H H1) (h : PostI G W S P σ H R r) : PostI G W S P σ H1 R r := by
  cases r with
  | ok d g' => exact fun J H' a b c => h J H' a (gr.trans b) c
  | ex x g' => exact fun v H' Q a b c => h v H' Q a (gr.trans b) c
  | bad => exact h
theorem Post.thenI {R : It → L2.Hp → Prop} {r : RE} {k : PyData → Gam → RL} (I : Iv G S P g σ H) (h : PostI G W S P σ H R (r.thenL k)) :
    Post G W S P σ H (fun v H1 => ∃ d g1, Iv G S P g1 σ H1 ∧ Grow S H H1 ∧ Dp G.K (hide P H1) v d ∧ PostI G W S P σ H1 R (k d g1)) r := by
  cases r with
  | ok d g' => exact fun v H' a b c => ⟨d, g', a, b, c, .rebase b h⟩
  | fr o g' => exact fun a H' n n2 e J gr ow => ⟨o.d, g', J.drop I.sS I.sP, gr, own_dp n ow, .rebase gr h⟩
  | ex x g' => exact h
  | bad => exact h
/-- the value's kind, told ahead -/
def REd : RE → Option PyData
  | .ok d _ => some d
  | .fr o _ => some o.d
  | _ => none
theorem Post.withKind {r : RE} (h : Post G W S P σ H Q r) (h2 : ∀ d, REd r = some d → Post G W S P σ H Q' r) (hx : REd r = none → Post G W S P σ H Q' r) : Post G W S P σ H Q' r := by
  cases e : REd r with
  | none => exact hx e
  | some d => exact h2 d e
theorem items_list {ds : List PyData} {p : Addr} {vs : List V} (hq : SqL G.K (hide P H) p vs) (ha : DpAll G.K (hide P H) vs ds) : ItOk G.K P H (Itl G.K p) ds := fun P' H' le hm i => by
  have hq' : SqL G.K H' p vs := sqL_le hide_le (sqL_le le hq)
  refine ⟨fun d e => ?_, fun hl => ⟨vs, hq', by rw [dpAll_len ha]; exact hl⟩⟩
  obtain ⟨v, e1, e2⟩ := dpAll_get ha e
  refine ⟨⟨vs, v, hq', e1⟩, fun x H2 y => ?_⟩
  obtain ⟨rfl, y⟩ := y
  have := y vs hq'
  rw [e1] at this; cases this
  exact ⟨.inl rfl, dp_le le _ _ e2⟩
theorem items_tup {ds : List PyData} {p : Addr} {vs : List V} (hq : SqT G.K (hide P H) p vs) (ha : DpAll G.K (hide P H) vs ds) : ItOk G.K P H (Itt G.K p) ds := fun P' H' le hm i => by
  have hq' : SqT G.K H' p vs := sqT_le hide_le (sqT_le le hq)
  refine ⟨fun d e => ?_, fun hl => ⟨vs, hq', by rw [dpAll_len ha]; exact hl⟩⟩
  obtain ⟨v, e1, e2⟩ := dpAll_get ha e
  refine ⟨⟨vs, v, hq', e1⟩, fun x H2 y => ?_⟩
  obtain ⟨rfl, y⟩ := y
  have := y vs hq'
  rw [e1] at this; cases this
  exact ⟨.inl rfl, dp_le le _ _ e2⟩
theorem items_str {z : Str} : ItOk G.K P H (Its z) (z.cps.toList.map chD) := fun P' H' le hm i => by
  refine ⟨fun d e => ?_, fun hl => ?_⟩
  · rw [List.getElem?_map] at e
    cases r : z.cps.toList[i]? with
    | none => rw [r] at e; cases e
    | some c =>
      rw [r] at e
      cases e
      have hi : i < z.cps.size := by have := (List.getElem?_eq_some_iff.mp r).1; simpa using this
      refine ⟨hi, fun x H2 y => ?_⟩
      obtain ⟨rfl, c', e', rfl⟩ := y
      rw [Array.getElem?_toList] at r
      rw [e'] at r; cases r
      exact ⟨.inl rfl, .str _⟩
  · show z.cps.size ≤ i
    simpa using hl
theorem items_rng {lo : Int} {n : Nat} : ItOk G.K P H (Itr lo n) ((List.range n).map fun (k : Nat) => .int (lo + k)) := fun P' H' le hm i => by
  refine ⟨fun d e => ?_, fun hl => ?_⟩
  · rw [List.getElem?_map] at e
    cases r : (List.range n)[i]? with
    | none => rw [r] at e; cases e
    | some c =>
      rw [r] at e
      cases e
      obtain ⟨h1, h2⟩ := List.getElem?_eq_some_iff.mp r
      rw [List.getElem_range] at h2
      subst h2
      have h3 : i < n := by simpa using h1
      refine ⟨h3, fun x H2 y => ?_⟩
      obtain ⟨rfl, rfl⟩ := y
      exact ⟨.inl rfl, .int _⟩
  · show n ≤ i
    simpa using hl
theorem pi_iSeq {tg l : Expr} {f : ME} (hK : X.K = G.K) (hl : PE X l (tF G W f)) : PI X tg l (tI G W (iSeq f)) := ⟨fun pins s σ H R I ⟨S, P, g, Jv, q⟩ => by
  have q : PostI G W S P σ H R ((f g).thenL fun d g => .ofO g (itemsD d)) := q
  have mk : ∀ {Q2 : VK} (d : PyData), REd (f g) = some d → (∀ v H1 g1, Iv G S P g1 σ H1 → Dp G.K (hide P H1) v d → PostI G W S P σ H1 R (RL.ofO g1 (itemsD d)) → Q2 v H1) → Post G W S P σ H Q2 (f g) := fun {Q2} d e m => by
    cases r : f g with
    | ok d' g' =>
      rw [r] at e q
      cases e
      exact fun v H1 a b c => m v H1 g' a c (.rebase b q)
    | fr o g' =>
      rw [r] at e q
      cases e
      exact fun a H1 n n2 en J gr ow => m _ H1 g' (J.drop Jv.sS Jv.sP) (own_dp n ow) (.rebase gr q)
    | ex x g' => rw [r] at e; cases e
    | bad => rw [r] at e; cases e
  cases e : REd (f g) with
  | none =>
    refine (pi_list (tg := tg) hl).run pins s σ H R I ⟨S, P, g, Jv, ?_⟩
    cases r : f g with
    | ok d' g' => rw [r] at e; cases e
    | fr o g' => rw [r] at e; cases e
    | ex x g' => rw [r] at q; exact q
    | bad => rw [r] at q; exact q
  | some d =>
    cases d with
    | list ds =>
      refine (pi_list (tg := tg) hl).run pins s σ H R I ⟨S, P, g, Jv, mk _ e fun v H1 g1 I1 dv p1 => ?_⟩
      cases dv with
      | lst hs ha => exact ⟨_, rfl, ⟨_, by rw [hK]; exact sqL_le hide_le hs⟩, by rw [hK]; exact p1 _ H1 I1 (.refl S H1) (items_list hs ha)⟩
    | tuple ds =>
      refine (pi_tup (tg := tg) hl).run pins s σ H R I ⟨S, P, g, Jv, mk _ e fun v H1 g1 I1 dv p1 => ?_⟩
      cases dv with
      | tup hs ha => exact ⟨_, rfl, ⟨_, by rw [hK]; exact sqT_le hide_le hs⟩, by rw [hK]; exact p1 _ H1 I1 (.refl S H1) (items_tup hs ha)⟩
    | str z => exact (pi_str (tg := tg) hl).run pins s σ H R I ⟨S, P, g, Jv, mk _ e fun v H1 g1 I1 dv p1 => ⟨z, dp_str dv, p1 _ H1 I1 (.refl S H1) items_str⟩⟩
    | _ => exact (pi_list (tg := tg) hl).run pins s σ H R I ⟨S, P, g, Jv, mk _ e fun v H1 g1 I1 dv p1 => p1.elim⟩⟩
theorem pi_iRng {tg l : Expr} {f : ME} {p : Pos} (hg : Gl X "range") (hm : X.mg "range" = none) (hl : PE X l (tF G W f)) (hs : starEach [l] X.env = [(false, eval l X.env)] := by rfl) : PI X tg (.Call (.Name "range" p) [l] [] pos) (tI G W (iRng f)) :=
  ⟨fun pins s σ H R I ⟨S, P, g, Jv, q⟩ => (pi_range1 hg hm (pa_cons hl pa_nil hs) hs).run pins s σ H R I ⟨S, P, g, Jv, (Post.thenI Jv q).mono fun v H1 ⟨d, g1, I1, gr, dv, p1⟩ => by
    cases d with
    | int n =>
      have p1 : PostI G W S P σ H1 R (RL.ofO g1 (rngD 0 n)) := p1
      unfold rngD at p1
      by_cases z : (0 : Int) < 2 ^ 62 ∧ -(2 ^ 62) ≤ (0 : Int) ∧ n < 2 ^ 62 ∧ -(2 ^ 62) ≤ n
      · rw [if_pos z] at p1
        exact ⟨n, by rw [dp_int dv], z.2.2.2, z.2.2.1, p1 (Itr 0 n.toNat) H1 I1 (.refl S H1) (by rw [show (n - 0).toNat = n.toNat by simp]; exact items_rng)⟩
      · rw [if_neg z] at p1; exact p1.elim
    | _ => exact p1.elim⟩⟩
theorem pi_iRng2 {tg l m : Expr} {f h : ME} {p : Pos} (hg : Gl X "range") (hm : X.mg "range" = none) (hl : PE X l (tF G W f)) (hr : PE X m (tF G W h)) (hs : starEach [l, m] X.env = [(false, eval l X.env), (false, eval m X.env)] := by rfl) (hs2 : starEach [m] X.env = [(false, eval m X.env)] := by rfl) :
    PI X tg (.Call (.Name "range" p) [l, m] [] pos) (tI G W (iRng2 f h)) :=
  ⟨fun pins s σ H R I ⟨S, P, g, Jv, q⟩ => (pi_range2 hg hm (pa_cons hl (pa_cons hr pa_nil hs2) (by rw [hs, hs2])) hs hs2).run pins s σ H R I ⟨S, P, g, Jv, (Post.thenI Jv q).mono fun v H1 ⟨d, g1, I1, gr, dv, p1⟩ => ⟨S, P, g1, I1, (Post.thenI I1 p1).mono fun v2 H2 ⟨d2, g2, I2, gr2, dv2, p2⟩ => by
    cases d with
    | int m => cases d2 with
      | int n =>
        have p2 : PostI G W S P σ H2 R (RL.ofO g2 (rngD m n)) := p2
        unfold rngD at p2
        by_cases z : m < 2 ^ 62 ∧ -(2 ^ 62) ≤ m ∧ n < 2 ^ 62 ∧ -(2 ^ 62) ≤ n
        · rw [if_pos z] at p2
          exact ⟨m, n, by rw [dp_int dv, dp_int dv2], ⟨z.2.1, z.1, z.2.2.2, z.2.2.1⟩, p2 (Itr m (n - m).toNat) H2 I2 (.refl S H2) items_rng⟩
        · rw [if_neg z] at p2; exact p2.elim
      | _ => exact p2.elim
    | _ => cases d2 <;> exact p2.elim⟩⟩⟩
theorem items_zipL {ds es : List PyData} {p q : Addr} {vs ws : List V} (hq : SqL G.K (hide P H) p vs) (ha : DpAll G.K (hide P H) vs ds) (hq2 : SqL G.K (hide P H) q ws) (ha2 : DpAll G.K (hide P H) ws es) : ItOk G.K P H (Itz G.K p q) (List.zipWith (fun x y => .tuple [x, y]) ds es) := fun P' H' le hm i => by
  have q1 : SqL G.K H' p vs := sqL_le hide_le (sqL_le le hq)
  have q2 : SqL G.K H' q ws := sqL_le hide_le (sqL_le le hq2)
  refine ⟨fun d e => ?_, fun hl => ⟨vs, ws, q1, q2, ?_⟩⟩
  · rw [List.getElem?_zipWith] at e
    cases e1 : ds[i]? with
    | none => rw [e1] at e; cases e
    | some x =>
      cases e2 : es[i]? with
      | none => rw [e1, e2] at e; cases e
      | some y =>
        rw [e1, e2] at e; cases e
        obtain ⟨v, f1, f2⟩ := dpAll_get ha e1
        obtain ⟨w, f3, f4⟩ := dpAll_get ha2 e2
        refine ⟨⟨vs, ws, v, w, q1, q2, f1, f3⟩, fun z H2 yl => ?_⟩
        obtain ⟨T, x', y', rfl, hT, rfl, g1, g2⟩ := yl
        have z1 := g1 vs q1
        have z2 := g2 ws q2
        rw [f1] at z1; cases z1
        rw [f3] at z2; cases z2
        have nT : T ∉ P' := fun z => by obtain ⟨xs, e⟩ := hm T z; rw [hT] at e; cases e
        have l2 : LeH (hide P' H') (hide P' (upd H' T (.tup [v, w]))) := (Grow.upd (P := P') hT).le
        refine ⟨.inr ⟨T, _, hT, rfl⟩, .tup (.of ?_) (.cons (dp_le l2 _ _ (dp_le le _ _ f2)) (.cons (dp_le l2 _ _ (dp_le le _ _ f4)) .nil))⟩
        rw [hide_out nT]
        exact upd_same
  · rw [dpAll_len ha, dpAll_len ha2]
    rw [List.length_zipWith] at hl
    omega
theorem items_zipT {ds es : List PyData} {p q : Addr} {vs ws : List V} (hq : SqT G.K (hide P H) p vs) (ha : DpAll G.K (hide P H) vs ds) (hq2 : SqT G.K (hide P H) q ws) (ha2 : DpAll G.K (hide P H) ws es) : ItOk G.K P H (RZ.ItzT G.K p q) (List.zipWith (fun x y => .tuple [x, y]) ds es) := fun P' H' le hm i => by
  have q1 : SqT G.K H' p vs := sqT_le hide_le (sqT_le le hq)
  have q2 : SqT G.K H' q ws := sqT_le hide_le (sqT_le le hq2)
  refine ⟨fun d e => ?_, fun hl => ⟨vs, ws, q1, q2, ?_⟩⟩
  · rw [List.getElem?_zipWith] at e
    cases e1 : ds[i]? with
    | none => rw [e1] at e; cases e
    | some x =>
      cases e2 : es[i]? with
      | none => rw [e1, e2] at e; cases e
      | some y =>
        rw [e1, e2] at e; cases e
        obtain ⟨v, f1, f2⟩ := dpAll_get ha e1
        obtain ⟨w, f3, f4⟩ := dpAll_get ha2 e2
        refine ⟨⟨vs, ws, v, w, q1, q2, f1, f3⟩, fun z H2 yl => ?_⟩
        obtain ⟨T, x', y', rfl, hT, rfl, g1, g2⟩ := yl
        have z1 := g1 vs q1
        have z2 := g2 ws q2
        rw [f1] at z1; cases z1
        rw [f3] at z2; cases z2
        have nT : T ∉ P' := fun z => by obtain ⟨xs, e⟩ := hm T z; rw [hT] at e; cases e
        have l2 : LeH (hide P' H') (hide P' (upd H' T (.tup [v, w]))) := (Grow.upd (P := P') hT).le
        refine ⟨.inr ⟨T, _, hT, rfl⟩, .tup (.of ?_) (.cons (dp_le l2 _ _ (dp_le le _ _ f2)) (.cons (dp_le l2 _ _ (dp_le le _ _ f4)) .nil))⟩
        rw [hide_out nT]
        exact upd_same
  · rw [dpAll_len ha, dpAll_len ha2]
    rw [List.length_zipWith] at hl
    omega
theorem pi_iZip {elts : List Expr} {kk : Nat} {tpos p : Pos} {a b : Expr} {fa fb : ME} (hK : X.K = G.K) (hg : Gl X "zip") (hm : X.mg "zip" = none) (ha : PE X a (tF G W fa)) (hb : PE X b (tF G W fb)) (hs : starEach [a, b] X.env = (false, eval a X.env) :: starEach [b] X.env := by rfl)
    (hs2 : starEach [b] X.env = (false, eval b X.env) :: starEach [] X.env := by rfl) (hpl : (backTo pos (starEach [b] X.env)).any (·.1) = false := by rfl) : PI X (.Tuple elts kk tpos) (.Call (.Name "zip" p) [a, b] [] pos) (tI G W (iZip fa fb)) :=
  ⟨fun pins s σ H R I ⟨S, P, g, Jv, q⟩ => (RZ.pi_zipA hg hm (pa_cons ha (pa_cons hb pa_nil hs2) hs) hs hpl).run pins s σ H R I ⟨S, P, g, Jv, (Post.thenI Jv q).mono fun v H1 ⟨d, g1, I1, gr, dv, p1⟩ => ⟨S, P, g1, I1, (Post.thenI I1 p1).mono fun v2 H2 ⟨d2, g2, I2, gr2, dv2, p2⟩ => by
    have dv' := dp_le (gr2.leS I2) _ _ dv
    cases d with
    | list ds => cases d2 with
      | list es =>
        cases dv' with
        | lst h1 h2 => cases dv2 with
          | lst h3 h4 => exact ⟨_, _, _, _, rfl, .inl ⟨by rw [hK]; exact sqL_le hide_le h1, by rw [hK]; exact sqL_le hide_le h3, by rw [hK]; exact p2 _ H2 I2 (.refl S H2) (items_zipL h1 h2 h3 h4)⟩⟩
      | _ => exact p2.elim
    | tuple ds => cases d2 with
      | tuple es =>
        cases dv' with
        | tup h1 h2 => cases dv2 with
          | tup h3 h4 => exact ⟨_, _, _, _, rfl, .inr ⟨by rw [hK]; exact sqT_le hide_le h1, by rw [hK]; exact sqT_le hide_le h3, by rw [hK]; exact p2 _ H2 I2 (.refl S H2) (items_zipT h1 h2 h3 h4)⟩⟩
      | _ => exact p2.elim
    | _ => cases d2 <;> exact p2.elim⟩⟩⟩
end
end Ev

set_option Elab.async false
set_option linter.all false
set_option maxRecDepth 100000
set_option maxHeartbeats 4000000
/-! EvH: comprehensions. -/
namespace Ev
open PySem PySem.Spec PyProof.Rows L2
def WF : WX := fun _ _ _ _ => False
section
variable {X : Cx} {G : Gh} {W : WX} {S P : List Addr} {σ : L2.St} {H H1 : L2.Hp} {Q Q' : VK} {g : Gam} {pos : Pos}
theorem wipeG_len (g : Gam) : ∀ vs, (wipeG g vs).length = g.length
  | [] => rfl
  | v :: vs => by unfold wipeG; rw [List.length_set, wipeG_len g vs]
theorem wipe_get (σ : L2.St) : ∀ (vs : List Nat) (j : Nat), (wipe σ vs)[j]? = if j ∈ vs ∧ j < σ.length then some none else σ[j]?
  | [], j => by rw [if_neg (fun z => nomatch z.1)]; rfl
  | v :: vs, j => by
    show ((wipe σ vs).set v none)[j]? = _
    by_cases e : j = v
    · subst e
      by_cases hj : j < σ.length
      · rw [List.getElem?_set_self (by rw [wipe_length]; exact hj), if_pos ⟨List.mem_cons_self, hj⟩]
      · rw [List.getElem?_eq_none (by rw [List.length_set, wipe_length]; omega), if_neg (fun z => hj z.2), List.getElem?_eq_none (by omega)]
    · rw [List.getElem?_set_ne (Ne.symm e), wipe_get σ vs j]
      have : (j ∈ vs ∧ j < σ.length) ↔ (j ∈ v :: vs ∧ j < σ.length) := by simp [e]
      by_cases q : j ∈ vs ∧ j < σ.length
      · rw [if_pos q, if_pos (this.mp q)]
      · rw [if_neg q, if_neg (fun z => q (this.mpr z))]
theorem wipeG_get (g : Gam) : ∀ (vs : List Nat) (j : Nat), (wipeG g vs)[j]? = if j ∈ vs ∧ j < g.length then some .un else g[j]?
  | [], j => by rw [if_neg (fun z => nomatch z.1)]; rfl
  | v :: vs, j => by
    show ((wipeG g vs).set v .un)[j]? = _
    by_cases e : j = v
    · subst e
      by_cases hj : j < g.length
      · rw [List.getElem?_set_self (by rw [wipeG_len]; exact hj), if_pos ⟨List.mem_cons_self, hj⟩]
      · rw [List.getElem?_eq_none (by rw [List.length_set, wipeG_len]; omega), if_neg (fun z => hj z.2), List.getElem?_eq_none (by omega)]
    · rw [List.getElem?_set_ne (Ne.symm e), wipeG_get g vs j]
      have : (j ∈ vs ∧ j < g.length) ↔ (j ∈ v :: vs ∧ j < g.length) := by simp [e]
      by_cases q : j ∈ vs ∧ j < g.length
      · rw [if_pos q, if_pos (this.mp q)]
      · rw [if_neg q, if_neg (fun z => q (this.mpr z))]
theorem wipe_same {σ σ2 : L2.St} {vs ns : List Nat} (k : Keeps ns (wipe σ vs) σ2) (sub : ∀ n ∈ ns, n ∈ vs) : wipe σ2 vs = wipe σ vs := by
  have hl : σ2.length = σ.length := k.1.trans (wipe_length σ vs)
  refine List.ext_getElem? fun j => ?_
  rw [wipe_get, wipe_get, hl]
  by_cases q : j ∈ vs ∧ j < σ.length
  · rw [if_pos q, if_pos q]
  · rw [if_neg q, if_neg q]
    by_cases hj : j ∈ vs
    · have : ¬ j < σ.length := fun z => q ⟨hj, z⟩
      rw [List.getElem?_eq_none (by omega), List.getElem?_eq_none (by omega)]
    · rw [k.2 j fun z => hj (sub j z), wipe_get, if_neg q]
/-- slots forgotten -/
theorem Iv.wipe1 (I : Iv G S P g σ H) : ∀ (vs : List Nat), (∀ v ∈ vs, v < g.length) → Iv G S P (wipeG g vs) (wipe σ vs) H
  | [], _ => I
  | v :: vs, h => (Iv.wipe1 I vs fun w hw => h w (.tail _ hw)).slotSet (g' := g) (by rw [wipeG_len]; exact h v List.mem_cons_self) (fun z => z) trivial
/-- a hidden object that no slot has is written -/
theorem Iv.put {a : Addr} {xs : List V} (I : Iv G S P g σ H) (hp : a ∈ P) (hs : a ∉ S) (h0 : a ∉ G.P0) : Iv G S P g σ (upd H a (.lst xs)) := by
  have l : LeH (hide P H) (hide P (upd H a (.lst xs))) := fun b o e n => by
    obtain ⟨e1, e2⟩ := hide_some e
    rw [hide_out e1, upd_ne fun z => e1 (by rw [z]; exact hp)]
    exact e2
  have own : ∀ {b : Addr} {w : Own}, b ∈ S → OwnAt G.K P H b w → OwnAt G.K P (upd H a (.lst xs)) b w := fun hb h => h.le (upd_ne fun z => hs (z ▸ hb)) l
  have hp' : ∃ ys, H a = some (.lst ys) := I.mem a hp
  refine ⟨I.len, fun i s e => ?_, I.dis, I.src, I.lent, fun b o hb e nt => ?_, fun b hb ht => ?_, I.sS, I.sP, I.new, fun b hb => ?_, I.sT, ?_⟩
  · have q := I.slot i s e
    cases s with
    | un => trivial
    | sh d => obtain ⟨v, e1, e2⟩ := q; exact ⟨v, e1, dp_le l _ _ e2⟩
    | ow w => obtain ⟨b, e1, e2, e3⟩ := q; exact ⟨b, e1, e2, own e2 e3⟩
    | br w => obtain ⟨b, e1, e2, e3⟩ := q; exact ⟨b, e1, e2, own e2 e3⟩
  · have nb : b ≠ a := fun z => by
      rcases I.new a hp with y | y
      · exact h0 y
      · rw [z] at e; exact y.not e nt
    rw [upd_ne nb]
    exact I.grow b o hb e nt
  · rw [upd_ne fun z => h0 (by rw [← z]; exact hb)]; exact I.keep b hb ht
  · by_cases z : b = a
    · rw [z]; exact ⟨xs, upd_same⟩
    · rw [upd_ne z]; exact I.mem b hb
  · obtain ⟨ys, hy⟩ := hp'
    exact tabs_keep I.tabs fun b o e n => by
      rw [upd_ne fun z => by rw [z, hy] at e; cases e; exact n ys rfl]
      exact e
theorem backG_len (g0 g : Gam) : ∀ own : List Nat, (backG g0 g own).length = g.length := fun own => by
  unfold backG
  induction own generalizing g with
  | nil => rfl
  | cons i r ih =>
    rw [List.foldl_cons, ih]
    cases g0[i]? with
    | none => rfl
    | some s => exact List.length_set ..
theorem backG_get (g0 : Gam) : ∀ (own : List Nat) (g : Gam) (j : Nat) (s : Slot), (∀ i ∈ own, i < g0.length) → g.length = g0.length → (backG g0 g own)[j]? = some s → (j ∈ own ∧ g0[j]? = some s) ∨ (j ∉ own ∧ g[j]? = some s)
  | [], g, j, s, _, _, e => .inr ⟨(fun z => nomatch z), e⟩
  | i :: r, g, j, s, h, hl, e => by
    have hi := h i List.mem_cons_self
    obtain ⟨s0, e0⟩ : ∃ s0, g0[i]? = some s0 := ⟨_, List.getElem?_eq_getElem hi⟩
    have e : (backG g0 (g.set i s0) r)[j]? = some s := by
      have : backG g0 g (i :: r) = backG g0 (g.set i s0) r := by unfold backG; rw [List.foldl_cons, e0]
      rw [← this]; exact e
    rcases backG_get g0 r (g.set i s0) j s (fun k hk => h k (.tail _ hk)) (by rw [List.length_set]; exact hl) e with ⟨h1, h2⟩ | ⟨h1, h2⟩
    · exact .inl ⟨.tail _ h1, h2⟩
    · rw [set_get (by omega)] at h2
      by_cases ej : j = i
      · rw [if_pos ej] at h2; cases h2
        exact .inl ⟨by rw [ej]; exact List.mem_cons_self, by rw [ej]; exact e0⟩
      · rw [if_neg ej] at h2
        exact .inr ⟨by simp [ej, h1], h2⟩
/-- behind the loop: own names as they were -/
theorem Iv.back {P' : List Addr} {g0 g' : Gam} {H' : L2.Hp} {vs : List Nat} (I0 : Iv G S P g0 σ H) (I : Iv G S P' (wipeG g' vs) (wipe σ vs) H') (le : LeH (hide P H) (hide P' H')) (f : freeOf g0 vs = true) : Iv G S P' (backG g0 g' vs) σ H' := by
  have hl : g'.length = g0.length := by have := I.len; rw [wipeG_len, wipe_length] at this; rw [this, I0.len]
  have ff : ∀ i ∈ vs, g0[i]? = some .un ∨ ∃ d, g0[i]? = some (.sh d) := fun i hi => by
    unfold freeOf at f
    have := List.all_eq_true.mp f i hi
    split at this
    · rename_i e; exact .inl e
    · rename_i d e; exact .inr ⟨d, e⟩
    · cases this
  have hv : ∀ i ∈ vs, i < g0.length := fun i hi => by
    rcases ff i hi with e | ⟨d, e⟩ <;> exact (List.getElem?_eq_some_iff.mp e).1
  have look : ∀ j s, (backG g0 g' vs)[j]? = some s → (j ∈ vs ∧ g0[j]? = some s ∧ ¬ isOwn s) ∨ (j ∉ vs ∧ (wipeG g' vs)[j]? = some s ∧ (wipe σ vs)[j]? = σ[j]?) := fun j s e => by
    rcases backG_get g0 vs g' j s hv hl e with ⟨h1, h2⟩ | ⟨h1, h2⟩
    · refine .inl ⟨h1, h2, ?_⟩
      rcases ff j h1 with e | ⟨d, e⟩ <;> rw [h2] at e <;> cases e <;> exact fun z => z
    · refine .inr ⟨h1, ?_, ?_⟩
      · rw [wipeG_get, if_neg fun z => h1 z.1]; exact h2
      · rw [wipe_get, if_neg fun z => h1 z.1]
  refine ⟨by rw [backG_len, hl]; exact I0.len, fun j s e => ?_, fun j k s t ad hjk e1 e2 o1 o2 a1 a2 => ?_, fun j o ad e a => ?_, fun j o ad e a => ?_, I.grow, I.keep, I.sS, I.sP, I.new, I.mem, I.sT, I.tabs⟩
  · rcases look j s e with ⟨h1, h2, h3⟩ | ⟨h1, h2, h3⟩
    · have q := I0.slot j s h2
      cases s with
      | un => trivial
      | sh d => obtain ⟨v, e1, e2⟩ := q; exact ⟨v, e1, dp_le le _ _ e2⟩
      | ow o => exact (h3 trivial).elim
      | br o => exact (h3 trivial).elim
    · rw [← h3]; exact I.slot j s h2
  · rcases look j s e1 with ⟨_, _, h3⟩ | ⟨_, h2, h3⟩
    · exact h3 o1
    · rcases look k t e2 with ⟨_, _, h5⟩ | ⟨_, h4, h5⟩
      · exact h5 o2
      · exact I.dis j k s t ad hjk h2 h4 o1 o2 (by rw [h3]; exact a1) (by rw [h5]; exact a2)
  · rcases look j _ e with ⟨_, _, h3⟩ | ⟨_, h2, h3⟩
    · exact (h3 trivial).elim
    · exact I.src j o ad h2 (by rw [h3]; exact a)
  · rcases look j _ e with ⟨_, _, h3⟩ | ⟨_, h2, h3⟩
    · exact (h3 trivial).elim
    · exact I.lent j o ad h2 (by rw [h3]; exact a)
theorem compGo_cons {turn : PyData → Gam → Option (Option PyData × Gam)} {x : PyData} {xs : List PyData} {g : Gam} {acc : List PyData} : compGo turn (x :: xs) g acc = (turn x g).bind fun r => match r.1 with
    | some d => compGo turn xs r.2 (d :: acc)
    | none => compGo turn xs r.2 acc := rfl
theorem compGo_len {turn : PyData → Gam → Option (Option PyData × Gam)} : ∀ {xs : List PyData} {g : Gam} {acc : List PyData} {r : List PyData × Gam}, compGo turn xs g acc = some r → acc.length ≤ r.1.length
  | [], g, acc, r, h => by
    have h : some (acc.reverse, g) = some r := h
    cases h; simp
  | x :: xs, g, acc, r, h => by
    rw [compGo_cons] at h
    cases e : turn x g with
    | none => rw [e] at h; cases h
    | some q =>
      rw [e] at h
      obtain ⟨o, g1⟩ := q
      cases o with
      | none => exact compGo_len (xs := xs) h
      | some d =>
        have := compGo_len (xs := xs) h
        simp at this
        omega
/-- what stands at turn i -/
def CInv (G : Gh) (S P : List Addr) (σ : L2.St) (vs : List Nat) (turn : PyData → Gam → Option (Option PyData × Gam)) (items : List PyData) (H1 : L2.Hp) (D : Addr) (r : List PyData × Gam) (i : Nat) (H' : L2.Hp) : Prop :=
  ∃ g' acc vacc, Iv G S (D :: P) (wipeG g' vs) (wipe σ vs) H' ∧ Grow S H1 H' ∧ H' D = some (.lst vacc) ∧ DpAll G.K (hide (D :: P) H') vacc acc ∧ compGo turn (items.drop i) g' acc.reverse = some r
theorem comp_reads {vs : List Nat} {l : ML} {t : Tg} {fc fe : ME} (hnm : ∀ n ∈ t.nms, n ∈ vs) : ∀ σ H Q, tF G W (eComp vs t l fc fe) σ H Q → tLc (tI G W l) (tG G t) (tB (tF G WF fc)) (tF G WF fe) vs σ H Q := by
  rintro σ H Q ⟨S, P, g, I, q⟩
  refine ⟨S, P, g, I, ?_⟩
  have q : Post G W S P σ H Q ((l g).andThen fun items g => if freeOf g vs then compEnd vs g (compGo (compTurn vs t fc fe) items g []) else .bad) := q
  cases rl : l g with
  | bad => rw [rl] at q; exact q.elim
  | ex x g1 => rw [rl] at q; exact q
  | ok items g1 =>
    rw [rl] at q
    intro J H1 I1 gr1 itok D hD
    have q : Post G W S P σ H Q (if freeOf g1 vs then compEnd vs g1 (compGo (compTurn vs t fc fe) items g1 []) else .bad) := q
    cases hf : freeOf g1 vs with
    | false => rw [hf] at q; exact q.elim
    | true =>
      rw [hf, if_pos rfl] at q
      cases rc : compGo (compTurn vs t fc fe) items g1 [] with
      | none => rw [rc] at q; exact q.elim
      | some r =>
        rw [rc] at q
        obtain ⟨ds, g'⟩ := r
        have q : Post G W S P σ H Q (if ds.length < sizeLine then .fr (.lst ds) (backG g1 g' vs) else .bad) := q
        by_cases hz : ds.length < sizeLine
        · rw [if_pos hz] at q
          have hv : ∀ v ∈ vs, v < g1.length := fun i hi => by
            unfold freeOf at hf
            have := List.all_eq_true.mp hf i hi
            split at this
            · rename_i e; exact (List.getElem?_eq_some_iff.mp e).1
            · rename_i e; exact (List.getElem?_eq_some_iff.mp e).1
            · cases this
          have nD : D ∉ P := I1.notP hD
          have nS : D ∉ S := fun z => nD (I1.sS _ z)
          have n0 : D ∉ G.P0 := fun z => nD (I1.sP _ z)
          have leD : ∀ {H'}, Grow S H1 H' → LeH (hide P H1) (hide (D :: P) H') := fun gr => (gr.sub I1.sS).leNew fun b hb => by
            rcases List.mem_cons.mp hb with z | z
            · exact .inr (z ▸ .of hD)
            · exact .inl z
          refine ⟨fun i m H' => m = items.length - i ∧ i ≤ items.length ∧ CInv G S P σ vs (compTurn vs t fc fe) items H1 D (ds, g') i H', ⟨items.length, by simp, Nat.zero_le _, g1, [], [], (I1.allocH hD).wipe1 vs hv, .upd hD, upd_same, .nil, rc⟩, ?_⟩
          rintro i m H' ⟨rfl, hi', ga, acc, vacc, Ia, gra, hDa, da, ra⟩
          have IT := itok (D :: P) H' (leD gra) Ia.mem i
          by_cases hlt : i < items.length
          · right
            have ed : items.drop i = items[i] :: items.drop (i + 1) := List.drop_eq_getElem_cons hlt
            obtain ⟨go, yl⟩ := IT.1 items[i] (List.getElem?_eq_getElem hlt)
            refine ⟨go, fun H2 => CInv G S P σ vs (compTurn vs t fc fe) items H1 D (ds, g') (i + 1) H2, fun H2 c => ⟨items.length - (i + 1), by omega, rfl, hlt, c⟩, fun x H2 y => ?_⟩
            obtain ⟨st, dx⟩ := yl x H2 y
            rw [ed, compGo_cons] at ra
            have ra : ((tgD t items[i] (wipeG ga vs)).bind fun g => match (fc g).sh with
                | .ok (.bool true) g => (match (fe g).sh with
                  | .ok d g => some (some d, g)
                  | _ => none)
                | .ok (.bool false) g => some (none, g)
                | _ => none : Option (Option PyData × Gam)).bind (fun r => match r.1 with
                  | some d => compGo (compTurn vs t fc fe) (items.drop (i + 1)) r.2 (d :: acc.reverse)
                  | none => compGo (compTurn vs t fc fe) (items.drop (i + 1)) r.2 acc.reverse) = some (ds, g') := ra
            cases et : tgD t items[i] (wipeG ga vs) with
            | none => rw [et] at ra; cases ra
            | some g2 =>
              rw [et] at ra
              have I2 : Iv G S (D :: P) (wipeG ga vs) (wipe σ vs) H2 := by
                rcases st with rfl | ⟨p, o, hp, rfl⟩
                · exact Ia
                · exact Ia.alloc hp
              have gr2 : Grow S H' H2 := by
                rcases st with rfl | ⟨p, o, hp, rfl⟩
                · exact .refl _ _
                · exact .upd hp
              have ra : ((match (fc g2).sh with
                | .ok (.bool true) g => (match (fe g).sh with
                  | .ok d g => some (some d, g)
                  | _ => none)
                | .ok (.bool false) g => some (none, g)
                | _ => none : Option (Option PyData × Gam)).bind (fun r => match r.1 with
                  | some d => compGo (compTurn vs t fc fe) (items.drop (i + 1)) r.2 (d :: acc.reverse)
                  | none => compGo (compTurn vs t fc fe) (items.drop (i + 1)) r.2 acc.reverse)) = some (ds, g') := ra
              refine ⟨S, D :: P, wipeG ga vs, items[i], g2, I2, dx, et, fun σ2 k2 I3 => ⟨wipe_same k2 hnm, S, D :: P, g2, I3, ?_⟩⟩
              have ws : wipe σ2 vs = wipe σ vs := wipe_same k2 hnm
              have lv : ∀ {g5 : Gam} {H5 : L2.Hp}, Iv G S (D :: P) g5 σ2 H5 → Iv G S (D :: P) (wipeG g5 vs) (wipe σ vs) H5 := fun {g5 H5} I5 => by
                rw [← ws]
                refine I5.wipe1 vs fun v hv2 => ?_
                rw [I5.len, k2.1, wipe_length, ← I1.len]
                exact hv v hv2
              have keepD : ∀ {H5 : L2.Hp}, Grow S H2 H5 → H5 D = some (.lst vacc) := fun gr => (gr2.trans gr).at nS hDa nt_lst
              cases rf : fc g2 with
              | bad => rw [rf] at ra; cases ra
              | ex x g => rw [rf] at ra; cases ra
              | fr o g => rw [rf] at ra; cases o; cases ra
              | ok c g3 =>
                rw [rf] at ra
                cases c with
                | bool b =>
                  intro v H4 I4 gr4 dv
                  refine ⟨b, dp_bool dv, ?_⟩
                  cases b with
                  | false =>
                    rw [if_neg Bool.false_ne_true]
                    have ra : compGo (compTurn vs t fc fe) (items.drop (i + 1)) g3 acc.reverse = some (ds, g') := ra
                    exact ⟨g3, acc, vacc, lv I4, gra.trans (gr2.trans gr4), keepD gr4, dpAll_le (((gr2.trans gr4).leS I4)) _ _ da, ra⟩
                  | true =>
                    rw [if_pos rfl]
                    have ra : ((match (fe g3).sh with
                      | .ok d g => some (some d, g)
                      | _ => none : Option (Option PyData × Gam)).bind (fun r => match r.1 with
                        | some d => compGo (compTurn vs t fc fe) (items.drop (i + 1)) r.2 (d :: acc.reverse)
                        | none => compGo (compTurn vs t fc fe) (items.drop (i + 1)) r.2 acc.reverse)) = some (ds, g') := ra
                    have fin : ∀ (d : PyData) (g4 : Gam) (y : V) (H5 : L2.Hp), compGo (compTurn vs t fc fe) (items.drop (i + 1)) g4 (d :: acc.reverse) = some (ds, g') → Iv G S (D :: P) g4 σ2 H5 → Grow S H4 H5 → Dp G.K (hide (D :: P) H5) y d →
                        ∃ acc, H5 D = some (.lst acc) ∧ acc.length < sizeLine ∧ CInv G S P σ vs (compTurn vs t fc fe) items H1 D (ds, g') (i + 1) (upd H5 D (.lst (acc ++ [y]))) := fun d g4 y H5 ra I5 gr5 dy => by
                      have hl := compGo_len ra
                      simp only [List.length_cons, List.length_reverse] at hl
                      have gg := gr2.trans (gr4.trans gr5)
                      have lH : LeH (hide (D :: P) H5) (hide (D :: P) (upd H5 D (.lst (vacc ++ [y])))) := fun b o e n => by
                        obtain ⟨e1, e2⟩ := hide_some e
                        rw [hide_out e1, upd_ne fun z => e1 (by rw [z]; exact List.mem_cons_self)]
                        exact e2
                      refine ⟨vacc, keepD (gr4.trans gr5), by rw [dpAll_len da]; omega, g4, acc ++ [d], vacc ++ [y], (lv I5).put List.mem_cons_self nS n0, fun b o hb e nt => ?_, upd_same, dpAll_app (dpAll_le lH _ _ (dpAll_le (gg.leS I5) _ _ da)) (.cons (dp_le lH _ _ dy) .nil), by rw [List.reverse_append]; exact ra⟩
                      rw [upd_ne fun z => by rw [z, hD] at e; cases e]
                      exact (gra.trans gg) b o hb e nt
                    cases re : fe g3 with
                    | bad => rw [re] at ra; cases ra
                    | ex x g => rw [re] at ra; cases ra
                    | ok d g4 =>
                      rw [re] at ra
                      exact ⟨S, D :: P, g3, I4, by rw [re]; exact fun y H5 I5 gr5 dy => fin d g4 y H5 ra I5 gr5 dy⟩
                    | fr o g4 =>
                      rw [re] at ra
                      exact ⟨S, D :: P, g3, I4, by rw [re]; exact fun a H5 n n2 en I5 gr5 ow => fin o.d g4 _ H5 ra (I5.drop I4.sS I4.sP) gr5 (own_dp n ow)⟩
                | _ => cases ra
          · left
            have ei : i = items.length := by omega
            subst ei
            refine ⟨IT.2 (Nat.le_refl _), ?_⟩
            have ra : compGo (compTurn vs t fc fe) (items.drop items.length) ga acc.reverse = some (ds, g') := ra
            rw [List.drop_length] at ra
            have ra : some (acc.reverse.reverse, ga) = some (ds, g') := ra
            rw [List.reverse_reverse] at ra
            cases ra
            have eD : Free H D := gr1.free nS (.of hD)
            exact q D H' nD nS eD (Iv.back I1 Ia (leD gra) hf) (gr1.trans gra) ⟨vacc, hDa, da⟩
        · rw [if_neg hz] at q; exact q.elim
theorem pe_eComp {elt tg iter : Expr} {ifs : List Expr} {scope : Scope} {own : List (Str × Nat)} {vs : List Nat} {l : ML} {t : Tg} {fc fe : ME} (hc : X.calm = true) (hN : X.N.Nodup) (hi : PI X tg iter (tI G W l)) (ok : BlkOk X.N X.env.scope scope own)
    (hg : ∀ (s : Shared) (H : L2.Hp) (C : Addr) (cl : List (Str × Addr)) (fp : List Addr), PG (X.blk s H scope (compEnvC scope cl C X.env) fp) tg (tG G t))
    (ht : ∀ (s : Shared) (H : L2.Hp) (C : Addr) (cl : List (Str × Addr)) (fp : List Addr), PTs (X.blk s H scope (compEnvC scope cl C X.env) fp) ifs (tB (tF G WF fc)))
    (he : ∀ (s : Shared) (H : L2.Hp) (C : Addr) (cl : List (Str × Addr)) (fp : List Addr), PE (X.blk s H scope (compEnvC scope cl C X.env) fp) elt (tF G WF fe))
    (hvs : own.map (·.2) = vs) (hnm : ∀ n ∈ t.nms, n ∈ vs) (hs : ∀ x, foldedSetIterable iter X.env x = pure x := by intro _; rfl) : PE X (.ListComp elt [⟨tg, iter, ifs, 0⟩] scope pos) (tF G W (eComp vs t l fc fe)) := by
  subst hvs
  exact pe_imp (pe_lc hc hN hi ok hg ht he hs) (comp_reads hnm)
/-- name = [..] on one line, the name a local -/
theorem ps_eCompAsg {elt tg iter : Expr} {ifs : List Expr} {scope : Scope} {own : List (Str × Nat)} {vs : List Nat} {l : ML} {t : Tg} {fc fe : ME} {i : Nat} {y : Str} {py spos : Pos} (hc : X.calm = true) (hN : X.N.Nodup) (hy : X.N[i]? = some y) (hyl : X.env.scope.names.lookup y = some .local)
    (hsw : swapsWith (.ListComp elt [⟨tg, iter, ifs, 0⟩] scope pos) (some (.Name y py)) spos.line X.env = pure true) (hi : PI X tg iter (tI G W l)) (ok : BlkOk X.N X.env.scope scope own)
    (hg : ∀ (s : Shared) (H : L2.Hp) (C : Addr) (cl : List (Str × Addr)) (fp : List Addr), PG (X.blk s H scope (compEnvC scope cl C X.env) fp) tg (tG G t))
    (ht : ∀ (s : Shared) (H : L2.Hp) (C : Addr) (cl : List (Str × Addr)) (fp : List Addr), PTs (X.blk s H scope (compEnvC scope cl C X.env) fp) ifs (tB (tF G WF fc)))
    (he : ∀ (s : Shared) (H : L2.Hp) (C : Addr) (cl : List (Str × Addr)) (fp : List Addr), PE (X.blk s H scope (compEnvC scope cl C X.env) fp) elt (tF G WF fe))
    (hvs : own.map (·.2) = vs) (hnm : ∀ n ∈ t.nms, n ∈ vs) (hs : ∀ x, foldedSetIterable iter X.env x = pure x := by intro _; rfl) : PS X (.Assign [.Name y py] (.ListComp elt [⟨tg, iter, ifs, 0⟩] scope pos) spos) (tAsg (tF G W (eComp vs t l fc fe)) (gName i)) := by
  subst hvs
  exact ps_imp (ps_setLc hc hN hy hyl hsw hi ok hg ht he hs) fun D σ H q => comp_reads hnm _ _ _ q
theorem pts_eYes {Y : Cx} : PTs Y [] (tB (tF G WF eYes)) := ⟨fun pins s σ H Q I ⟨S, P, g, J, q⟩ => pts_nil.run pins s σ H Q I (by
  obtain ⟨c, e, h⟩ := Post.okNow (v := V.bl true) q J (.bl true)
  cases e
  exact h)⟩
end
end Ev

set_option Elab.async false
set_option linter.all false
set_option maxRecDepth 100000
set_option maxHeartbeats 4000000
/-! EvI: statements. -/
namespace Ev
open PySem PySem.Spec PyProof.Rows L2
section
variable (G : Gh) (W : WX)
def PostS (P : List Addr) (H : L2.Hp) (D : Ends) : RS → Prop
  | .nx g' => ∀ S' P' σ' H', Iv G S' P' g' σ' H' → LeH (hide P H) (hide P' H') → D.nx σ' H'
  | .bk g' => ∀ S' P' σ' H', Iv G S' P' g' σ' H' → LeH (hide P H) (hide P' H') → D.bk σ' H'
  | .ct g' => ∀ S' P' σ' H', Iv G S' P' g' σ' H' → LeH (hide P H) (hide P' H') → D.ct σ' H'
  | .rt d g' => ∀ S' P' σ' v H', Iv G S' P' g' σ' H' → LeH (hide P H) (hide P' H') → Dp G.K (hide P' H') v d → D.rt v H'
  | .rf o g' => ∀ S' P' σ' a H', a ∉ P' → Iv G S' (a :: P') g' σ' H' → (∀ b ∈ S', b ∈ P') → (∀ b ∈ G.P0, b ∈ P') → LeH (hide P H) (hide (a :: P') H') → OwnAt G.K (a :: P') H' a o → D.rt (.ref a) H'
  | .ex x g' => ∀ S' P' σ' cls d H', Iv G S' P' g' σ' H' → LeH (hide P H) (hide P' H') → ExnAt G P' x cls d H' → W cls d σ' H'
  | .bad => False
def tS (m : MS) : TS := fun D σ H => ∃ S P g, Iv G S P g σ H ∧ PostS G W P H D (m g)
end
section
variable {X : Cx} {G : Gh} {W : WX} {S P P1 : List Addr} {σ : L2.St} {H H1 : L2.Hp} {Q Q' : VK} {g : Gam} {pos : Pos} {a b c : Expr} {fa fb fc f : ME} {D : Ends}
theorem PostS.rebase {r : RS} (le : LeH (hide P H) (hide P1 H1)) (h : PostS G W P H D r) : PostS G W P1 H1 D r := by
  cases r with
  | nx g' => exact fun S' P' σ' H' a b => h S' P' σ' H' a (le.trans b)
  | bk g' => exact fun S' P' σ' H' a b => h S' P' σ' H' a (le.trans b)
  | ct g' => exact fun S' P' σ' H' a b => h S' P' σ' H' a (le.trans b)
  | rt d g' => exact fun S' P' σ' v H' a b => h S' P' σ' v H' a (le.trans b)
  | rf o g' => exact fun S' P' σ' v H' n a s0 s1 b => h S' P' σ' v H' n a s0 s1 (le.trans b)
  | ex x g' => exact fun S' P' σ' cls d H' a b => h S' P' σ' cls d H' a (le.trans b)
  | bad => exact h
theorem Post.thenS {r : RE} {k : PyData → Gam → RS} (I : Iv G S P g σ H) (h : PostS G W P H D (r.thenS k)) :
    Post G W S P σ H (fun v H1 => ∃ d g1, Iv G S P g1 σ H1 ∧ Grow S H H1 ∧ Dp G.K (hide P H1) v d ∧ PostS G W P H1 D (k d g1)) r := by
  cases r with
  | ok d g' => exact fun v H' a b c => ⟨d, g', a, b, c, .rebase (b.leS a) h⟩
  | fr o g' => exact fun a H' n n2 e J gr ow => ⟨o.d, g', J.drop I.sS I.sP, gr, own_dp n ow, .rebase (gr.leS (J.drop I.sS I.sP)) h⟩
  | ex x g' => exact fun cls d H' a b c => h S P σ cls d H' a (b.leS a) c
  | bad => exact h
/-! ### small ones -/
theorem ps_sNop {st : Stmt} (h : PS X st tNext) : PS X st (tS G W sNop) := ps_imp h fun D σ H ⟨S, P, g, I, q⟩ => q S P σ H I (.refl _)
theorem pss_sNil : PSs X [] (tS G W sNop) := pss_imp pss_nil fun D σ H ⟨S, P, g, I, q⟩ => q S P σ H I (.refl _)
theorem ps_sBrk : PS X (.Break pos) (tS G W sBrk) := ps_imp ps_break fun D σ H ⟨S, P, g, I, q⟩ => q S P σ H I (.refl _)
theorem ps_sCnt : PS X (.Continue pos) (tS G W sCnt) := ps_imp ps_continue fun D σ H ⟨S, P, g, I, q⟩ => q S P σ H I (.refl _)
theorem tS_seq {m n : MS} : ∀ D σ H, tS G W (sSeq m n) D σ H → tS G W m { D with nx := tS G W n D } σ H := fun D σ H ⟨S, P, g, I, q⟩ => by
  refine ⟨S, P, g, I, ?_⟩
  have q : PostS G W P H D ((m g).thenSs n) := q
  cases r : m g with
  | nx g' => rw [r] at q; exact fun S' P' σ' H' I' le => ⟨S', P', g', I', .rebase le q⟩
  | bk g' => rw [r] at q; exact q
  | ct g' => rw [r] at q; exact q
  | rt d g' => rw [r] at q; exact q
  | rf o g' => rw [r] at q; exact q
  | ex x g' => rw [r] at q; exact q
  | bad => rw [r] at q; exact q
theorem pss_sCons {st : Stmt} {rest : List Stmt} {m n : MS} (h1 : PS X st (tS G W m)) (h2 : PSs X rest (tS G W n)) : PSs X (st :: rest) (tS G W (sSeq m n)) := pss_imp (pss_cons h1 h2) fun D σ H h => tS_seq D σ H h
theorem pss_sOne {st : Stmt} {m : MS} (h1 : PS X st (tS G W m)) : PSs X [st] (tS G W m) := pss_one h1
theorem ps_sExpr (he : PE X a (tF G W fa)) (hs : swapsWith a none pos.line X.env = pure false := by rfl) : PS X (.Expr a pos) (tS G W (sExpr fa)) := ps_imp (ps_expr he hs) fun D σ H ⟨S, P, g, I, q⟩ => ⟨S, P, g, I, (Post.thenS I q).mono fun v H1 ⟨d, g1, I1, gr, dv, q1⟩ => q1 S P σ H1 I1 (.refl _)⟩
theorem ps_sRet (he : PE X a (tF G W fa)) : PS X (.Return (some a) pos) (tS G W (sRet fa)) := ps_imp (ps_ret he) fun D σ H ⟨S, P, g, I, q⟩ => ⟨S, P, g, I, by
  have q : PostS G W P H D (match fa g with | .ok d g => .rt d g | .fr o g => .rf o g | .ex x g => .ex x g | .bad => .bad) := q
  cases r : fa g with
  | ok d g' => rw [r] at q; exact fun v H' I' gr dv => q S P σ v H' I' (gr.leS I') dv
  | fr o g' =>
    rw [r] at q
    exact fun a H' n n2 e J gr ow => q S P σ a H' n J I.sS I.sP ((gr.sub I.sS).leNew fun b hb => by
      rcases List.mem_cons.mp hb with z | z
      · exact .inr (z ▸ e)
      · exact .inl z) ow
  | ex x g' => rw [r] at q; exact fun cls d H' a b c => q S P σ cls d H' a (b.leS a) c
  | bad => rw [r] at q; exact q⟩
theorem ps_sRetN : PS X (.Return none pos) (tS G W sRetN) := ps_imp ps_retN fun D σ H ⟨S, P, g, I, q⟩ => q S P σ .non H I (.refl _) .non
theorem ps_sIf {x y : List Stmt} {m n : MS} (hc : PT X c (tB (tF G W fc))) (ha : PSs X x (tS G W m)) (hb : PSs X y (tS G W n)) : PS X (.If c x y pos) (tS G W (sIf fc m n)) := ps_imp (ps_if hc ha hb) fun D σ H ⟨S, P, g, I, q⟩ => ⟨S, P, g, I, (Post.thenS I q).mono fun v H1 ⟨d, g1, I1, gr, dv, q1⟩ => by
  cases d with
  | bool b =>
    refine ⟨b, dp_bool dv, ?_⟩
    cases b with
    | true => rw [if_pos rfl]; exact ⟨S, P, g1, I1, q1⟩
    | false => rw [if_neg Bool.false_ne_true]; exact ⟨S, P, g1, I1, q1⟩
  | _ => exact q1.elim⟩
/-! ### stores -/
theorem ps_sAsg {i : Nat} {st : Stmt} (h : PS X st (tAsg (tF G W fa) (gName i))) : PS X st (tS G W (sAsg i fa)) := ps_imp h fun D σ H ⟨S, P, g, I, q⟩ => ⟨S, P, g, I, by
  have q : PostS G W P H D (match fa g with
    | .ok d g => nxO (put g i (.sh d))
    | .fr o g => nxO (put g i (.ow o))
    | .ex x g => .ex x g
    | .bad => .bad) := q
  cases r : fa g with
  | ok d g' =>
    rw [r] at q
    intro v H' I' gr dv
    cases e : put g' i (.sh d) with
    | none => simp only [e] at q; exact q.elim
    | some g2 => simp only [e] at q; exact q S P _ H' (I'.setSh e dv) (gr.leS I')
  | fr o g' =>
    rw [r] at q
    intro a H' n n2 en J gr ow
    cases e : put g' i (.ow o) with
    | none => simp only [e] at q; exact q.elim
    | some g2 =>
      simp only [e] at q
      exact q (a :: S) (a :: P) _ H' (J.setOw I.sS I.sP n e ow) ((gr.sub I.sS).leNew fun b hb => by
        rcases List.mem_cons.mp hb with z | z
        · exact .inr (z ▸ en)
        · exact .inl z)
  | ex x g' => rw [r] at q; exact fun cls d H' a b c => q S P σ cls d H' a (b.leS a) c
  | bad => rw [r] at q; exact q⟩
theorem ps_sAsgT {st : Stmt} {t : Tg} (h : PS X st (tAsg (tF G W fa) (tG G t))) : PS X st (tS G W (sAsgT t fa)) := ps_imp h fun D σ H ⟨S, P, g, I, q⟩ => ⟨S, P, g, I, (Post.thenS I q).mono fun v H1 ⟨d, g1, I1, gr, dv, q1⟩ => by
  cases e : tgD t d g1 with
  | none => simp only [e] at q1; exact q1.elim
  | some g2 =>
    simp only [e] at q1
    exact ⟨S, P, g1, d, g2, I1, dv, e, fun σ' k I2 => q1 S P σ' H1 I2 (.refl _)⟩⟩
theorem Post.thenS2 {r : RE} {k : PyData → Gam → RS} {D' : Ends} (I : Iv G S P g σ H) (h : PostS G W P H D (r.thenS k)) (m : ∀ v H1 d g1, Iv G S P g1 σ H1 → Grow S H H1 → Dp G.K (hide P H1) v d → PostS G W P H1 D (k d g1) → Q v H1) : Post G W S P σ H Q r :=
  (Post.thenS I h).mono fun v H1 ⟨d, g1, I1, gr, dv, q1⟩ => m v H1 d g1 I1 gr dv q1
theorem ps_sPar {i j : Nat} {st : Stmt} (hij : i ≠ j) (h : PS X st (tPar i j (tCons (tF G W fa) (tCons (tF G W fb) tNil)))) : PS X st (tS G W (sPar i j fa fb)) := ps_imp h fun D σ H ⟨S, P, g, I, q⟩ => ⟨S, P, g, I, (Post.thenS I q).mono fun v H1 ⟨d, g1, I1, gr, dv, q1⟩ => ⟨S, P, g1, I1, (Post.thenS I1 q1).mono fun w H2 ⟨e, g2, I2, gr2, dw, q2⟩ => by
  have dv2 := dp_le (gr2.leS I2) _ _ dv
  cases r : put g2 i (.sh d) with
  | none => simp only [r] at q2; exact q2.elim
  | some g3 =>
    simp only [r] at q2
    have q2 : PostS G W P H2 D (nxO (put g3 j (.sh e))) := q2
    cases r2 : put g3 j (.sh e) with
    | none => rw [r2] at q2; exact q2.elim
    | some g4 =>
      rw [r2] at q2
      exact ⟨v, w, rfl, q2 S P _ H2 ((I2.setSh r dv2).setSh r2 dw) (.refl _)⟩⟩⟩
theorem lends_own {i : Nat} {o : Own} (I : Iv G S P g σ H) (h : lends g i = some o) : ∃ ad, σ[i]? = some (some (.ref ad)) ∧ ad ∈ S ∧ OwnAt G.K P H ad o := by
  unfold lends at h
  split at h
  · rename_i e; cases h; exact I.slot i _ e
  · rename_i e; cases h; exact I.slot i _ e
  · cases h
theorem Iv.setOwn {i : Nat} {o o' : Own} {ad : Addr} {vs : List V} {ds : List PyData} {g' : Gam} (I : Iv G S P g σ H) (hr : retake g i (.lst ds) = some g') (hσ : σ[i]? = some (some (.ref ad))) (dv : DpAll G.K (hide P H) vs ds) : Iv G S P g' σ (upd H ad (.lst vs)) := by
  obtain ⟨s, hs, hos, s', hg', hkind⟩ : ∃ s, g[i]? = some s ∧ isOwn s ∧ ∃ s', g' = g.set i s' ∧ ((∃ o, s = .ow o ∧ s' = .ow (.lst ds)) ∨ (∃ o, s = .br o ∧ s' = .br (.lst ds))) := by
    unfold retake at hr
    split at hr
    · rename_i o e; cases hr; exact ⟨_, e, trivial, _, rfl, .inl ⟨o, rfl, rfl⟩⟩
    · rename_i o e; cases hr; exact ⟨_, e, trivial, _, rfl, .inr ⟨o, rfl, rfl⟩⟩
    · cases hr
  subst hg'
  have hi : i < g.length := (List.getElem?_eq_some_iff.mp hs).1
  have haS : ad ∈ S := (I.slot i s hs).own_in hos hσ
  have haP := I.sS _ haS
  have l : LeH (hide P H) (hide P (upd H ad (.lst vs))) := fun b o e n => by
    obtain ⟨e1, e2⟩ := hide_some e
    rw [hide_out e1, upd_ne fun z => e1 (by rw [z]; exact haP)]
    exact e2
  have at' : ∀ j t, (g.set i s')[j]? = some t → (j = i ∧ t = s') ∨ (j ≠ i ∧ g[j]? = some t) := fun j t e => by
    rw [set_get hi] at e
    by_cases ej : j = i
    · rw [if_pos ej] at e; cases e; exact .inl ⟨ej, rfl⟩
    · rw [if_neg ej] at e; exact .inr ⟨ej, e⟩
  have oS' : isOwn s' := by rcases hkind with ⟨o, _, rfl⟩ | ⟨o, _, rfl⟩ <;> trivial
  have me : OwnAt G.K P (upd H ad (.lst vs)) ad (.lst ds) := ⟨vs, upd_same, dpAll_le l _ _ dv⟩
  have far : ∀ {b : Addr}, (b ∉ G.P0 ∧ ∃ o, G.H0 b = some o ∧ NotTbl o) ∨ (b ∈ G.P0 ∧ b ∉ G.T0) → b ≠ ad := fun {b} hb z => by
    subst z
    rcases hkind with ⟨o, rfl, _⟩ | ⟨o, rfl, _⟩
    · obtain ⟨h1, h2⟩ := I.src i o b hs hσ
      rcases hb with ⟨_, o, e, nt⟩ | ⟨e, _⟩
      · exact h2.not e nt
      · exact h1 e
    · have h1 := (I.lent i o b hs hσ).2
      rcases hb with ⟨e, _⟩ | ⟨_, e⟩
      · exact e (I.sT _ h1)
      · exact e h1
  refine ⟨by rw [List.length_set]; exact I.len, fun j t e => ?_, fun j k t u a2 hjk e1 e2 o1 o2 a3 a4 => ?_, fun j o2 a2 e a1 => ?_, fun j o2 a2 e a1 => ?_, fun b o hb e nt => ?_, fun b hb ht => ?_, I.sS, I.sP, I.new, fun b hb => ?_, I.sT, ?_⟩
  · rcases at' j t e with ⟨rfl, rfl⟩ | ⟨hj, e1⟩
    · rcases hkind with ⟨o, _, rfl⟩ | ⟨o, _, rfl⟩ <;> exact ⟨ad, hσ, haS, me⟩
    · have q := I.slot j t e1
      have ow : ∀ {w : Own}, isOwn t → (∃ a, σ[j]? = some (some (.ref a)) ∧ a ∈ S ∧ OwnAt G.K P H a w) → ∃ a, σ[j]? = some (some (.ref a)) ∧ a ∈ S ∧ OwnAt G.K P (upd H ad (.lst vs)) a w := fun {w} ot ⟨a, e1', e2, e3⟩ =>
        ⟨a, e1', e2, e3.le (upd_ne fun z => I.dis j i t s a hj e1 hs ot hos e1' (by rw [z]; exact hσ)) l⟩
      cases t with
      | un => trivial
      | sh d => obtain ⟨v, e1, e2⟩ := q; exact ⟨v, e1, dp_le l _ _ e2⟩
      | ow w => exact ow trivial q
      | br w => exact ow trivial q
  · have key : ∀ j t, (g.set i s')[j]? = some t → isOwn t → ∃ t', g[j]? = some t' ∧ isOwn t' := fun j t e o => by
      rcases at' j t e with ⟨rfl, rfl⟩ | ⟨hj, e1⟩
      · exact ⟨s, hs, hos⟩
      · exact ⟨t, e1, o⟩
    obtain ⟨t', f1, p1⟩ := key j t e1 o1
    obtain ⟨u', f2, p2⟩ := key k u e2 o2
    exact I.dis j k t' u' a2 hjk f1 f2 p1 p2 a3 a4
  · rcases at' j _ e with ⟨rfl, q⟩ | ⟨hj, f1⟩
    · rcases hkind with ⟨o, rfl, _⟩ | ⟨o, _, r⟩
      · exact I.src j o a2 hs a1
      · rw [r] at q; cases q
    · exact I.src j o2 a2 f1 a1
  · rcases at' j _ e with ⟨rfl, q⟩ | ⟨hj, f1⟩
    · rcases hkind with ⟨o, _, r⟩ | ⟨o, rfl, _⟩
      · rw [r] at q; cases q
      · exact I.lent j o a2 hs a1
    · exact I.lent j o2 a2 f1 a1
  · rw [upd_ne (far (.inl ⟨hb, o, e, nt⟩))]
    exact I.grow b o hb e nt
  · rw [upd_ne (far (.inr ⟨hb, ht⟩))]; exact I.keep b hb ht
  · by_cases z : b = ad
    · rw [z]; exact ⟨vs, upd_same⟩
    · rw [upd_ne z]; exact I.mem b hb
  · obtain ⟨ys, hy⟩ := I.mem ad haP
    exact tabs_keep I.tabs fun b o e n => by
      rw [upd_ne fun z => by rw [z, hy] at e; cases e; exact n ys rfl]
      exact e

theorem hasOwn_of {i : Nat} {k : RS} (I : Iv G S P g σ H) (h : PostS G W P H D (hasOwn g i k)) : (∃ ad vs, σ[i]? = some (some (.ref ad)) ∧ ad ∈ S ∧ H ad = some (.lst vs)) ∧ PostS G W P H D k := by
  unfold hasOwn at h
  cases e : lends g i with
  | none => rw [e] at h; exact h.elim
  | some o =>
    rw [e] at h
    obtain ⟨ad, e1, e2, e3⟩ := lends_own I e
    cases o with
    | lst xs => obtain ⟨vs, h1, _⟩ := e3; exact ⟨⟨ad, vs, e1, e2, h1⟩, h⟩
theorem put_le {ad : Addr} {vs : List V} (I : Iv G S P g σ H) (h : ad ∈ S) : LeH (hide P H) (hide P (upd H ad (.lst vs))) := fun b o e n => by
  obtain ⟨z1, z2⟩ := hide_some e
  rw [hide_out z1, upd_ne fun z => z1 (by rw [z]; exact I.sS _ h)]
  exact z2
theorem ps_sSetI {i : Nat} {fk fe : ME} {st : Stmt} (h : PS X st (tAsg (tF G W fe) (gSub (tVar i) (tF G W fk) rSetL))) : PS X st (tS G W (sSetI i fk fe)) := ps_imp h fun D σ H ⟨S, P, g, I, q⟩ => ⟨S, P, g, I, (Post.thenS I q).mono fun v H1 ⟨d, g1, I1, gr, dv, q1⟩ => by
  obtain ⟨⟨ad, vs0, ha, has, _⟩, q1⟩ := hasOwn_of I1 q1
  refine ⟨_, ha, S, P, g1, I1, (Post.thenS I1 q1).mono fun w H2 ⟨j, g2, I2, gr2, dw, q2⟩ => ?_⟩
  unfold setIEnd at q2
  cases j with
  | int j =>
    cases e : lends g2 i with
    | none => simp only [e] at q2; exact q2.elim
    | some o =>
      obtain ⟨ad2, e1, e2, e3⟩ := lends_own I2 e
      rw [ha] at e1; cases e1
      cases o with
      | lst xs =>
        simp only [e] at q2
        cases r : L2.ixN xs.length j with
        | none => simp only [setD, r] at q2; exact q2.elim
        | some n =>
          simp only [setD, r, Option.map] at q2
          obtain ⟨vs, h1, h2⟩ := e3
          refine ⟨ad, vs, j, n, rfl, dp_int dw, h1, by rw [dpAll_len h2]; exact r, ?_⟩
          cases t : retake g2 i (.lst (xs.set n d)) with
          | none => simp only [t] at q2; exact q2.elim
          | some g3 =>
            simp only [t] at q2
            exact q2 S P σ _ (I2.setOwn (o := .lst xs) (o' := .lst xs) t ha (dpAll_set h2 (dp_le (gr2.leS I2) _ _ dv))) (put_le I2 e2)
  | _ => exact q2.elim⟩
theorem ps_sApp {i : Nat} {fe : ME} {st : Stmt} (h : PS X st (tDrop (tBM X.K "list" rAppend (tVar i) (tCons (tF G W fe) tNil)))) : PS X st (tS G W (sApp i fe)) := ps_imp h fun D σ H ⟨S, P, g, I, q⟩ => by
  obtain ⟨⟨ad, vs0, ha, has, h0⟩, q⟩ := hasOwn_of I q
  refine ⟨_, ha, .inl ⟨rfl, _, .of h0⟩, S, P, g, I, (Post.thenS I q).mono fun w H2 ⟨d, g2, I2, gr2, dw, q2⟩ => ?_⟩
  unfold appEnd at q2
  cases e : lends g2 i with
  | none => simp only [e] at q2; exact q2.elim
  | some o =>
    obtain ⟨ad2, e1, e2, e3⟩ := lends_own I2 e
    rw [ha] at e1; cases e1
    cases o with
    | lst xs =>
      simp only [e] at q2
      obtain ⟨vs, h1, h2⟩ := e3
      by_cases hz : xs.length < sizeLine
      · rw [if_pos hz] at q2
        refine ⟨ad, vs, w, rfl, rfl, h1, by rw [dpAll_len h2]; exact hz, ?_⟩
        cases t : retake g2 i (.lst (xs ++ [d])) with
        | none => simp only [t] at q2; exact q2.elim
        | some g3 =>
          simp only [t] at q2
          exact q2 S P σ _ (I2.setOwn (o := .lst xs) (o' := .lst xs) t ha (dpAll_app h2 (.cons dw .nil))) (put_le I2 e2)
      · rw [if_neg hz] at q2; exact q2.elim
theorem ps_sExt {i : Nat} {fe : ME} {st : Stmt} (h : PS X st (tDrop (tBM X.K "list" rExtend (tVar i) (tCons (tF G W fe) tNil)))) : PS X st (tS G W (sExt i fe)) := ps_imp h fun D σ H ⟨S, P, g, I, q⟩ => by
  obtain ⟨⟨ad, vs0, ha, has, h0⟩, q⟩ := hasOwn_of I q
  refine ⟨_, ha, .inl ⟨rfl, _, .of h0⟩, S, P, g, I, ?_⟩
  cases r : fe g with
  | bad => rw [r] at q; exact q.elim
  | ok d g2 => rw [r] at q; exact q.elim
  | ex x g' => rw [r] at q; exact fun cls d H' a b c => q S P σ cls d H' a (b.leS a) c
  | fr o g2 =>
    rw [r] at q
    intro b H2 n n2 en J gr ow
    cases o with
    | lst ys =>
      have q : PostS G W P H D (match lends g2 i with
        | some (.lst xs) => if xs.length + ys.length ≤ sizeLine then nxO (retake g2 i (.lst (xs ++ ys))) else .bad
        | _ => .bad) := q
      have I2 := J.drop I.sS I.sP
      have dl := own_dp n ow
      cases e : lends g2 i with
      | none => simp only [e] at q; exact q.elim
      | some o =>
        obtain ⟨ad2, e1, e2, e3⟩ := lends_own I2 e
        rw [ha] at e1; cases e1
        cases o with
        | lst xs =>
          simp only [e] at q
          obtain ⟨vs, h1, h2⟩ := e3
          obtain ⟨ws, h3, h4⟩ := ow
          have h4' : DpAll G.K (hide P H2) ws ys := dpAll_le (hide_sub fun b hb => .tail _ hb) _ _ h4
          by_cases hz : xs.length + ys.length ≤ sizeLine
          · rw [if_pos hz] at q
            refine ⟨ad, b, vs, ws, rfl, rfl, h1, h3, by rw [dpAll_len h2, dpAll_len h4]; exact hz, ?_⟩
            cases t : retake g2 i (.lst (xs ++ ys)) with
            | none => simp only [t] at q; exact q.elim
            | some g3 =>
              simp only [t] at q
              exact q S P σ _ (I2.setOwn (o := .lst xs) (o' := .lst xs) t ha (dpAll_app h2 h4')) ((gr.leS I2).trans (put_le I2 e2))
          · rw [if_neg hz] at q; exact q.elim
/-! ### an own object is shared from here on -/
theorem Iv.frz1 {i : Nat} (I : Iv G S P g σ H) : ∃ S' P', Iv G S' P' (frz g i) σ H ∧ LeH (hide P H) (hide P' H) := by
  unfold frz
  split
  · rename_i o e
    obtain ⟨ad, e1, e2, e3⟩ := I.slot i _ e
    have hi : i < g.length := (List.getElem?_eq_some_iff.mp e).1
    obtain ⟨n0, h0⟩ := I.src i o ad e e1
    refine ⟨S.filter (· ≠ ad), P.filter (· ≠ ad), ?_, ?_⟩
    · have l : LeH (hide P H) (hide (P.filter (· ≠ ad)) H) := hide_sub fun b hb => (List.mem_filter.mp hb).1
      have nP : ad ∉ P.filter (· ≠ ad) := fun z => by simpa using (List.mem_filter.mp z).2
      have dd : Dp G.K (hide (P.filter (· ≠ ad)) H) (.ref ad) o.d := by
        cases o with
        | lst ds =>
          obtain ⟨vs, h1, h2⟩ := e3
          exact .lst (.of (by rw [hide_out nP]; exact h1)) (dpAll_le l _ _ h2)
      have at' : ∀ j t, (g.set i (.sh o.d))[j]? = some t → (j = i ∧ t = .sh o.d) ∨ (j ≠ i ∧ g[j]? = some t) := fun j t e => by
        rw [set_get hi] at e
        by_cases ej : j = i
        · rw [if_pos ej] at e; cases e; exact .inl ⟨ej, rfl⟩
        · rw [if_neg ej] at e; exact .inr ⟨ej, e⟩
      refine ⟨by rw [List.length_set]; exact I.len, fun j t f => ?_, fun j k t u a2 hjk f1 f2 o1 o2 a3 a4 => ?_, fun j o2 a2 f a1 => ?_, fun j o2 a2 f a1 => ?_, I.grow, I.keep, fun b hb => ?_, fun b hb => ?_, fun b hb => I.new b (List.mem_filter.mp hb).1, fun b hb => I.mem b (List.mem_filter.mp hb).1, I.sT, I.tabs⟩
      · rcases at' j t f with ⟨rfl, rfl⟩ | ⟨hj, f1⟩
        · exact ⟨_, e1, dd⟩
        · have q := I.slot j t f1
          have ow : ∀ {w : Own}, isOwn t → (∃ a, σ[j]? = some (some (.ref a)) ∧ a ∈ S ∧ OwnAt G.K P H a w) → ∃ a, σ[j]? = some (some (.ref a)) ∧ a ∈ S.filter (· ≠ ad) ∧ OwnAt G.K (P.filter (· ≠ ad)) H a w := fun {w} ot ⟨a, e1', e2', e3'⟩ =>
            ⟨a, e1', List.mem_filter.mpr ⟨e2', by simpa using fun z => I.dis j i t (.ow o) a hj f1 e ot trivial e1' (by rw [z]; exact e1)⟩, e3'.le rfl l⟩
          cases t with
          | un => trivial
          | sh d => obtain ⟨v, e1, e2⟩ := q; exact ⟨v, e1, dp_le l _ _ e2⟩
          | ow w => exact ow trivial q
          | br w => exact ow trivial q
      · rcases at' j t f1 with ⟨_, rfl⟩ | ⟨_, f1⟩
        · exact o1.elim
        · rcases at' k u f2 with ⟨_, rfl⟩ | ⟨_, f2⟩
          · exact o2.elim
          · exact I.dis j k t u a2 hjk f1 f2 o1 o2 a3 a4
      · rcases at' j _ f with ⟨_, q⟩ | ⟨_, f⟩
        · cases q
        · exact I.src j o2 a2 f a1
      · rcases at' j _ f with ⟨_, q⟩ | ⟨_, f⟩
        · cases q
        · exact I.lent j o2 a2 f a1
      · obtain ⟨h1, h2⟩ := List.mem_filter.mp hb
        exact List.mem_filter.mpr ⟨I.sS b h1, h2⟩
      · exact List.mem_filter.mpr ⟨I.sP b hb, by simpa using fun z => n0 (by rw [← z]; exact hb)⟩
    · exact hide_sub fun b hb => (List.mem_filter.mp hb).1
  · exact ⟨S, P, I, .refl _⟩
theorem Iv.frzs : ∀ (is : List Nat) {S P : List Addr} {g : Gam}, Iv G S P g σ H → ∃ S' P', Iv G S' P' (is.foldl frz g) σ H ∧ LeH (hide P H) (hide P' H)
  | [], S, P, g, I => ⟨S, P, I, .refl _⟩
  | i :: r, S, P, g, I => by
    obtain ⟨S1, P1, I1, l1⟩ := I.frz1 (i := i)
    obtain ⟨S2, P2, I2, l2⟩ := Iv.frzs r I1
    exact ⟨S2, P2, I2, l1.trans l2⟩
theorem tS_frz (is : List Nat) {m : MS} : ∀ D σ H, tS G W (sFrz is m) D σ H → tS G W m D σ H := fun D σ H ⟨S, P, g, I, q⟩ => by
  obtain ⟨S', P', I', le⟩ := I.frzs is
  exact ⟨S', P', _, I', .rebase le q⟩
theorem ps_sFrz {st : Stmt} (is : List Nat) {m : MS} (h : PS X st (tS G W m)) : PS X st (tS G W (sFrz is m)) := ps_imp h (tS_frz is)
/-! ### loops -/
theorem ps_sFor {tg iter : Expr} {body : List Stmt} {t : Tg} {l : ML} {m : MS} (hp : PassesOwn (model X.prog X.w) X.A X.env X.xe) (hc : X.calm = true) (hi : PI X tg iter (tI G W l)) (hg : PG X tg (tG G t)) (hb : PSs X body (tS G W m)) (hs : ∀ x, foldedSetIterable iter X.env x = pure x := by intro _; rfl) :
    PS X (.For tg iter body [] pos) (tS G W (sFor t l m)) := ps_imp (ps_for hp hc hi hg hb hs) fun D σ H ⟨S, P, g, I, q⟩ => ⟨S, P, g, I, by
  have q : PostS G W P H D ((l g).thenS fun items g => forGo t m items g) := q
  cases r : l g with
  | bad => rw [r] at q; exact q
  | ex x g' => rw [r] at q; exact fun cls d H' a b c => q S P σ cls d H' a (b.leS a) c
  | ok items g1 =>
    rw [r] at q
    intro J H1 I1 gr1 it
    have q : PostS G W P H1 D (forGo t m items g1) := .rebase (gr1.leS I1) q
    refine ⟨fun i n σ' H' => n = items.length - i ∧ i ≤ items.length ∧ ∃ S' P' g', Iv G S' P' g' σ' H' ∧ LeH (hide P H1) (hide P' H') ∧ PostS G W P' H' D (forGo t m (items.drop i) g'), ⟨items.length, by simp, Nat.zero_le _, S, P, g1, I1, .refl _, q⟩, ?_⟩
    rintro i n σ' H' ⟨rfl, hi', S', P', g', I', le, q'⟩
    have IT := it P' H' le I'.mem i
    by_cases hlt : i < items.length
    · right
      have ed : items.drop i = items[i] :: items.drop (i + 1) := List.drop_eq_getElem_cons hlt
      obtain ⟨go, yl⟩ := IT.1 items[i] (List.getElem?_eq_getElem hlt)
      refine ⟨go, fun σ' H' => ∃ S' P' g', Iv G S' P' g' σ' H' ∧ LeH (hide P H1) (hide P' H') ∧ PostS G W P' H' D (forGo t m (items.drop (i + 1)) g'), fun σ2 H2 c => ⟨items.length - (i + 1), by omega, rfl, hlt, c⟩, fun x H2 y => ?_⟩
      obtain ⟨st, dx⟩ := yl x H2 y
      have I2 : Iv G S' P' g' σ' H2 := by
        rcases st with rfl | ⟨p, o, hp, rfl⟩
        · exact I'
        · exact I'.alloc hp
      have le2 : LeH (hide P' H') (hide P' H2) := by
        rcases st with rfl | ⟨p, o, hp, rfl⟩
        · exact .refl _
        · exact (Grow.upd (P := P') hp).le
      rw [ed] at q'
      have q' : PostS G W P' H' D (match tgD t items[i] g' with
        | none => .bad
        | some g => match m g with
          | .nx g => forGo t m (items.drop (i + 1)) g
          | .ct g => forGo t m (items.drop (i + 1)) g
          | .bk g => .nx g
          | r => r) := q'
      cases et : tgD t items[i] g' with
      | none => simp only [et] at q'; exact q'.elim
      | some g2 =>
        simp only [et] at q'
        refine ⟨S', P', g', items[i], g2, I2, dx, et, fun σ2 k2 I3 => ⟨S', P', g2, I3, ?_⟩⟩
        cases rm : m g2 with
        | nx g3 => rw [rm] at q'; exact fun S4 P4 σ4 H4 I4 le4 => ⟨S4, P4, g3, I4, le.trans (le2.trans le4), .rebase (le2.trans le4) q'⟩
        | ct g3 => rw [rm] at q'; exact fun S4 P4 σ4 H4 I4 le4 => ⟨S4, P4, g3, I4, le.trans (le2.trans le4), .rebase (le2.trans le4) q'⟩
        | bk g3 => rw [rm] at q'; exact PostS.rebase le2 q'
        | rt d g3 => rw [rm] at q'; exact PostS.rebase le2 q'
        | rf o g3 => rw [rm] at q'; exact PostS.rebase le2 q'
        | ex x g3 => rw [rm] at q'; exact PostS.rebase le2 q'
        | bad => rw [rm] at q'; exact q'
    · left
      have ei : i = items.length := by omega
      subst ei
      rw [List.drop_length] at q'
      exact ⟨IT.2 (Nat.le_refl _), q' S' P' σ' H' I' (.refl _)⟩⟩
theorem ps_sWhl {body : List Stmt} {m : MS} (hp : PassesOwn (model X.prog X.w) X.A X.env X.xe) (hc : PT X c (tB (tF G W fc))) (hb : PSs X body (tS G W m)) : PS X (.While c body [] pos) (tS G W (sWhl fc m)) := ps_imp (ps_while hp hc hb) fun D σ H ⟨S, P, g, I, q⟩ => by
  refine ⟨fun n σ' H' => ∃ S' P' g', Iv G S' P' g' σ' H' ∧ PostS G W P' H' D (whGo fc m n g'), ⟨turnsW, S, P, g, I, q⟩, ?_⟩
  rintro n σ' H' ⟨S', P', g', I', q'⟩
  cases n with
  | zero => exact q'.elim
  | succ n =>
    have q' : PostS G W P' H' D (match (fc g').sh with
      | .ok (.bool true) g => (match m g with
        | .nx g => whGo fc m n g
        | .ct g => whGo fc m n g
        | .bk g => .nx g
        | r => r)
      | .ok (.bool false) g => .nx g
      | .ex x g => .ex x g
      | _ => .bad) := q'
    refine ⟨S', P', g', I', ?_⟩
    cases r : fc g' with
    | bad => rw [r] at q'; exact q'.elim
    | fr o g1 => rw [r] at q'; cases o; exact q'.elim
    | ex x g1 => rw [r] at q'; exact fun cls d H' a b c => q' S' P' σ' cls d H' a (b.leS a) c
    | ok d g1 =>
      rw [r] at q'
      cases d with
      | bool b =>
        intro v H1 I1 gr1 dv
        refine ⟨b, dp_bool dv, ?_⟩
        cases b with
        | false => rw [if_neg Bool.false_ne_true]; exact q' S' P' σ' H1 I1 (gr1.leS I1)
        | true =>
          rw [if_pos rfl]
          refine ⟨fun σ2 H2 => ∃ S' P' g', Iv G S' P' g' σ2 H2 ∧ PostS G W P' H2 D (whGo fc m n g'), fun σ2 H2 h => ⟨n, Nat.lt_succ_self n, h⟩, S', P', g1, I1, ?_⟩
          have q' : PostS G W P' H1 D (match m g1 with
            | .nx g => whGo fc m n g
            | .ct g => whGo fc m n g
            | .bk g => .nx g
            | r => r) := PostS.rebase (gr1.leS I1) q'
          cases rm : m g1 with
          | nx g3 => rw [rm] at q'; exact fun S4 P4 σ4 H4 I4 le4 => ⟨S4, P4, g3, I4, .rebase le4 q'⟩
          | ct g3 => rw [rm] at q'; exact fun S4 P4 σ4 H4 I4 le4 => ⟨S4, P4, g3, I4, .rebase le4 q'⟩
          | bk g3 => rw [rm] at q'; exact q'
          | rt d g3 => rw [rm] at q'; exact q'
          | rf o g3 => rw [rm] at q'; exact q'
          | ex x g3 => rw [rm] at q'; exact q'
          | bad => rw [rm] at q'; exact q'
      | _ => exact q'.elim
end
end Ev

set_option Elab.async false
set_option linter.all false
set_option maxRecDepth 100000
set_option maxHeartbeats 4000000
/-! EvJ: arguments, calls, defs. -/
namespace Ev
open PySem PySem.Spec PyProof.Rows L2
/-- the bound arguments of a def: shared ones, lent ones (their addresses: T) -/
inductive ArgsOk (K : PySem.W.Frag) (P : List Addr) (H : L2.Hp) : List V → List Arg → List Addr → Prop where
  | nil : ArgsOk K P H [] [] []
  | sh {v : V} {d : PyData} {vs : List V} {as : List Arg} {T : List Addr} (h : Dp K (hide P H) v d) (t : ArgsOk K P H vs as T) : ArgsOk K P H (v :: vs) (.sh d :: as) T
  | by {a : Addr} {o : Own} {vs : List V} {as : List Arg} {T : List Addr} (h : a ∈ P) (w : OwnAt K P H a o) (t : ArgsOk K P H vs as T) : ArgsOk K P H (.ref a :: vs) (.by o :: as) (a :: T)
/-- the lent objects behind a call -/
inductive LentOk (K : PySem.W.Frag) (P : List Addr) (H : L2.Hp) : List Addr → List Own → Prop where
  | nil : LentOk K P H [] []
  | cons {a : Addr} {o : Own} {T : List Addr} {bs : List Own} (w : OwnAt K P H a o) (t : LentOk K P H T bs) : LentOk K P H (a :: T) (o :: bs)
structure Back (K : PySem.W.Frag) (Ts : List (Addr × Str)) (P' T : List Addr) (bs : List Own) (H H' : L2.Hp) : Prop where
  grow : Grow T H H'
  lent : LentOk K P' H' T bs
  mem : ∀ b ∈ P', ∃ xs, H' b = some (.lst xs)
  tabs : LamX.Tabs Ts H'
def ExnK (K : PySem.W.Frag) (exc : String → Option (Addr × Str)) (P : List Addr) (x : Exn) (cls : Value) (d : Option Addr) (H : L2.Hp) : Prop :=
  ∃ C f dd v, exc x.cls = some (C, f) ∧ cls = .ref C ∧ d = some dd ∧ H dd = some (.xd [(f, v)]) ∧ Dp K (hide P H) v x.arg
def AfterOk (K : PySem.W.Frag) (Ts : List (Addr × Str)) (exc : String → Option (Addr × Str)) (P T : List Addr) (H : L2.Hp) (Q : VK) (E : XK) : RF → Prop
  | .ok d bs => ∀ v H', Back K Ts P T bs H H' → Dp K (hide P H') v d → Q v H'
  | .fr o bs => ∀ a H', a ∉ P → Free H a → Back K Ts (a :: P) T bs H H' → OwnAt K (a :: P) H' a o → Q (.ref a) H'
  | .ex x bs => ∀ cls d H', Back K Ts P T bs H H' → ExnK K exc P x cls d H' → E cls d H'
  | .bad => False
/-- a def's promise: what f says -/
def spF (K : PySem.W.Frag) (Ts : List (Addr × Str)) (exc : String → Option (Addr × Str)) (n : Nat) (f : List Arg → RF) : Sp := fun vs H Q E => vs.length = n ∧ ∃ P T as, ArgsOk K P H vs as T ∧ T.Nodup ∧ (∀ b ∈ P, ∃ xs, H b = some (.lst xs)) ∧ LamX.Tabs Ts H ∧ AfterOk K Ts exc P T H Q E (f as)

/-- the arguments as written, their values, the lent addresses, the new ones among them -/
inductive AvOk (K : PySem.W.Frag) (P : List Addr) (H : L2.Hp) (σ : L2.St) : List V → List AV → List Addr → List Addr → Prop where
  | nil : AvOk K P H σ [] [] [] []
  | sh {v : V} {d : PyData} {vs : List V} {as : List AV} {T ts : List Addr} (h : Dp K (hide P H) v d) (t : AvOk K P H σ vs as T ts) : AvOk K P H σ (v :: vs) (.sh d :: as) T ts
  | byr {i : Nat} {a : Addr} {vs : List V} {as : List AV} {T ts : List Addr} (h : σ[i]? = some (some (.ref a))) (t : AvOk K P H σ vs as T ts) : AvOk K P H σ (.ref a :: vs) (.byr i :: as) (a :: T) ts
  | byt {a : Addr} {o : Own} {vs : List V} {as : List AV} {T ts : List Addr} (h : a ∈ P) (w : OwnAt K P H a o) (t : AvOk K P H σ vs as T ts) : AvOk K P H σ (.ref a :: vs) (.byt o :: as) (a :: T) (a :: ts)
def PostA (G : Gh) (W : WX) (S P : List Addr) (σ : L2.St) (H : L2.Hp) (Q : List V → L2.Hp → Prop) : RA → Prop
  | .ok as g' => ∀ vs H' P' T ts, Iv G S P' g' σ H' → Grow S H H' → (∀ b, b ∈ P' ↔ b ∈ ts ∨ b ∈ P) → ts.Nodup → (∀ t ∈ ts, t ∉ P ∧ t ∉ S ∧ Free H t) → AvOk G.K P' H' σ vs as T ts → Q vs H'
  | .ex x g' => ∀ cls d H', Iv G S P g' σ H' → Grow S H H' → ExnAt G P x cls d H' → W cls d σ H'
  | .bad => False
def tA (G : Gh) (W : WX) (l : MA) : TA := fun σ H Q => ∃ S P g, Iv G S P g σ H ∧ PostA G W S P σ H Q (l g)
section
variable {X : Cx} {G : Gh} {W : WX} {S P P1 : List Addr} {σ : L2.St} {H H1 : L2.Hp} {Q Q' : VK} {g : Gam} {pos : Pos} {a b c : Expr} {fa fb fc f : ME} {D : Ends} {es : List Expr} {l : MA}
theorem AvOk.le {K : PySem.W.Frag} {P P' : List Addr} {H H' : L2.Hp} {vs : List V} {as : List AV} {T ts : List Addr} (h : AvOk K P H σ vs as T ts) (k : ∀ b ∈ ts, H' b = H b) (s : ∀ b ∈ P, b ∈ P') (le : LeH (hide P H) (hide P' H')) : AvOk K P' H' σ vs as T ts := by
  induction h with
  | nil => exact .nil
  | sh h t ih => exact .sh (dp_le le _ _ h) (ih k)
  | byr h t ih => exact .byr h (ih k)
  | byt h w t ih => exact .byt (s _ h) (w.le (k _ List.mem_cons_self) le) (ih fun b hb => k b (.tail _ hb))
theorem pa_aNil : PA X [] (tA G W aNil) := pa_imp pa_nil fun σ H Q ⟨S, P, g, I, q⟩ => q [] H P [] [] I (.refl _ _) (fun b => by simp) .nil (fun _ z => nomatch z) .nil
theorem leNewS {ts P' : List Addr} (I : Iv G S P g σ H) (gr : Grow S H H1) (hp : ∀ b, b ∈ P' ↔ b ∈ ts ∨ b ∈ P) (hn : ∀ t ∈ ts, Free H t) : LeH (hide P H) (hide P' H1) := (gr.sub I.sS).leNew fun b hb => by
  rcases (hp b).mp hb with z | z
  · exact .inr (hn b z)
  · exact .inl z
theorem pa_aSh (ha : PE X a (tF G W fa)) (hl : PA X es (tA G W l)) (hs : starEach (a :: es) X.env = (false, eval a X.env) :: starEach es X.env := by rfl) : PA X (a :: es) (tA G W (aSh fa l)) :=
  pa_imp (pa_cons ha hl hs) fun σ H Q ⟨S, P, g, I, q⟩ => ⟨S, P, g, I, by
    have q : PostA G W S P σ H Q (match (fa g).sh with
      | .ok d g => (l g).cons (.sh d)
      | .ex x g => .ex x g
      | _ => .bad) := q
    have fin : ∀ (d : PyData) (g1 : Gam) (v : V) (H1 : L2.Hp), PostA G W S P σ H Q ((l g1).cons (.sh d)) → Iv G S P g1 σ H1 → Grow S H H1 → Dp G.K (hide P H1) v d → tA G W l σ H1 fun xs H2 => Q (v :: xs) H2 := fun d g1 v H1 q I1 gr dv => by
      refine ⟨S, P, g1, I1, ?_⟩
      cases r : l g1 with
      | bad => rw [r] at q; exact q
      | ex x g2 => rw [r] at q; exact fun cls d H' a b c => q cls d H' a (gr.trans b) c
      | ok as g2 =>
        rw [r] at q
        exact fun vs H2 P2 T ts I2 gr2 hp nd hn av => q (v :: vs) H2 P2 T ts I2 (gr.trans gr2) hp nd (fun t ht => ⟨(hn t ht).1, (hn t ht).2.1, gr.free (hn t ht).2.1 (hn t ht).2.2⟩) (.sh (dp_le (leNewS I1 gr2 hp fun t ht => (hn t ht).2.2) _ _ dv) av)
    cases r : fa g with
    | bad => rw [r] at q; exact q.elim
    | ex x g1 => rw [r] at q; exact fun cls d H' a b c => q cls d H' a b c
    | ok d g1 => rw [r] at q; exact fun v H1 I1 gr dv => fin d g1 v H1 q I1 gr dv
    | fr o g1 => rw [r] at q; exact fun a H1 n n2 en J gr ow => fin o.d g1 _ H1 q (J.drop I.sS I.sP) gr (own_dp n ow)⟩
theorem pa_aByr {i : Nat} {x : Str} {p : Pos} (ha : PE X (.Name x p) (tVar i)) (hl : PA X es (tA G W l)) (hs : starEach (.Name x p :: es) X.env = (false, eval (.Name x p) X.env) :: starEach es X.env := by rfl) : PA X (.Name x p :: es) (tA G W (aByr i l)) :=
  pa_imp (pa_cons ha hl hs) fun σ H Q ⟨S, P, g, I, q⟩ => by
    have q : PostA G W S P σ H Q (match lends g i with
      | some _ => (l g).cons (.byr i)
      | none => .bad) := q
    cases e : lends g i with
    | none => rw [e] at q; exact q.elim
    | some o =>
      rw [e] at q
      obtain ⟨ad, e1, e2, e3⟩ := lends_own I e
      refine ⟨_, e1, S, P, g, I, ?_⟩
      cases r : l g with
      | bad => rw [r] at q; exact q
      | ex x g2 => rw [r] at q; exact q
      | ok as g2 =>
        rw [r] at q
        exact fun vs H2 P2 T ts I2 gr2 hp nd hn av => q _ H2 P2 (ad :: T) ts I2 gr2 hp nd hn (.byr e1 av)
theorem pa_aByt (ha : PE X a (tF G W fa)) (hl : PA X es (tA G W l)) (hs : starEach (a :: es) X.env = (false, eval a X.env) :: starEach es X.env := by rfl) : PA X (a :: es) (tA G W (aByt fa l)) :=
  pa_imp (pa_cons ha hl hs) fun σ H Q ⟨S, P, g, I, q⟩ => ⟨S, P, g, I, by
    have q : PostA G W S P σ H Q (match fa g with
      | .fr o g => (l g).cons (.byt o)
      | .ex x g => .ex x g
      | _ => .bad) := q
    cases r : fa g with
    | bad => rw [r] at q; exact q.elim
    | ok d g1 => rw [r] at q; exact q.elim
    | ex x g1 => rw [r] at q; exact fun cls d H' a b c => q cls d H' a b c
    | fr o g1 =>
      rw [r] at q
      have q : PostA G W S P σ H Q ((l g1).cons (.byt o)) := q
      intro ad H1 n n2 en J gr ow
      refine ⟨S, ad :: P, g1, J, ?_⟩
      cases r2 : l g1 with
      | bad => rw [r2] at q; exact q
      | ex x g2 =>
        rw [r2] at q
        intro cls d H' a b c
        have l0 : LeH (hide (ad :: P) H') (hide P H') := hide_sub fun b hb => .tail _ hb
        obtain ⟨C, f, dd, v, z1, z2, z3, z4, z5⟩ := c
        exact q cls d H' (a.drop I.sS I.sP) (gr.trans b) ⟨C, f, dd, v, z1, z2, z3, z4, dp_le l0 _ _ z5⟩
      | ok as g2 =>
        rw [r2] at q
        intro vs H2 P2 T ts I2 gr2 hp nd hn av
        have ha2 : ad ∈ P2 := (hp ad).mpr (.inr List.mem_cons_self)
        have le2 : LeH (hide (ad :: P) H1) (hide P2 H2) := leNewS J gr2 hp fun t ht => (hn t ht).2.2
        have ow2 : OwnAt G.K P2 H2 ad o := by
          cases o with
          | lst ds =>
            obtain ⟨ws, h1, h2⟩ := ow
            exact ⟨ws, gr2.at n2 h1 nt_lst, dpAll_le le2 _ _ h2⟩
        refine q _ H2 P2 (ad :: T) (ad :: ts) I2 (gr.trans gr2) (fun b => ?_) ?_ (fun t ht => ?_) (.byt ha2 ow2 av)
        · rw [hp b, List.mem_cons, List.mem_cons]
          constructor
          · rintro (z | z | z)
            · exact .inl (.inr z)
            · exact .inl (.inl z)
            · exact .inr z
          · rintro ((z | z) | z)
            · exact .inr (.inl z)
            · exact .inl z
            · exact .inr (.inr z)
        · exact List.nodup_cons.mpr ⟨fun z => (hn ad z).1 List.mem_cons_self, nd⟩
        · rcases List.mem_cons.mp ht with z | z
          · subst z; exact ⟨n, n2, en⟩
          · exact ⟨fun y => (hn t z).1 (.tail _ y), (hn t z).2.1, gr.free (hn t z).2.1 (hn t z).2.2⟩⟩
/-! ### a call -/
theorem AvOk.where {vs : List V} {as : List AV} {T ts : List Addr} {K : PySem.W.Frag} (h : AvOk K P H σ vs as T ts) : ∀ t ∈ T, (∃ j ∈ byrs as, σ[j]? = some (some (.ref t))) ∨ t ∈ ts := by
  induction h with
  | nil => exact fun _ z => nomatch z
  | sh h t ih => exact ih
  | byr h t ih =>
    intro x hx
    rcases List.mem_cons.mp hx with z | z
    · subst z; exact .inl ⟨_, List.mem_cons_self, h⟩
    · rcases ih x z with ⟨j, h1, h2⟩ | h1
      · exact .inl ⟨j, .tail _ h1, h2⟩
      · exact .inr h1
  | byt h w t ih =>
    intro x hx
    rcases List.mem_cons.mp hx with z | z
    · subst z; exact .inr List.mem_cons_self
    · rcases ih x z with q | h1
      · exact .inl q
      · exact .inr (.tail _ h1)
theorem AvOk.tsP {vs : List V} {as : List AV} {T ts : List Addr} {K : PySem.W.Frag} (h : AvOk K P H σ vs as T ts) : ∀ t ∈ ts, t ∈ P := by
  induction h with
  | nil => exact fun _ z => nomatch z
  | sh h t ih => exact ih
  | byr h t ih => exact ih
  | byt h w t ih => exact fun x hx => (List.mem_cons.mp hx).elim (fun z => by rw [z]; exact h) (ih x)
theorem lends_isOwn {i : Nat} {o : Own} (h : lends g i = some o) : ∃ s, g[i]? = some s ∧ isOwn s := by
  unfold lends at h
  split at h
  · rename_i e; exact ⟨_, e, trivial⟩
  · rename_i e; exact ⟨_, e, trivial⟩
  · cases h
theorem args_of {vs : List V} {avs : List AV} {T ts : List Addr} (I : Iv G S P g σ H) (h : AvOk G.K P H σ vs avs T ts) : ∀ {as : List Arg}, argsOf g avs = some as → ArgsOk G.K P H vs as T ∧ ∀ j ∈ byrs avs, ∃ o, lends g j = some o := by
  induction h with
  | nil => intro as e; cases e; exact ⟨.nil, fun _ z => nomatch z⟩
  | @sh v d vs as T ts h t ih =>
    intro r e
    have e : (argsOf g as).map (Arg.sh d :: ·) = some r := e
    cases q : argsOf g as with
    | none => rw [q] at e; cases e
    | some r2 =>
      rw [q] at e; cases e
      obtain ⟨h1, h2⟩ := ih q
      exact ⟨.sh h h1, h2⟩
  | @byr i a vs as T ts h t ih =>
    intro r e
    have e : ((lends g i).bind fun o => (argsOf g as).map (Arg.by o :: ·)) = some r := e
    cases q0 : lends g i with
    | none => rw [q0] at e; cases e
    | some o =>
      rw [q0] at e
      have e : (argsOf g as).map (Arg.by o :: ·) = some r := e
      cases q : argsOf g as with
      | none => rw [q] at e; cases e
      | some r2 =>
        rw [q] at e; cases e
        obtain ⟨h1, h2⟩ := ih q
        obtain ⟨ad, e1, e2, e3⟩ := lends_own I q0
        rw [h] at e1; cases e1
        refine ⟨.by (I.sS _ e2) e3 h1, fun j hj => ?_⟩
        rcases List.mem_cons.mp hj with z | z
        · subst z; exact ⟨o, q0⟩
        · exact h2 j z
  | @byt a o vs as T ts h w t ih =>
    intro r e
    have e : (argsOf g as).map (Arg.by o :: ·) = some r := e
    cases q : argsOf g as with
    | none => rw [q] at e; cases e
    | some r2 =>
      rw [q] at e; cases e
      obtain ⟨h1, h2⟩ := ih q
      exact ⟨.by h w h1, h2⟩
theorem AvOk.nodup {vs : List V} {avs : List AV} {T ts : List Addr} (I : Iv G S P g σ H) (h : AvOk G.K P H σ vs avs T ts) (hb : (byrs avs).Nodup) (ht : ts.Nodup) (hS : ∀ t ∈ ts, t ∉ S) (hl : ∀ j ∈ byrs avs, ∃ o, lends g j = some o) : T.Nodup := by
  induction h with
  | nil => exact .nil
  | sh h t ih => exact ih hb ht hS hl
  | @byr i a vs as T ts h t ih =>
    obtain ⟨h1, h2⟩ := List.nodup_cons.mp hb
    refine List.nodup_cons.mpr ⟨fun z => ?_, ih h2 ht hS fun j hj => hl j (.tail _ hj)⟩
    obtain ⟨o, ho⟩ := hl i List.mem_cons_self
    obtain ⟨s, hs, os⟩ := lends_isOwn ho
    rcases t.where a z with ⟨j, hj, ej⟩ | hz
    · obtain ⟨o2, ho2⟩ := hl j (.tail _ hj)
      obtain ⟨s2, hs2, os2⟩ := lends_isOwn ho2
      exact I.dis i j s s2 a (fun e => h1 (e ▸ hj)) hs hs2 os os2 h ej
    · exact hS a hz ((I.slot i s hs).own_in os h)
  | @byt a o vs as T ts h w t ih =>
    obtain ⟨h1, h2⟩ := List.nodup_cons.mp ht
    refine List.nodup_cons.mpr ⟨fun z => ?_, ih hb h2 (fun x hx => hS x (.tail _ hx)) hl⟩
    rcases t.where a z with ⟨j, hj, ej⟩ | hz
    · obtain ⟨o2, ho2⟩ := hl j hj
      obtain ⟨s2, hs2, os2⟩ := lends_isOwn ho2
      exact hS a List.mem_cons_self ((I.slot j s2 hs2).own_in os2 ej)
    · exact h1 hz
theorem retake_get {g g' : Gam} {i : Nat} {o : Own} (h : retake g i o = some g') : ∃ s', g' = g.set i s' ∧ i < g.length ∧ ((∃ o0, g[i]? = some (.ow o0) ∧ s' = .ow o) ∨ ∃ o0, g[i]? = some (.br o0) ∧ s' = .br o) := by
  unfold retake at h
  split at h
  · rename_i o0 e; cases h; exact ⟨_, rfl, (List.getElem?_eq_some_iff.mp e).1, .inl ⟨o0, e, rfl⟩⟩
  · rename_i o0 e; cases h; exact ⟨_, rfl, (List.getElem?_eq_some_iff.mp e).1, .inr ⟨o0, e, rfl⟩⟩
  · cases h
theorem takeBack_at {K : PySem.W.Frag} {P' : List Addr} {H' : L2.Hp} {vs : List V} {avs : List AV} {T ts : List Addr} (h : AvOk K P H σ vs avs T ts) : ∀ {bs : List Own} {g g2 : Gam}, LentOk K P' H' T bs → takeBack avs bs g = some g2 →
    g2.length = g.length ∧ ∀ j s, g2[j]? = some s → (g[j]? = some s ∧ j ∉ byrs avs) ∨ ∃ o o0 a, j ∈ byrs avs ∧ σ[j]? = some (some (.ref a)) ∧ OwnAt K P' H' a o ∧ ((s = .ow o ∧ g[j]? = some (.ow o0)) ∨ (s = .br o ∧ g[j]? = some (.br o0))) := by
  induction h with
  | nil =>
    intro bs g g2 l e
    cases l
    cases e
    exact ⟨rfl, fun j s e => .inl ⟨e, fun z => nomatch z⟩⟩
  | @sh v d vs as T ts h t ih => intro bs g g2 l e; exact ih l e
  | @byr i a vs as T ts h t ih =>
    intro bs g g2 l e
    cases l with
    | @cons _ o _ bs w lt =>
      have e : ((retake g i o).bind fun g => takeBack as bs g) = some g2 := e
      cases q : retake g i o with
      | none => rw [q] at e; cases e
      | some g1 =>
        rw [q] at e
        obtain ⟨s', rfl, hi, hk⟩ := retake_get q
        obtain ⟨h1, h2⟩ := ih lt e
        rw [List.length_set] at h1
        refine ⟨h1, fun j s es => ?_⟩
        rcases h2 j s es with ⟨e1, n1⟩ | ⟨o2, o0, a2, e1, e2, e3, e4⟩
        · rw [set_get hi] at e1
          by_cases ej : j = i
          · subst ej
            rw [if_pos rfl] at e1; cases e1
            right
            rcases hk with ⟨o0, f1, rfl⟩ | ⟨o0, f1, rfl⟩
            · exact ⟨o, o0, a, List.mem_cons_self, h, w, .inl ⟨rfl, f1⟩⟩
            · exact ⟨o, o0, a, List.mem_cons_self, h, w, .inr ⟨rfl, f1⟩⟩
          · rw [if_neg ej] at e1
            exact .inl ⟨e1, fun z => (List.mem_cons.mp z).elim ej n1⟩
        · right
          by_cases ej : j = i
          · subst ej
            rcases e4 with ⟨rfl, e4⟩ | ⟨rfl, e4⟩
            · rw [set_get hi, if_pos rfl] at e4
              rcases hk with ⟨o0, f1, r⟩ | ⟨o0, f1, r⟩ <;> rw [r] at e4 <;> cases e4
              exact ⟨o2, o0, a2, .tail _ e1, e2, e3, .inl ⟨rfl, f1⟩⟩
            · rw [set_get hi, if_pos rfl] at e4
              rcases hk with ⟨o0, f1, r⟩ | ⟨o0, f1, r⟩ <;> rw [r] at e4 <;> cases e4
              exact ⟨o2, o0, a2, .tail _ e1, e2, e3, .inr ⟨rfl, f1⟩⟩
          · rw [set_get hi, if_neg ej] at e4
            exact ⟨o2, o0, a2, .tail _ e1, e2, e3, e4⟩
  | @byt a o vs as T ts h w t ih =>
    intro bs g g2 l e
    cases l with
    | cons w lt => exact ih lt e
/-- behind a call: the caller's state again -/
theorem Iv.called {P' : List Addr} {vs : List V} {avs : List AV} {T ts bs} {H' : L2.Hp} {g2 : Gam} (I : Iv G S P g σ H) (I0 : ∀ b ∈ P', b ∈ G.P0 ∨ Free G.H0 b) (h : AvOk G.K P H σ vs avs T ts) (hl : ∀ j ∈ byrs avs, ∃ o, lends g j = some o) (hts : ∀ t ∈ ts, t ∉ S ∧ t ∉ G.P0)
    (sS : ∀ b ∈ S, b ∈ P') (sP : ∀ b ∈ G.P0, b ∈ P') (le : LeH (hide P H) (hide P' H')) (B : Back G.K G.Ts P' T bs H H') (tb : takeBack avs bs g = some g2) : Iv G S P' g2 σ H' := by
  obtain ⟨h1, h2⟩ := takeBack_at h B.lent tb
  have inT : ∀ t ∈ T, (∃ j s, g[j]? = some s ∧ isOwn s ∧ j ∈ byrs avs ∧ σ[j]? = some (some (.ref t))) ∨ t ∈ ts := fun t ht => by
    rcases h.where t ht with ⟨j, hj, e⟩ | z
    · obtain ⟨o, ho⟩ := hl j hj
      obtain ⟨s, hs, os⟩ := lends_isOwn ho
      exact .inl ⟨j, s, hs, os, hj, e⟩
    · exact .inr z
  have keepO : ∀ {j : Nat} {s : Slot} {a : Addr} {o : Own}, g[j]? = some s → isOwn s → j ∉ byrs avs → σ[j]? = some (some (.ref a)) → a ∈ S → OwnAt G.K P H a o → OwnAt G.K P' H' a o := fun {j s a o} hs os hj ej haS ow => by
    have nT : a ∉ T := fun z => by
      rcases inT a z with ⟨k, s2, hs2, os2, hk, ek⟩ | z
      · exact I.dis j k s s2 a (fun e => hj (e ▸ hk)) hs hs2 os os2 ej ek
      · exact (hts a z).1 haS
    cases o with
    | lst ds =>
      obtain ⟨ws, w1, w2⟩ := ow
      exact ⟨ws, B.grow.at nT w1 nt_lst, dpAll_le le _ _ w2⟩
  refine ⟨by rw [h1]; exact I.len, fun j s e => ?_, fun j k s t a hjk e1 e2 o1 o2 a1 a2 => ?_, fun j o a e ea => ?_, fun j o a e ea => ?_, fun b o hb e nt => ?_, fun b hb ht => ?_, sS, sP, I0, B.mem, I.sT, B.tabs⟩
  · rcases h2 j s e with ⟨e1, n1⟩ | ⟨o, o0, a, hj, ea, ow, hk⟩
    · have q := I.slot j s e1
      cases s with
      | un => trivial
      | sh d => obtain ⟨v, z1, z2⟩ := q; exact ⟨v, z1, dp_le le _ _ z2⟩
      | ow w => obtain ⟨a, z1, z2, z3⟩ := q; exact ⟨a, z1, z2, keepO e1 trivial n1 z1 z2 z3⟩
      | br w => obtain ⟨a, z1, z2, z3⟩ := q; exact ⟨a, z1, z2, keepO e1 trivial n1 z1 z2 z3⟩
    · rcases hk with ⟨rfl, e1⟩ | ⟨rfl, e1⟩
      · exact ⟨a, ea, (I.slot j _ e1).own_in trivial ea, ow⟩
      · exact ⟨a, ea, (I.slot j _ e1).own_in trivial ea, ow⟩
  · have key : ∀ j s, g2[j]? = some s → isOwn s → ∃ s', g[j]? = some s' ∧ isOwn s' := fun j s e os => by
      rcases h2 j s e with ⟨e1, _⟩ | ⟨o, o0, a, hj, ea, ow, hk⟩
      · exact ⟨s, e1, os⟩
      · rcases hk with ⟨rfl, e1⟩ | ⟨rfl, e1⟩ <;> exact ⟨_, e1, trivial⟩
    obtain ⟨s', f1, p1⟩ := key j s e1 o1
    obtain ⟨t', f2, p2⟩ := key k t e2 o2
    exact I.dis j k s' t' a hjk f1 f2 p1 p2 a1 a2
  · rcases h2 j _ e with ⟨e1, _⟩ | ⟨o, o0, a, hj, ea2, ow, hk⟩
    · exact I.src j o a e1 ea
    · rcases hk with ⟨q, e1⟩ | ⟨q, e1⟩
      · exact I.src j o0 _ e1 ea
      · cases q
  · rcases h2 j _ e with ⟨e1, _⟩ | ⟨o, o0, a, hj, ea2, ow, hk⟩
    · exact I.lent j o a e1 ea
    · rcases hk with ⟨q, e1⟩ | ⟨q, e1⟩
      · cases q
      · exact I.lent j o0 _ e1 ea
  · have e1 := I.grow b o hb e nt
    have nT : b ∉ T := fun z => by
      rcases inT b z with ⟨k, s2, hs2, os2, hk, ek⟩ | z
      · cases s2 with
        | ow w => exact (I.src k w b hs2 ek).2.not e nt
        | br w => exact hb (I.sT _ (I.lent k w b hs2 ek).2)
        | un => exact os2
        | sh d => exact os2
      · rcases I.new b (h.tsP b z) with y | y
        · exact hb y
        · exact y.not e nt
    exact B.grow b o nT e1 nt
  · rw [← I.keep b hb ht]
    have nT : b ∉ T := fun z => by
      rcases inT b z with ⟨k, s2, hs2, os2, hk, ek⟩ | z
      · cases s2 with
        | ow w => exact (I.src k w b hs2 ek).1 hb
        | br w => exact ht (I.lent k w b hs2 ek).2
        | un => exact os2
        | sh d => exact os2
      · exact (hts b z).2 hb
    obtain ⟨xs, hx⟩ := I.mem b (I.sP b hb)
    rw [hx]
    exact B.grow.at nT hx nt_lst
end
end Ev

set_option Elab.async false
set_option linter.all false
set_option maxRecDepth 100000
set_option maxHeartbeats 4000000
/-! EvK: a call by its promise; a def keeps its promise. -/
namespace Ev
open PySem PySem.Spec PyProof.Rows L2
section
variable {X : Cx} {G : Gh} {W : WX} {S P P1 : List Addr} {σ : L2.St} {H H1 : L2.Hp} {Q Q' : VK} {g : Gam} {pos : Pos} {a b c : Expr} {fa fb fc f : ME} {D : Ends} {es : List Expr} {l : MA}
theorem AvOk.len {K : PySem.W.Frag} {vs : List V} {as : List AV} {T ts : List Addr} (h : AvOk K P H σ vs as T ts) : vs.length = as.length := by
  induction h with
  | nil => rfl
  | sh h t ih => simp [ih]
  | byr h t ih => simp [ih]
  | byt h w t ih => simp [ih]
theorem OwnAt.sub {K : PySem.W.Frag} {P P' : List Addr} {H : L2.Hp} {a : Addr} {o : Own} (h : OwnAt K P' H a o) (s : ∀ b ∈ P, b ∈ P') : OwnAt K P H a o := h.le rfl (hide_sub s)
theorem call_reads {n : Nat} {ff : List Arg → RF} : ∀ σ H Q, tF G W (eCall n ff l) σ H Q → tA G W l σ H fun vs H1 => spF G.K G.Ts G.exc n ff vs H1 Q (WE W σ) := fun σ H Q ⟨S, P, g, I, q⟩ => ⟨S, P, g, I, by
  have q : Post G W S P σ H Q (match l g with
    | .ok avs g => callEnd n ff avs g
    | .ex x g => .ex x g
    | .bad => .bad) := q
  cases r : l g with
  | bad => rw [r] at q; exact q
  | ex x g1 => rw [r] at q; exact q
  | ok avs g1 =>
    rw [r] at q
    intro vs H1 P1 T ts I1 gr hp nd hn av
    have q : Post G W S P σ H Q (if avs.length = n ∧ (byrs avs).Nodup then (match argsOf g1 avs with | some as => callBack avs g1 (ff as) | none => .bad) else .bad) := q
    by_cases hc : avs.length = n ∧ (byrs avs).Nodup
    · rw [if_pos hc] at q
      cases ra : argsOf g1 avs with
      | none => rw [ra] at q; exact q.elim
      | some as =>
        rw [ra] at q
        have q : Post G W S P σ H Q (callBack avs g1 (ff as)) := q
        obtain ⟨ao, hl⟩ := args_of I1 av ra
        have sub1 : ∀ b ∈ P, b ∈ P1 := fun b hb => (hp b).mpr (.inr hb)
        have tT := av.where
        have TP : ∀ t ∈ T, t ∈ P1 := fun t ht => by
          rcases tT t ht with ⟨j, hj, e⟩ | z
          · obtain ⟨o, ho⟩ := hl j hj
            obtain ⟨s, hs, os⟩ := lends_isOwn ho
            exact I1.sS _ ((I1.slot j s hs).own_in os e)
          · exact av.tsP t z
        have growS : ∀ {H2 : L2.Hp}, Grow T H1 H2 → Grow S H H2 := fun {H2} gT b o hb e nt => by
          have nT : b ∉ T := fun z => by
            rcases tT b z with ⟨j, hj, ej⟩ | y
            · obtain ⟨o, ho⟩ := hl j hj
              obtain ⟨s, hs, os⟩ := lends_isOwn ho
              exact hb ((I1.slot j s hs).own_in os ej)
            · exact (hn b y).2.2.not e nt
          exact gT b o nT (gr b o hb e nt) nt
        have hts : ∀ t ∈ ts, t ∉ S ∧ t ∉ G.P0 := fun t ht => ⟨(hn t ht).2.1, fun z => (hn t ht).1 (I.sP _ z)⟩
        refine ⟨by rw [av.len]; exact hc.1, P1, T, as, ao, av.nodup I1 hc.2 nd (fun t ht => (hn t ht).2.1) hl, I1.mem, I1.tabs, ?_⟩
        cases rf : ff as with
        | bad => rw [rf] at q; exact q
        | ok d bs =>
          rw [rf] at q
          intro v H2 B dv
          have q : Post G W S P σ H Q (match takeBack avs bs g1 with | some g => .ok d g | none => .bad) := q
          cases tb : takeBack avs bs g1 with
          | none => rw [tb] at q; exact q.elim
          | some g2 =>
            rw [tb] at q
            have I2 := I1.called I1.new av hl hts I1.sS I1.sP (B.grow.sub TP).le B tb
            exact q v H2 (I2.dropN sub1 I.sS I.sP) (growS B.grow) (dp_le (hide_sub sub1) _ _ dv)
        | fr o bs =>
          rw [rf] at q
          intro ad H2 na en B ow
          have q : Post G W S P σ H Q (match takeBack avs bs g1 with | some g => .fr o g | none => .bad) := q
          cases tb : takeBack avs bs g1 with
          | none => rw [tb] at q; exact q.elim
          | some g2 =>
            rw [tb] at q
            have nS : ad ∉ S := fun z => na (I1.sS _ z)
            have I2 : Iv G S (ad :: P1) g2 σ H2 := I1.called (fun b hb => by
              rcases List.mem_cons.mp hb with z | z
              · rw [z]; exact .inr (I1.grow.free (fun y => na (I1.sP _ y)) en)
              · exact I1.new b z) av hl hts (fun b hb => .tail _ (I1.sS b hb)) (fun b hb => .tail _ (I1.sP b hb)) ((B.grow.sub TP).leNew fun b hb => by
                rcases List.mem_cons.mp hb with z | z
                · exact .inr (z ▸ en)
                · exact .inl z) B tb
            have sub2 : ∀ b ∈ ad :: P, b ∈ ad :: P1 := fun b hb => by
              rcases List.mem_cons.mp hb with z | z
              · rw [z]; exact List.mem_cons_self
              · exact .tail _ (sub1 b z)
            exact q ad H2 (fun z => na (sub1 _ z)) nS (gr.free nS en) (I2.dropN sub2 (fun b hb => .tail _ (I.sS b hb)) (fun b hb => .tail _ (I.sP b hb))) (growS B.grow) (ow.sub sub2)
        | ex x bs =>
          rw [rf] at q
          intro cls d H2 B xk
          have q : Post G W S P σ H Q (match takeBack avs bs g1 with | some g => .ex x g | none => .bad) := q
          cases tb : takeBack avs bs g1 with
          | none => rw [tb] at q; exact q.elim
          | some g2 =>
            rw [tb] at q
            have I2 := I1.called I1.new av hl hts I1.sS I1.sP (B.grow.sub TP).le B tb
            obtain ⟨C, fl, dd, v, z1, z2, z3, z4, z5⟩ := xk
            exact q cls d H2 (I2.dropN sub1 I.sS I.sP) (growS B.grow) ⟨C, fl, dd, v, z1, z2, z3, z4, dp_le (hide_sub sub1) _ _ z5⟩
    · rw [if_neg hc] at q; exact q.elim⟩
theorem pe_eCall {n k : Nat} {ff : List Arg → RF} {fn : Addr} {fd : FuncData} {ps : List Str} {x : Str} {p : Pos} {e : Expr} (F : FnOk X.prog X.w X.K X.mg X.base (L2.CX X.prog X.w) k fn fd ps (spF G.K G.Ts G.exc n ff)) (tk : Takes X W) (hr : Room k X.A) (hg : Gl X x) (hm : X.mg x = some (.ref fn)) (hk : PySem.W.keepIn X.K (.ref fn) = true) (hb : Binds X.K fd ps [])
    (ha : PA X (e :: es) (tA G W l)) (hdb : (x == ("__debug__" : Str)) = false := by decide) (he : starEach (e :: es) X.env = (false, eval e X.env) :: starEach es X.env := by rfl) (hpl : (backTo pos (starEach es X.env)).any (·.1) = false := by rfl) :
    PE X (.Call (.Name x p) (e :: es) [] pos) (tF G W (eCall n ff l)) := pe_imp (pe_callS F hr hg hm hk hb (fun σ => passAt tk σ) ha hdb he hpl) call_reads
end
/-! ### a def -/
section
variable {P : Program} {w : World} {K : PySem.W.Frag} {mg : Str → Option Value} {base : Heap} {Ts : List (Addr × Str)} {exc : String → Option (Addr × Str)}
theorem ArgsOk.len {P : List Addr} {H : L2.Hp} {vs : List V} {as : List Arg} {T : List Addr} (h : ArgsOk K P H vs as T) : vs.length = as.length := by
  induction h with
  | nil => rfl
  | sh h t ih => simp [ih]
  | «by» h w t ih => simp [ih]
theorem ArgsOk.TP {P : List Addr} {H : L2.Hp} {vs : List V} {as : List Arg} {T : List Addr} (h : ArgsOk K P H vs as T) : ∀ t ∈ T, t ∈ P := by
  induction h with
  | nil => exact fun _ z => nomatch z
  | sh h t ih => exact ih
  | «by» h w t ih => exact fun x hx => (List.mem_cons.mp hx).elim (fun z => by rw [z]; exact h) (ih x)
theorem startG_at {P : List Addr} {H : L2.Hp} {vs : List V} {as : List Arg} {T : List Addr} (h : ArgsOk K P H vs as T) : ∀ {brf : List Bool} {g : Gam}, startG brf as = some g → g.length = vs.length ∧ brf.length = vs.length ∧
    (∀ (j : Nat) (s : Slot), g[j]? = some s → ∃ v : V, vs[j]? = some v ∧ ((∃ d, s = .sh d ∧ Dp K (hide P H) v d) ∨ ∃ o a, s = .br o ∧ v = .ref a ∧ a ∈ T ∧ a ∈ P ∧ OwnAt K P H a o)) ∧
    (T.Nodup → ∀ (i j : Nat) (s t : Slot) (a : Addr), i ≠ j → g[i]? = some s → g[j]? = some t → isOwn s → isOwn t → vs[i]? = some (.ref a) → vs[j]? = some (.ref a) → False) := by
  induction h with
  | nil =>
    intro brf g e
    cases brf with
    | nil => cases e; exact ⟨rfl, rfl, fun j s e => by simp at e, fun _ i j s t a _ e => by simp at e⟩
    | cons b _ => cases b <;> cases e
  | @sh v d vs as T h t ih =>
    intro brf g e
    cases brf with
    | nil => cases e
    | cons b r =>
      cases b with
      | true => cases e
      | false =>
        have e : (startG r as).map (Slot.sh d :: ·) = some g := e
        cases q : startG r as with
        | none => rw [q] at e; cases e
        | some g2 =>
          rw [q] at e; cases e
          obtain ⟨h1, h2, h3, h4⟩ := ih q
          refine ⟨by simp [h1], by simp [h2], fun j s e => ?_, fun nd i j s t a hij e1 e2 o1 o2 a1 a2 => ?_⟩
          · cases j with
            | zero => simp at e; subst e; exact ⟨v, rfl, .inl ⟨d, rfl, h⟩⟩
            | succ j => exact h3 j s (by simpa using e)
          · cases i with
            | zero => simp at e1; subst e1; exact o1
            | succ i => cases j with
              | zero => simp at e2; subst e2; exact o2
              | succ j => exact h4 nd i j s t a (fun z => hij (by rw [z])) (by simpa using e1) (by simpa using e2) o1 o2 (by simpa using a1) (by simpa using a2)
  | @«by» a o vs as T h w t ih =>
    intro brf g e
    cases brf with
    | nil => cases e
    | cons b r =>
      cases b with
      | false => cases e
      | true =>
        have e : (startG r as).map (Slot.br o :: ·) = some g := e
        cases q : startG r as with
        | none => rw [q] at e; cases e
        | some g2 =>
          rw [q] at e; cases e
          obtain ⟨h1, h2, h3, h4⟩ := ih q
          refine ⟨by simp [h1], by simp [h2], fun j s e => ?_, fun nd i j s t a' hij e1 e2 o1 o2 a1 a2 => ?_⟩
          · cases j with
            | zero => simp at e; subst e; exact ⟨_, rfl, .inr ⟨o, a, rfl, rfl, List.mem_cons_self, h, w⟩⟩
            | succ j =>
              obtain ⟨v, e1, e2⟩ := h3 j s (by simpa using e)
              refine ⟨v, by simpa using e1, ?_⟩
              rcases e2 with q | ⟨o', a', z1, z2, z3, z4⟩
              · exact .inl q
              · exact .inr ⟨o', a', z1, z2, .tail _ z3, z4⟩
          · obtain ⟨n1, n2⟩ := List.nodup_cons.mp nd
            have far : ∀ (j : Nat) (t : Slot), g2[j]? = some t → isOwn t → vs[j]? = some (.ref a) → False := fun j t e ot ea => by
              obtain ⟨v, e1, e2⟩ := h3 j t e
              rw [ea] at e1; cases e1
              rcases e2 with ⟨d, rfl, _⟩ | ⟨o', a', z1, z2, z3, z4⟩
              · exact ot
              · cases z2; exact n1 z3
            cases i with
            | zero =>
              simp at a1
              subst a1
              cases j with
              | zero => exact hij rfl
              | succ j => exact far j t (by simpa using e2) o2 (by simpa using a2)
            | succ i => cases j with
              | zero =>
                simp at a2
                subst a2
                exact far i s (by simpa using e1) o1 (by simpa using a1)
              | succ j => exact h4 n2 i j s t a' (fun z => hij (by rw [z])) (by simpa using e1) (by simpa using e2) o1 o2 (by simpa using a1) (by simpa using a2)
theorem lentAt_at {P PB : List Addr} {H H' : L2.Hp} {vs : List V} {as : List Arg} {T : List Addr} (h : ArgsOk K P H vs as T) : ∀ {brf : List Bool} {g0 g : Gam} {bs : List Own}, startG brf as = some g0 → lentAt brf g = some bs →
    (∀ (i : Nat) (o : Own), g[i]? = some (Slot.br o) → ∃ a, vs[i]? = some (V.ref a) ∧ OwnAt K PB H' a o) → LentOk K PB H' T bs := by
  induction h with
  | nil =>
    intro brf g0 g bs e l k
    cases brf with
    | nil => cases l; exact .nil
    | cons b _ => cases b <;> cases e
  | @sh v d vs as T h t ih =>
    intro brf g0 g bs e l k
    cases brf with
    | nil => cases e
    | cons b r =>
      cases b with
      | true => cases e
      | false =>
        have e : (startG r as).map (Slot.sh d :: ·) = some g0 := e
        cases q : startG r as with
        | none => rw [q] at e; cases e
        | some g2 =>
          cases g with
          | nil => cases l
          | cons s g =>
            exact ih q l fun i o e => by
              obtain ⟨a, e1, e2⟩ := k (i + 1) o (by simpa using e)
              exact ⟨a, by simpa using e1, e2⟩
  | @«by» a o vs as T h w t ih =>
    intro brf g0 g bs e l k
    cases brf with
    | nil => cases e
    | cons b r =>
      cases b with
      | false => cases e
      | true =>
        have e : (startG r as).map (Slot.br o :: ·) = some g0 := e
        cases q : startG r as with
        | none => rw [q] at e; cases e
        | some g2 =>
          cases g with
          | nil => cases l
          | cons s g =>
            cases s with
            | br o2 =>
              have l : (lentAt r g).map (o2 :: ·) = some bs := l
              cases q2 : lentAt r g with
              | none => rw [q2] at l; cases l
              | some bs2 =>
                rw [q2] at l; cases l
                obtain ⟨a', e1, e2⟩ := k 0 o2 rfl
                simp at e1
                subst e1
                exact .cons e2 (ih q q2 fun i o e => by
                  obtain ⟨a, e1, e2⟩ := k (i + 1) o (by simpa using e)
                  exact ⟨a, by simpa using e1, e2⟩)
            | _ => cases l
def gh (K : PySem.W.Frag) (Ts : List (Addr × Str)) (exc : String → Option (Addr × Str)) (H : L2.Hp) (P T : List Addr) (vs : List V) : Gh :=
  ⟨K, Ts, exc, H, P, T, fun i => match vs[i]? with | some (.ref a) => some a | _ => none⟩
theorem fn_evL {x qual : Str} {params : Arguments} {bdy : List Stmt} {scope : Scope} {f : Addr} {N ps : List Str} {k n nl : Nat} {oc : Value} {od : Option Addr} {dV kV doc pm : Value} {an : Option Addr} {cdv ct : Value} {osl : Array (Option Value)}
    (lk : K.lookup f = some ⟨oc, od, .func (PySem.W.fnOf x qual params bdy scope dV kV doc pm an cdv ct), osl⟩) (hcd : PySem.W.codeIn K cdv qual = true) (Sc : FnScope N ps scope) (brf : List Bool) (hn : ps.length = n) (hN : N.length = n + nl) (m : MS)
    (body : ∀ (A : Around) (outer : List Env) (s : Shared) (H : L2.Hp) (E : XK) (G : Gh), G.K = K → G.Ts = Ts → G.exc = exc → Room k (A.deeper (envOfC qual scope s.heap.objs.size f cdv)) →
      PSs (cxOf (L2.CX P w) P w K mg base N qual scope f cdv A outer s H E) bdy (tS G (fun cls d _ H => E cls d H) m)) :
    FnOk P w K mg base (L2.CX P w) (k + 1) f (PySem.W.fnOf x qual params bdy scope dV kV doc pm an cdv ct) ps (spF K Ts exc n (runD brf nl m)) := by
  refine fn_of lk hcd Sc (fun vs H Q E h => by rw [hn]; exact h.1) (fun A outer s H vs Q E hr h => ?_)
  obtain ⟨hl, P0, T, as, ao, nd, mem, tabs, after⟩ := h
  refine ⟨_, body A outer s H E (gh K Ts exc H P0 T vs) rfl rfl rfl hr, ?_⟩
  have after : AfterOk K Ts exc P0 T H Q E (match startG brf as with
    | none => .bad
    | some g => endF brf (m (g ++ List.replicate nl .un))) := after
  cases es : startG brf as with
  | none => rw [es] at after; exact after.elim
  | some g0 =>
    rw [es] at after
    have after : AfterOk K Ts exc P0 T H Q E (endF brf (m (g0 ++ List.replicate nl .un))) := after
    obtain ⟨l1, l2, sl, ds⟩ := startG_at ao es
    have TP : ∀ t ∈ T, t ∈ P0 := ao.TP
    have hst : ∀ (j : Nat) (v : V), vs[j]? = some v → (start N vs)[j]? = some (some v) := fun j v e => by
      have hj : j < vs.length := (List.getElem?_eq_some_iff.mp e).1
      show (vs.map some ++ List.replicate (N.length - vs.length) none)[j]? = _
      rw [List.getElem?_append_left (by simpa using hj), List.getElem?_map, e]
      rfl
    have hg : ∀ (j : Nat) (s : Slot), (g0 ++ List.replicate nl Slot.un)[j]? = some s → s = Slot.un ∨ g0[j]? = some s := fun j s e => by
      by_cases hj : j < g0.length
      · rw [List.getElem?_append_left hj] at e; exact .inr e
      · rw [List.getElem?_append_right (by omega)] at e
        rw [List.getElem?_replicate] at e
        split at e
        · cases e; exact .inl rfl
        · cases e
    have I : Iv (gh K Ts exc H P0 T vs) T P0 (g0 ++ List.replicate nl .un) (start N vs) H := by
      refine ⟨?_, fun j s e => ?_, fun i j s t a hij e1 e2 o1 o2 a1 a2 => ?_, fun j o a e ea => ?_, fun j o a e ea => ?_, .refl _ _, fun _ _ _ => rfl, TP, fun _ h => h, fun b hb => .inl hb, mem, TP, tabs⟩
      · show _ = (vs.map some ++ List.replicate (N.length - vs.length) none).length
        simp only [List.length_append, List.length_replicate, List.length_map]
        omega
      · rcases hg j s e with rfl | e
        · trivial
        · obtain ⟨v, e1, e2⟩ := sl j s e
          rcases e2 with ⟨d, rfl, dv⟩ | ⟨o, a, rfl, rfl, h1, h2, h3⟩
          · exact ⟨v, hst j v e1, dv⟩
          · exact ⟨a, hst j _ e1, h1, h3⟩
      · rcases hg i s e1 with rfl | e1
        · exact o1
        · rcases hg j t e2 with rfl | e2
          · exact o2
          · obtain ⟨v1, f1, _⟩ := sl i s e1
            obtain ⟨v2, f2, _⟩ := sl j t e2
            rw [hst i v1 f1] at a1; cases a1
            rw [hst j v2 f2] at a2; cases a2
            exact ds nd i j s t a hij e1 e2 o1 o2 f1 f2
      · rcases hg j _ e with q | e
        · cases q
        · obtain ⟨v, e1, e2⟩ := sl j _ e
          rcases e2 with ⟨d, q, _⟩ | ⟨o, a, q, _⟩ <;> cases q
      · rcases hg j _ e with q | e
        · cases q
        · obtain ⟨v, e1, e2⟩ := sl j _ e
          rw [hst j v e1] at ea; cases ea
          rcases e2 with ⟨d, q, _⟩ | ⟨o, a', q, z, h1, _⟩
          · cases q
          · cases z
            refine ⟨?_, h1⟩
            show (match vs[j]? with | some (.ref a) => some a | _ => none) = some _
            rw [e1]
    refine ⟨T, P0, _, I, ?_⟩
    -- behind the body
    have back : ∀ {S' P' PB : List Addr} {σ' : L2.St} {H' : L2.Hp} {g' : Gam} {bs : List Own}, Iv (gh K Ts exc H P0 T vs) S' P' g' σ' H' → (∀ b ∈ PB, b ∈ P') → lentAt brf g' = some bs → Back K Ts PB T bs H H' := fun {S' P' PB σ' H' g' bs} I' sub e => by
      refine ⟨fun b o hb eb nt => ?_, lentAt_at ao es e fun i o ei => ?_, fun b hb => I'.mem b (sub b hb), I'.tabs⟩
      · by_cases h0 : b ∈ P0
        · have : H' b = H b := I'.keep b h0 hb
          rw [this]
          exact eb
        · exact I'.grow b o h0 eb nt
      · obtain ⟨a, e1, e2, e3⟩ := I'.slot i _ ei
        have hL : (match vs[i]? with | some (.ref a) => some a | _ => none) = some a := (I'.lent i o a ei e1).1
        refine ⟨a, ?_, e3.sub sub⟩
        cases q : vs[i]? with
        | none => rw [q] at hL; cases hL
        | some v =>
          rw [q] at hL
          cases v with
          | ref a' => cases hL; rfl
          | _ => cases hL
    cases r : m (g0 ++ List.replicate nl .un) with
    | nx g' =>
      rw [r] at after
      intro S' P' σ' H' I' le
      have after : AfterOk K Ts exc P0 T H Q E (match lentAt brf g' with | some bs => .ok .none bs | none => .bad) := after
      cases e : lentAt brf g' with
      | none => rw [e] at after; exact after.elim
      | some bs => rw [e] at after; exact after .non H' (back I' I'.sP e) .non
    | rt d g' =>
      rw [r] at after
      intro S' P' σ' v H' I' le dv
      have after : AfterOk K Ts exc P0 T H Q E (match lentAt brf g' with | some bs => .ok d bs | none => .bad) := after
      cases e : lentAt brf g' with
      | none => rw [e] at after; exact after.elim
      | some bs => rw [e] at after; exact after v H' (back I' I'.sP e) (dp_le (hide_sub I'.sP) _ _ dv)
    | rf o g' =>
      rw [r] at after
      intro S' P' σ' ad H' na I' s0 s1 le ow
      have after : AfterOk K Ts exc P0 T H Q E (match lentAt brf g' with | some bs => .fr o bs | none => .bad) := after
      have n0 : ad ∉ P0 := fun z => na (s1 _ z)
      have sub : ∀ b ∈ ad :: P0, b ∈ ad :: P' := fun b hb => by
        rcases List.mem_cons.mp hb with z | z
        · rw [z]; exact List.mem_cons_self
        · exact .tail _ (s1 _ z)
      cases e : lentAt brf g' with
      | none => rw [e] at after; exact after.elim
      | some bs =>
        rw [e] at after
        exact after ad H' n0 ((I'.new ad List.mem_cons_self).resolve_left n0) (back I' sub e) (ow.sub sub)
    | ex x g' =>
      rw [r] at after
      intro S' P' σ' cls d H' I' le xk
      have after : AfterOk K Ts exc P0 T H Q E (match lentAt brf g' with | some bs => .ex x bs | none => .bad) := after
      cases e : lentAt brf g' with
      | none => rw [e] at after; exact after.elim
      | some bs =>
        rw [e] at after
        obtain ⟨C, fl, dd, v, z1, z2, z3, z4, z5⟩ := xk
        exact after cls d H' (back I' I'.sP e) ⟨C, fl, dd, v, z1, z2, z3, z4, dp_le (hide_sub I'.sP) _ _ z5⟩
    | bk g' => rw [r] at after; exact after.elim
    | ct g' => rw [r] at after; exact after.elim
    | bad => rw [r] at after; exact after.elim
theorem fn_ev {x qual : Str} {params : Arguments} {bdy : List Stmt} {scope : Scope} {f : Addr} {fd : FuncData} {N ps : List Str} {k n nl : Nat} (F : FunD K x qual params bdy scope [] [] f fd) (Sc : FnScope N ps scope) (brf : List Bool) (hn : ps.length = n) (hN : N.length = n + nl) (m : MS)
    (body : ∀ (cdv : Value) (A : Around) (outer : List Env) (s : Shared) (H : L2.Hp) (E : XK) (G : Gh), G.K = K → G.Ts = Ts → G.exc = exc → Room k (A.deeper (envOfC qual scope s.heap.objs.size f cdv)) →
      PSs (cxOf (L2.CX P w) P w K mg base N qual scope f cdv A outer s H E) bdy (tS G (fun cls d _ H => E cls d H) m)) :
    FnOk P w K mg base (L2.CX P w) (k + 1) f fd ps (spF K Ts exc n (runD brf nl m)) := by
  obtain ⟨oc, od, dV, kV, doc, pm, an, cdv, ct, osl, rfl, lk, hcd, _, _⟩ := F.ex
  exact fn_evL lk hcd Sc brf hn hN m (body cdv)
/-- a def whose code object is known: it makes lambdas -/
structure FunC (K : PySem.W.Frag) (x qual : Str) (params : Arguments) (body : List Stmt) (scope : Scope) (f : Addr) (fd : FuncData) (cd : Addr) : Prop where
  ex : ∃ (oc : Value) (od : Option Addr) (dV kV doc pm : Value) (an : Option Addr) (ct : Value) (osl : Array (Option Value)),
    fd = PySem.W.fnOf x qual params body scope dV kV doc pm an (.ref cd) ct ∧ K.lookup f = some ⟨oc, od, .func fd, osl⟩ ∧ PySem.W.codeIn K (.ref cd) qual = true
theorem fn_evC {x qual : Str} {params : Arguments} {bdy : List Stmt} {scope : Scope} {f cd : Addr} {fd : FuncData} {N ps : List Str} {k n nl : Nat} (F : FunC K x qual params bdy scope f fd cd) (Sc : FnScope N ps scope) (brf : List Bool) (hn : ps.length = n) (hN : N.length = n + nl) (m : MS)
    (body : ∀ (A : Around) (outer : List Env) (s : Shared) (H : L2.Hp) (E : XK) (G : Gh), G.K = K → G.Ts = Ts → G.exc = exc → Room k (A.deeper (envOfC qual scope s.heap.objs.size f (.ref cd))) →
      PSs (cxOf (L2.CX P w) P w K mg base N qual scope f (.ref cd) A outer s H E) bdy (tS G (fun cls d _ H => E cls d H) m)) :
    FnOk P w K mg base (L2.CX P w) (k + 1) f fd ps (spF K Ts exc n (runD brf nl m)) := by
  obtain ⟨oc, od, dV, kV, doc, pm, an, ct, osl, rfl, lk, hcd⟩ := F.ex
  exact fn_evL lk hcd Sc brf hn hN m body
end
end Ev

set_option Elab.async false
set_option linter.all false
set_option maxRecDepth 100000
set_option maxHeartbeats 4000000
/-! EvL: calls with keywords, short words for the printed walks. -/
namespace Ev
open PySem PySem.Spec PyProof.Rows L2
/-- a def of the module that keeps its promise -/
structure Callee (P : Program) (w : World) (K : PySem.W.Frag) (mg : Str → Option Value) (base : Heap) (Ts : List (Addr × Str)) (exc : String → Option (Addr × Str)) (x : Str) (k n : Nat) (ff : List Arg → RF) : Prop where
  ex : ∃ f fd ps, mg x = some (.ref f) ∧ FnOk P w K mg base (L2.CX P w) k f fd ps (spF K Ts exc n ff) ∧ PySem.W.keepIn K (.ref f) = true ∧ Binds K fd ps []
section
variable {X : Cx} {G : Gh} {W : WX} {S P P1 : List Addr} {σ : L2.St} {H H1 : L2.Hp} {Q Q' : VK} {g : Gam} {pos : Pos} {a b c : Expr} {fa fb fc f : ME} {D : Ends} {es : List Expr} {l : MA}
variable {Ts : List (Addr × Str)} {exc : String → Option (Addr × Str)}
theorem pe_fn {n k j : Nat} {ff : List Arg → RF} {x : Str} {p : Pos} {e : Expr} (C : Callee X.prog X.w X.K X.mg X.base Ts exc x k n ff) (hK : X.K = G.K) (hT : G.Ts = Ts) (hE : G.exc = exc) (tk : Takes X W) (hr : Room j X.A) (hj : k ≤ j) (hg : Gl X x)
    (ha : PA X (e :: es) (tA G W l)) (hdb : (x == ("__debug__" : Str)) = false := by decide) (he : starEach (e :: es) X.env = (false, eval e X.env) :: starEach es X.env := by rfl) (hpl : (backTo pos (starEach es X.env)).any (·.1) = false := by rfl) :
    PE X (.Call (.Name x p) (e :: es) [] pos) (tF G W (eCall n ff l)) := by
  obtain ⟨fn, fd, ps, hm, F, hk, hb⟩ := C.ex
  subst hT hE
  rw [hK] at F
  exact pe_eCall (by rw [hK]; exact F) tk (hr.mono hj) hg hm hk hb ha hdb he hpl
/-! ### keywords -/
theorem permL_vals : ∀ (js : List Nat) {xs : List V} {us : List Value}, Vals xs us → Vals (permL js xs) (permL js us)
  | [], _, _, _ => .nil
  | j :: js, xs, us, r => by
    have ih := permL_vals js r
    unfold permL at ih ⊢
    rw [List.filterMap_cons, List.filterMap_cons]
    have hl := r.length
    cases e : xs[j]? with
    | none =>
      rw [List.getElem?_eq_none (by have := List.getElem?_eq_none_iff.mp e; omega)]
      exact ih
    | some x =>
      obtain ⟨u, h1, h2⟩ := r.get e
      rw [h1]
      exact .cons h2 ih
theorem permL_dp {K : PySem.W.Frag} {F : L2.Hp} : ∀ (js : List Nat) {xs : List V} {us : List PyData}, DpAll K F xs us → DpAll K F (permL js xs) (permL js us)
  | [], _, _, _ => .nil
  | j :: js, xs, us, r => by
    have ih := permL_dp js r
    unfold permL at ih ⊢
    rw [List.filterMap_cons, List.filterMap_cons]
    have hl := dpAll_len r
    cases e : us[j]? with
    | none =>
      rw [List.getElem?_eq_none (by have := List.getElem?_eq_none_iff.mp e; omega)]
      exact ih
    | some x =>
      obtain ⟨u, h1, h2⟩ := dpAll_get r e
      rw [h1]
      exact .cons h2 ih
theorem args_sh {K : PySem.W.Frag} {P : List Addr} {H : L2.Hp} : ∀ {vs : List V} {ds : List PyData}, DpAll K (hide P H) vs ds → ArgsOk K P H vs (ds.map .sh) []
  | _, [], h => by cases h; exact .nil
  | _, d :: ds, h => by cases h with | cons h1 h2 => exact .sh h1 (args_sh h2)
theorem callSh_reads {n : Nat} {ff : List Arg → RF} {vs : List V} {ds : List PyData} (I : Iv G S P g σ H) (dv : DpAll G.K (hide P H) vs ds) (q : Post G W S P σ H Q (callSh n ff ds g)) : spF G.K G.Ts G.exc n ff vs H Q (WE W σ) := by
  unfold callSh at q
  by_cases hn : ds.length = n
  · rw [if_pos hn] at q
    have back : ∀ {P' : List Addr} {H' : L2.Hp} {bs : List Own}, Back G.K G.Ts P' [] bs H H' → bs = [] ∧ Grow S H H' ∧ (∀ b ∈ P, H' b = H b) := fun {P' H' bs} B => by
      refine ⟨by cases B.lent; rfl, B.grow.sub (fun b z => nomatch z), fun b hb => ?_⟩
      obtain ⟨xs, e⟩ := I.mem b hb
      rw [e]
      exact B.grow b _ (fun z => nomatch z) e nt_lst
    have iv : ∀ {P' : List Addr} {H' : L2.Hp} {bs : List Own}, (∀ b ∈ P, b ∈ P') → (∀ b ∈ P', b ∈ P ∨ Free H b) → Back G.K G.Ts P' [] bs H H' → Iv G S P' g σ H' := fun {P' H' bs} sub nw B => by
      have hl : LeH (hide P H) (hide P' H') := (B.grow.sub (P' := P) fun b z => nomatch z).leNew nw
      obtain ⟨_, gr, k⟩ := back B
      have own : ∀ {a : Addr} {w : Own}, a ∈ S → OwnAt G.K P H a w → OwnAt G.K P' H' a w := fun hs h => h.le (k _ (I.sS _ hs)) hl
      refine ⟨I.len, fun i s e => ?_, I.dis, I.src, I.lent, fun b o hb e nt => ?_, fun b hb ht => ?_, fun b hb => sub _ (I.sS b hb), fun b hb => sub _ (I.sP b hb), fun b hb => ?_, B.mem, I.sT, B.tabs⟩
      · have q := I.slot i s e
        cases s with
        | un => trivial
        | sh d => obtain ⟨v, e1, e2⟩ := q; exact ⟨v, e1, dp_le hl _ _ e2⟩
        | ow w => obtain ⟨a, e1, e2, e3⟩ := q; exact ⟨a, e1, e2, own e2 e3⟩
        | br w => obtain ⟨a, e1, e2, e3⟩ := q; exact ⟨a, e1, e2, own e2 e3⟩
      · exact B.grow b o (fun z => nomatch z) (I.grow b o hb e nt) nt
      · rw [k b (I.sP b hb)]; exact I.keep b hb ht
      · rcases nw b hb with z | z
        · exact I.new b z
        · by_cases y : b ∈ G.P0
          · exact .inl y
          · exact .inr (I.grow.free y z)
    refine ⟨by rw [dpAll_len dv]; exact hn, P, [], ds.map .sh, args_sh dv, .nil, I.mem, I.tabs, ?_⟩
    cases r : ff (ds.map .sh) with
    | bad => rw [r] at q; exact q
    | ok d bs =>
      rw [r] at q
      intro v H' B dd
      obtain ⟨e, gr, _⟩ := back B
      subst e
      exact q v H' (iv (fun _ h => h) (fun b h => .inl h) B) gr dd
    | fr o bs =>
      rw [r] at q
      intro ad H' n1 n2 B ow
      obtain ⟨e, gr, _⟩ := back B
      subst e
      exact q ad H' n1 (fun z => n1 (I.sS _ z)) n2 (iv (fun _ h => .tail _ h) (fun b h => by
        rcases List.mem_cons.mp h with z | z
        · exact .inr (z ▸ n2)
        · exact .inl z) B) gr ow
    | ex x bs =>
      rw [r] at q
      intro cls d H' B xk
      obtain ⟨e, gr, _⟩ := back B
      subst e
      exact q cls d H' (iv (fun _ h => h) (fun b h => .inl h) B) gr xk
  · rw [if_neg hn] at q; exact q.elim
theorem run_fnNS {CX : CXT} {k n : Nat} {f : Addr} {fd : FuncData} {ps ks : List Str} {sp : Sp} {E : L2.St → XK} {gg : List Value → List Value → List Value} {gV : List V → List V → List V} {pins : List (Addr × Obj)} {s : Shared} {us ws : List Value} {vs zs : List V} (F : FnOk X.prog X.w X.K X.mg X.base CX k f fd ps sp) (hr : Room k X.A) (hb : KBn X.K fd ps n ks gg gV) (hx : PassesAt CX X σ (E σ))
    (I : L2.Inv X pins σ H s) (r : Vals vs us) (rz : Vals zs ws) (l1 : vs.length = n) (l2 : zs.length = ks.length) (h : sp (gV vs zs) H Q (E σ)) : wpAny (model X.prog X.w) X.A (call (.ref f) us (ks.zip ws)) (EP X pins σ Q) X.xe s := by
  have r2 := hb.rel r rz
  refine wpAny_call (codeAny_mono (F.run X.A X.stack s H ⟨us, ks.zip ws⟩ (gg us ws) (gV vs zs) Q (E σ) hr I.env0 (hb.to s us ws I.kIn (r.length.symm.trans l1) (rz.length.symm.trans l2)) r2 h) fun r s' hq => ?_)
  cases r with
  | error e => exact hx pins H s e s' I hq
  | ok fl =>
    cases fl with
    | ret u => exact I.after hq
    | next => exact False.elim hq
    | brk => exact False.elim hq
    | cont => exact False.elim hq
/-- the values of keywords -/
theorem pk_imp {kws : List Keyword} {t t' : TA} (h : PK X kws t) (i : ∀ σ H Q, t' σ H Q → t σ H Q) : PK X kws t' := ⟨fun pos pins s σ H Q I hq => h.run pos pins s σ H Q I (i σ H Q hq)⟩
theorem pk_nilL : PK X [] (tL G W lNil) := pk_imp pk_nil fun σ H Q ⟨S, P, g, I, q⟩ => q [] H I (.refl _ H) .nil
theorem pk_consL {nm : Option Str} {kpos : Pos} {kws : List Keyword} {lm : ML} (ha : PE X a (tF G W fa)) (hl : PK X kws (tL G W lm)) : PK X (⟨nm, a, kpos⟩ :: kws) (tL G W (lCons fa lm)) :=
  pk_imp (pk_cons ha hl) fun σ H Q ⟨S, P, g, I, q⟩ => ⟨S, P, g, I, (Post.thenL I q).mono fun v H1 ⟨d, g1, I1, gr, dv, q1⟩ => ⟨S, P, g1, I1, by
    cases e : lm g1 with
    | ok ds g2 =>
      rw [e] at q1
      exact fun vs H2 I2 gr2 dvs => q1 (v :: vs) H2 I2 gr2 (.cons (dp_le (gr2.leS I2) _ _ dv) dvs)
    | ex x g2 => rw [e] at q1; exact q1
    | bad => rw [e] at q1; exact q1⟩⟩
theorem permL_len {α : Type} {n : Nat} {js : List Nat} (h : js.all (· < n) = true) : ∀ {xs : List α}, xs.length = n → (permL js xs).length = js.length := fun {xs} hx => by
  induction js with
  | nil => rfl
  | cons j js ih =>
    rw [List.all_cons, Bool.and_eq_true] at h
    have hj : j < xs.length := by rw [hx]; simpa using h.1
    unfold permL at ih ⊢
    rw [List.filterMap_cons, List.getElem?_eq_getElem hj]
    simp [ih h.2]
/-- a def called with keywords: how it binds is shown by rfl -/
structure CalleeK (P : Program) (w : World) (K : PySem.W.Frag) (mg : Str → Option Value) (base : Heap) (Ts : List (Addr × Str)) (exc : String → Option (Addr × Str)) (x : Str) (k n m : Nat) (ks : List Str) (js : List Nat) (ff : List Arg → RF) : Prop where
  ex : ∃ f fd ps, mg x = some (.ref f) ∧ FnOk P w K mg base (L2.CX P w) k f fd ps (spF K Ts exc n ff) ∧ PySem.W.keepIn K (.ref f) = true ∧ KBn K fd ps m ks (fun us ws => permL js (us ++ ws)) (fun us ws => permL js (us ++ ws))
theorem kbn_of {K : PySem.W.Frag} {x qual : Str} {params : Arguments} {body : List Stmt} {scope : Scope} {f : Addr} {fd : FuncData} {ps ks : List Str} {m : Nat} {js : List Nat} (F : FunD K x qual params body scope [] [] f fd)
    (h : ∀ (kV doc pm : Value) (an : Option Addr) (cdv ct : Value) (us ws : List Value), us.length = m → ws.length = ks.length → bindArgs (PySem.W.fnOf x qual params body scope .none kV doc pm an cdv ct) ⟨us, ks.zip ws⟩ = pure (ps.zip (permL js (us ++ ws)))) :
    KBn K fd ps m ks (fun us ws => permL js (us ++ ws)) (fun us ws => permL js (us ++ ws)) := by
  obtain ⟨oc, od, dV, kV, doc, pm, an, cdv, ct, osl, rfl, lk, hcd, hD, hK⟩ := F.ex
  rcases hD with ⟨_, rfl⟩ | ⟨e, _⟩
  · exact ⟨fun s us ws _ l1 l2 => .of_eq (h kV doc pm an cdv ct us ws l1 l2), fun r1 r2 => permL_vals js (r1.append r2)⟩
  · exact absurd rfl e
theorem callK_reads {n m mk : Nat} {ff : List Arg → RF} {js : List Nat} {lm kl : ML} : ∀ σ H Q, tF G W (eCallK n m mk ff js lm kl) σ H Q → tL G W lm σ H fun vs H1 => tL G W kl σ H1 fun ws H2 => vs.length = m ∧ ws.length = mk ∧ spF G.K G.Ts G.exc n ff (permL js (vs ++ ws)) H2 Q (WE W σ) := fun σ H Q h => by
  obtain ⟨S, P, g, I, q⟩ := tL_then h
  refine ⟨S, P, g, I, q.mono ?_⟩
  rintro vs H1 ⟨S, P, g1, ds, I1, dv, q1⟩
  refine ⟨S, P, g1, I1, (PostL.andThen q1).mono ?_⟩
  rintro ws H2 ⟨es, g2, I2, gr2, dw, q2⟩
  by_cases hl : ds.length = m ∧ es.length = mk
  · rw [if_pos hl] at q2
    exact ⟨by rw [dpAll_len dv]; exact hl.1, by rw [dpAll_len dw]; exact hl.2, callSh_reads I2 (permL_dp js (dpAll_app (dpAll_le (gr2.leS I2) _ _ dv) dw)) q2⟩
  · rw [if_neg hl] at q2; exact q2.elim
theorem pe_fnK {n m k j mk : Nat} {js : List Nat} {ks : List Str} {ff : List Arg → RF} {lm kl : ML} {x : Str} {p : Pos} {e : Expr} {kws : List Keyword} (C : CalleeK X.prog X.w X.K X.mg X.base Ts exc x k n m ks js ff) (hK : X.K = G.K) (hT : G.Ts = Ts) (hE : G.exc = exc) (tk : Takes X W) (hr : Room j X.A) (hj : k ≤ j) (hg : Gl X x)
    (ha : PA X (e :: es) (tL G W lm)) (hkw : PK X kws (tL G W kl)) (hall : (backToKw pos (keywordEach kws X.env)).all (·.1.isSome) = true := by rfl) (hks : (backToKw pos (keywordEach kws X.env)).filterMap (·.1) = ks := by rfl)
    (hdb : (x == ("__debug__" : Str)) = false := by decide) (he : starEach (e :: es) X.env = (false, eval e X.env) :: starEach es X.env := by rfl)
    (hpl : ((backTo pos (starEach (e :: es) X.env)).any (·.1) || (backToKw pos (keywordEach kws X.env)).any (·.1.isNone)) = false := by rfl) (hmk : ks.length = mk := by rfl) :
    PE X (.Call (.Name x p) (e :: es) kws pos) (tF G W (eCallK n m mk ff js lm kl)) := by
  obtain ⟨fn, fd, ps, hm, F, hk, hb⟩ := C.ex
  subst hT hE hmk
  refine ⟨fun pins s σ H Q I h => ?_⟩
  refine wpAny_Call_Name_kw (ld_glob I hg hm ?_ hdb)
  refine PySem.W.callWith_KW (h₀ := X.base) I.ok.mod.kin hk hall (thn (ha.run pos pins s σ H _ I (callK_reads σ H Q h)) fun us s1 ⟨vs, H1, I1, r, q⟩ => ?_) hpl he
  refine thn (hkw.run pos pins s1 σ H1 _ I1 q) fun ws s2 ⟨zs, H2, I2, rz, l1, l2, q2⟩ => ⟨I2.kIn, ?_⟩
  rw [hks]
  exact run_fnNS F (hr.mono hj) hb (passAt tk σ) I2 r rz l1 l2 (by rw [hK]; exact q2)
theorem pe_fnK0 {n k j mk : Nat} {js : List Nat} {ks : List Str} {ff : List Arg → RF} {kl : ML} {x : Str} {p : Pos} {kws : List Keyword} (C : CalleeK X.prog X.w X.K X.mg X.base Ts exc x k n 0 ks js ff) (hK : X.K = G.K) (hT : G.Ts = Ts) (hE : G.exc = exc) (tk : Takes X W) (hr : Room j X.A) (hj : k ≤ j) (hg : Gl X x)
    (hkw : PK X kws (tL G W kl)) (hall : (backToKw pos (keywordEach kws X.env)).all (·.1.isSome) = true := by rfl) (hks : (backToKw pos (keywordEach kws X.env)).filterMap (·.1) = ks := by rfl)
    (hdb : (x == ("__debug__" : Str)) = false := by decide)
    (hpl : ((backTo pos (starEach [] X.env)).any (·.1) || (backToKw pos (keywordEach kws X.env)).any (·.1.isNone)) = false := by rfl) (hmk : ks.length = mk := by rfl) :
    PE X (.Call (.Name x p) [] kws pos) (tF G W (eCallK n 0 mk ff js lNil kl)) := by
  obtain ⟨fn, fd, ps, hm, F, hk, hb⟩ := C.ex
  subst hT hE hmk
  refine ⟨fun pins s σ H Q I h => ?_⟩
  refine wpAny_Call_Name_kw (ld_glob I hg hm ?_ hdb)
  have h0 := callK_reads σ H Q h
  refine PySem.W.callWith_KW0 (h₀ := X.base) I.ok.mod.kin hk hall ?_ hpl
  obtain ⟨S, P, g, Jv, q0⟩ := h0
  have q : tL G W kl σ H fun ws H2 => ([] : List V).length = 0 ∧ ws.length = ks.length ∧ spF G.K G.Ts G.exc n ff (permL js ([] ++ ws)) H2 Q (WE W σ) := q0 [] H Jv (.refl _ H) .nil
  refine thn (hkw.run pos pins s σ H _ I q) fun ws s2 ⟨zs, H2, I2, rz, l1, l2, q2⟩ => ⟨I2.kIn, ?_⟩
  rw [hks]
  exact run_fnNS F (hr.mono hj) hb (passAt tk σ) I2 .nil rz rfl l2 (by rw [hK]; exact q2)
end
end Ev

set_option Elab.async false
set_option linter.all false
set_option maxRecDepth 100000
set_option maxHeartbeats 4000000
/-! EvM: constants of the module, methods in short. -/
namespace Ev
open PySem PySem.Spec PyProof.Rows L2
/-- a constant of the module -/
def GC (mg : Str → Option Value) (x : Str) : PyData → Prop
  | .int i => ∃ t, mg x = some (.int i t)
  | .str z => ∃ t, mg x = some (.str z t)
  | .bool b => mg x = some (.bool b)
  | .none => mg x = some .none
  | _ => False
section
variable {X : Cx} {G : Gh} {W : WX} {S P P1 : List Addr} {σ : L2.St} {H H1 : L2.Hp} {Q Q' : VK} {g : Gam} {pos : Pos} {a b c : Expr} {fa fb fc f : ME}
theorem pe_gc {x : Str} {d : PyData} (hg : Gl X x) (h : GC X.mg x d) (hd : (x == ("__debug__" : Str)) = false := by decide) : PE X (.Name x pos) (tF G W (eCst d)) := by
  cases d with
  | int i => obtain ⟨t, h⟩ := h; exact pe_c (pe_glob hg h (v := .int i) ⟨_, rfl⟩ hd) fun _ _ => .int i
  | str z => obtain ⟨t, h⟩ := h; exact pe_c (pe_glob hg h (v := .str z) ⟨_, rfl⟩ hd) fun _ _ => .str z
  | bool z => exact pe_c (pe_glob hg h (v := .bl z) rfl hd) fun _ _ => .bl z
  | none => exact pe_c (pe_glob hg h (v := .non) rfl hd) fun _ _ => .non
  | _ => exact h.elim
theorem pe_join2 {apos : Pos} (hK : X.K = G.K) (ha : PE X a (tF G W fa)) (hb : PE X b (tP G W fb)) (hs : starEach [b] X.env = [(false, eval b X.env)] := by rfl) (hbase : attributeBase a "join" X.env (eval a X.env) = eval a X.env := by rfl) (hline : (apos.endLine == pos.line) = true := by rfl) :
    PE X (.Call (.Attribute a "join" apos) [b] [] pos) (tF G W (eM2 joinD fa fb)) := pe_eM2 PySem.F.slot_str_join PySem.F.type_str_join (mt_joinD hK) ha hb hs hbase hline
theorem pe_sw {apos : Pos} (ha : PE X a (tF G W fa)) (hb : PE X b (tP G W fb)) (hs : starEach [b] X.env = [(false, eval b X.env)] := by rfl) (hbase : attributeBase a "startswith" X.env (eval a X.env) = eval a X.env := by rfl) (hline : (apos.endLine == pos.line) = true := by rfl) :
    PE X (.Call (.Attribute a "startswith" apos) [b] [] pos) (tF G W (eM2 swD fa fb)) := pe_eM2 PySem.F.slot_str_startswith PySem.F.type_str_startswith mt_swD ha hb hs hbase hline
end
end Ev

set_option Elab.async false
set_option linter.all false
set_option maxRecDepth 100000
set_option maxHeartbeats 4000000
/-! EvN: x[::-1]. -/
namespace Ev
open PySem PySem.Spec PyProof.Rows L2 HT
section
variable {prog : Program} {w : World} {A : Around} {E : Value → Shared → Prop} {s : Shared}
theorem sliceApplied_rev {sl : Addr} {t : Tok} {n : Nat} {Q : Int × Int × Nat → Shared → Prop} (hs : s.heap.IsSliceOf sl .none .none (.int (-1) t)) (h : Q ((n : Int) - 1, -1, n) s) :
    wpAny (model prog w) A (Builtin.Slice.sliceApplied (.ref sl) (pure (n : Int))) Q E s := by
  obtain ⟨os, hos, hcs, hds⟩ := id hs
  unfold Builtin.Slice.sliceApplied Builtin.Slice.sliceFields
  refine wpAny_bind (wpAny_bind (wpAny_field hos hds (x := .none) rfl (wpAny_bind (wpAny_field hos hds (x := .none) rfl (wpAny_bind (wpAny_field hos hds (x := .int (-1) t) rfl (wpAny_pure ?_)))))))
  refine wpAny_bind (slicePart_int ?_)
  show wpAny _ _ (if ((-1 : Int) == 0) = true then _ else _) _ _ s
  rw [if_neg (by decide)]
  refine wpAny_bind (slicePart_none (wpAny_bind (slicePart_none (wpAny_bind (wpAny_pure ?_)))))
  have e : Builtin.Slice.sliceAdjust none none (-1) (n : Int) = ((n : Int) - 1, -1) := by
    unfold Builtin.Slice.sliceAdjust
    simp
  have e2 : Builtin.Slice.slicePlaces ((n : Int) - 1) (-1) (-1) = n := by
    unfold Builtin.Slice.slicePlaces
    have h1 : ¬ ((-1 : Int) > 0) := by omega
    simp only [h1, if_false]
    split <;> simp <;> omega
  show wpAny _ _ (match Builtin.Slice.sliceAdjust none none (-1) (n : Int) with | (lo, hi) => pure (lo, (-1 : Int), Builtin.Slice.slicePlaces lo hi (-1))) _ _ s
  rw [e]
  show wpAny _ _ (pure ((n : Int) - 1, (-1 : Int), Builtin.Slice.slicePlaces ((n : Int) - 1) (-1) (-1))) _ _ s
  rw [e2]
  exact wpAny_pure h
theorem fm_map {α β : Type} {f : α → Option β} {g : α → β} : ∀ l : List α, (∀ m ∈ l, f m = some (g m)) → l.filterMap f = l.map g
  | [], _ => rfl
  | a :: l, h => by rw [List.filterMap_cons, h a List.mem_cons_self, List.map_cons, fm_map l fun m hm => h m (.tail _ hm)]
theorem pick_rev (xs : Array Value) : ((List.range xs.size).filterMap fun (m : Nat) => xs[(((xs.size : Int) - 1) + (m : Int) * -1).toNat]?).toArray = xs.toList.reverse.toArray := by
  congr 1
  refine List.ext_getElem? fun j => ?_
  have key : (List.range xs.size).filterMap (fun (m : Nat) => xs[(((xs.size : Int) - 1) + (m : Int) * -1).toNat]?) = (List.range xs.size).map fun m => xs.toList.reverse.getD m .none := by
    refine fm_map _ fun m hm => ?_
    have hm' : m < xs.size := List.mem_range.mp hm
    have e : (((xs.size : Int) - 1) + (m : Int) * -1).toNat = xs.size - 1 - m := by omega
    rw [e, List.getD_eq_getElem?_getD, List.getElem?_reverse (by simpa using hm'), Array.length_toList, Array.getElem?_toList, Array.getElem?_eq_getElem (by omega)]
    rfl
  rw [key, List.getElem?_map]
  by_cases hj : j < xs.size
  · rw [List.getElem?_range hj]
    rw [List.getElem?_eq_getElem (by simpa using hj)]
    simp [List.getD_eq_getElem?_getD, hj]
  · rw [List.getElem?_eq_none (by simpa using hj), List.getElem?_eq_none (by simpa using hj)]
    rfl
theorem getItem_tuple_rev {t sl : Addr} {items : Array Value} {k : Tok} {Q : Value → Shared → Prop} (ht : IsTup s.heap t items) (hs : s.heap.IsSliceOf sl .none .none (.int (-1) k))
    (h : Q (.ref s.heap.objs.size) { s with heap := s.heap.push { cls := .type "tuple", data := .seq items.toList.reverse.toArray } }) (hsz : items.size ≤ sizeLine) : wpAny (model prog w) A (getItem (.ref t) (.ref sl)) Q E s := by
  have htake : sizeOk (.seq items.toList.reverse.toArray) := by
    show items.toList.reverse.toArray.size ≤ sizeLine
    rw [List.size_toArray, List.length_reverse, Array.length_toList]
    exact hsz
  obtain ⟨os, hos, hcs, hds⟩ := id hs
  have hTs : s.TypeIs (.ref sl) "slice" := ⟨os, hos, hcs⟩
  unfold getItem
  try with_reducible refine wpAny_holding ?_
  first | refine wpAny_bind (wpAny_pure ?_) | skip
  refine wpAny_bind (wpAny_sequenceKey ht.typeIs (by decide) ?_)
  refine wpAny_bind (wpAny_callSpecial?_slot (name := Str.ofString "__getitem__") ht.typeIs PyProof.Rows.slot_tuple_getitem
    (wpAny_call_entry PyProof.Rows.slot_tuple_getitem ht.typeIs entry_tuple_getitem ?_ (args_tuple_getitem _ _)))
  show wpAny _ _ (Builtin.Tuple.tupleItemsOf (.ref t) >>= _) _ _ s
  refine wpAny_bind (tupleItemsOf_ ht ?_)
  refine wpAny_bind (wpAny_typeOf hTs ?_)
  rw [if_pos (by decide)]
  refine wpAny_bind (sliceApplied_rev hs ?_)
  have hno : ¬ ((((items.size : Int) - 1) == 0 && (-1 : Int) == 1 && items.size == items.size) = true) := by
    intro q
    rw [Bool.and_eq_true, Bool.and_eq_true] at q
    exact absurd (eq_of_beq q.1.2) (by decide)
  show wpAny _ _ (if (((items.size : Int) - 1) == 0 && (-1 : Int) == 1 && items.size == items.size) = true then _ else _) _ _ s
  rw [if_neg hno, pick_rev]
  first
    | exact wpAny_bind (m := Builtin.Tuple.tupleExact _) (wpAny_newObj_type (wpAny_pure ⟨_, rfl, wpAny_pure h⟩) htake)
    | exact wpAny_bind (m := Builtin.Tuple.tupleExact _) (wpAny_newObj_type (wpAny_bind (wpAny_pure (wpAny_pure ⟨_, rfl, wpAny_pure h⟩))) htake)
    | exact wpAny_bind (wpAny_bind (m := Builtin.Tuple.tupleExact _) (wpAny_newObj_type (wpAny_pure (wpAny_pure ⟨_, rfl, wpAny_pure h⟩)) htake))
    | exact wpAny_bind (wpAny_bind (m := Builtin.Tuple.tupleExact _) (wpAny_newObj_type (wpAny_pure ⟨_, rfl, wpAny_pure h⟩) htake))
end
section
variable {X : Cx} {G : Gh} {W : WX} {S P P1 : List Addr} {σ : L2.St} {H H1 : L2.Hp} {Q Q' : VK} {g : Gam} {pos : Pos} {a b c : Expr} {fa fb fc f : ME}
def tRevT (K : PySem.W.Frag) (te : TE) : TE := fun σ H Q => te σ H fun x H1 => ∃ a xs, x = .ref a ∧ SqT K H1 a xs ∧ ∀ p, H1 p = none → Q (.ref p) (upd H1 p (.tup xs.reverse))
theorem pe_revT {e : Expr} {te : TE} {k : Nat} {p1 p2 p3 pos : Pos} (he : PE X e te) : PE X (.Subscript e (.Slice none none (some (.UnaryOp .USub (.Constant (.int 1) k p1) p2)) p3) pos) (tRevT X.K te) := by
  refine ⟨fun pins s σ H Q I h => ?_⟩
  refine Subscript_ (thn (he.run pins s σ H _ I h) fun v s1 ⟨x, H1, I1, r1, q1⟩ => ?_)
  obtain ⟨a, xs, ex, hx, q⟩ := q1
  subst ex
  cases r1
  have hst : PO X (some (.UnaryOp .USub (.Constant (.int 1) k p1) p2)) (tPart (tUn (rU fun i => .int (-i)) (tC (.int 1)))) := po_some (pe_un un_neg pe_int)
  refine wpAny_Slice (thn (po_none.run pins s1 σ H1 (fun o H2 => o = none ∧ H2 = H1) I1 ⟨rfl, rfl⟩) fun vl s2 ⟨l, H2, I2, pl, el, e2⟩ => ?_)
  subst el e2
  refine thn (po_none.run pins s2 σ H2 (fun o H3 => o = none ∧ H3 = H2) I2 ⟨rfl, rfl⟩) fun vu s3 ⟨u, H3, I3, pu, eu, e3⟩ => ?_
  subst eu e3
  refine thn (hst.run pins s3 σ H3 (fun o H4 => o = some (-1) ∧ H4 = H3) I3 ⟨1, rfl, -1, rfl, rfl, rfl⟩) fun vs s4 ⟨o, H4, I4, ps, eo, e4⟩ => ?_
  subst eo e4
  have I5 : L2.Inv X pins σ H4 { s4 with heap := s4.heap.push { cls := .type "slice", data := .fields #[vl, vu, vs] } } := I4.kept (t' := s4.toks) fun b ob q => Heap.get?_push_of_some _ q
  obtain ⟨its, r, ht, hz⟩ := I5.tuple hx
  have hlen := r.length
  cases pl
  cases pu
  cases ps
  show wpAny (model X.prog X.w) X.A (subscriptTail e (.Slice none none (some (.UnaryOp .USub (.Constant (.int 1) k p1) p2)) p3) (.ref a) (.ref s4.heap.objs.size)) (EP X pins σ Q) X.xe _
  refine tail_any (ops := [.ref a, .ref s4.heap.objs.size]) ht.typeIs (PyProof.Rows.slot_tuple_getitem.lookup) ?_ (by with_unfolding_all rfl)
  refine getItem_tuple_rev ht (Heap.IsSliceOf.new ..) ?_ (by rw [List.size_toArray]; omega)
  refine ⟨.ref _, _, I5.laid (t' := s4.toks) (o := .tup xs.reverse) (fun b ob q => Heap.get?_push_of_some _ q) (Nat.le_refl _) ?_, rfl, q _ (I5.hok.fresh (Nat.le_refl _))⟩
  exact ⟨by rw [List.length_reverse]; exact hz, its.reverse, r.reverse, IsTup.new _ _⟩
theorem dpAll_rev {K : PySem.W.Frag} {F : L2.Hp} : ∀ {vs : List V} {ds : List PyData}, DpAll K F vs ds → DpAll K F vs.reverse ds.reverse
  | _, [], h => by cases h; exact .nil
  | _, d :: ds, h => by
    cases h with
    | cons h1 h2 => rw [List.reverse_cons, List.reverse_cons]; exact dpAll_app (dpAll_rev h2) (.cons h1 .nil)
theorem pe_eRev {k : Nat} {p1 p2 p3 : Pos} (hK : X.K = G.K) (he : PE X a (tF G W fa)) : PE X (.Subscript a (.Slice none none (some (.UnaryOp .USub (.Constant (.int 1) k p1) p2)) p3) pos) (tF G W (eRev fa)) :=
  ⟨fun pins s σ H Q I ⟨S, P, g, Jv, q⟩ => by
    have q : Post G W S P σ H Q ((fa g).andThen fun x g => ofB g (revD x)) := q
    have mk : ∀ {Q2 : VK} (d : PyData), REd (fa g) = some d → (∀ v H1 g1, Iv G S P g1 σ H1 → Dp G.K (hide P H1) v d → Post G W S P σ H1 Q (ofB g1 (revD d)) → Q2 v H1) → Post G W S P σ H Q2 (fa g) := fun {Q2} d e m => by
      cases r : fa g with
      | ok d' g' =>
        rw [r] at e q
        cases e
        exact fun v H1 a b c => m v H1 g' a c (.rebase b q)
      | fr o g' =>
        rw [r] at e q
        cases e
        exact fun a H1 n n2 en J gr ow => m _ H1 g' (J.drop Jv.sS Jv.sP) (own_dp n ow) (.rebase gr q)
      | ex x g' => rw [r] at e; cases e
      | bad => rw [r] at e; cases e
    cases e : REd (fa g) with
    | none =>
      refine (pe_revT (k := k) (p1 := p1) (p2 := p2) (p3 := p3) (pos := pos) he).run pins s σ H Q I ⟨S, P, g, Jv, ?_⟩
      cases r : fa g with
      | ok d' g' => rw [r] at e; cases e
      | fr o g' => rw [r] at e; cases e
      | ex x g' => rw [r] at q; exact q
      | bad => rw [r] at q; exact q
    | some d =>
      cases d with
      | list ds => exact (pe_revL (k := k) (p1 := p1) (p2 := p2) (p3 := p3) (pos := pos) he).run pins s σ H Q I ⟨S, P, g, Jv, mk _ e fun v H1 g1 I1 dv p1 => by
          obtain ⟨p, vs, rfl, q1, q2⟩ := DpP.list (.inl dv)
          exact ⟨p, vs, rfl, by rw [hK]; exact q1, fun p hp => Post.frNew p1 I1 hp (dpAll_rev q2)⟩⟩
      | tuple ds => exact (pe_revT (k := k) (p1 := p1) (p2 := p2) (p3 := p3) (pos := pos) he).run pins s σ H Q I ⟨S, P, g, Jv, mk _ e fun v H1 g1 I1 dv p1 => by
          obtain ⟨p, vs, rfl, q1, q2⟩ := dp_tuple dv
          exact ⟨p, vs, rfl, by rw [hK]; exact q1, fun p hp => Post.okNew p1 I1 hp (dpAll_rev q2)⟩⟩
      | _ => exact (pe_revT (k := k) (p1 := p1) (p2 := p2) (p3 := p3) (pos := pos) he).run pins s σ H Q I ⟨S, P, g, Jv, mk _ e fun v H1 g1 I1 dv p1 => p1.elim⟩⟩
end
end Ev

set_option Elab.async false
set_option linter.all false
set_option maxRecDepth 100000
set_option maxHeartbeats 4000000
/-! EvO: list(x). -/
namespace Ev
open PySem PySem.Spec PyProof.Rows L2
section
variable {prog : Program} {w : World} {A : Around} {E : Value → Shared → Prop} {s : Shared}
theorem hint_str {x : Str} {t : Tok} {Q : Bool → Shared → Prop} (h : Q false s) : wpAny (model prog w) A (Builtin.List.listLengthHint (.str x t)) Q E s := by
  have hT : s.TypeIs (.str x t) "str" := rfl
  unfold Builtin.List.listLengthHint
  refine wpAny_bind (wpAny_specialOf hT PySem.F.slot_str_len.lookup ?_)
  generalize hid : ("str.__len__" : String) = id0
  wp_delta
  rw [show splitId id0 = some ("str", "__len__") from by subst hid; decide +kernel]
  subst hid
  refine wpAny_bind (wpAny_isInstance (T := "str") (b := true) hT (by rw [isSubtype_type]; kernel_rfl) ?_)
  refine wpAny_ite_split (fun hab => absurd hab (by decide)) (fun _ => ?_)
  refine wpAny_ite_split (fun _ => ?_) (fun hab => absurd (by decide +kernel) hab)
  refine wpAny_bind (wpAny_typeOf hT ?_)
  exact wpAny_pure h
theorem extend_str {R : Result → Shared → Prop} (hh : A.handled = none) (x : Str) (t : Tok) (S : Addr) (res : Value) (c₀ : Nat) (hS : s.heap.get? S = some { cls := .type "list", data := .seq #[] c₀ })
    (hR : ∀ h' tk acc' c', (∀ b o, b ≠ S → s.heap.get? b = some o → h'.get? b = some o) → h'.get? S = some { cls := .type "list", dict := none, data := .seq acc' c', slots := #[] } →
      ItemsOf (SignAt x) acc' x.cps.size → R (.ok (.ret res)) { s with heap := h', toks := tk }) (hn : x.cps.size ≤ sizeLine) :
    wpAny (model prog w) A.in1 (Builtin.List.listExtendWith (.ref S) (.str x t) res)
      (fun fin s' => match fin with | .done f => R (.ok f) s' | .again c' => c'.quiet = true ∧ codeAny (model prog w) A c' R s') (fun e s' => R (.error e) s') s := by
  have hSI : S ≠ s.heap.objs.size := Nat.ne_of_lt (Heap.lt_size hS)
  have hSf : S ∉ [s.heap.objs.size] := fun hm => hSI (List.mem_singleton.mp hm)
  unfold Builtin.List.listExtendWith
  refine wpAny_bind (wpAny_typeOf (T := "str") (v := .str x t) rfl ?_)
  have h1 : Builtin.List.listSameRef (.ref S) (.str x t) = false := rfl
  have h2 : (Value.type "str" == Value.type "list") = false := by decide
  have h3 : (Value.type "str" == Value.type "tuple") = false := by decide
  simp only [h1, h2, h3, Bool.or_false, Bool.false_eq_true, if_false]
  cases ha : x.cps.all (· < 128)
  · refine wpAny_bind (wpAny_pyIter_wide ha ?_)
    refine wpAny_bind (wpAny_holding (hint_str ?_))
    rw [if_neg (by first | decide | decide +kernel)]
    have W := Walks.strWide (prog := prog) (w := w) (A := A.in1) hh s.heap.objs.size x t
    have hst : (s.heap.push { cls := .type "str_iterator", data := .fields #[.str x t, .int 0 0] }).IsStrIter s.heap.objs.size "str_iterator" x t 0 := ⟨_, Heap.get?_push_size _ rfl, rfl, rfl⟩
    refine wpAny_pure ⟨plainId_quiet PySem.F.plain_extend_loop _, codeAny_extend_loopS W.toS hn _ hSf _ x.cps.size 0 _ _ _ rfl (Nat.zero_le _) hst (Heap.get?_push_of_some _ hS) (ItemsOf.nil _) fun s' acc' c' hm hS' hacc => ?_⟩
    rw [Moved.eq_with hm]
    refine hR s'.heap s'.toks acc' c' (fun b ob hb e => hm.heap b ob (fun hmem => ?_) (Heap.get?_push_of_some _ e)) hS' hacc
    rcases List.mem_cons.mp hmem with e' | hmem
    · exact hb e'
    · exact absurd (Heap.lt_size e) (by rw [List.mem_singleton.mp hmem]; exact Nat.lt_irrefl _)
  · refine wpAny_bind (wpAny_pyIter_ascii ha ?_)
    refine wpAny_bind (wpAny_holding (hint_str ?_))
    rw [if_neg (by first | decide | decide +kernel)]
    have W := Walks.strAscii (prog := prog) (w := w) (A := A.in1) hh s.heap.objs.size x t
    have hst : (s.heap.push { cls := .type "str_ascii_iterator", data := .fields #[.str x t, .int 0 0] }).IsStrIter s.heap.objs.size "str_ascii_iterator" x t 0 := ⟨_, Heap.get?_push_size _ rfl, rfl, rfl⟩
    refine wpAny_pure ⟨plainId_quiet PySem.F.plain_extend_loop _, codeAny_extend_loopS W.toS hn _ hSf _ x.cps.size 0 _ _ _ rfl (Nat.zero_le _) hst (Heap.get?_push_of_some _ hS) (ItemsOf.nil _) fun s' acc' c' hm hS' hacc => ?_⟩
    rw [Moved.eq_with hm]
    refine hR s'.heap s'.toks acc' c' (fun b ob hb e => hm.heap b ob (fun hmem => ?_) (Heap.get?_push_of_some _ e)) hS' hacc
    rcases List.mem_cons.mp hmem with e' | hmem
    · exact hb e'
    · exact absurd (Heap.lt_size e) (by rw [List.mem_singleton.mp hmem]; exact Nat.lt_irrefl _)

theorem list_init_str {R : Result → Shared → Prop} (hh : A.handled = none) (x : Str) (t : Tok) (S : Addr) (hS : s.heap.get? S = some { cls := .type "list", data := .seq #[] })
    (hR : ∀ h' tk acc' c', (∀ b o, b ≠ S → s.heap.get? b = some o → h'.get? b = some o) → h'.get? S = some { cls := .type "list", dict := none, data := .seq acc' c', slots := #[] } →
      ItemsOf (SignAt x) acc' x.cps.size → R (.ok (.ret .none)) { s with heap := h', toks := tk }) (hn : x.cps.size ≤ sizeLine) :
    wpAny (model prog w) A.in1 (Builtin.«list.__init__» ⟨[.ref S, .str x t], []⟩)
      (fun fin s' => match fin with | .done f => R (.ok f) s' | .again c' => c'.quiet = true ∧ codeAny (model prog w) A c' R s') (fun e s' => R (.error e) s') s := by
  show wpAny _ _ (do let old ← Builtin.List.listItems (.ref S); Builtin.List.listUpdate (.ref S) (fun _ => #[]); letGo old.toList.reverse; Builtin.List.listExtendWith (.ref S) (.str x t) .none) _ _ s
  refine wpAny_bind ?_
  unfold Builtin.List.listItems
  refine wpAny_bind (wpAny_seqItems hS rfl (wpAny_pure ?_))
  show wpAny _ _ (updateSeq S (fun _ => #[]) >>= fun _ => letGo (#[] : Array Value).toList.reverse >>= fun _ => Builtin.List.listExtendWith (.ref S) (.str x t) .none) _ _ s
  refine wpAny_bind (wpAny_updateSeq hS rfl ?_)
  have hS₂ := Heap.get?_update_self (Obj.mapSeq (fun _ => (#[] : Array Value))) hS rfl
  have oth : ∀ b o, b ≠ S → s.heap.get? b = some o → (s.heap.update S (Obj.mapSeq (fun _ => (#[] : Array Value)))).get? b = some o :=
    fun b o hb e => (Heap.get?_update_other _ _ (Ne.symm hb)).trans e
  refine wpAny_bind (wpAny_letGo ?_)
  refine extend_str hh x t S .none _ hS₂ (fun h' tk acc' c' hk hS' hacc => ?_) hn
  exact hR h' tk acc' c' (fun b o hb e => hk b o hb (oth b o hb e)) hS' hacc
/-- list(text): its signs -/
theorem call_list_str {x : Str} {t : Tok} {Q : Value → Shared → Prop} (hh : A.handled = none) (hn : x.cps.size ≤ sizeLine)
    (hQ : ∀ h' tk acc' c', (∀ b o, s.heap.get? b = some o → h'.get? b = some o) →
      h'.get? s.heap.objs.size = some { cls := .type "list", dict := none, data := .seq acc' c', slots := #[] } → ItemsOf (SignAt x) acc' x.cps.size → Q (.ref s.heap.objs.size) { s with heap := h', toks := tk }) :
    wpAny (model prog w) A (call (.type "list") [.str x t]) Q E s := by
  refine callType_codes (Q₁ := fun obj s₁ => obj = .ref s.heap.objs.size ∧ s₁ = { s with heap := s.heap.push { cls := .type "list", data := .seq #[] } }) PySem.F.called_list (PySem.F.typeCall_list_1 _) PySem.F.entry_list_init
    (code_list_new _ ⟨rfl, rfl⟩) fun obj s₁ h₁ => ?_
  obtain ⟨rfl, rfl⟩ := h₁
  have hS : (s.heap.push { cls := .type "list", data := .seq #[] }).get? s.heap.objs.size = some { cls := .type "list", data := .seq #[] } := Heap.get?_push_size _ rfl
  refine ⟨⟨_, hS, rfl⟩, PySem.F.args_list_init_2 _ _, list_init_str (A := A.in1) hh x t _ hS (fun h' tk acc' c' hk hS' hacc => ?_) hn⟩
  exact ⟨rfl, hQ h' tk acc' c' (fun b o e => hk b o (Nat.ne_of_lt (Heap.lt_size e)) (Heap.get?_push_of_some _ e)) hS' hacc⟩
end
section
variable {X : Cx} {G : Gh} {W : WX} {S P P1 : List Addr} {σ : L2.St} {H H1 : L2.Hp} {Q Q' : VK} {g : Gam} {pos : Pos} {a b c : Expr} {fa fb fc f : ME}
theorem dpAll_chars {K : PySem.W.Frag} {F : L2.Hp} : ∀ (cs : List Nat), DpAll K F (cs.map fun c => V.str ⟨#[c]⟩) (cs.map chD)
  | [] => .nil
  | c :: cs => .cons (.str _) (dpAll_chars cs)
theorem cr_lst (hK : X.K = G.K) (hc : X.calm = true) : CallR X (.type "list") (rU1 G W lstD) := by
  rintro pins s σ H xs us Q I r ⟨σ', S, P, g, x, a, rfl, Iv, da, h⟩
  cases a with
  | list ds =>
    obtain ⟨p, vs, rfl, q1, q2⟩ := da.list
    exact call_list_of pins s σ H _ us Q I r ⟨p, vs, rfl, .inl (by rw [hK]; exact q1), fun l hl => Post.frNew h Iv hl q2⟩
  | tuple ds =>
    have d2 := da.sh fun _ z => by cases z
    obtain ⟨p, vs, rfl, q1, q2⟩ := dp_tuple d2
    exact call_list_of pins s σ H _ us Q I r ⟨p, vs, rfl, .inr (by rw [hK]; exact q1), fun l hl => Post.frNew h Iv hl q2⟩
  | str z =>
    have ex := dp_str da.dp
    subst ex
    have h : Post G W S P σ' H Q (ofB g (if z.length ≤ sizeLine then some (true, .list (z.cps.toList.map chD)) else none)) := h
    by_cases hz : z.length ≤ sizeLine
    · rw [if_pos hz] at h
      cases r with
      | cons r1 r2 =>
        cases r2
        obtain ⟨t, rfl⟩ := r1
        have hz' : z.cps.size ≤ sizeLine := hz
        refine call_list_str (I.ok.hd hc) hz' fun h' tk acc c' hk e hi => ?_
        have hf : H s.heap.objs.size = none := I.hok.fresh (Nat.le_refl _)
        refine ⟨.ref s.heap.objs.size, upd H s.heap.objs.size (.lst (z.cps.toList.map fun c => V.str ⟨#[c]⟩)), I.laid hk (Nat.le_refl _) ⟨by rw [List.length_map, Array.length_toList]; exact hz', acc.toList, c', ?_, by rw [Array.toArray_toList]; exact e⟩, rfl, Post.frNew h Iv hf (dpAll_chars _)⟩
        refine vals_of_idx _ _ (by rw [List.length_map, Array.length_toList, Array.length_toList]; exact hi.1) fun j u hj => ?_
        obtain ⟨c, t', hcx, rfl⟩ := hi.2 j u (by rw [← Array.getElem?_toList]; exact hj)
        exact ⟨.str ⟨#[c]⟩, by rw [List.getElem?_map, Array.getElem?_toList, hcx]; rfl, ⟨_, rfl⟩⟩
    · rw [if_neg hz] at h; exact h.elim
  | _ => exact h.elim
end
end Ev

set_option Elab.async false
set_option linter.all false
set_option maxRecDepth 100000
set_option maxHeartbeats 4000000
/-! EvX: an own exception over ValueError, through classes of the program: its __init__ says super().__init__(name); self.name = name. -/
namespace Ev
open PySem PySem.W PySem.Calls PyProof.Rows PySem.HandSPX PySem.Spec
def iA (p1 p2 : Pos) : Arguments := { posonlyargs := [], args := [{ arg := "self", annotation := none, pos := p1 }, { arg := "name", annotation := none, pos := p2 }], vararg := none, kwonlyargs := [], kw_defaults := [], kwarg := none, defaults := [] }
def iB (q1 q2 q3 q4 q5 q6 r1 r2 r3 r4 : Pos) : List Stmt := [.Expr (.Call (.Attribute (.Call (.Name "super" q1) [] [] q2) "__init__" q3) [.Name "name" q4] [] q5) q6, .Assign [.Attribute (.Name "self" r1) "name" r2] (.Name "name" r3) r4]
def iS : Scope := { kind := .function, names := [(PySem.Str.ofString "self", .local), (PySem.Str.ofString "name", .local), (PySem.Str.ofString "__class__", .free), (PySem.Str.ofString "super", .globalImplicit)], isGenerator := false, isCoroutine := false, more := [] }
/-- the call of super's method is one call: a fact of where it stands -/
def SupLine (q1 q2 q3 q4 q5 : Pos) : Prop := ∃ pl : Sem Bool, ∀ env : Env, eval (.Call (.Attribute (.Call (.Name "super" q1) [] [] q2) "__init__" q3) [.Name "name" q4] [] q5) env = (do
      let ov ← attributeBase (.Call (.Name "super" q1) [] [] q2) "__init__" env (eval (.Call (.Name "super" q1) [] [] q2) env)
      standAt q3.atName
      let (f, first) ← holding [ov] (getMethod ov "__init__" pl)
      callWith q5 f first (backTo q5 (starEach [.Name "name" q4] env)) [])
/-- what the written part says of the class at C, its __init__ at fI -/
structure BadTxt (prog : Program) (K : Frag) (mg : Str → Option Value) (x : Str) (C fI : Addr) : Prop where
  gC : mg x = some (.ref C)
  gS : mg "super" = none
  cls : ∃ nm q N bs bm sn sub ab col dd k0 k1 k2 k3 k5, K.lookup C = some (excClassObj nm q C N bs bm true sn sub ab col dd k0 k1 k2 k3 k5 "ValueError.__new__") ∧ refsVE bm = true ∧ alongIn K "__init__" bm = some (some (.builtin "ValueError.__init__"))
  sa : findIn K (.ref C) "__setattr__" = some (some (.builtin "object.__setattr__"))
  ga : findIn K (.ref C) "__getattribute__" = some (some (.builtin "BaseException.__getattribute__"))
  gg : findIn K (.ref C) "__getattr__" = some none
  noN : findIn K (.ref C) "name" = some none
  iC : findIn K (.ref C) "__init__" = some (some (.ref fI))
  tC : typeIn K (.ref fI) = some (.type "function")
  kC : keepIn K (.ref C) = true
  exC : subIn K (.ref C) (.type "BaseException") = some true
  veC : subIn K (.ref C) (.type "ValueError") = some true
  tyC : typeIn K (.ref C) = some (.type "type")
  hdC : hasDictIn K C = true
  te : exmOne K (.ref C) (.ref C) = some true
  sC : mroIn K C (.ref C) = some true
  any : nsIn K cStatics "thirdparty.any" = some none
  top : (prog.main.scope.names.lookup ("super" : Str)).isSome = false
  fn : ∃ (oc : Value) (od : Option Addr) (doc pm : Value) (an : Option Addr) (cda cc : Addr) (ct : Value) (osl : Array (Option Value)) (qn : Str) (p1 p2 q1 q2 q3 q4 q5 q6 r1 r2 r3 r4 : Pos) (ccl : Value) (cdd : Option Addr) (vs : Array Value) (ccs : Array (Option Value)) (file : Str) (tf : Tok) (cl : Value) (cld : Option Addr) (csl : Array (Option Value)),
    K.lookup fI = some ⟨oc, od, .func (fnX "__init__" qn (iA p1 p2) (iB q1 q2 q3 q4 q5 q6 r1 r2 r3 r4) iS [("__class__", cc)] .none .none doc pm an (.ref cda) ct), osl⟩ ∧ codeIn K (.ref cda) qn = true ∧
      K.lookup cda = some ⟨ccl, cdd, .fields vs, ccs⟩ ∧ vs[2]? = some (.str file tf) ∧ ((prog.main.file : Str) == file) = true ∧ K.lookup cc = some ⟨cl, cld, .cell (some (.ref C)), csl⟩ ∧ SupLine q1 q2 q3 q4 q5
theorem one_size (v : Value) : [v].length ≤ sizeLine := by
  rw [sizeLine_eq]
  exact (by decide : 1 ≤ 16777216)
/-- what __init__ leaves of a fresh exception at x -/
structure InitEnd (h h' : Heap) (x C dx t1 : Addr) (v : Value) : Prop where
  keep : ∀ b o, b ≠ x → h.get? b = some o → h'.get? b = some o
  obj : h'.get? x = some { cls := .ref C, dict := some dx, data := .fields #[.ref t1, .none, .none, .none, .bool false, .none] }
  dbig : h.objs.size ≤ dx
  dne : dx ≠ x
  ns : h'.Ns1 dx (fun y => if y = "name" then some v else none)
structure OwnMade (h h' : Heap) (e C d : Addr) (v : Value) : Prop where
  keep : ∀ b o, h.get? b = some o → h'.get? b = some o
  new : h.objs.size ≤ e
  obj : ∃ oe vs, h'.get? e = some oe ∧ oe.cls = .ref C ∧ oe.dict = some d ∧ oe.data = .fields vs ∧ vs[1]? = some .none
  dbig : h.objs.size ≤ d
  dne : d ≠ e
  ns : h'.Ns1 d (fun y => if y = "name" then some v else none)
section
variable {prog : Program} {w : World} {A : Around} {E : Value → Shared → Prop} {R : Result → Shared → Prop} {s : Shared} {K : Frag} {mg : Str → Option Value} {C fI : Addr} {nmX : Str}
/-- super's bound __init__ is called: the args are laid anew -/
theorem call_bv {h : Heap} {g : Array GenState} {d : Drawn} {t : Nat} {os : OsState} {nm q : Str} {N : Addr} {bs bm : List Value} {hdct : Bool} {sn : List Str} {sub : List Value} {ab : Bool} {col : Option Bool} {dd : Option Addr} {k0 k1 k2 k3 k5 : Option Value} {u e t0 : Addr} {rest : List Value} {Q : Value → Shared → Prop}
    (hC : h.get? C = some (excClassObj nm q C N bs bm hdct sn sub ab col dd k0 k1 k2 k3 k5 "ValueError.__new__")) (he : h.get? e = some (excO C t0)) (hu : h.get? u = some (kxs_mw "ValueError.__init__" e)) (hrest : rest.length ≤ sizeLine)
    (hq : ∀ h' t1, (∀ b o, b ≠ e → h.get? b = some o → h'.get? b = some o) → h'.get? e = some (excO C t1) → Q .none ⟨h', g, d, t, os⟩) :
    wpAny (model prog w) A (call (.ref u) rest) Q E ⟨h, g, d, t, os⟩ := by
  refine wpAny_call (codeAny_of_tree ?_)
  show wpAny _ A.in1 (callAny (.ref u) ⟨rest, []⟩) _ _ _
  simp only [callAny]
  refine wpAny_bind (wpAny_load hu ?_)
  simp only [kxs_mw, show (Value.type "method-wrapper" == Value.type "method" || Value.type "method-wrapper" == Value.type "builtin_function_or_method" || Value.type "method-wrapper" == Value.type "method-wrapper") = true by decide, if_true]
  refine W.KFB.if_so (by decide) ?_
  refine wpAny_bind (PySem.ESX.check_bound F.excBase_ValueError hC he rfl ?_)
  refine wpAny_bind (wpAny_pure (wpAny_pure ?_))
  refine ⟨Code.quiet_builtin _ (by decide +kernel), codeAny_builtin F.excBase_ValueError.initEntry ?_⟩
  rw [Around.under_plainId F.excBase_ValueError.init.plain _]
  wp_walk
  refine hq _ h.objs.size (fun b o hb ho => ?_) ?_
  · rw [Heap.get?_update_other _ _ (Ne.symm hb)]
    exact Heap.get?_push_of_some _ ho
  · rw [Heap.get?_update_self _ (Heap.get?_push_of_some _ he) rfl]
    rfl
theorem bad_init (T : BadTxt prog K mg nmX C fI) {x t0 : Addr} {v : Value} (X : K.In s.heap) (G : s.heap.Ns mainGlobals mg) (BL : ∃ mb, s.heap.Ns builtinsNs mb ∧ ∀ x : Str, x ≠ "__name__" → mb x = bootBuiltins x) (hlim : s.heap.NoLimit) (hx : s.heap.get? x = some (excO C t0)) (hnx : K.lookup x = none) (hroom : A.depth < recursionLimit)
    (hq : ∀ h' tk dx t1, InitEnd s.heap h' x C dx t1 v → R (.ok (.ret .none)) { s with heap := h', toks := tk }) :
    codeAny (model prog w) A (.call (.ref fI) ⟨[.ref x, v], []⟩) R s := by
  obtain ⟨oc, od, doc, pm, an, cda, cc, ct, osl, qn, p1, p2, q1, q2, q3, q4, q5, q6, r1, r2, r3, r4, ccl, cdd, vs, ccs, file, tf, cl, cld, csl, ho, hcd, hcode, hvs, hfile, hcell, hline⟩ := T.fn
  obtain ⟨nm, q, N, bs, bm, sn, sub, ab, col, dd, k0, k1, k2, k3, k5, hC, hbm, hal⟩ := T.cls
  have hcl : clsIn K C = some { name := nm, bases := bs, mro := .ref C :: bm, ns := N, qualname := q, hasDict := true, slotNames := sn, subclasses := sub, abstract := ab, collection := col, hasDel := false } := by unfold clsIn; rw [hC] <;> rfl
  refine ks_codeAny_call_defAt (fd := fnX "__init__" qn (iA p1 p2) (iB q1 q2 q3 q4 q5 q6 r1 r2 r3 r4) iS [("__class__", cc)] .none .none doc pm an (.ref cda) ct) (binds := [("self", .ref x), ("name", v)]) hroom (X _ _ ho) rfl hlim (codeRec_of X hcd) rfl (BindsTo.of_eq (by first | rfl | with_unfolding_all rfl)) (show ∀ x ∈ iS.names, x.2 ≠ .cell by decide) (locs rfl) (fun h₀ hns k => ?_)
  have X₀ : K.In h₀ := X.keeps k
  have G₀ : h₀.Ns mainGlobals mg := G.keeps k
  obtain ⟨mb, B1, B2⟩ := BL
  have hx₀ := k _ _ hx
  have hb : bootBuiltins "super" = some (.type "super") := by first | boot_by_name | rfl | kernel_rfl
  have hns' : h₀.Ns s.heap.objs.size (fun y => [(("self" : Str), Value.ref x), ("name", v)].reverse.lookup y) := hns
  have hD : ∀ {h' : Heap}, K.In h' → ∃ oD cdD, h'.get? C = some oD ∧ oD.data = .cls cdD := fun X' => ⟨_, _, X' _ _ hC, rfl⟩
  have xC : x ≠ C := fun z => by
    have q1 := X _ _ hC
    rw [← z, hx] at q1
    have q2 := congrArg Obj.data (Option.some.inj q1)
    cases q2
  refine ks_wpAt_execs_cons (ks_wpAt_Expr_any ?_ rfl rfl)
  obtain ⟨pl, he⟩ := hline
  refine ks_wpAt_MethodCall (pl := pl) ?_ (he _)
  refine ks_wpAt_super_base (f := fI) (cc := cda) rfl rfl (by decide) rfl (X₀ _ _ ho) rfl rfl rfl (X₀ _ _ hcode) rfl hvs hfile T.top ?_
  refine ks_loadName_global rfl rfl (loadGlobal_builtin (mg := mg) (mb := mb) G₀ T.gS (B1.keeps k) ((B2 "super" (by decide)).trans hb) ⟨rfl, ?_⟩)
  refine wpAny_loadName_free rfl rfl rfl ⟨_, X₀ _ _ hcell, rfl⟩ ?_
  refine wpAny_loadName_local rfl rfl hns' rfl ?_
  obtain ⟨oD, cdD, hD1, hD2⟩ := hD X₀
  refine ks_wpAny_isType_cls hD1 hD2 ⟨rfl, ?_⟩
  refine ks_wpAny_call_super hD1 hD2 hx₀ rfl (fun c e => by cases e) (looks_mroIn X₀ T.sC) (fun h₁ e₁ k₁ => ?_)
  have X₁ : K.In h₁ := X₀.keeps k₁
  have hx₁ := k₁ _ _ hx₀
  have I₁ : InstAt h₁ x (excO C t0) C none := ⟨hx₁, rfl, rfl, trivial⟩
  refine kxs_getMethod kxs_ValueError e₁ (looks_opaque X₁ T.any) (l₀ := .ref C :: bm) (fun A Q E s k q => wpAny_bind ((looks_clsIn X₁ hcl) A _ E s k (wpAny_pure q))) (PySem.ESX.drop_own C bm) X₁ hal (I₁.type.andThen (looks_subIn X₁ T.veC)) xC (by decide) ?_
  obtain ⟨hh1, hk1⟩ : (h₁.push (kxs_mw "ValueError.__init__" x)).get? h₁.objs.size = some (kxs_mw "ValueError.__init__" x) ∧ ∀ b o, h₁.get? b = some o → (h₁.push (kxs_mw "ValueError.__init__" x)).get? b = some o := ⟨Heap.get?_push_at rfl rfl, fun b o e => Heap.get?_push_of_some _ e⟩
  have hns₂ := fun {L} {m} (n : h₁.Ns L m) => n.keeps hk1
  refine kxs_callWith (i := "ValueError.__init__") (x := x) rfl ?_
  refine evalArgs_plain (Calls.spliced_cons (PySem.ESX.ldL (m := fun y => [(("self" : Str), Value.ref x), ("name", v)].reverse.lookup y) ((hns'.keeps k₁).keeps hk1) rfl ?_) )
  refine Calls.spliced_nil ⟨hh1, ?_⟩
  have X₂ : K.In (h₁.push (kxs_mw "ValueError.__init__" x)) := X₁.keeps hk1
  show wpAny _ _ (call (.ref h₁.objs.size) [v]) _ _ _
  refine call_bv (X₂ _ _ hC) (hk1 _ _ hx₁) hh1 (one_size v) fun h₂ t1 k₂ hx₂ => ?_
  have lt₁ : x < s.heap.objs.size := Heap.lt_size hx
  have old : ∀ b o, b ≠ x → s.heap.get? b = some o → h₂.get? b = some o := fun b o hb e => k₂ b o hb (hk1 _ _ (k₁ _ _ (k _ _ e)))
  have X₃ : K.In h₂ := fun a o e => old a o (fun z => by rw [z, hnx] at e; cases e) (X a o e)
  have hLx : s.heap.objs.size ≠ x := Nat.ne_of_gt lt₁
  have hns₃ : h₂.Ns s.heap.objs.size (fun y => [(("self" : Str), Value.ref x), ("name", v)].reverse.lookup y) := by
    obtain ⟨oL, es, ep, hL, r⟩ := (hns'.keeps k₁).keeps hk1
    exact ⟨oL, es, ep, k₂ _ _ hLx hL, r⟩
  refine ks_wpAt_execs_cons (ks_wpAt_Assign_Attr ?_ rfl)
  refine wpAt_of_wpAny (PySem.ESX.ldL (v := v) hns₃ rfl ?_)
  refine PySem.ESX.ldL (v := .ref x) hns₃ rfl ?_
  refine set_plain X₃ (ox := excO C t1) (od := none) ⟨hx₂, rfl, rfl, trivial⟩ T.sa ?_
  refine exc_osa X₃ hx₂ hcl (show refsVE (.ref C :: bm) = true from hbm) rfl T.noN (fun h₃ tk₃ dx k₃ dn dne hx₃ hn₃ => ?_)
  refine wpAt_of_wpAny (wpAny_execs_nil (hq h₃ tk₃ dx t1 ⟨fun b o hb e => k₃ b o hb (old b o hb e), hx₃, ?_, dne, hn₃⟩))
  have z1 : s.heap.objs.size < h₂.objs.size := by
    obtain ⟨oL, es, ep, hL, r⟩ := hns₃
    exact Heap.lt_size hL
  exact Nat.le_of_lt (Nat.lt_of_lt_of_le z1 dn)
theorem bad_made (T : BadTxt prog K mg nmX C fI) {v : Value} (X : K.In s.heap) (G : s.heap.Ns mainGlobals mg) (BL : ∃ mb, s.heap.Ns builtinsNs mb ∧ ∀ x : Str, x ≠ "__name__" → mb x = bootBuiltins x) (hlim : s.heap.NoLimit) (hroom : A.depth + 1 < recursionLimit)
    (hq : ∀ h' tk e d, OwnMade s.heap h' e C d v → R (.ok (.ret (.ref e))) { s with heap := h', toks := tk }) :
    codeAny (model prog w) A (.call (.ref C) ⟨[v], []⟩) R s := by
  obtain ⟨nm, q, N, bs, bm, sn, sub, ab, col, dd, k0, k1, k2, k3, k5, hC, hbm, hal⟩ := T.cls
  obtain ⟨hp, g, dr, tk, os⟩ := s
  have k : ∀ b o, hp.get? b = some o → ((hp.push (kdv_tup [v])).push (excO C hp.objs.size)).get? b = some o := fun b o e => Heap.get?_push_of_some _ (Heap.get?_push_of_some _ e)
  have hget : ((hp.push (kdv_tup [v])).push (excO C hp.objs.size)).get? (hp.objs.size + 1) = some (excO C hp.objs.size) := by heap_get
  have hnx : K.lookup (hp.objs.size + 1) = none := by
    cases e : K.lookup (hp.objs.size + 1) with
    | none => rfl
    | some o =>
      have z : hp.get? (hp.objs.size + 1) = some o := X _ _ e
      exact absurd (Nat.lt_of_succ_lt (Heap.lt_size z)) (Nat.lt_irrefl _)
  refine call_own F.excBase_ValueError (fun X => refsVE_contains X bm hbm) (X _ _ hC) (looks_findIn X T.iC) (fun self => bind_fn X self T.tC) (one_size v) ?_
  obtain ⟨mb, B1, B2⟩ := BL
  refine bad_init (s := ⟨(hp.push (kdv_tup [v])).push (excO C hp.objs.size), g, dr, tk, os⟩) T (X.keeps k) (G.keeps k) ⟨mb, B1.keeps k, B2⟩ (hlim.keeps k) hget hnx ?_ fun h' tk' dx t1 ⟨k', hx, dn, dne, hns⟩ => ?_
  · show A.depth + 1 < recursionLimit
    exact hroom
  · have old : ∀ b o, hp.get? b = some o → h'.get? b = some o := fun b o e => k' b o (Nat.ne_of_lt (Nat.lt_succ_of_lt (Heap.lt_size e))) (k b o e)
    have z : hp.objs.size + 1 + 1 ≤ dx := by
      first
        | (simpa only [Heap.size_push] using dn)
        | exact dn
        | (have q := dn; rw [Heap.size_push, Heap.size_push] at q; exact q)
    exact ⟨rfl, hq h' tk' (hp.objs.size + 1) dx ⟨old, Nat.le_succ _, ⟨_, _, hx, rfl, rfl, rfl, rfl⟩, Nat.le_trans (Nat.le_trans (Nat.le_succ _) (Nat.le_succ _)) z, dne, hns⟩⟩
end
end Ev
namespace Ev
open PySem PySem.Spec PyProof.Rows L2
theorem relO_nm {v : V} {v' : Value} (r : RelV v v') (f : Str) : RelO (List.lookup f [(("name" : Str), v)]) (if f = "name" then some v' else none) := by
  by_cases hw : f = "name"
  · subst hw
    rw [if_pos rfl]
    have q : List.lookup ("name" : Str) [(("name" : Str), v)] = some v := by simp [List.lookup]
    rw [q]
    exact r
  · rw [if_neg hw]
    have qw : (f == ("name" : Str)) = false := by simpa using hw
    have q2 : List.lookup f [(("name" : Str), v)] = none := by simp [List.lookup, qw]
    rw [q2]
    trivial
section
variable {X : Cx} {C fI : Addr} {nmX : Str}
/-- BadArgument(e) -/
def tMkBad (C : Addr) (ta : TA) : L2.St → L2.Hp → XK → Prop := fun σ H Q => ta σ H fun vs H1 => ∃ v, vs = [v] ∧ ∀ d, H1 d = none → Q (.ref C) (some d) (upd H1 d (.xd [(("name" : Str), v)]))
theorem pmk_bad {a : Expr} {ta : TA} {p pos : Pos} {k : Nat} (T : BadTxt X.prog X.K X.mg nmX C fI) (hr : Room k X.A) (ha : PA X [a] ta) (hg : Gl X nmX) (hdb : (nmX == ("__debug__" : Str)) = false := by decide)
    (he : starEach (a :: []) X.env = (false, eval a X.env) :: starEach [] X.env := by rfl) (hpl : (backTo pos (starEach [] X.env)).any (·.1) = false := by rfl) :
    PMk X (.Call (.Name nmX p) [a] [] pos) (tMkBad C ta) := by
  intro pins s σ H Q I h
  refine wpAny_Call_Name_kw (ld_glob I hg T.gC ?_ hdb)
  refine PySem.W.callWith_K (h₀ := X.base) I.ok.mod.kin T.kC (thn (ha.run pos pins s σ H _ I h) fun us s1 hh => ?_) he hpl
  obtain ⟨vs, H1, I1, r1, v, ev, q1⟩ := hh
  subst ev
  refine ⟨I1.kIn, ?_⟩
  cases r1 with
  | cons rv rn =>
    rename_i v' us'
    cases rn
    show wpAny _ _ (call (.ref C) [v']) _ _ _
    have hlim := I1.nolimit
    obtain ⟨mb, b1, b2⟩ := I1.mod.blt
    have G1 := I1.mod.glob.keeps I1.bk
    have B1 := b1.keeps I1.bk
    obtain ⟨hp, g, dr, tk, os⟩ := s1
    refine wpAny_call (bad_made T I1.kIn G1 ⟨mb, B1, b2⟩ hlim (by have := hr.dp; omega) fun h' tk' e d M => ?_)
    show MkP X pins σ Q (.ref e) ⟨h', g, dr, tk', os⟩
    obtain ⟨oe, fv, hoe, hc, hd, hdat, h1⟩ := M.obj
    have hns := M.ns
    obtain ⟨G', g1, g2⟩ := restrict h' fun b => decide (b ≠ e)
    have gk : ∀ b, b ≠ e → G'.get? b = h'.get? b := fun b hb => g1 b (decide_eq_true hb)
    have ge : G'.get? e = none := g2 e (by simp)
    have old : ∀ b o, hp.get? b = some o → G'.get? b = some o := fun b o q => (gk b (Nat.ne_of_lt (Nat.lt_of_lt_of_le (Heap.lt_size q) M.new))).trans (M.keep b o q)
    have ob : ObjOk X.prog X.w (upd H1 d (.xd [(("name" : Str), v)])) G' d (.xd [(("name" : Str), v)]) :=
      ⟨_, hns.at (fun o q => (gk d M.dne).trans q), fun f => relO_nm rv f⟩
    have J : L2.Inv X pins σ (upd H1 d (.xd [(("name" : Str), v)])) ⟨G', g, dr, tk', os⟩ := I1.laid (t' := tk') old M.dbig ob
    refine ⟨e, oe, fv, ⟨G', g, dr, tk', os⟩, _, .ref C, some d, rfl, J, fun b o q => ?_, ge, hoe, ⟨hc, hd⟩, hdat, h1, ?_, rfl, I1.bare, raises_own T.exC T.tyC, q1 d (I1.hok.fresh M.dbig)⟩
    · by_cases hb : b = e
      · have q' : G'.get? b = some o := q
        rw [hb, ge] at q'; cases q'
      · exact (gk b hb).symm.trans q
    · rw [upd_ne (Ne.symm M.dne)]
      exact I1.hok.fresh M.new
end
section
variable {X : Cx} {G : Gh} {W : WX} {S P P1 : List Addr} {σ : L2.St} {H H1 : L2.Hp} {Q Q' : VK} {g : Gam} {pos : Pos} {a b c : Expr} {fa fb fc f : ME} {C fI : Addr} {nmX : Str} {nm : String}
/-- raise BadArgument(e) -/
theorem ps_sRaise {p pos2 : Pos} {k : Nat} (T : BadTxt X.prog X.K X.mg nmX C fI) (hK : X.K = G.K) (hE : G.exc nm = some (C, ("name" : Str))) (hr : Room k X.A) (tk : Takes X W) (ha : PE X a (tF G W fa)) (hc : X.calm = true := by rfl) (hg : Gl X nmX := by rfl) (hdb : (nmX == ("__debug__" : Str)) = false := by decide)
    (he : starEach (a :: []) X.env = (false, eval a X.env) :: starEach [] X.env := by rfl) (hpl : (backTo pos (starEach [] X.env)).any (·.1) = false := by rfl) :
    PS X (.Raise (some (.Call (.Name nmX p) [a] [] pos)) none pos2) (tS G W (sRaise nm fa)) := by
  refine ps_imp (ps_raise hc tk (pmk_bad T hr (pa_cons ha pa_nil he) hg hdb he hpl)) fun D σ H ⟨S, P, g, I, q⟩ => ⟨S, P, g, I, (Post.thenS I q).mono fun v H1 ⟨d, g1, I1, gr, dv, q1⟩ => ⟨v, rfl, fun dd hd => ?_⟩⟩
  have le : LeH (hide P H1) (hide P (upd H1 dd (.xd [(("name" : Str), v)]))) := (Grow.upd (P := P) hd).le
  exact q1 S P σ (.ref C) (some dd) _ (I1.alloc hd) le ⟨C, "name", dd, v, hE, rfl, rfl, upd_same, dp_le le _ _ dv⟩
end
end Ev

set_option Elab.async false
set_option linter.all false
set_option maxRecDepth 100000
set_option maxHeartbeats 4000000
/-! EvS: sorted(list) of numbers, of texts, of flat tuples. -/
namespace Ev
open PySem PySem.Spec PyProof.Rows L2
/-! ### the order of data -/
theorem nlt_irr (l : List Nat) : ¬ l < l := List.lt_irrefl l
theorem ltS_irr (a : Str) : ltS a a = false := decide_eq_false (List.lt_irrefl _)
theorem ltS_asym {a b : Str} (h : ltS a b = true) : ltS b a = false := decide_eq_false (List.lt_asymm (of_decide_eq_true h))
theorem ltS_trans {a b c : Str} (h : ltS a b = true) (k : ltS b c = true) : ltS a c = true := decide_eq_true (List.lt_trans (of_decide_eq_true h) (of_decide_eq_true k))
theorem str_ext {a b : Str} (h : a.cps.toList = b.cps.toList) : a = b := by
  cases a; cases b
  congr
  exact Array.toList_inj.mp h
theorem ltS_eq {a b : Str} (h : ltS a b = false) (k : ltS b a = false) : a = b := by
  refine str_ext (List.le_antisymm ?_ ?_)
  · exact List.not_lt.mp (of_decide_eq_false k)
  · exact List.not_lt.mp (of_decide_eq_false h)
theorem ordS_eq {a b : Str} : ordD (.str a) (.str b) = .eq ↔ a = b := by
  constructor
  · intro h
    unfold ordD at h
    cases e : ltS a b with
    | true => rw [e] at h; cases h
    | false => cases f : ltS b a with
      | true => rw [e, f] at h; cases h
      | false => exact ltS_eq e f
  · rintro rfl
    unfold ordD
    rw [ltS_irr]
    rfl
theorem ordI_eq {a b : Int} : ordD (.int a) (.int b) = .eq ↔ a = b := by
  unfold ordD
  by_cases h : a < b
  · rw [if_pos h]; exact ⟨nofun, fun e => by omega⟩
  · rw [if_neg h]
    by_cases k : b < a
    · rw [if_pos k]; exact ⟨nofun, fun e => by omega⟩
    · rw [if_neg k]; exact ⟨fun _ => by omega, fun _ => rfl⟩
theorem ordI_lt {a b : Int} : ordD (.int a) (.int b) = .lt ↔ a < b := by
  unfold ordD
  by_cases h : a < b
  · rw [if_pos h]; exact ⟨fun _ => h, fun _ => rfl⟩
  · rw [if_neg h]
    by_cases k : b < a
    · rw [if_pos k]; exact ⟨nofun, fun e => by omega⟩
    · rw [if_neg k]; exact ⟨nofun, fun e => by omega⟩
theorem ordI_gt {a b : Int} : ordD (.int a) (.int b) = .gt ↔ b < a := by
  unfold ordD
  by_cases h : a < b
  · rw [if_pos h]; exact ⟨nofun, fun e => by omega⟩
  · rw [if_neg h]
    by_cases k : b < a
    · rw [if_pos k]; exact ⟨fun _ => k, fun _ => rfl⟩
    · rw [if_neg k]; exact ⟨nofun, fun e => by omega⟩
theorem ordS_lt {a b : Str} : ordD (.str a) (.str b) = .lt ↔ ltS a b = true := by
  unfold ordD
  cases e : ltS a b with
  | true => exact ⟨fun _ => rfl, fun _ => rfl⟩
  | false => cases f : ltS b a with
    | true => exact ⟨nofun, nofun⟩
    | false => exact ⟨nofun, nofun⟩
theorem ordS_gt {a b : Str} : ordD (.str a) (.str b) = .gt ↔ ltS b a = true := by
  unfold ordD
  cases e : ltS a b with
  | true => rw [ltS_asym e]; exact ⟨nofun, nofun⟩
  | false => cases f : ltS b a with
    | true => exact ⟨fun _ => rfl, fun _ => rfl⟩
    | false => exact ⟨nofun, nofun⟩
theorem ord_klt {a b : PyData} (h : kindD a < kindD b) : ordD a b = .lt := by
  cases a <;> cases b <;> simp [kindD] at h <;> rfl
theorem ord_kgt {a b : PyData} (h : kindD b < kindD a) : ordD a b = .gt := by
  cases a <;> cases b <;> simp [kindD] at h <;> rfl
theorem ord_k3 {a b : PyData} (h : kindD a = 3) (k : kindD b = 3) : ordD a b = .eq := by
  cases a <;> cases b <;> simp [kindD] at h k <;> rfl
theorem ordL_cons (x y : PyData) (xs ys : List PyData) : ordL (x :: xs) (y :: ys) = match ordD x y with | .eq => ordL xs ys | o => o := rfl
theorem ordT (xs ys : List PyData) : ordD (.tuple xs) (.tuple ys) = ordL xs ys := rfl
theorem ord_swap_ne {a b : PyData} (h : kindD a ≠ kindD b) : ordD b a = (ordD a b).swap := by
  rcases Nat.lt_or_gt_of_ne h with h | h
  · rw [ord_klt h, ord_kgt h]; rfl
  · rw [ord_kgt h, ord_klt h]; rfl
mutual
theorem ord_swap : ∀ (a b : PyData), ordD b a = (ordD a b).swap
  | .int i, b => by
    cases b with
    | int j =>
      cases h : ordD (.int i) (.int j) with
      | lt => exact ordI_gt.mpr (ordI_lt.mp h)
      | gt => exact ordI_lt.mpr (ordI_gt.mp h)
      | eq => exact ordI_eq.mpr (ordI_eq.mp h).symm
    | _ => exact ord_swap_ne (by simp [kindD])
  | .str i, b => by
    cases b with
    | str j =>
      cases h : ordD (.str i) (.str j) with
      | lt => exact ordS_gt.mpr (ordS_lt.mp h)
      | gt => exact ordS_lt.mpr (ordS_gt.mp h)
      | eq => exact ordS_eq.mpr (ordS_eq.mp h).symm
    | _ => exact ord_swap_ne (by simp [kindD])
  | .tuple xs, b => by
    cases b with
    | tuple ys => exact ordL_swap xs ys
    | _ => exact ord_swap_ne (by simp [kindD])
  | .none, b => by cases b <;> rfl
  | .bool _, b => by cases b <;> rfl
  | .list _, b => by cases b <;> rfl
  | .dict _, b => by cases b <;> rfl
theorem ordL_swap : ∀ (xs ys : List PyData), ordL ys xs = (ordL xs ys).swap
  | [], [] => rfl
  | [], _ :: _ => rfl
  | _ :: _, [] => rfl
  | x :: xs, y :: ys => by
    rw [ordL_cons, ordL_cons, ord_swap x y]
    cases ordD x y with
    | lt => rfl
    | gt => rfl
    | eq => exact ordL_swap xs ys
end
def OTr (o : PyData → PyData → Ordering) (a b c : PyData) : Prop := (o a b = .eq → o b c = o a c) ∧ (o a b = .lt → o b c ≠ .gt → o a c = .lt)
theorem otr_ne {a b c : PyData} (h : ¬ (kindD a = kindD b ∧ kindD b = kindD c)) : OTr ordD a b c := by
  rcases Nat.lt_trichotomy (kindD a) (kindD b) with x | x | x
  · refine ⟨fun e => absurd ((ord_klt x).symm.trans e) nofun, fun _ n => ord_klt ?_⟩
    rcases Nat.lt_or_ge (kindD c) (kindD b) with y | y
    · exact absurd (ord_kgt y) n
    · omega
  · rcases Nat.lt_trichotomy (kindD b) (kindD c) with y | y | y
    · rw [OTr, ord_klt y, ord_klt (show kindD a < kindD c by omega)]
      exact ⟨fun _ => rfl, fun _ _ => rfl⟩
    · exact absurd ⟨x, y⟩ h
    · rw [OTr, ord_kgt y, ord_kgt (show kindD c < kindD a by omega)]
      exact ⟨fun _ => rfl, fun _ n => absurd rfl n⟩
  · rw [OTr, ord_kgt x]
    exact ⟨nofun, nofun⟩
theorem otr_3 {a b c : PyData} (h : kindD a = 3) : OTr ordD a b c := by
  by_cases k : kindD a = kindD b ∧ kindD b = kindD c
  · rw [OTr, ord_k3 h (by omega), ord_k3 (a := b) (by omega) (by omega), ord_k3 h (by omega)]
    exact ⟨fun _ => rfl, nofun⟩
  · exact otr_ne k
mutual
theorem ord_tr : ∀ (a b c : PyData), OTr ordD a b c
  | .int i, b, c => by
    by_cases k : kindD (.int i) = kindD b ∧ kindD b = kindD c
    · cases b with
      | int j => cases c with
        | int l =>
          refine ⟨fun e => by rw [ordI_eq.mp e], fun e n => ?_⟩
          have e1 := ordI_lt.mp e
          refine ordI_lt.mpr ?_
          by_cases q : l < j
          · exact absurd (ordI_gt.mpr q) n
          · omega
        | _ => exact absurd k.2 (by simp [kindD])
      | _ => exact absurd k.1 (by simp [kindD])
    · exact otr_ne k
  | .str i, b, c => by
    by_cases k : kindD (.str i) = kindD b ∧ kindD b = kindD c
    · cases b with
      | str j => cases c with
        | str l =>
          refine ⟨fun e => by rw [ordS_eq.mp e], fun e n => ?_⟩
          have e1 := ordS_lt.mp e
          refine ordS_lt.mpr ?_
          cases q : ltS j l with
          | true => exact ltS_trans e1 q
          | false => cases q2 : ltS l j with
            | true => exact absurd (ordS_gt.mpr q2) n
            | false => rw [← ltS_eq q q2]; exact e1
        | _ => exact absurd k.2 (by simp [kindD])
      | _ => exact absurd k.1 (by simp [kindD])
    · exact otr_ne k
  | .tuple xs, b, c => by
    by_cases k : kindD (.tuple xs) = kindD b ∧ kindD b = kindD c
    · cases b with
      | tuple ys => cases c with
        | tuple zs => exact ordL_tr xs ys zs
        | _ => exact absurd k.2 (by simp [kindD])
      | _ => exact absurd k.1 (by simp [kindD])
    · exact otr_ne k
  | .none, b, c => otr_3 rfl
  | .bool _, b, c => otr_3 rfl
  | .list _, b, c => otr_3 rfl
  | .dict _, b, c => otr_3 rfl
theorem ordL_tr : ∀ (xs ys zs : List PyData), (ordL xs ys = .eq → ordL ys zs = ordL xs zs) ∧ (ordL xs ys = .lt → ordL ys zs ≠ .gt → ordL xs zs = .lt)
  | [], [], zs => ⟨fun _ => rfl, nofun⟩
  | [], _ :: _, [] => ⟨nofun, fun _ n => absurd rfl n⟩
  | [], _ :: _, _ :: _ => ⟨nofun, fun _ _ => rfl⟩
  | _ :: _, [], zs => ⟨nofun, nofun⟩
  | x :: xs, y :: ys, [] => ⟨fun _ => rfl, fun _ n => absurd rfl n⟩
  | x :: xs, y :: ys, z :: zs => by
    have t := ord_tr x y z
    have r := ordL_tr xs ys zs
    rw [ordL_cons, ordL_cons, ordL_cons]
    cases h : ordD x y with
    | lt =>
      refine ⟨nofun, fun _ n => ?_⟩
      have q : ordD y z ≠ .gt := fun e => by rw [e] at n; exact n rfl
      rw [t.2 h q]
    | gt => exact ⟨nofun, nofun⟩
    | eq =>
      rw [t.1 h]
      cases ordD x z with
      | lt => exact ⟨fun _ => rfl, fun _ _ => rfl⟩
      | gt => exact ⟨fun _ => rfl, fun _ n => absurd rfl n⟩
      | eq => exact r
end
theorem tlt_iff {a b : PyData} : tlt a b = true ↔ ordD a b = .lt := by unfold tlt; exact beq_iff_eq
theorem tlt_no {a b : PyData} : tlt a b = false ↔ ordD a b ≠ .lt := by rw [Ne, ← tlt_iff]; cases tlt a b <;> simp
theorem swo_tlt (k : Value → PyData) : SrtO.Swo fun v u => tlt (k v) (k u) := by
  refine ⟨fun x y h => ?_, fun x y z h1 h2 => ?_⟩
  · refine tlt_no.mpr fun e => ?_
    have := ord_swap (k x) (k y)
    rw [e, tlt_iff.mp h] at this
    cases this
  · refine tlt_no.mpr fun e => ?_
    have n1 : ordD (k y) (k x) ≠ .lt := tlt_no.mp h1
    have n2 : ordD (k z) (k y) ≠ .lt := tlt_no.mp h2
    have g1 : ordD (k x) (k y) ≠ .gt := fun q => n1 (by rw [ord_swap (k x) (k y), q]; rfl)
    have g2 := (ord_tr (k z) (k x) (k y)).2 e g1
    exact n2 g2
/-! ### insertion sort -/
abbrev SrtT (l : List PyData) : Prop := l.Pairwise fun x y => tlt y x = false
theorem insD_perm (x : PyData) : ∀ l : List PyData, (insD x l).Perm (x :: l)
  | [] => .refl _
  | y :: r => by
    unfold insD
    cases tlt y x with
    | true => exact ((insD_perm x r).cons y).trans (.swap x y r)
    | false => exact .refl _
theorem isortD_perm : ∀ l : List PyData, (isortD l).Perm l
  | [] => .refl _
  | x :: r => (insD_perm x _).trans ((isortD_perm r).cons x)
theorem tlt_asym {x y : PyData} (h : tlt x y = true) : tlt y x = false := by
  refine tlt_no.mpr fun e => ?_
  have := ord_swap x y
  rw [e, tlt_iff.mp h] at this
  cases this
theorem tlt_tr {x y z : PyData} (h1 : tlt y x = false) (h2 : tlt z y = false) : tlt z x = false := by
  refine tlt_no.mpr fun e => ?_
  have g1 : ordD x y ≠ .gt := fun q => tlt_no.mp h1 (by rw [ord_swap x y, q]; rfl)
  exact tlt_no.mp h2 ((ord_tr z x y).2 e g1)
theorem insD_srt (x : PyData) : ∀ {l : List PyData}, SrtT l → SrtT (insD x l)
  | [], _ => List.pairwise_singleton _ _
  | y :: r, h => by
    unfold insD
    have hp := List.pairwise_cons.mp h
    cases e : tlt y x with
    | true =>
      refine List.pairwise_cons.mpr ⟨fun z hz => ?_, insD_srt x hp.2⟩
      rcases List.mem_cons.mp ((insD_perm x r).mem_iff.mp hz) with rfl | hz
      · exact tlt_asym e
      · exact hp.1 z hz
    | false =>
      refine List.pairwise_cons.mpr ⟨fun z hz => ?_, h⟩
      rcases List.mem_cons.mp hz with rfl | hz
      · exact e
      · exact tlt_tr e (hp.1 z hz)
theorem isortD_srt : ∀ l : List PyData, SrtT (isortD l)
  | [] => List.Pairwise.nil
  | x :: r => insD_srt x (isortD_srt r)
/-- two sorted rearrangements are one where only equals tie -/
theorem srt_unique : ∀ {l m : List PyData}, (∀ x ∈ l, ∀ y ∈ l, ordD x y = .eq → x = y) → l.Perm m → SrtT l → SrtT m → l = m
  | [], m, _, p, _, _ => p.nil_eq
  | x :: l, [], _, p, _, _ => absurd p.length_eq (by simp)
  | x :: l, y :: m, u, p, h, k => by
    have hp := List.pairwise_cons.mp h
    have kp := List.pairwise_cons.mp k
    have e : x = y := by
      have m1 : x ∈ y :: m := p.mem_iff.mp List.mem_cons_self
      have m2 : y ∈ x :: l := p.mem_iff.mpr List.mem_cons_self
      rcases List.mem_cons.mp m1 with e | m1
      · exact e
      · rcases List.mem_cons.mp m2 with e | m2
        · exact e.symm
        · have a := tlt_no.mp (hp.1 y m2)
          have b := tlt_no.mp (kp.1 x m1)
          refine u x List.mem_cons_self y (List.mem_cons_of_mem _ m2) ?_
          have c := ord_swap x y
          cases q : ordD x y with
          | eq => rfl
          | lt => exact absurd q b
          | gt => rw [q] at c; exact absurd c a
    subst e
    exact congrArg (x :: ·) (srt_unique (fun a ha b hb => u a (List.mem_cons_of_mem _ ha) b (List.mem_cons_of_mem _ hb)) (List.perm_cons x |>.mp p) hp.2 kp.2)
/-- numbers and texts, tuples of them: only equals tie -/
def flat1 : PyData → Bool
  | .int _ => true
  | .str _ => true
  | _ => false
theorem flatAll_eq (xs : List PyData) : flatAll xs = xs.all flat1 := by
  unfold flatAll
  congr
theorem flat1_tie : ∀ {a b : PyData}, flat1 a = true → flat1 b = true → ordD a b = .eq → a = b
  | .int _, .int _, _, _, e => by rw [ordI_eq.mp e]
  | .str _, .str _, _, _, e => by rw [ordS_eq.mp e]
  | .int _, .str _, _, _, e => by cases e
  | .str _, .int _, _, _, e => by cases e
theorem flatL_tie : ∀ {xs ys : List PyData}, xs.all flat1 = true → ys.all flat1 = true → ordL xs ys = .eq → xs = ys
  | [], [], _, _, _ => rfl
  | [], _ :: _, _, _, e => by cases e
  | _ :: _, [], _, _, e => by cases e
  | x :: xs, y :: ys, f, g, e => by
    rw [List.all_cons, Bool.and_eq_true] at f g
    rw [ordL_cons] at e
    cases h : ordD x y with
    | eq => rw [h] at e; rw [flat1_tie f.1 g.1 h, flatL_tie f.2 g.2 e]
    | lt => rw [h] at e; cases e
    | gt => rw [h] at e; cases e
theorem flatT_tie {a b : PyData} (f : flatTup a = true) (g : flatTup b = true) (e : ordD a b = .eq) : a = b := by
  cases a with
  | tuple xs => cases b with
    | tuple ys =>
      have f' : (flatAll xs && !xs.isEmpty) = true := f
      have g' : (flatAll ys && !ys.isEmpty) = true := g
      rw [Bool.and_eq_true, flatAll_eq] at f' g'
      rw [flatL_tie f'.1 g'.1 e]
    | _ => cases g
  | _ => cases f
theorem sortable_tie {xs : List PyData} (h : sortable xs = true) : ∀ x ∈ xs, ∀ y ∈ xs, ordD x y = .eq → x = y := by
  intro x hx y hy e
  unfold sortable at h
  rw [Bool.or_eq_true, Bool.or_eq_true, Bool.and_eq_true, List.all_eq_true, List.all_eq_true, List.all_eq_true] at h
  rcases h with (h | h) | h
  · have a := h x hx; have b := h y hy
    cases x <;> first | (cases a; done) | skip
    cases y <;> first | (cases b; done) | skip
    rw [ordI_eq.mp e]
  · have a := h x hx; have b := h y hy
    cases x <;> first | (cases a; done) | skip
    cases y <;> first | (cases b; done) | skip
    rw [ordS_eq.mp e]
  · exact flatT_tie (h.1 x hx) (h.1 y hy) e
end Ev
namespace Ev
open PySem PySem.Spec PyProof.Rows L2
/-! ### the items in the heap -/
def ItemAt (h : Heap) (v : Value) (d : PyData) : Prop :=
  (∃ i t, v = .int i t ∧ d = .int i) ∨ (∃ z t, v = .str z t ∧ d = .str z) ∨ (∃ a its ys, v = .ref a ∧ IsTup h a its ∧ FlatAre its.toList ys ∧ d = .tuple ys)
theorem FlatAre.det : ∀ {us : List Value} {ds es : List PyData}, FlatAre us ds → FlatAre us es → ds = es
  | _, _, _, .nil, .nil => rfl
  | _, _, _, .int _ _ h, .int _ _ k => by rw [h.det k]
  | _, _, _, .str _ _ h, .str _ _ k => by rw [h.det k]
theorem ItemAt.det {h : Heap} {v : Value} {d e : PyData} (x : ItemAt h v d) (y : ItemAt h v e) : d = e := by
  rcases x with ⟨i, t, rfl, rfl⟩ | ⟨i, t, rfl, rfl⟩ | ⟨a, its, ys, rfl, ⟨o, ho, hc, n, hd⟩, f, rfl⟩
  · rcases y with ⟨j, t, q, rfl⟩ | ⟨j, t, q, rfl⟩ | ⟨a, its, ys, q, _⟩ <;> cases q
    rfl
  · rcases y with ⟨j, t, q, rfl⟩ | ⟨j, t, q, rfl⟩ | ⟨a, its, ys, q, _⟩ <;> cases q
    rfl
  · rcases y with ⟨j, t, q, rfl⟩ | ⟨j, t, q, rfl⟩ | ⟨a', its', ys', q, ⟨o', ho', hc', n', hd'⟩, f', rfl⟩ <;> cases q
    rw [ho] at ho'
    cases ho'
    rw [hd] at hd'
    cases hd'
    rw [f.det f']
theorem ItemAt.keep {h h' : Heap} {v : Value} {d : PyData} (x : ItemAt h v d) (k : ∀ b o, o.cls = .type "tuple" → h.get? b = some o → h'.get? b = some o) : ItemAt h' v d := by
  rcases x with x | x | ⟨a, its, ys, e, ⟨o, ho, hc, n, hd⟩, f, e2⟩
  · exact .inl x
  · exact .inr (.inl x)
  · exact .inr (.inr ⟨a, its, ys, e, ⟨o, k _ _ hc ho, hc, n, hd⟩, f, e2⟩)
noncomputable def keyOf (h : Heap) (v : Value) : PyData := by
  classical exact if x : ∃ d, ItemAt h v d then Classical.choose x else .none
theorem keyOf_eq {h : Heap} {v : Value} {d : PyData} (x : ItemAt h v d) : keyOf h v = d := by
  have q : ∃ d, ItemAt h v d := ⟨d, x⟩
  unfold keyOf
  rw [dif_pos q]
  exact (Classical.choose_spec q).det x
inductive ItemsAt (h : Heap) : List Value → List PyData → Prop where
  | nil : ItemsAt h [] []
  | cons {v : Value} {d : PyData} {vs : List Value} {ds : List PyData} : ItemAt h v d → ItemsAt h vs ds → ItemsAt h (v :: vs) (d :: ds)
theorem ItemsAt.map {h : Heap} : ∀ {vs : List Value} {ds : List PyData}, ItemsAt h vs ds → vs.map (keyOf h) = ds
  | _, _, .nil => rfl
  | _, _, .cons x r => by rw [List.map_cons, keyOf_eq x, r.map]
theorem ItemsAt.mem {h : Heap} : ∀ {vs : List Value} {ds : List PyData}, ItemsAt h vs ds → ∀ v ∈ vs, ∃ d ∈ ds, ItemAt h v d
  | _, _, .nil, v, m => by cases m
  | _, _, .cons x r, v, m => by
    rcases List.mem_cons.mp m with rfl | m
    · exact ⟨_, List.mem_cons_self, x⟩
    · obtain ⟨d, hd, y⟩ := r.mem v m
      exact ⟨d, List.mem_cons_of_mem _ hd, y⟩
section
variable {prog : Program} {w : World} {A : Around} {E : Value → Shared → Prop} {s : Shared}
theorem oneLt_ii {b : Bool} {i j : Int} {t u : Tok} {Q : Bool → Shared → Prop} (h : Q (decide (i < j)) s) : wpAny (model prog w) A (oneLt' b (.int i t) (.int j u)) Q E s := by
  cases b with
  | true => exact oneLt_int h
  | false => exact PySem.W.kat_one _ _ (PyProof.Rows.lt_int h)
theorem oneLt_ss {b : Bool} {i j : Str} {t u : Tok} {Q : Bool → Shared → Prop} (h : Q (ltS i j) s) : wpAny (model prog w) A (oneLt' b (.str i t) (.str j u)) Q E s := by
  cases b with
  | true => exact oneLt_str h
  | false => exact PySem.W.kat_one _ _ (PyProof.Rows.lt_str h)
theorem eqv_ii (i j : Int) : PyData.eqv (.int i) (.int j) = decide (i = j) := by first | rfl | (simp [PyData.eqv])
theorem eqv_ss (i j : Str) : PyData.eqv (.str i) (.str j) = decide (i = j) := by
  first
    | rfl
    | (show (i == j) = decide (i = j)
       by_cases h : i = j
       · subst h; simp
       · simp [h])
theorem tlt_ii (i j : Int) : tlt (.int i) (.int j) = decide (i < j) := by
  by_cases h : i < j
  · rw [decide_eq_true h]; exact tlt_iff.mpr (ordI_lt.mpr h)
  · rw [decide_eq_false h]; exact tlt_no.mpr fun e => h (ordI_lt.mp e)
theorem tlt_ss (i j : Str) : tlt (.str i) (.str j) = ltS i j := by
  cases h : ltS i j with
  | true => exact tlt_iff.mpr (ordS_lt.mpr h)
  | false => exact tlt_no.mpr fun e => by rw [ordS_lt.mp e] at h; cases h
theorem kat_flat {fin : Bool} {Q : Bool → Shared → Prop} : ∀ {vs ws : List Value} {ns ms : List PyData} (i : Nat), FlatAre vs ns → FlatAre ws ms → alikeL ns ms = true → fin = decide (ns.length < ms.length) → Q (ordL ns ms == .lt) s → PySem.W.KatLex prog w A true fin Q (vs.zip ws) i s
  | [], ws, ns, ms, i, f, g, _, e, q => by
    cases f.nil_inv
    rw [List.zip_nil_left]
    refine PySem.W.kat_nil ?_
    rw [e]
    cases ms with
    | nil => exact q
    | cons m ms => exact q
  | v :: vs, [], ns, ms, i, f, g, _, e, q => by
    cases g.nil_inv
    rw [List.zip_nil_right]
    refine PySem.W.kat_nil ?_
    obtain ⟨d, r, rfl, _, _⟩ := f.cons_inv
    rw [e]
    exact q
  | v :: vs, x :: ws, ns, ms, i, f, g, k, e, q => by
    obtain ⟨d, ns, rfl, hv, f'⟩ := f.cons_inv
    obtain ⟨c, ms, rfl, hw, g'⟩ := g.cons_inv
    have k' : (alike d c && alikeL ns ms) = true := k
    rw [Bool.and_eq_true] at k'
    have e' : fin = decide (ns.length < ms.length) := by
      rw [e]; simp only [List.length_cons, Nat.add_lt_add_iff_right]
    rw [ordL_cons] at q
    rw [List.zip_cons_cons]
    refine PySem.W.kat_cons ?_
    rcases hv with ⟨a, t, rfl, rfl⟩ | ⟨a, t, rfl, rfl⟩ <;> rcases hw with ⟨b, u, rfl, rfl⟩ | ⟨b, u, rfl, rfl⟩
    · refine (two_ii A s a b t u).eq prog w _ _ ?_
      rw [eqv_ii]
      by_cases h : a = b
      · rw [decide_eq_true h]
        rw [ordI_eq.mpr h] at q
        exact PySem.W.kat_yes (kat_flat (i + 1) f' g' k'.2 e' q)
      · rw [decide_eq_false h]
        refine PySem.W.kat_no (oneLt_ii ?_)
        rw [← tlt_ii]
        unfold tlt
        cases o : ordD (.int a) (.int b) with
        | eq => exact absurd (ordI_eq.mp o) h
        | lt => rw [o] at q; exact q
        | gt => rw [o] at q; exact q
    · exact absurd k'.1 (by simp [alike])
    · exact absurd k'.1 (by simp [alike])
    · refine (two_ss A s a b t u).eq prog w _ _ ?_
      rw [eqv_ss]
      by_cases h : a = b
      · rw [decide_eq_true h]
        rw [ordS_eq.mpr h] at q
        exact PySem.W.kat_yes (kat_flat (i + 1) f' g' k'.2 e' q)
      · rw [decide_eq_false h]
        refine PySem.W.kat_no (oneLt_ss ?_)
        rw [← tlt_ss]
        unfold tlt
        cases o : ordD (.str a) (.str b) with
        | eq => exact absurd (ordS_eq.mp o) h
        | lt => rw [o] at q; exact q
        | gt => rw [o] at q; exact q
/-- the items of vs have data in ds, told by k -/
def Its (h : Heap) (k : Value → PyData) (vs : List Value) (ds : List PyData) : Prop := ∀ v ∈ vs, ∃ d ∈ ds, ItemAt h v d ∧ k v = d
theorem ItemsAt.its {h : Heap} {vs : List Value} {ds : List PyData} (x : ItemsAt h vs ds) : Its h (keyOf h) vs ds := fun v m => by
  obtain ⟨d, hd, y⟩ := x.mem v m
  exact ⟨d, hd, y, keyOf_eq y⟩
theorem Its.keep {h h' : Heap} {k : Value → PyData} {vs : List Value} {ds : List PyData} (x : Its h k vs ds) (kp : ∀ b o, o.cls = .type "tuple" → h.get? b = some o → h'.get? b = some o) : Its h' k vs ds := fun v m => by
  obtain ⟨d, hd, y, e⟩ := x v m
  exact ⟨d, hd, y.keep kp, e⟩
theorem cmp_tup {k : Value → PyData} {vs : List Value} {ds : List PyData} (hI : Its s.heap k vs ds) (ft : ds.all flatTup = true) (al : ∀ x ∈ ds, ∀ y ∈ ds, alike x y = true) :
    SrtO.Cmp prog w A s (tuples' true) (fun p => p.1 ∈ vs) (SrtO.lt2 fun v u => tlt (k v) (k u)) := by
  intro p q hm hm'
  obtain ⟨d, hd, x, ex⟩ := hI _ hm
  obtain ⟨c, hc, y, ey⟩ := hI _ hm'
  show wpAny (model prog w) A (keyLt' (tuples' true) p.1 q.1) (fun r s' => s' = s ∧ r = tlt (k p.1) (k q.1)) (fun _ _ => False) s
  rw [ex, ey]
  have f1 := List.all_eq_true.mp ft d hd
  have f2 := List.all_eq_true.mp ft c hc
  have a := al d hd c hc
  rcases x with ⟨i, t, _, rfl⟩ | ⟨i, t, _, rfl⟩ | ⟨b, its, ys, e, ⟨o, ho, hcl, n, hdt⟩, f, rfl⟩
  · cases f1
  · cases f1
  · rcases y with ⟨i, t, _, rfl⟩ | ⟨i, t, _, rfl⟩ | ⟨b', its', ys', e', ⟨o', ho', hcl', n', hdt'⟩, f', rfl⟩
    · cases f2
    · cases f2
    · rw [e, e']
      refine PySem.W.kat_lt ho hdt ho' hdt' (kat_flat 0 f f' a ?_ ⟨rfl, rfl⟩)
      rw [← f.length, ← f'.length]
      simp
theorem its_firsts {h : Heap} {k : Value → PyData} {ds : List PyData} (ft : ds.all flatTup = true) : ∀ {vs : List Value}, Its h k vs ds → ∃ fs, PySem.W.KatTups h vs fs ∧ fs.length = vs.length ∧ ∀ f ∈ fs, ∃ c r, One f c ∧ PyData.tuple (c :: r) ∈ ds
  | [], _ => ⟨[], .nil, rfl, fun _ m => by cases m⟩
  | v :: vs, x => by
    obtain ⟨fs, a1, a2, a3⟩ := its_firsts ft (vs := vs) fun u m => x u (List.mem_cons_of_mem _ m)
    obtain ⟨d, hd, y, _⟩ := x v List.mem_cons_self
    have f1 := List.all_eq_true.mp ft d hd
    rcases y with ⟨i, t, _, rfl⟩ | ⟨i, t, _, rfl⟩ | ⟨b, its, ys, e, ⟨o, ho, hcl, n, hdt⟩, f, rfl⟩
    · cases f1
    · cases f1
    · have f2 : (flatAll ys && !ys.isEmpty) = true := f1
      rw [Bool.and_eq_true] at f2
      cases ys with
      | nil => exact absurd f2.2 (by simp)
      | cons c r =>
        obtain ⟨lst⟩ := its
        cases lst with
        | nil => cases f
        | cons f0 fr =>
          obtain ⟨c', r', e', o1, f'⟩ := f.cons_inv
          cases e'
          refine ⟨f0 :: fs, ?_, by simp [a2], fun g m => ?_⟩
          · rw [e]
            exact .cons ho hcl hdt rfl a1
          · rcases List.mem_cons.mp m with rfl | m
            · exact ⟨c, r, o1, hd⟩
            · exact a3 g m
theorem its_ints {h : Heap} {k : Value → PyData} {ds : List PyData} (x : ∀ d ∈ ds, kindD d = 0) : ∀ {vs : List Value}, Its h k vs ds → ∃ ns, IntsAre vs ns
  | [], _ => ⟨[], .nil⟩
  | v :: vs, y => by
    obtain ⟨ns, r⟩ := its_ints x (vs := vs) fun u m => y u (List.mem_cons_of_mem _ m)
    obtain ⟨d, hd, z, _⟩ := y v List.mem_cons_self
    have q := x d hd
    rcases z with ⟨i, t, rfl, rfl⟩ | ⟨i, t, _, rfl⟩ | ⟨b, its, ys, e, _, _, rfl⟩
    · exact ⟨i :: ns, .cons i t r⟩
    · cases q
    · cases q
theorem its_strs {h : Heap} {k : Value → PyData} {ds : List PyData} (x : ∀ d ∈ ds, kindD d = 1) : ∀ {vs : List Value}, Its h k vs ds → ∃ ns, StrsAre vs ns
  | [], _ => ⟨[], .nil⟩
  | v :: vs, y => by
    obtain ⟨ns, r⟩ := its_strs x (vs := vs) fun u m => y u (List.mem_cons_of_mem _ m)
    obtain ⟨d, hd, z, _⟩ := y v List.mem_cons_self
    have q := x d hd
    rcases z with ⟨i, t, rfl, rfl⟩ | ⟨i, t, rfl, rfl⟩ | ⟨b, its, ys, e, _, _, rfl⟩
    · cases q
    · exact ⟨i :: ns, .cons i t r⟩
    · cases q
theorem its_sortable {a : Addr} {k : Value → PyData} {vs : List Value} {ds : List PyData} (hI : Its s.heap k vs ds) (hs : sortable ds = true) (h2 : 2 ≤ vs.length) (ha : ∀ o, s.heap.get? a = some o → o.cls ≠ .type "tuple") :
    SrtO.SortableO prog w A s a vs fun v u => tlt (k v) (k u) := by
  intro h' keep
  have hI' : Its h' k vs ds := hI.keep fun b o c e => keep b o (fun z => by subst z; exact ha o e c) e
  unfold sortable at hs
  rw [Bool.or_eq_true, Bool.or_eq_true, Bool.and_eq_true, List.all_eq_true, List.all_eq_true] at hs
  rcases hs with (hs | hs) | hs
  · obtain ⟨ns, hn⟩ := its_ints (fun d m => beq_iff_eq.mp (hs d m)) hI'
    refine ⟨oneType', fun Q E hq => ?_, fun p q hm hm' => ?_⟩
    · match vs, hn, h2 with
      | v1 :: v2 :: rest, hn, _ =>
        rw [keyKind_ints hn]
        exact wpAny_pure hq
      | [], _, h => exact absurd h (by decide)
      | [v], _, h => exact absurd h (by simp)
    · obtain ⟨d, hd, x, ex⟩ := hI' _ hm
      obtain ⟨c, hc, y, ey⟩ := hI' _ hm'
      have q1 : kindD d = 0 := beq_iff_eq.mp (hs d hd)
      have q2 : kindD c = 0 := beq_iff_eq.mp (hs c hc)
      show wpAny (model prog w) A (keyLt' oneType' p.1 q.1) (fun r s' => s' = { s with heap := h' } ∧ r = tlt (k p.1) (k q.1)) (fun _ _ => False) _
      rw [ex, ey]
      rcases x with ⟨i, t, e1, rfl⟩ | ⟨i, t, _, rfl⟩ | ⟨b, its, ys, e, _, _, rfl⟩
      · rcases y with ⟨j, u, e2, rfl⟩ | ⟨j, u, _, rfl⟩ | ⟨b, its, ys, e, _, _, rfl⟩
        · rw [e1, e2, keyLt'_oneType, tlt_ii]
          exact oneLt_int ⟨rfl, rfl⟩
        · cases q2
        · cases q2
      · cases q1
      · cases q1
  · obtain ⟨ns, hn⟩ := its_strs (fun d m => beq_iff_eq.mp (hs d m)) hI'
    refine ⟨oneType', fun Q E hq => ?_, fun p q hm hm' => ?_⟩
    · match vs, hn, h2 with
      | v1 :: v2 :: rest, hn, _ =>
        rw [keyKind_strs hn]
        exact wpAny_pure hq
      | [], _, h => exact absurd h (by decide)
      | [v], _, h => exact absurd h (by simp)
    · obtain ⟨d, hd, x, ex⟩ := hI' _ hm
      obtain ⟨c, hc, y, ey⟩ := hI' _ hm'
      have q1 : kindD d = 1 := beq_iff_eq.mp (hs d hd)
      have q2 : kindD c = 1 := beq_iff_eq.mp (hs c hc)
      show wpAny (model prog w) A (keyLt' oneType' p.1 q.1) (fun r s' => s' = { s with heap := h' } ∧ r = tlt (k p.1) (k q.1)) (fun _ _ => False) _
      rw [ex, ey]
      rcases x with ⟨i, t, _, rfl⟩ | ⟨i, t, e1, rfl⟩ | ⟨b, its, ys, e, _, _, rfl⟩
      · cases q1
      · rcases y with ⟨j, u, _, rfl⟩ | ⟨j, u, e2, rfl⟩ | ⟨b, its, ys, e, _, _, rfl⟩
        · cases q2
        · rw [e1, e2, keyLt'_oneType, tlt_ss]
          exact oneLt_str ⟨rfl, rfl⟩
        · cases q2
      · cases q1
  · obtain ⟨ft, al⟩ := hs
    have al' : ∀ x ∈ ds, ∀ y ∈ ds, alike x y = true := fun x hx y hy => List.all_eq_true.mp (List.all_eq_true.mp al x hx) y hy
    obtain ⟨fs, h1, h2', h3⟩ := its_firsts ft hI'
    refine ⟨tuples' true, fun Q E hq => ?_, cmp_tup (s := { s with heap := h' }) hI' ft al'⟩
    cases fs with
    | nil => simp at h2'; omega
    | cons f0 fr =>
      obtain ⟨c0, r0, o0, m0⟩ := h3 f0 List.mem_cons_self
      rcases o0 with ⟨i, t, rfl, rfl⟩ | ⟨z, t, rfl, rfl⟩
      · refine PySem.W.kat_kind (T := .type "int") h1 (by simp) (fun f hm => ?_) (by rfl) ?_
        · obtain ⟨c, r, o, m⟩ := h3 f hm
          have al2 := al' _ m0 _ m
          rcases o with ⟨j, u, rfl, rfl⟩ | ⟨z, u, rfl, rfl⟩
          · exact PySem.W.Looks.now
          · exact absurd al2 (by simp [alike, alikeL])
        · have e : (Value.type "int" != Value.type "tuple") = true := by first | decide +kernel | rfl | decide
          rw [e]
          exact hq
      · refine PySem.W.kat_kind (T := .type "str") h1 (by simp) (fun f hm => ?_) (by rfl) ?_
        · obtain ⟨c, r, o, m⟩ := h3 f hm
          have al2 := al' _ m0 _ m
          rcases o with ⟨j, u, rfl, rfl⟩ | ⟨z, u, rfl, rfl⟩
          · exact absurd al2 (by simp [alike, alikeL])
          · exact PySem.W.Looks.now
        · have e : (Value.type "str" != Value.type "tuple") = true := by first | decide +kernel | rfl | decide
          rw [e]
          exact hq
/-- sorted(list) -/
theorem sorted_data {l : Addr} {vs : List Value} {ds : List PyData} {Q : Value → Shared → Prop} (hl : s.heap.IsList l vs.toArray) (hz : vs.length ≤ sizeLine) (hI : ItemsAt s.heap vs ds) (hs : sortable ds = true)
    (h : ∀ out : List Value, out.Perm vs → out.map (keyOf s.heap) = isortD ds → Q (.ref (s.heap.objs.size + 1)) { s with heap := sortedAll s.heap vs out.toArray }) :
    wpAny (model prog w) A (call (.builtin "sorted") [.ref l]) Q E s := by
  refine SrtO.sorted_ord (swo_tlt (keyOf s.heap)) hl hz (fun h2 h₁ a ha kk => ?_) fun out h1 hb => ?_
  · refine its_sortable (s := { s with heap := h₁ }) (hI.its.keep fun b o c e => (kk b o e).2) hs h2 fun o e => ?_
    have e' : some o = some (seqObj "list" vs.toArray 0) := e.symm.trans ha
    cases e'
    intro c
    exact absurd (Value.type.inj c) (by decide)
  · refine h out hb.perm ?_
    have pm : (out.map (keyOf s.heap)).Perm ds := by
      have := hb.perm.map (keyOf s.heap)
      rw [hI.map] at this
      exact this
    refine srt_unique (fun x hx y hy => sortable_tie hs x (pm.mem_iff.mp hx) y (pm.mem_iff.mp hy)) (pm.trans (isortD_perm ds).symm) (List.pairwise_map.mpr h1) (isortD_srt ds)
end
end Ev
namespace Ev
open PySem PySem.Spec PyProof.Rows L2
section
variable {X : Cx} {G : Gh} {W : WX} {S P P1 : List Addr} {σ : L2.St} {H H1 : L2.Hp} {Q Q' : VK} {g : Gam} {pos : Pos} {a b c : Expr} {fa fb fc f : ME}
theorem itemAt_of {pins : List (Addr × Obj)} {s : Shared} (I : L2.Inv X pins σ H s) {d : PyData} {x : V} {v : Value} (f : flat1 d = true ∨ flatTup d = true) (r : RelV x v) (dx : Dp X.K (hide P H) x d) : ItemAt s.heap v d := by
  cases d with
  | int i => rw [dp_int dx] at r; obtain ⟨t, rfl⟩ := r; exact .inl ⟨i, t, rfl, rfl⟩
  | str i => rw [dp_str dx] at r; obtain ⟨t, rfl⟩ := r; exact .inr (.inl ⟨i, t, rfl, rfl⟩)
  | tuple ys =>
    rcases f with f | f
    · cases f
    · have f' : (flatAll ys && !ys.isEmpty) = true := f
      rw [Bool.and_eq_true] at f'
      obtain ⟨a, vs, rfl, ha, da⟩ := dp_tuple dx
      cases r
      obtain ⟨its, r1, p1, _⟩ := I.tuple ha
      exact .inr (.inr ⟨a, _, ys, rfl, p1, flat_of f'.1 da r1, rfl⟩)
  | _ => rcases f with f | f <;> cases f
theorem itemsAt_of {pins : List (Addr × Obj)} {s : Shared} (I : L2.Inv X pins σ H s) : ∀ {ds : List PyData} {xs : List V} {vs : List Value}, (∀ d ∈ ds, flat1 d = true ∨ flatTup d = true) → Vals xs vs → DpAll X.K (hide P H) xs ds → ItemsAt s.heap vs ds
  | [], _, _, f, r, h => by cases h; cases r; exact .nil
  | d :: ds, _, _, f, r, h => by
    cases h with
    | cons h1 h2 =>
      cases r with
      | cons r1 r2 => exact .cons (itemAt_of I (f d List.mem_cons_self) r1 h1) (itemsAt_of I (fun e m => f e (List.mem_cons_of_mem _ m)) r2 h2)
theorem back_mem {K : PySem.W.Frag} {F : L2.Hp} {h : Heap} : ∀ {ds : List PyData} {xs : List V} {vs : List Value}, Vals xs vs → DpAll K F xs ds → ItemsAt h vs ds → ∀ v ∈ vs, ∃ x, RelV x v ∧ Dp K F x (keyOf h v)
  | [], _, _, r, e, i, v, m => by cases i; cases m
  | d :: ds, _, _, r, e, i, v, m => by
    cases e with
    | cons e1 e2 =>
      cases r with
      | cons r1 r2 =>
        cases i with
        | cons i1 i2 =>
          rcases List.mem_cons.mp m with rfl | m
          · exact ⟨_, r1, by rw [keyOf_eq i1]; exact e1⟩
          · exact back_mem r2 e2 i2 v m
theorem back_all {K : PySem.W.Frag} {F : L2.Hp} {k : Value → PyData} : ∀ {out : List Value}, (∀ v ∈ out, ∃ x, RelV x v ∧ Dp K F x (k v)) → ∃ zs, Vals zs out ∧ DpAll K F zs (out.map k)
  | [], _ => ⟨[], .nil, .nil⟩
  | v :: out, h => by
    obtain ⟨x, r, d⟩ := h v List.mem_cons_self
    obtain ⟨zs, a, b⟩ := back_all (out := out) fun u m => h u (List.mem_cons_of_mem _ m)
    exact ⟨x :: zs, .cons r a, .cons d b⟩
theorem sortable_flat {ds : List PyData} (h : sortable ds = true) : ∀ d ∈ ds, flat1 d = true ∨ flatTup d = true := by
  intro d m
  unfold sortable at h
  rw [Bool.or_eq_true, Bool.or_eq_true, Bool.and_eq_true, List.all_eq_true, List.all_eq_true, List.all_eq_true] at h
  rcases h with (h | h) | h
  · have := h d m
    cases d <;> first | (cases this; done) | exact .inl rfl
  · have := h d m
    cases d <;> first | (cases this; done) | exact .inl rfl
  · exact .inr (h.1 d m)
theorem cr_srtD (hK : X.K = G.K) : CallR X (.builtin "sorted") (rU1 G W srtD) := by
  rintro pins s σ H xs us Q I r ⟨σ', S, P, g, x, a, rfl, Iv, da, h⟩
  cases a with
  | list ds =>
    have h : Post G W S P σ' H Q (ofB g ((sortD ds).map fun ys => (true, .list ys))) := h
    unfold sortD at h
    cases hs : sortable ds with
    | false => rw [hs] at h; exact h.elim
    | true =>
      rw [hs, if_pos rfl] at h
      have h : Post G W S P σ' H Q (.fr (.lst (isortD ds)) g) := h
      obtain ⟨p, vs, rfl, q1, q2⟩ := da.list
      rw [← hK] at q1
      have q2' : DpAll X.K (hide P H) vs ds := by rw [hK]; exact q2
      obtain ⟨its, rv, hl, hz⟩ := I.list q1
      rw [Vals.ref1 r]
      have hi := itemsAt_of I (sortable_flat hs) rv q2'
      have hz' : its.length ≤ sizeLine := by rw [← rv.length]; exact hz
      refine sorted_data hl.isList hz' hi hs fun out hp he => ?_
      obtain ⟨zs, z1, z2⟩ := back_all (out := out) fun v m => back_mem rv q2' hi v (hp.mem_iff.mp m)
      rw [he, hK] at z2
      obtain ⟨ep, he'⟩ := PyProof.Rows.sortedAll_at s.heap its out.toArray
      have hf : H (s.heap.objs.size + 1) = none := I.hok.fresh (Nat.le_succ _)
      refine ⟨.ref _, upd H (s.heap.objs.size + 1) (.lst zs), I.laid (t' := s.toks) (fun _ _ => PyProof.Rows.sortedAll_old) (Nat.le_succ _) ⟨?_, out, ep, z1, he'⟩, rfl, Post.frNew h Iv hf z2⟩
      rw [z1.length, hp.length_eq]
      exact hz'
  | _ => exact h.elim
end
end Ev

set_option Elab.async false
set_option linter.all false
set_option maxRecDepth 100000
set_option maxHeartbeats 4000000
/-! EvP: sets of numbers and texts: set(xs), len of it, sorted of it. -/
namespace Ev
open PySem PySem.Spec PyProof.Rows L2
def hasK (ks : List Key) (j : Key) : Bool := ks.any fun i => decide (i = j)
theorem hasK_iff {ks : List Key} {j : Key} : hasK ks j = true ↔ j ∈ ks := by
  unfold hasK
  rw [List.any_eq_true]
  exact ⟨fun ⟨i, h, e⟩ => of_decide_eq_true e ▸ h, fun h => ⟨j, h, decide_eq_true rfl⟩⟩
theorem hasK_snoc {ks : List Key} {i j : Key} : hasK (ks ++ [i]) j = (hasK ks j || decide (j = i)) := by
  unfold hasK
  rw [List.any_append, List.any_cons, List.any_nil, Bool.or_false]
  congr 1
  exact decide_eq_decide.mpr eq_comm
/-- one key for each value -/
def Apart (P : Program) (w : World) (a b : Int × Value) : Prop := ∀ k : Key, ¬ ((mixKind P w).is k a.2 = true ∧ (mixKind P w).is k b.2 = true)
theorem Apart.symm {P : Program} {w : World} {a b : Int × Value} (h : Apart P w a b) : Apart P w b a := fun k x => h k ⟨x.2, x.1⟩
/-- the set at a: S its members, n their number; it can be walked -/
def SetM (P : Program) (w : World) (h : Heap) (a : Addr) (S : Key → Bool) (n : Nat) : Prop :=
  ∃ o es ep t, h.get? a = some o ∧ o.ExactSet ∧ o.data = .set es ep t ∧ ElemsOf (mixKind P w) es.toList ∧ es.toList.Pairwise (Apart P w) ∧ (∀ k, S k = true ↔ ∃ e ∈ es.toList, (mixKind P w).is k e.2 = true) ∧
    es.size < scanBound ∧ t.fits es.size = true ∧ es.size = n ∧ Ris t.place.toList ∧ (w.params.followText "set-order" = true ∨ t.led = true)
section
variable {P : Program} {w : World} {h h' : Heap} {a : Addr} {S : Key → Bool} {n : Nat}
theorem SetM.at (R : SetM P w h a S n) (k : ∀ o, h.get? a = some o → h'.get? a = some o) : SetM P w h' a S n := by
  obtain ⟨o, es, ep, t, ho, r⟩ := R
  exact ⟨o, es, ep, t, k o ho, r⟩
theorem SetM.congr {S' : Key → Bool} (R : SetM P w h a S n) (e : ∀ k, S' k = S k) : SetM P w h a S' n := by
  have q : S' = S := funext e
  rw [q]; exact R
end
section
variable {P : Program} {w : World} {A : Around} {E : Value → Shared → Prop} {s : Shared} {a : Addr} {S : Key → Bool} {n : Nat}
theorem setM_tail {g : Bool → Sem Unit} (hg : ∀ (b : Bool) (s₁ : Shared) (Q' : Unit → Shared → Prop), Q' () s₁ → wpAny (model P w) A (g b) Q' E s₁)
    {o : Obj} {es : Array (Int × Value)} {ep : Nat} {t : SetTable} (ho : s.heap.get? a = some o) (hex : o.ExactSet) (hd : o.data = .set es ep t)
    {es1 : Array (Int × Value)} {t2 : SetTable} {S' : Key → Bool} (g1 : ElemsOf (mixKind P w) es1.toList) (nd1 : es1.toList.Pairwise (Apart P w)) (m1 : ∀ k, S' k = true ↔ ∃ e ∈ es1.toList, (mixKind P w).is k e.2 = true)
    (hb1 : es1.size < scanBound) (hf2 : t2.fits es1.size = true) (hr : Ris t2.place.toList) (hl : w.params.followText "set-order" = true ∨ t2.led = true) {wasDummy : Bool} {R : Option Bool → Shared → Prop}
    (hR : ∀ h', Heap.SameBut a s.heap h' → SetM P w h' a S' es1.size → R (some true) { s with heap := h' }) :
    wpAny (model P w) A (do
        storeSet a es1 t2
        if (!wasDummy && t2.tooFull) = true then do
            g (relayAll t2 es1 (SetTable.grown es1.size)).2.2
            storeSet a (relayAll t2 es1 (SetTable.grown es1.size)).1 (relayAll t2 es1 (SetTable.grown es1.size)).2.1
            pure (some true)
          else pure (some true)) R E s := by
  refine wpAny_bind (wpAny_storeSet_of ho hd ?_ (fits_of_scanBound hb1))
  have ho1 := store_at (es' := es1) (t' := t2) ho hd
  have sb1 := Heap.SameBut.update s.heap a (Obj.putSet es1 t2)
  split
  · have pm := relayAll_perm t2 es1 (SetTable.grown es1.size)
    have hf3 := relayAll_fits t2 es1 (SetTable.grown es1.size)
    have hr3 := relayAll_ris t2 es1 (SetTable.grown es1.size)
    have hl3 := relayAll_led t2 es1 (SetTable.grown es1.size)
    generalize relayAll t2 es1 (SetTable.grown es1.size) = Z at pm hf3 hr3 hl3 ⊢
    obtain ⟨es2, t3, gave⟩ := Z
    dsimp only at pm hf3 hr3 hl3 ⊢
    have hsz : es2.size = es1.size := by rw [← Array.length_toList, pm.length_eq, Array.length_toList]
    have hb2 : es2.size < scanBound := by rw [hsz]; exact hb1
    refine wpAny_bind (hg _ _ _ ?_)
    refine wpAny_bind (wpAny_storeSet_of ho1 rfl ?_ (fits_of_scanBound hb2))
    have ho2 := store_at (es' := es2) (t' := t3) ho1 rfl
    refine wpAny_pure (hR _ (sb1.trans (Heap.SameBut.update _ a _)) ?_)
    exact ⟨_, es2, _, t3, ho2, hex, rfl, g1.perm pm, (pm.pairwise_iff fun x => x.symm).mpr nd1, fun k => (m1 k).trans ⟨fun ⟨e, he, q⟩ => ⟨e, pm.mem_iff.mpr he, q⟩, fun ⟨e, he, q⟩ => ⟨e, pm.mem_iff.mp he, q⟩⟩, hb2, hf3, hsz, hr3,
      hl.imp id fun z => by rw [hl3]; exact z⟩
  · exact wpAny_pure (hR _ sb1 ⟨_, es1, _, t2, ho1, hex, rfl, g1, nd1, m1, hb1, hf2, rfl, hr, hl⟩)
theorem setM_add {k : Key} {x : Value} {Q : Bool → Shared → Prop} (hkey : (mixKind P w).is k x = true) (hsc : x.scannable = true) (R : SetM P w s.heap a S n) (room : n + 1 < scanBound)
    (hQ : ∀ h', Heap.SameBut a s.heap h' → SetM P w h' a (fun j => S j || decide (j = k)) (if S k = true then n else n + 1) → Q (!S k) { s with heap := h' }) :
    wpAny (model P w) A (setAddHashed a x ((mixKind P w).hash k)) Q E s := by
  obtain ⟨o, es, ep, t, ho, hex, hd, hel, nd, hm, hb, hf, hn, hr, hl⟩ := R
  unfold setAddHashed setAddHashedIn
  refine wpAny_holding (wpAny_bind (wpAny_setState_of ho hd hf ?_))
  dsimp only
  rw [byScan_of hsc hb hel]
  simp only [↓reduceIte]
  unfold setAddByScan
  refine wpAny_bind ?_
  refine wpAny_bind (wpAny_rule ?_)
  refine wpAny_bind (wpAny_setScan_of hkey ho hd hf hel ?_)
  cases hfi : List.findIdx? (fun e => (mixKind P w).is k e.2) es.toList with
  | some j =>
    dsimp only
    obtain ⟨hj, pj, _⟩ := List.findIdx?_eq_some_iff_getElem.mp hfi
    have hSk : S k = true := (hm k).2 ⟨es.toList[j], List.getElem_mem hj, pj⟩
    refine wpAny_pure (wpAny_pure ?_)
    have q := hQ s.heap (Heap.SameBut.refl a s.heap) ⟨o, es, ep, t, ho, hex, hd, hel, nd, fun i => by
      rw [Bool.or_eq_true, decide_eq_true_eq, ← hm i]
      exact ⟨fun z => z.elim id (fun e => e ▸ hSk), .inl⟩, hb, hf, by rw [if_pos hSk]; exact hn, hr, hl⟩
    rw [hSk] at q
    exact q
  | none =>
    dsimp only
    have hnk : ∀ e ∈ es.toList, (mixKind P w).is k e.2 = false := fun e he => by
      have c := List.findIdx?_eq_none_iff.mp hfi e he
      simpa using c
    have hSk : S k = false := by
      cases q : S k with
      | false => rfl
      | true =>
        obtain ⟨e, he, z⟩ := (hm k).1 q
        rw [hnk e he] at z
        cases z
    have hgw : ∀ (b : Bool) {s₁ : Shared} {Q' : Unit → Shared → Prop}, Q' () s₁ → wpAny (model P w) A (match b with | true => rule "set.scan.the-table-gave-way" | false => pure ()) Q' E s₁ :=
      fun b s₁ Q' q => by cases b <;> first | exact wpAny_pure q | exact wpAny_rule q
    have pm := layNew_perm t es ((mixKind P w).hash k) x
    have hf1 := layNew_fits t es ((mixKind P w).hash k) x
    have hr1 := layNew_ris t es ((mixKind P w).hash k) x hr
    have hl1 := layNew_led t es ((mixKind P w).hash k) x
    generalize layNew t es ((mixKind P w).hash k) x = Z at pm hf1 hr1 hl1 ⊢
    obtain ⟨es1, t1, wasDummy, gave⟩ := Z
    dsimp only at pm hf1 hr1 hl1 ⊢
    rw [Array.toList_push] at pm
    have pc : es1.toList.Perm (((mixKind P w).hash k, x) :: es.toList) := pm.trans (List.perm_append_singleton _ _)
    have g1 : ElemsOf (mixKind P w) es1.toList := (hel.push hkey hsc).perm pm
    have nd1 : es1.toList.Pairwise (Apart P w) := (pc.pairwise_iff fun x => x.symm).mpr (List.pairwise_cons.mpr ⟨fun e he j z => by
      have e1 : j = k := (mixKind P w).inj x j k z.1 hkey
      rw [e1, hnk e he] at z
      exact absurd z.2 (by decide), nd⟩)
    have m1 : ∀ i, (S i || decide (i = k)) = true ↔ ∃ e ∈ es1.toList, (mixKind P w).is i e.2 = true := mem_push_iff hkey hm pm
    have hsz : es1.size = n + 1 := by rw [← Array.length_toList, pc.length_eq, List.length_cons, Array.length_toList, hn]
    have hb1 : es1.size < scanBound := by rw [hsz]; exact room
    have hled : w.params.followText "set-order" = true ∨ t1.led = true := hl.imp id fun z => by rw [hl1]; exact z
    have fin : ∀ h', Heap.SameBut a s.heap h' → SetM P w h' a (fun j => S j || decide (j = k)) es1.size → Q true { s with heap := h' } := fun h' sb r => by
      have q := hQ h' sb
      rw [hSk] at q
      rw [hsz] at r
      exact q r
    refine wpAny_bind (hgw _ ?_)
    split
    · refine wpAny_bind ?_
      rw [hashByValue_scannable 8 hsc]
      refine wpAny_pure ?_
      refine setM_tail ?_ ho hex hd g1 nd1 m1 hb1 ?_ ?_ ?_ ?_
      · intro b s₁ Q' q; cases b <;> first | exact wpAny_pure q | exact wpAny_rule q
      · first | (split <;> first | exact hf1 | exact SetTable.fits_plain_off hf1) | exact hf1
      · first | (split <;> exact hr1) | exact hr1
      · first | (split <;> exact hled) | exact hled
      · intro h' sb r; dsimp only; exact wpAny_pure (fin h' sb r)
    · refine wpAny_bind (wpAny_pure ?_)
      simp only [↓reduceIte]
      refine setM_tail ?_ ho hex hd g1 nd1 m1 hb1 hf1 hr1 hled ?_
      · intro b s₁ Q' q; cases b <;> first | exact wpAny_pure q | exact wpAny_rule q
      · intro h' sb r; dsimp only; exact wpAny_pure (fin h' sb r)
theorem setM_new_at {h : Heap} {ks : List Key} (ho : h.get? a = some { cls := .type "set", dict := none, data := .set #[] 0 (.fresh 0 0 (!w.params.followText "set-order")) }) : SetM P w h a (hasK (ks.take 0)) 0 :=
  ⟨_, #[], 0, _, ho, ⟨rfl, rfl, rfl⟩, rfl, (fun e he => by simp at he), (by simp), (fun k => ⟨nofun, fun ⟨e, he, _⟩ => by simp at he⟩), (by decide), (by rfl), rfl, List.Pairwise.nil, by
    show _ ∨ (!w.params.followText "set-order") = true
    cases w.params.followText "set-order"
    · exact .inr rfl
    · exact .inl rfl⟩
theorem setM_update {I : Addr} {fp wr : List Addr} {G : Array GenState → Array GenState → Prop} {n : Nat} {Pv : Nat → Value → Prop} {St : Nat → Shared → Prop} {R : Result → Shared → Prop}
    (W : WalksS P w A.in1 I fp wr G n Pv St) (S : Addr) (hSf : S ∉ fp) (ks : List Key) (hn : n = ks.length) (hb : ks.length + 1 < scanBound) (hval : ∀ i v, Pv i v → ∃ k, ks[i]? = some k ∧ (mixKind P w).is k v = true ∧ v.scannable = true) :
    ∀ (k i : Nat) (s : Shared), n - i = k → i ≤ n → St i s → (∃ c, c ≤ i ∧ SetM P w s.heap S (hasK (ks.take i)) c) →
      (∀ s' c, Moved (S :: wr) G s s' → c ≤ n → SetM P w s'.heap S (hasK ks) c → R (.ok (.ret .none)) s') →
      codeAny (model P w) A (.builtin "set.update.loop" ⟨[.ref S, .ref I], []⟩) R s := by
  have hSw : S ∉ wr := fun h => hSf (W.sub _ h)
  have hsub : ∀ b ∈ wr, b ∈ S :: wr := fun b hb => List.mem_cons_of_mem _ hb
  intro k
  induction k with
  | zero =>
    intro i s hk' hi hst ⟨c, hc, hS⟩ hR
    have hin : i = n := by omega
    subst hin
    refine codeAny_builtin PyProof.Rows.F.entry_set_update_loop ?_
    rw [Around.under_plainId PyProof.Rows.F.plain_set_update_loop _]
    show wpAny _ A.in1 (pyNext (.ref I) >>= _) _ _ s
    refine wpAny_bind (W.done s _ _ hst fun s' hm => ?_)
    show wpAny _ A.in1 (ret Value.none) _ _ s'
    have e : ks.take i = ks := List.take_of_length_le (by omega)
    rw [e] at hS
    exact wpAny_pure (hR s' c (hm.mono hsub) hc (hS.at fun o e => hm.heap S o hSw e))
  | succ k ih =>
    intro i s hk' hi hst ⟨c, hc, hS⟩ hR
    have hlt : i < n := by omega
    refine codeAny_builtin PyProof.Rows.F.entry_set_update_loop ?_
    rw [Around.under_plainId PyProof.Rows.F.plain_set_update_loop _]
    show wpAny _ A.in1 (pyNext (.ref I) >>= _) _ _ s
    refine wpAny_bind (W.item i s _ _ hlt hst fun v s' hP hst' hm => ?_)
    obtain ⟨z, hz, hkey, hsc⟩ := hval i v hP
    have hS' : SetM P w s'.heap S (hasK (ks.take i)) c := hS.at fun o e => hm.heap S o hSw e
    show wpAny _ A.in1 (holding [v] (setAdd S v) >>= _) _ _ s'
    refine wpAny_bind (wpAny_holding ?_)
    unfold setAdd
    refine wpAny_holding ?_
    refine wpAny_bind ((mixKind P w).pyHash (k := z) hkey ?_)
    refine setM_add (s := { s' with toks := s'.toks + 1 }) hkey hsc hS' (by omega) fun h' hsb hS2 => ?_
    have hS3 : SetM P w h' S (hasK (ks.take (i + 1))) (if hasK (ks.take i) z = true then c else c + 1) := hS2.congr fun j => by
      rw [List.take_add_one, hz]
      exact hasK_snoc
    have hc3 : (if hasK (ks.take i) z = true then c else c + 1) ≤ i + 1 := by
      split <;> omega
    refine wpAny_pure ⟨plainId_quiet PyProof.Rows.F.plain_set_update_loop _, ih (i + 1) _ (by omega) hlt (W.frame _ s' _ _ hst' (Nat.le_succ _) fun b hb o e => ?_) ⟨_, hc3, hS3⟩ fun s'' c2 hm'' hc'' hS'' => ?_⟩
    · rw [hsb.2 b (fun h : b = S => hSf (by rw [← h]; exact hb))]; exact e
    · refine hR s'' c2 (Moved.trans W.gtrans ((hm.mono hsub).then_heap (Nat.le_succ _) fun b o hb e => ?_) hm'') hc'' hS''
      rw [hsb.2 b (fun h : b = S => hb (by rw [h]; exact List.mem_cons_self))]; exact e
end
end Ev

namespace Ev
open PySem PySem.Spec PyProof.Rows L2
section
variable {P : Program} {w : World} {A : Around} {E : Value → Shared → Prop} {s : Shared}

theorem call_set_list {l : Addr} {items : Array Value} (ks : List Key) {Q : Value → Shared → Prop} (hh : A.handled = none) (hl : s.heap.IsList l items) (hisz : items.size = ks.length) (hval : ∀ (i : Nat) (v : Value), items[i]? = some v → ∃ k, ks[i]? = some k ∧ (mixKind P w).is k v = true ∧ v.scannable = true) (hb : ks.length + 1 < scanBound)
    (h : ∀ (h' : Heap) (tk c : Nat), SetM P w h' s.heap.objs.size (hasK ks) c → c ≤ ks.length → (∀ b o, s.heap.get? b = some o → h'.get? b = some o) → Q (.ref s.heap.objs.size) { s with heap := h', toks := tk }) :
    wpAny (model P w) A (call (.type "set") [.ref l]) Q E s := by
  obtain ⟨c, tl, hmro⟩ := PySem.F.called_set.mro
  have hmade := PySem.F.called_set.made
  have hsub := PySem.F.called_set.sub
  refine wpAny_call (codeAny_of_tree ?_)
  show wpAny _ _ (callAny (.type "set") _) _ _ _
  refine wpAny_pure ⟨Code.quiet_builtin _ (by decide +kernel), codeAny_builtin PySem.F.entry_type_call ?_⟩
  rw [Around.under_plain (weight_type_call_type "set" [.ref l] []) rfl]
  have h1 := PySem.F.called_set.notType
  have h2 := PySem.F.called_set.canCreate
  have hct := PySem.F.typeCall_set_1 (.ref l)
  repeat (any_goals (first | assumption | wp_step))
  refine codeAny_mono (L2.code_set_led1 (.ref l) (E := E) (Q₁ := fun obj s₁ => obj = .ref s.heap.objs.size ∧ s₁ = { s with heap := s.heap.push { cls := .type "set", dict := none, data := .set #[] 0 (.fresh 0 0 (!w.params.followText "set-order")) } }) ⟨rfl, rfl⟩) fun r s₁ hr => ?_
  cases r with
  | error e => exact hr
  | ok fl =>
    cases fl with
    | ret obj =>
      obtain ⟨rfl, rfl⟩ := hr
      have hS : (s.heap.push { cls := .type "set", dict := none, data := .set #[] 0 (.fresh 0 0 (!w.params.followText "set-order")) }).get? s.heap.objs.size = some { cls := .type "set", dict := none, data := .set #[] 0 (.fresh 0 0 (!w.params.followText "set-order")) } := Heap.get?_push_size _ rfl
      have hT : Shared.TypeIs { s with heap := s.heap.push { cls := .type "set", dict := none, data := .set #[] 0 (.fresh 0 0 (!w.params.followText "set-order")) } } (.ref s.heap.objs.size) "set" := ⟨_, hS, rfl⟩
      have hli := PySem.F.called_set.init.lookup
      have hbi := PySem.F.called_set.init.bind (.ref s.heap.objs.size)
      repeat (any_goals (first | assumption | wp_step))
      refine codeAny_mono (codeAny_call_builtin (R := wants (fun r s₂ => r = .none ∧ ∃ h' tk c, s₂ = { s with heap := h', toks := tk } ∧ SetM P w h' s.heap.objs.size (hasK ks) c ∧ c ≤ ks.length ∧
          (∀ b o, s.heap.get? b = some o → h'.get? b = some o)) E) PySem.F.called_set.init.plain PySem.F.entry_set_init (check_set_init_1 hT ?_)) fun r₂ s₂ hr₂ => ?_
      · obtain ⟨ol, hol, hcl, nl, hdl⟩ := hl
        obtain ⟨ocls, odict, odata, oslots⟩ := ol
        simp only at hcl hdl
        subst hcl; subst hdl
        have hol' : (s.heap.push { cls := .type "set", dict := none, data := .set #[] 0 (.fresh 0 0 (!w.params.followText "set-order")) }).get? l = some { cls := .type "list", dict := odict, data := .seq items nl, slots := oslots } := Heap.get?_push_of_some _ hol
        have hsls := PySem.F.sub_list_set
        have hslf := PySem.F.sub_list_frozenset
        have hne : (Value.type "list" == Value.type "dict") = false := by decide
        have hl1 : (s.heap.push { cls := .type "set", dict := none, data := .set #[] 0 (.fresh 0 0 (!w.params.followText "set-order")) }).IsList l items := ⟨_, hol', rfl, nl, rfl⟩
        unfold Builtin.«set.__init__» noKeywords Builtin.Frozenset.updateFrom
        generalize hPI : pyIter = PI
        wp_walk
        subst hPI
        refine wpAny_pyIter_list hl1 ?_
        refine wpAny_bind (wpAny_runValue ?_)
        have hlS : l < s.heap.objs.size := Heap.lt_size hol
        have hh3 : A.in1.in1.in1.handled = none := by simp [hh]
        have hneI : l ≠ (s.heap.push { cls := .type "set", dict := none, data := .set #[] 0 (.fresh 0 0 (!w.params.followText "set-order")) }).objs.size := by
          rw [Heap.size_push]; exact Nat.ne_of_lt (Nat.lt_succ_of_lt hlS)
        have hSf : s.heap.objs.size ∉ [(s.heap.push { cls := .type "set", dict := none, data := .set #[] 0 (.fresh 0 0 (!w.params.followText "set-order")) }).objs.size, l] := by
          rw [Heap.size_push]; simp only [List.mem_cons, List.mem_singleton, List.not_mem_nil, or_false, not_or]
          exact ⟨Nat.ne_of_lt (Nat.lt_succ_self _), Nat.ne_of_gt hlS⟩
        refine setM_update ((Walks.list hh3 _ l hneI items).toS) s.heap.objs.size
          hSf ks hisz hb hval (items.size - 0) 0 _ (by omega) (Nat.zero_le _)
          ⟨⟨_, Heap.get?_push_size _ rfl, rfl, rfl⟩, (hl1.push _)⟩ ?hS0 ?hR
        case hS0 =>
          have hget : ((s.heap.push { cls := .type "set", dict := none, data := .set #[] 0 (.fresh 0 0 (!w.params.followText "set-order")) }).push { cls := .type "list_iterator", data := .fields #[.ref l, .int 0 0] }).get? s.heap.objs.size
              = some { cls := .type "set", dict := none, data := .set #[] 0 (.fresh 0 0 (!w.params.followText "set-order")) } := Heap.get?_push_of_some _ hS
          exact ⟨0, Nat.le_refl 0, setM_new_at hget⟩
        case hR =>
          intro s' c' hm hc' hS'
          obtain ⟨h', g2, d', tk', os'⟩ := s'
          have eg : g2 = s.gens := hm.gens
          have ed : d' = s.drawn := hm.drawn
          have eo : os' = s.os := hm.os
          subst eg; subst ed; subst eo
          show wpAny _ _ _ _ _ _
          refine wpAny_pure ?_
          show wpAny _ _ (ret Value.none) _ _ _
          rw [hisz] at hc'
          refine wpAny_pure ⟨rfl, h', tk', c', rfl, hS', hc', fun b o e => ?_⟩
          have hb0 : b < s.heap.objs.size := Heap.lt_size e
          have hb1 : b ≠ s.heap.objs.size := Nat.ne_of_lt hb0
          have hb2 : b ≠ (s.heap.push { cls := .type "set", dict := none, data := .set #[] 0 (.fresh 0 0 (!w.params.followText "set-order")) }).objs.size := by
            rw [Heap.size_push]; exact Nat.ne_of_lt (Nat.lt_succ_of_lt hb0)
          exact hm.heap b o (by simp only [List.mem_cons, List.mem_singleton, List.not_mem_nil, or_false, not_or]; exact ⟨hb1, hb2⟩) (Heap.get?_push_of_some _ (Heap.get?_push_of_some _ e))
      · cases r₂ with
        | error e => exact hr₂
        | ok fl₂ =>
          cases fl₂ with
          | ret r =>
            obtain ⟨rfl, h', tk, c', rfl, hS', hc', hk'⟩ := hr₂
            repeat (any_goals (first | assumption | wp_step))
            exact h _ _ _ hS' hc' hk'
          | _ => exact hr₂.elim
    | _ => exact hr.elim

theorem call_set_tuple {l : Addr} {items : Array Value} (ks : List Key) {Q : Value → Shared → Prop} (hh : A.handled = none) (hl : s.heap.IsTuple l items) (hisz : items.size = ks.length) (hval : ∀ (i : Nat) (v : Value), items[i]? = some v → ∃ k, ks[i]? = some k ∧ (mixKind P w).is k v = true ∧ v.scannable = true) (hb : ks.length + 1 < scanBound)
    (h : ∀ (h' : Heap) (tk c : Nat), SetM P w h' s.heap.objs.size (hasK ks) c → c ≤ ks.length → (∀ b o, s.heap.get? b = some o → h'.get? b = some o) → Q (.ref s.heap.objs.size) { s with heap := h', toks := tk }) :
    wpAny (model P w) A (call (.type "set") [.ref l]) Q E s := by
  obtain ⟨c, tl, hmro⟩ := PySem.F.called_set.mro
  have hmade := PySem.F.called_set.made
  have hsub := PySem.F.called_set.sub
  refine wpAny_call (codeAny_of_tree ?_)
  show wpAny _ _ (callAny (.type "set") _) _ _ _
  refine wpAny_pure ⟨Code.quiet_builtin _ (by decide +kernel), codeAny_builtin PySem.F.entry_type_call ?_⟩
  rw [Around.under_plain (weight_type_call_type "set" [.ref l] []) rfl]
  have h1 := PySem.F.called_set.notType
  have h2 := PySem.F.called_set.canCreate
  have hct := PySem.F.typeCall_set_1 (.ref l)
  repeat (any_goals (first | assumption | wp_step))
  refine codeAny_mono (L2.code_set_led1 (.ref l) (E := E) (Q₁ := fun obj s₁ => obj = .ref s.heap.objs.size ∧ s₁ = { s with heap := s.heap.push { cls := .type "set", dict := none, data := .set #[] 0 (.fresh 0 0 (!w.params.followText "set-order")) } }) ⟨rfl, rfl⟩) fun r s₁ hr => ?_
  cases r with
  | error e => exact hr
  | ok fl =>
    cases fl with
    | ret obj =>
      obtain ⟨rfl, rfl⟩ := hr
      have hS : (s.heap.push { cls := .type "set", dict := none, data := .set #[] 0 (.fresh 0 0 (!w.params.followText "set-order")) }).get? s.heap.objs.size = some { cls := .type "set", dict := none, data := .set #[] 0 (.fresh 0 0 (!w.params.followText "set-order")) } := Heap.get?_push_size _ rfl
      have hT : Shared.TypeIs { s with heap := s.heap.push { cls := .type "set", dict := none, data := .set #[] 0 (.fresh 0 0 (!w.params.followText "set-order")) } } (.ref s.heap.objs.size) "set" := ⟨_, hS, rfl⟩
      have hli := PySem.F.called_set.init.lookup
      have hbi := PySem.F.called_set.init.bind (.ref s.heap.objs.size)
      repeat (any_goals (first | assumption | wp_step))
      refine codeAny_mono (codeAny_call_builtin (R := wants (fun r s₂ => r = .none ∧ ∃ h' tk c, s₂ = { s with heap := h', toks := tk } ∧ SetM P w h' s.heap.objs.size (hasK ks) c ∧ c ≤ ks.length ∧
          (∀ b o, s.heap.get? b = some o → h'.get? b = some o)) E) PySem.F.called_set.init.plain PySem.F.entry_set_init (check_set_init_1 hT ?_)) fun r₂ s₂ hr₂ => ?_
      · obtain ⟨ol, hol, hcl, nl, hdl⟩ := hl
        obtain ⟨ocls, odict, odata, oslots⟩ := ol
        simp only at hcl hdl
        subst hcl; subst hdl
        have hol' : (s.heap.push { cls := .type "set", dict := none, data := .set #[] 0 (.fresh 0 0 (!w.params.followText "set-order")) }).get? l = some { cls := .type "tuple", dict := odict, data := .seq items nl, slots := oslots } := Heap.get?_push_of_some _ hol
        have hsls := PySem.F.sub_tuple_set
        have hslf := PySem.F.sub_tuple_frozenset
        have hne : (Value.type "tuple" == Value.type "dict") = false := by decide
        have hl1 : (s.heap.push { cls := .type "set", dict := none, data := .set #[] 0 (.fresh 0 0 (!w.params.followText "set-order")) }).IsTuple l items := ⟨_, hol', rfl, nl, rfl⟩
        unfold Builtin.«set.__init__» noKeywords Builtin.Frozenset.updateFrom
        generalize hPI : pyIter = PI
        wp_walk
        subst hPI
        refine wpAny_pyIter_tuple hl1 ?_
        refine wpAny_bind (wpAny_runValue ?_)
        have hlS : l < s.heap.objs.size := Heap.lt_size hol
        have hh3 : A.in1.in1.in1.handled = none := by simp [hh]
        have hneI : l ≠ (s.heap.push { cls := .type "set", dict := none, data := .set #[] 0 (.fresh 0 0 (!w.params.followText "set-order")) }).objs.size := by
          rw [Heap.size_push]; exact Nat.ne_of_lt (Nat.lt_succ_of_lt hlS)
        have hSf : s.heap.objs.size ∉ [(s.heap.push { cls := .type "set", dict := none, data := .set #[] 0 (.fresh 0 0 (!w.params.followText "set-order")) }).objs.size, l] := by
          rw [Heap.size_push]; simp only [List.mem_cons, List.mem_singleton, List.not_mem_nil, or_false, not_or]
          exact ⟨Nat.ne_of_lt (Nat.lt_succ_self _), Nat.ne_of_gt hlS⟩
        refine setM_update ((Walks.tuple hh3 _ l hneI items).toS) s.heap.objs.size
          hSf ks hisz hb hval (items.size - 0) 0 _ (by omega) (Nat.zero_le _)
          ⟨⟨_, Heap.get?_push_size _ rfl, rfl, rfl⟩, (hl1.push _)⟩ ?hS0 ?hR
        case hS0 =>
          have hget : ((s.heap.push { cls := .type "set", dict := none, data := .set #[] 0 (.fresh 0 0 (!w.params.followText "set-order")) }).push { cls := .type "tuple_iterator", data := .fields #[.ref l, .int 0 0] }).get? s.heap.objs.size
              = some { cls := .type "set", dict := none, data := .set #[] 0 (.fresh 0 0 (!w.params.followText "set-order")) } := Heap.get?_push_of_some _ hS
          exact ⟨0, Nat.le_refl 0, setM_new_at hget⟩
        case hR =>
          intro s' c' hm hc' hS'
          obtain ⟨h', g2, d', tk', os'⟩ := s'
          have eg : g2 = s.gens := hm.gens
          have ed : d' = s.drawn := hm.drawn
          have eo : os' = s.os := hm.os
          subst eg; subst ed; subst eo
          show wpAny _ _ _ _ _ _
          refine wpAny_pure ?_
          show wpAny _ _ (ret Value.none) _ _ _
          rw [hisz] at hc'
          refine wpAny_pure ⟨rfl, h', tk', c', rfl, hS', hc', fun b o e => ?_⟩
          have hb0 : b < s.heap.objs.size := Heap.lt_size e
          have hb1 : b ≠ s.heap.objs.size := Nat.ne_of_lt hb0
          have hb2 : b ≠ (s.heap.push { cls := .type "set", dict := none, data := .set #[] 0 (.fresh 0 0 (!w.params.followText "set-order")) }).objs.size := by
            rw [Heap.size_push]; exact Nat.ne_of_lt (Nat.lt_succ_of_lt hb0)
          exact hm.heap b o (by simp only [List.mem_cons, List.mem_singleton, List.not_mem_nil, or_false, not_or]; exact ⟨hb1, hb2⟩) (Heap.get?_push_of_some _ (Heap.get?_push_of_some _ e))
      · cases r₂ with
        | error e => exact hr₂
        | ok fl₂ =>
          cases fl₂ with
          | ret r =>
            obtain ⟨rfl, h', tk, c', rfl, hS', hc', hk'⟩ := hr₂
            repeat (any_goals (first | assumption | wp_step))
            exact h _ _ _ hS' hc' hk'
          | _ => exact hr₂.elim
    | _ => exact hr.elim
end
end Ev

set_option Elab.async false
set_option linter.all false
set_option maxRecDepth 100000
set_option maxHeartbeats 4000000
/-! EvQ: len(set(xs)), sorted(set(xs)) of numbers or texts. -/
namespace Ev
open PySem PySem.Spec PyProof.Rows L2
def keyD : PyData → Key
  | .int i => .inl i
  | .str x => .inr x
  | _ => .inl 0
def valQ : Value → PyData
  | .int i _ => .int i
  | .str x _ => .str x
  | _ => .none
theorem keyD_inj : ∀ {a b : PyData}, flat1 a = true → flat1 b = true → keyD a = keyD b → a = b
  | .int _, .int _, _, _, e => by rw [Sum.inl.inj e]
  | .str _, .str _, _, _, e => by rw [Sum.inr.inj e]
  | .int _, .str _, _, _, e => nomatch e
  | .str _, .int _, _, _, e => nomatch e
theorem eqv_flat : ∀ {a b : PyData}, flat1 a = true → flat1 b = true → (PyData.eqv a b = true ↔ a = b)
  | .int i, .int j, _, _ => by
    rw [eqv_ii, decide_eq_true_eq]
    exact ⟨fun e => by rw [e], fun e => PyData.int.inj e⟩
  | .str i, .str j, _, _ => by
    rw [eqv_ss, decide_eq_true_eq]
    exact ⟨fun e => by rw [e], fun e => PyData.str.inj e⟩
  | .int _, .str _, _, _ => ⟨(fun e => nomatch e), (fun e => nomatch e)⟩
  | .str _, .int _, _, _ => ⟨(fun e => nomatch e), (fun e => nomatch e)⟩
theorem dedup_mem : ∀ {ds : List PyData}, (∀ d ∈ ds, flat1 d = true) → ∀ d, d ∈ dedupS ds ↔ d ∈ ds
  | [], _, d => Iff.rfl
  | x :: r, f, d => by
    have ih := dedup_mem (ds := r) (fun e m => f e (List.mem_cons_of_mem _ m))
    unfold dedupS
    split
    · rename_i h
      rw [List.any_eq_true] at h
      obtain ⟨y, hy, e⟩ := h
      have hy' := (ih y).mp hy
      have e' := (eqv_flat (f y (List.mem_cons_of_mem _ hy')) (f x List.mem_cons_self)).mp e
      rw [ih d, List.mem_cons]
      exact ⟨.inr, fun z => z.elim (fun z => by rw [z, ← e']; exact hy') id⟩
    · rw [List.mem_cons, List.mem_cons, ih d]
theorem dedup_nodup : ∀ {ds : List PyData}, (∀ d ∈ ds, flat1 d = true) → (dedupS ds).Nodup
  | [], _ => List.nodup_nil
  | x :: r, f => by
    have f' : ∀ e ∈ r, flat1 e = true := fun e m => f e (List.mem_cons_of_mem _ m)
    unfold dedupS
    split
    · exact dedup_nodup f'
    · rename_i h
      refine List.nodup_cons.mpr ⟨fun m => h ?_, dedup_nodup f'⟩
      rw [List.any_eq_true]
      exact ⟨x, m, (eqv_flat (f x List.mem_cons_self) (f x List.mem_cons_self)).mpr rfl⟩
theorem dedup_len : ∀ ds : List PyData, (dedupS ds).length ≤ ds.length
  | [] => Nat.le_refl _
  | x :: r => by
    have ih := dedup_len r
    unfold dedupS
    split
    · exact Nat.le_succ_of_le ih
    · exact Nat.succ_le_succ ih
theorem flatAll_mem {ds : List PyData} (h : flatAll ds = true) : ∀ d ∈ ds, flat1 d = true := by
  rw [flatAll_eq, List.all_eq_true] at h
  exact h
theorem valQ_key {P : Program} {w : World} {v : Value} {d : PyData} (f : flat1 d = true) (h : (mixKind P w).is (keyD d) v = true) : valQ v = d := by
  have h' : keyIs (keyD d) v = true := h
  cases d with
  | int i =>
    rcases keyIs_shape h' with ⟨j, t, e, rfl⟩ | ⟨x, t, e, rfl⟩
    · show PyData.int j = _
      rw [← Sum.inl.inj e]
    · cases e
  | str i =>
    rcases keyIs_shape h' with ⟨j, t, e, rfl⟩ | ⟨x, t, e, rfl⟩
    · cases e
    · show PyData.str x = _
      rw [← Sum.inr.inj e]
  | _ => cases f
theorem key_valQ {P : Program} {w : World} {v : Value} {k : Key} (h : (mixKind P w).is k v = true) : flat1 (valQ v) = true ∧ keyD (valQ v) = k := by
  have h' : keyIs k v = true := h
  rcases keyIs_shape h' with ⟨j, t, rfl, rfl⟩ | ⟨x, t, rfl, rfl⟩
  · exact ⟨rfl, rfl⟩
  · exact ⟨rfl, rfl⟩
/-- the members, as data -/
theorem setM_perm {P : Program} {w : World} {h : Heap} {a : Addr} {n : Nat} {ds : List PyData} (f : flatAll ds = true) (R : SetM P w h a (hasK (ds.map keyD)) n) :
    ∃ o es ep t, h.get? a = some o ∧ o.ExactSet ∧ o.data = .set es ep t ∧ t.fits es.size = true ∧ es.size < scanBound ∧ Ris t.place.toList ∧ (w.params.followText "set-order" = true ∨ t.led = true) ∧
      (∀ e ∈ es.toList, ∃ k, (mixKind P w).is k e.2 = true) ∧ (es.toList.map fun e => valQ e.2).Perm (dedupS ds) ∧ es.size = n := by
  obtain ⟨o, es, ep, t, ho, hex, hd, hel, nd, hm, hb, hf, hn, hr, hl⟩ := R
  have fm := flatAll_mem f
  refine ⟨o, es, ep, t, ho, hex, hd, hf, hb, hr, hl, fun e he => let ⟨⟨k, hk, _⟩, _⟩ := hel e he; ⟨k, hk⟩, ?_, hn⟩
  have nd2 : (es.toList.map fun e => valQ e.2).Nodup := by
    refine List.pairwise_map.mpr (List.Pairwise.imp_of_mem (fun {x y} hx hy ap e => ?_) nd)
    obtain ⟨⟨k, hk, _⟩, _⟩ := hel x hx
    obtain ⟨⟨j, hj, _⟩, _⟩ := hel y hy
    have e1 := (key_valQ hk).2
    have e2 := (key_valQ hj).2
    rw [e, e2] at e1
    rw [e1] at hj
    exact ap k ⟨hk, hj⟩
  refine (List.perm_ext_iff_of_nodup nd2 (dedup_nodup fm)).mpr fun d => ?_
  rw [dedup_mem fm d, List.mem_map]
  constructor
  · rintro ⟨e, he, rfl⟩
    obtain ⟨⟨k, hk, _⟩, _⟩ := hel e he
    have q := (hm k).mpr ⟨e, he, hk⟩
    rw [hasK_iff, List.mem_map] at q
    obtain ⟨c, hc, ec⟩ := q
    have e1 := key_valQ hk
    rw [keyD_inj e1.1 (fm c hc) (e1.2.trans ec.symm)]
    exact hc
  · intro hd'
    have q : hasK (ds.map keyD) (keyD d) = true := hasK_iff.mpr (List.mem_map.mpr ⟨d, hd', rfl⟩)
    obtain ⟨e, he, z⟩ := (hm _).mp q
    exact ⟨e, he, valQ_key (fm d hd') z⟩
theorem sortable_sub {xs ys : List PyData} (h : sortable xs = true) (m : ∀ y ∈ ys, y ∈ xs) : sortable ys = true := by
  unfold sortable at h ⊢
  rw [Bool.or_eq_true, Bool.or_eq_true, Bool.and_eq_true, List.all_eq_true, List.all_eq_true, List.all_eq_true, List.all_eq_true] at h ⊢
  rcases h with (h | h) | h
  · exact .inl (.inl fun y hy => h y (m y hy))
  · exact .inl (.inr fun y hy => h y (m y hy))
  · refine .inr ⟨fun y hy => h.1 y (m y hy), fun y hy => ?_⟩
    have q := h.2 y (m y hy)
    rw [List.all_eq_true] at q ⊢
    exact fun z hz => q z (m z hz)
theorem items_val {P : Program} {w : World} {h : Heap} : ∀ {vs : List Value}, (∀ v ∈ vs, ∃ k, (mixKind P w).is k v = true) → ItemsAt h vs (vs.map valQ)
  | [], _ => .nil
  | v :: vs, f => by
    obtain ⟨k, hk⟩ := f v List.mem_cons_self
    have hk' : keyIs k v = true := hk
    refine .cons ?_ (items_val fun u hu => f u (List.mem_cons_of_mem _ hu))
    rcases keyIs_shape hk' with ⟨j, t, rfl, rfl⟩ | ⟨x, t, rfl, rfl⟩
    · exact .inl ⟨j, t, rfl, rfl⟩
    · exact .inr (.inl ⟨x, t, rfl, rfl⟩)
section
variable {P : Program} {w : World} {A : Around} {E : Value → Shared → Prop} {s : Shared} {a : Addr}
theorem sorted_setM {n : Nat} {ds : List PyData} {Q : Value → Shared → Prop} (f : flatAll ds = true) (hs : sortable ds = true) (R : SetM P w s.heap a (hasK (ds.map keyD)) n) (hh : A.handled = none)
    (hQ : ∀ s' p (out : List Value) (c : Nat), (∀ b o, s.heap.get? b = some o → s'.heap.get? b = some o) → s'.gens = s.gens → s'.os = s.os → s.heap.objs.size ≤ p →
      s'.heap.get? p = some (seqObj "list" out.toArray c) → (∀ v ∈ out, ∃ k, (mixKind P w).is k v = true) → out.map valQ = isortD (dedupS ds) → Q (.ref p) s') :
    wpAny (model P w) A (call (.builtin "sorted") [.ref a]) Q E s := by
  obtain ⟨o, es, ep, t, ho, hex, hd, hf, hb, hr, hl, hk, hp, hn⟩ := setM_perm f R
  refine Calls.call_function_entry kind_sorted plain_sorted entry_sorted (args_sorted1 _) ?_
  unfold Builtin.«sorted»
  refine wpAny_bind (m := checkCount "sorted" 1 1 _) (wpAny_pure ?_)
  refine wpAny_bind (collect_set (A := A.in1) hh ⟨o, ho, hex.1, hd⟩ hf hb hr hl fun s1 vs k1 hz g1 o1 pm => ?_)
  have hvl : vs.length < scanBound := by rw [pm.length_eq, List.length_map, Array.length_toList]; exact hb
  have hv : ∀ v ∈ vs, ∃ k, (mixKind P w).is k v = true := fun v m => by
    obtain ⟨e, he, q⟩ := List.mem_map.mp (pm.mem_iff.mp m)
    rw [← q]
    exact hk e he
  have pv : (vs.map valQ).Perm (dedupS ds) := by
    have q := pm.map valQ
    rw [List.map_map] at q
    exact q.trans hp
  have fm := flatAll_mem f
  have hs2 : sortable (vs.map valQ) = true := sortable_sub hs fun y hy => (dedup_mem fm y).mp (pv.mem_iff.mp hy)
  have hsl : vs.length ≤ sizeLine := fits_of_scanBound hvl
  refine wpAny_bind (wpAny_newList ?_ hsl)
  have hoL : (s1.heap.push (seqObj "list" vs.toArray 0)).get? s1.heap.objs.size = some (seqObj "list" vs.toArray 0) := Heap.get?_push_size _ rfl
  have hI := items_val (P := P) (w := w) (h := s1.heap.push (seqObj "list" vs.toArray 0)) hv
  refine wpAny_bind (wpAny_holding (wpAny_call_entry slot_list_sort ⟨_, hoL, rfl⟩ entry_list_sort
    (SrtO.list_sort_ord (s := { s1 with heap := s1.heap.push (seqObj "list" vs.toArray 0) }) (swo_tlt (keyOf (s1.heap.push (seqObj "list" vs.toArray 0)))) hoL hsl
      (fun h2 => its_sortable (s := { s1 with heap := s1.heap.push (seqObj "list" vs.toArray 0) }) hI.its hs2 h2 fun o e => by
        have e' : some o = some (seqObj "list" vs.toArray 0) := e.symm.trans hoL
        cases e'
        intro c
        exact absurd (Value.type.inj c) (by decide)) fun out h1 h2 => ⟨_, rfl, ?_⟩) (args_list_sort _)))
  obtain ⟨c, hc⟩ := sortedHeap_at (vs := vs) (out := out.toArray) hoL
  have hout : ∀ v ∈ out, ∃ k, (mixKind P w).is k v = true := fun v m => hv v (h2.perm.mem_iff.mp m)
  have kv : out.map valQ = out.map (keyOf (s1.heap.push (seqObj "list" vs.toArray 0))) := by
    have q := (items_val (P := P) (w := w) (h := s1.heap.push (seqObj "list" vs.toArray 0)) hout).map
    exact q.symm
  have po : (out.map valQ).Perm (dedupS ds) := (h2.perm.map valQ).trans pv
  refine wpAny_pure ⟨_, rfl, hQ _ s1.heap.objs.size out c (fun b u e => ?_) g1 o1 hz hc hout ?_⟩
  · have q := k1 b u e
    have hlt := Heap.lt_size q
    show (sortedHeap (s1.heap.push (seqObj "list" vs.toArray 0)) s1.heap.objs.size vs out.toArray).get? b = some u
    rw [sortedHeap_old (Nat.ne_of_lt hlt) (by rw [size_push']; exact Nat.lt_succ_of_lt hlt)]
    exact Heap.get?_push_of_some _ q
  · refine srt_unique (fun x hx y hy => sortable_tie hs x ((dedup_mem fm x).mp (po.mem_iff.mp hx)) y ((dedup_mem fm y).mp (po.mem_iff.mp hy))) (po.trans (isortD_perm _).symm) ?_ (isortD_srt _)
    rw [kv]
    exact List.pairwise_map.mpr h1
end
section
variable {X : Cx} {G : Gh} {W : WX} {S P P1 : List Addr} {σ : L2.St} {H H1 : L2.Hp} {Q Q' : VK} {g : Gam} {pos : Pos} {a b c : Expr} {fa fb fc f : ME}
theorem flat_sc {h : Heap} {v : Value} {d : PyData} (f : flat1 d = true) (x : ItemAt h v d) (P : Program) (w : World) : (mixKind P w).is (keyD d) v = true ∧ v.scannable = true := by
  rcases x with ⟨i, t, rfl, rfl⟩ | ⟨i, t, rfl, rfl⟩ | ⟨b, its, ys, e, _, _, rfl⟩
  · exact ⟨mixKind_int P w i t, rfl⟩
  · exact ⟨mixKind_str P w i t, rfl⟩
  · cases f
theorem items_hval {h : Heap} {P : Program} {w : World} : ∀ {vs : List Value} {ds : List PyData}, (∀ d ∈ ds, flat1 d = true) → ItemsAt h vs ds → ∀ (i : Nat) (v : Value), vs[i]? = some v → ∃ k, (ds.map keyD)[i]? = some k ∧ (mixKind P w).is k v = true ∧ v.scannable = true
  | _, _, _, .nil, i, v, e => by simp at e
  | _, _, f, .cons x r, 0, v, e => by
    have e' := Option.some.inj e
    subst e'
    exact ⟨_, rfl, flat_sc (f _ List.mem_cons_self) x P w⟩
  | _, _, f, .cons x r, i + 1, v, e => items_hval (fun d m => f d (List.mem_cons_of_mem _ m)) r i v (by simpa using e)
theorem itemsAt_len {h : Heap} : ∀ {vs : List Value} {ds : List PyData}, ItemsAt h vs ds → vs.length = ds.length
  | _, _, .nil => rfl
  | _, _, .cons _ r => by simp [itemsAt_len r]
/-- set(xs) where xs is a list, a tuple of numbers and texts -/
theorem call_setD {pins : List (Addr × Obj)} {s : Shared} {A : Around} {E : Value → Shared → Prop} {x : V} {u : Value} {a : PyData} {ds : List PyData} {Q : Value → Shared → Prop} (I : L2.Inv X pins σ H s) (hK : X.K = G.K) (hh : A.handled = none) (rx : RelV x u) (da : DpP G.K P H x a)
    (ea : seqD a = some ds) (f : flatAll ds = true) (hb : ds.length < 4095)
    (h : ∀ (h' : Heap) (tk p n : Nat), SetM X.prog X.w h' p (hasK (ds.map keyD)) n → (∀ b o, s.heap.get? b = some o → h'.get? b = some o) → Q (.ref p) { s with heap := h', toks := tk }) :
    wpAny (model X.prog X.w) A (call (.type "set") [u]) Q E s := by
  have fm := flatAll_mem f
  have fm' : ∀ d ∈ ds, flat1 d = true ∨ flatTup d = true := fun d m => .inl (fm d m)
  cases a with
  | list es =>
    cases ea
    obtain ⟨p, vs, rfl, q1, q2⟩ := da.list
    rw [← hK] at q1
    have q2' := q2
    rw [← hK] at q2'
    cases rx
    obtain ⟨its, rv, hl, hz⟩ := I.list q1
    have hi := itemsAt_of I fm' rv q2'
    have hlen := itemsAt_len hi
    refine call_set_list (ds.map keyD) hh hl.isList (by simp [hlen]) (fun i v e => items_hval fm hi i v (by simpa using e)) (by rw [List.length_map]; exact (by show ds.length + 1 < 4096; omega)) fun h' tk c R _ k => h h' tk _ c R k
  | tuple es =>
    cases ea
    have d2 := da.sh fun _ z => by cases z
    obtain ⟨p, vs, rfl, q1, q2⟩ := dp_tuple d2
    rw [← hK] at q1
    have q2' := q2
    rw [← hK] at q2'
    cases rx
    obtain ⟨its, rv, hl, hz⟩ := I.tuple q1
    have hi := itemsAt_of I fm' rv q2'
    have hlen := itemsAt_len hi
    refine call_set_tuple (ds.map keyD) hh hl (by simp [hlen]) (fun i v e => items_hval fm hi i v (by simpa using e)) (by rw [List.length_map]; exact (by show ds.length + 1 < 4096; omega)) fun h' tk c R _ k => h h' tk _ c R k
  | _ => cases ea
theorem lenSet_red {a : PyData} {g : Gam} (h : Post G W S P σ H Q (ofB g (lenSetD a))) : ∃ ds, seqD a = some ds ∧ flatAll ds = true ∧ ds.length < 4095 ∧ Post G W S P σ H Q (.ok (.int (dedupS ds).length) g) := by
  cases a with
  | list ds =>
    have h : Post G W S P σ H Q (ofB g (if flatAll ds && decide (ds.length < 4095) then some (false, .int (dedupS ds).length) else none)) := h
    cases f : flatAll ds && decide (ds.length < 4095) with
    | false => rw [f] at h; exact h.elim
    | true =>
      rw [f] at h
      rw [Bool.and_eq_true, decide_eq_true_eq] at f
      exact ⟨ds, rfl, f.1, f.2, h⟩
  | tuple ds =>
    have h : Post G W S P σ H Q (ofB g (if flatAll ds && decide (ds.length < 4095) then some (false, .int (dedupS ds).length) else none)) := h
    cases f : flatAll ds && decide (ds.length < 4095) with
    | false => rw [f] at h; exact h.elim
    | true =>
      rw [f] at h
      rw [Bool.and_eq_true, decide_eq_true_eq] at f
      exact ⟨ds, rfl, f.1, f.2, h⟩
  | _ => exact h.elim
theorem srtSet_red {a : PyData} {g : Gam} (h : Post G W S P σ H Q (ofB g (srtSetD a))) : ∃ ds, seqD a = some ds ∧ flatAll ds = true ∧ sortable ds = true ∧ ds.length < 4095 ∧ Post G W S P σ H Q (.fr (.lst (isortD (dedupS ds))) g) := by
  cases a with
  | list ds =>
    have h : Post G W S P σ H Q (ofB g (if sortable ds && flatAll ds && decide (ds.length < 4095) then some (true, .list (isortD (dedupS ds))) else none)) := h
    cases f : sortable ds && flatAll ds && decide (ds.length < 4095) with
    | false => rw [f] at h; exact h.elim
    | true =>
      rw [f] at h
      rw [Bool.and_eq_true, Bool.and_eq_true, decide_eq_true_eq] at f
      exact ⟨ds, rfl, f.1.2, f.1.1, f.2, h⟩
  | tuple ds =>
    have h : Post G W S P σ H Q (ofB g (if sortable ds && flatAll ds && decide (ds.length < 4095) then some (true, .list (isortD (dedupS ds))) else none)) := h
    cases f : sortable ds && flatAll ds && decide (ds.length < 4095) with
    | false => rw [f] at h; exact h.elim
    | true =>
      rw [f] at h
      rw [Bool.and_eq_true, Bool.and_eq_true, decide_eq_true_eq] at f
      exact ⟨ds, rfl, f.1.2, f.1.1, f.2, h⟩
  | _ => exact h.elim
theorem tP_of_eU {f : U1} : ∀ σ H Q, tF G W (eU f fa) σ H Q → tP G W fa σ H fun x H1 => ∃ S P g a, Iv G S P g σ H1 ∧ DpP G.K P H1 x a ∧ Post G W S P σ H1 Q (ofB g (f a)) := fun σ H Q h =>
  tP_mono (fun x H1 ⟨S, P, g, a, I, dx, q⟩ => ⟨S, P, g, a, I, dx, q⟩) (tP_bind1 h)
/-- len(set(xs)) -/
theorem pe_lenSetD {p p2 q : Pos} (hK : X.K = G.K) (hc : X.calm = true) (hm : X.mg "len" = none) (hm2 : X.mg "set" = none) (ha : PE X a (tP G W fa)) (hg : Gl X "len" := by rfl) (hg2 : Gl X "set" := by rfl)
    (na : starEach [a] X.env = (false, eval a X.env) :: starEach [] X.env := by rfl) : PE X (.Call (.Name "len" p) [.Call (.Name "set" p2) [a] [] q] [] pos) (tF G W (eU lenSetD fa)) := by
  refine ⟨fun pins s σ H Q I h => ?_⟩
  refine Call_ (ld_blt I hg hm boot_len ?_)
  refine PyProof.Rows.callWith_builtin1 (PyProof.Rows.args_cons ?_ rfl) rfl rfl
  refine Call_ (ld_blt I hg2 hm2 boot_set ?_)
  refine PyProof.Rows.callWith_type1 (PyProof.Rows.args_cons (thn (ha.run pins s σ H _ I (tP_of_eU σ H Q h)) fun v s1 ⟨x, H1, I1, r1, S, P, g, a, Iv1, da, hp⟩ => PyProof.Rows.args_nil ?_) na) na rfl
  obtain ⟨ds, ea, f, hb, hp⟩ := lenSet_red hp
  refine call_setD I1 hK (I1.ok.hd hc) r1 da ea f hb fun h' tk p n R k => ?_
  refine PyProof.Rows.args_nil ?_
  obtain ⟨o, es, ep, t, ho, hex, hd, hf, hb2, hr, hl, hk, hpm, hn⟩ := setM_perm f R
  have hes : es.size = (dedupS ds).length := by
    rw [← hpm.length_eq, List.length_map, Array.length_toList]
  have I2 : L2.Inv X pins σ H1 { s1 with heap := h', toks := tk } := I1.kept k
  refine call_len_set ho hex hd hf (by have : es.size < 4096 := hb2; omega) ⟨.int (dedupS ds).length, H1, I2.tok _, ⟨_, by rw [hes]⟩, Post.okNow hp Iv1 (.int _)⟩
/-- sorted(set(xs)) -/
theorem vals_val {P : Program} {w : World} : ∀ {vs : List Value}, (∀ v ∈ vs, ∃ k, (mixKind P w).is k v = true) → ∃ zs, Vals zs vs ∧ ∀ K F, DpAll K F zs (vs.map valQ)
  | [], _ => ⟨[], .nil, fun _ _ => .nil⟩
  | v :: vs, f => by
    obtain ⟨k, hk⟩ := f v List.mem_cons_self
    have hk' : keyIs k v = true := hk
    obtain ⟨zs, a, b⟩ := vals_val (vs := vs) fun u hu => f u (List.mem_cons_of_mem _ hu)
    rcases keyIs_shape hk' with ⟨j, t, rfl, rfl⟩ | ⟨x, t, rfl, rfl⟩
    · exact ⟨.int j :: zs, .cons ⟨t, rfl⟩ a, fun K F => .cons (.int j) (b K F)⟩
    · exact ⟨.str x :: zs, .cons ⟨t, rfl⟩ a, fun K F => .cons (.str x) (b K F)⟩
theorem srt_fin {pins : List (Addr × Obj)} {s2 s' : Shared} {p2 : Addr} {zs : List V} {out : List Value} {c : Nat} (I2 : L2.Inv X pins σ H1 s2) (k2 : ∀ b o, s2.heap.get? b = some o → s'.heap.get? b = some o) (eg : s'.gens = s2.gens) (eo : s'.os = s2.os) (hp2 : s2.heap.objs.size ≤ p2)
    (hlen : zs.length ≤ sizeLine) (z1 : Vals zs out) (hg : s'.heap.get? p2 = some (seqObj "list" out.toArray c)) : L2.Inv X pins σ (upd H1 p2 (.lst zs)) s' := by
  have hf : H1 p2 = none := I2.hok.fresh hp2
  have J : L2.Inv X pins σ (upd H1 p2 (.lst zs)) { s2 with heap := s'.heap, gens := s'.gens, drawn := s'.drawn, toks := s'.toks } :=
    I2.call (ch := []) (Un.laid k2 hp2 hf) (I2.hok.laid k2 hp2 ⟨hlen, out, c, z1, hg⟩) (by rw [eg]; exact I2.bare) (fun _ z => nomatch z)
  have e : s' = { s2 with heap := s'.heap, gens := s'.gens, drawn := s'.drawn, toks := s'.toks } := by
    cases s'
    cases s2
    cases eo
    rfl
  rw [e]
  exact J
theorem pe_srtSet {p p2 q : Pos} (hK : X.K = G.K) (hc : X.calm = true) (hm : X.mg "sorted" = none) (hm2 : X.mg "set" = none) (ha : PE X a (tP G W fa)) (hg : Gl X "sorted" := by rfl) (hg2 : Gl X "set" := by rfl)
    (na : starEach [a] X.env = (false, eval a X.env) :: starEach [] X.env := by rfl) : PE X (.Call (.Name "sorted" p) [.Call (.Name "set" p2) [a] [] q] [] pos) (tF G W (eU srtSetD fa)) := by
  refine ⟨fun pins s σ H Q I h => ?_⟩
  refine Call_ (ld_blt I hg hm boot_sorted ?_)
  refine PyProof.Rows.callWith_builtin1 (PyProof.Rows.args_cons ?_ rfl) rfl rfl
  refine Call_ (ld_blt I hg2 hm2 boot_set ?_)
  refine PyProof.Rows.callWith_type1 (PyProof.Rows.args_cons (thn (ha.run pins s σ H _ I (tP_of_eU σ H Q h)) fun v s1 ⟨x, H1, I1, r1, S, P, g, a, Iv1, da, hp⟩ => PyProof.Rows.args_nil ?_) na) na rfl
  obtain ⟨ds, ea, f, hs, hb, hp⟩ := srtSet_red hp
  refine call_setD I1 hK (I1.ok.hd hc) r1 da ea f hb fun h' tk p n R k => ?_
  refine PyProof.Rows.args_nil ?_
  have I2 : L2.Inv X pins σ H1 { s1 with heap := h', toks := tk } := I1.kept k
  refine sorted_setM (s := { s1 with heap := h', toks := tk }) f hs R (I1.ok.hd hc) fun s' p2 out c k2 eg eo hp2 hg2' hk hv => ?_
  obtain ⟨zs, z1, z2⟩ := vals_val hk
  have hf : H1 p2 = none := I2.hok.fresh hp2
  have hlen : zs.length ≤ sizeLine := by
    rw [z1.length, ← List.length_map (f := valQ), hv, (isortD_perm _).length_eq]
    have : (dedupS ds).length ≤ ds.length := dedup_len ds
    rw [sizeLine_eq]
    omega
  have J := srt_fin (s2 := { s1 with heap := h', toks := tk }) I2 k2 eg eo hp2 hlen z1 hg2'
  have z3 := z2 G.K (hide P H1)
  rw [hv] at z3
  exact ⟨.ref p2, _, J, rfl, Post.frNew hp Iv1 hf z3⟩
end
end Ev

set_option Elab.async false
set_option linter.all false
set_option maxRecDepth 100000
set_option maxHeartbeats 4000000
/-! EvR: _law_refused(lambda: ...): try: call() / except BadArgument as e: return e.name / return ''. -/
namespace Ev
open PySem PySem.Spec PyProof.Rows L2
/-- tables may grow, all else stays -/
theorem Iv.ext {G : Gh} {S P : List Addr} {g : Gam} {σ : L2.St} {H H' : L2.Hp} (I : Iv G S P g σ H) (e : LamX.ExtN H H') (t : LamX.Tabs G.Ts H') : Iv G S P g σ H' ∧ Grow S H H' := by
  have gr : ∀ P', Grow P' H H' := fun P' b o _ h n => e b o h fun ps z => by
    exact n ps z
  have hl : ∀ b ∈ P, H' b = H b := fun b hb => by
    obtain ⟨xs, h⟩ := I.mem b hb
    rw [h]
    exact e b _ h fun ps z => by cases z
  have own : ∀ {a : Addr} {w : Own}, a ∈ S → OwnAt G.K P H a w → OwnAt G.K P H' a w := fun hs h => h.le (hl _ (I.sS _ hs)) (gr P).le
  refine ⟨⟨I.len, fun i s e => ?_, I.dis, I.src, I.lent, I.grow.trans (gr _), fun b hb ht => ?_, I.sS, I.sP, I.new, fun b hb => ?_, I.sT, t⟩, gr S⟩
  · have q := I.slot i s e
    cases s with
    | un => trivial
    | sh d => obtain ⟨v, e1, e2⟩ := q; exact ⟨v, e1, dp_le (gr P).le _ _ e2⟩
    | ow w => obtain ⟨a, e1, e2, e3⟩ := q; exact ⟨a, e1, e2, own e2 e3⟩
    | br w => obtain ⟨a, e1, e2, e3⟩ := q; exact ⟨a, e1, e2, own e2 e3⟩
  · rw [hl b (I.sP b hb)]; exact I.keep b hb ht
  · rw [hl b hb]; exact I.mem b hb
section
variable {X : Cx} {C fI : Addr}
def TTref (C : Addr) : (XK → L2.Hp → VK → Prop) → L2.Hp → VK → Prop := fun tl H Q =>
  tl (fun cls d H' => ∃ (dd : Addr) (v : V), cls = .ref C ∧ d = some dd ∧ H' dd = some (.xd [(("name" : Str), v)]) ∧ Q v H') H (fun _ H' => Q (.str "") H')
def refBody (j : Nat) (p1 p2 p3 p4 p5 p6 p7 p8 p9 pa pb : Pos) : List Stmt :=
  [.Try [.Expr (.Call (.Name "call" p1) [] [] p2) p3] [.ExceptHandler (some (.Name "BadArgument" p4)) (some "e") [.Return (some (.Attribute (.Name "e" p5) "name" p6)) p7] p8] [] [] p9, .Return (some (.Constant (.str "") j pa)) pb]
theorem ref_gives {q x : Str} {sg : Scope} {g : Addr} {cdg : Value} {j : Nat} {p1 p2 p3 p4 p5 p6 p7 p8 p9 pa pb : Pos} (T : BadTxt X.prog X.K X.mg "BadArgument" C fI) (hge : sg.names.lookup ("BadArgument" : Str) = some .globalImplicit) (hl : sg.names.lookup ("e" : Str) = some .local) :
    LamX.GivesTo X ["call", "e"] x sg g cdg (refBody j p1 p2 p3 p4 p5 p6 p7 p8 p9 pa pb) "call" q (TTref C) := by
  intro f c' s H Q tl act hc h
  have hgl : Gl (cxOf C8.CX0 X.prog X.w X.K X.mg X.base ["call", "e"] x sg g cdg X.A X.stack s H C8.E0).nox "BadArgument" := hge
  refine ⟨_, pss_cons (ps_try_as (X := (cxOf C8.CX0 X.prog X.w X.K X.mg X.base ["call", "e"] x sg g cdg X.A X.stack s H C8.E0).nox) (c := .ref C) (i := 1)
      (tb := fun W D σ H => ∃ Ech : XK, (∀ cls d σ' H', Ech cls d H' → W cls d σ' H') ∧ σ[0]? = some (some (.ref f)) ∧ H c' = some (LamX.CodeO c' q) ∧ tl Ech H fun _ H' => D.nx σ H')
      (ts := fun a cls d D σ H => (1 < σ.length → σ[1]? = some (some (.ref a))) ∧ cls = .ref C ∧ ∃ (dd : Addr) (v : V), d = some dd ∧ H dd = some (.xd [(("name" : Str), v)]) ∧ D.rt v H)
      (Wout := fun _ _ _ _ => False) rfl rfl (show [("call" : Str), "e"].Nodup by decide) rfl hl ⟨hgl, by decide, .inl T.gC⟩ LamX.takes0 (fun W pn xe tk _ => ?_) (fun a oe cls d pn hz hf => ?_)) (pss_one (ps_ret pe_str)), ?_⟩
  · refine ⟨fun pins s' σ H' D I h' => ?_⟩
    obtain ⟨Ech, hW, h1, h2, h3⟩ := h'
    have hp := act W pn xe Ech p1 p2 tk hW
    exact (pss_one (ps_expr (pos := p3) hp)).run pins s' σ H' D I ⟨h1, h2, h3⟩
  · refine ⟨fun pins s' σ H' D I h' => ?_⟩
    obtain ⟨h1, h2, dd, v, h3, h4, h5⟩ := h'
    have hlen : σ.length = 2 := I.len
    have X1 : XfC X.K C := ⟨T.ga, T.gg, T.exC, T.hdC⟩
    refine (pss_one (ps_ret (pos := p7) (pe_xf (X := (cxOf C8.CX0 X.prog X.w X.K X.mg X.base ["call", "e"] x sg g cdg X.A X.stack s H C8.E0).nox) (pos := p6) (n := "name") X1 T.noN hz hf (pe_var (pos := p5) (i := 1) (x := "e") rfl (.inl hl) (by decide) (by decide))))).run pins s' σ H' D I ?_
    exact ⟨.ref a, h1 (by omega), rfl, h2, dd, _, v, h3, h4, by simp [List.lookup], h5⟩
  · refine ⟨fun cls d H' => ∃ (dd : Addr) (v : V), cls = .ref C ∧ d = some dd ∧ H' dd = some (.xd [(("name" : Str), v)]) ∧ Q v H', fun cls d σ' H' z => ?_, rfl, hc, h⟩
    obtain ⟨dd, v, e1, e2, e3, e4⟩ := z
    subst e1
    refine ⟨true, T.te, fun _ a ha => ⟨fun hlt => ?_, rfl, dd, v, e2, e3, e4⟩, fun z => by cases z⟩
    rw [List.length_set] at hlt
    simp [List.getElem?_set, hlt]
end
section
variable {X : Cx} {G : Gh} {W : WX} {S P P1 : List Addr} {σ : L2.St} {H H1 : L2.Hp} {Q Q' : VK} {g : Gam} {pos : Pos} {C fI : Addr} {f : ME} {nm : String}
theorem pe_refused {x : Str} {gf c Pt : Addr} {fd : FuncData} {k : Nat} {pg : Arguments} {sg : Scope} {j : Nat} {p1 p2 p3 p4 p5 p6 p7 p8 p9 pa pb : Pos} {params : Arguments} {body : Expr} {scope : Scope} {p lpos : Pos}
    (T : BadTxt X.prog X.K X.mg "BadArgument" C fI) (hE : G.exc nm = some (C, ("name" : Str))) (F : FunD X.K x x pg (refBody j p1 p2 p3 p4 p5 p6 p7 p8 p9 pa pb) sg [] [] gf fd) (hb : Binds X.K fd ["call"] []) (hm : X.mg x = some (.ref gf)) (Sg : FnScope ["call", "e"] ["call"] sg)
    (hge : sg.names.lookup ("BadArgument" : Str) = some .globalImplicit) (hl : sg.names.lookup ("e" : Str) = some .local) (hva : Vis sg "call")
    (TB : LamX.TabB X.base X.mg c Pt) (hcode : X.env.code = .ref c) (hmT : (Pt, X.env.qual ++ "<lambda>") ∈ G.Ts) (hu : ∀ p ∈ G.Ts, p.1 = Pt → p.2 = X.env.qual ++ "<lambda>") (hr : Room (k + 2) X.A) (L : LamX.LamS X.env.scope scope)
    (hbody : ∀ (A : Around) (outer : List Env) (s : Shared) (H : L2.Hp) (E : XK) (f' c' : Addr), Room k (A.deeper (LamX.lamEnv X scope s.heap.objs.size f' c')) → (A.deeper (LamX.lamEnv X scope s.heap.objs.size f' c')).units + 65 < cLine → Takes (LamX.lamCx X A outer s H E scope f' c') (fun cls d _ H => E cls d H) →
      PE (LamX.lamCx X A outer s H E scope f' c') body (tF G (fun cls d _ H => E cls d H) f))
    (hg : Gl X x := by rfl) (hdef : defaultsOf params X.env = ([], []) := by rfl)
    (hbind : ∀ (q : Str) (cl : List (Str × Addr)) (pm cv ctv : Value), bindArgs (PySem.W.kla_fn "<lambda>" q params body scope cl pm cv ctv) ⟨[], []⟩ = pure [] := by intros; rfl)
    (hdb : (x == ("__debug__" : Str)) = false := by decide) :
    PE X (.Call (.Name x p) [.Lambda params body scope lpos] [] pos) (tF G W (eRefused nm f)) := by
  obtain ⟨oc, od, dV, kV, doc, pm, an, cdv, ct, osl, rfl, lk, hcd, _, _⟩ := F.ex
  refine pe_imp (LamX.pe_lamcall (T := G.Ts) (t := fun E => tF G (fun cls d _ H => E cls d H) f) hg hm F.kp lk hcd hb Sg rfl hva (ref_gives T hge hl) TB hcode hmT hu hr L hdef hbind (fun A outer s H E f' c' hr => hbody A outer s H E f' c' hr (by have := hr.un; omega) (takes_of (X := LamX.lamCx X A outer s H E scope f' c') rfl rfl rfl rfl)) hdb) fun σ H Q h => ?_
  obtain ⟨S, P, g, I, h⟩ := h
  refine ⟨I.tabs, fun H1 eN T1 => ?_⟩
  obtain ⟨I1, gr1⟩ := I.ext eN T1
  have h1 := h.rebase gr1
  refine ⟨S, P, g, I1, ?_⟩
  unfold eRefused at h1
  cases r : f g with
  | ok d g' =>
    rw [r] at h1
    exact fun v H' J gr dv => h1 (.str (Str.ofString "")) H' J gr (.str _)
  | fr o g' =>
    rw [r] at h1
    exact fun a H' n n2 e J gr ow => h1 (.str (Str.ofString "")) H' (J.drop I.sS I.sP) gr (.str _)
  | ex z g' =>
    rw [r] at h1
    intro cls d H' J gr xk
    obtain ⟨C', f', dd, v, z1, z2, z3, z4, z5⟩ := xk
    have h1 : Post G W S P σ H1 Q (if z.cls = nm then .ok z.arg g' else .bad) := h1
    by_cases e : z.cls = nm
    · rw [if_pos e] at h1
      rw [e, hE] at z1
      cases z1
      exact ⟨dd, v, z2, z3, z4, h1 v H' J gr z5⟩
    · rw [if_neg e] at h1
      exact h1.elim
  | bad => rw [r] at h1; exact h1.elim
end
end Ev

set_option Elab.async false
set_option linter.all false
set_option maxRecDepth 100000
set_option maxHeartbeats 4000000
/-! EvZ: the head's facts: defs, classes of exceptions, tables of code objects. -/
namespace Ev
open PySem PySem.Spec PyProof.Rows L2 He
/-! ### an own exception over ValueError -/
def clsB (K : PySem.W.Frag) (C : Addr) : Bool := match K.lookup C with
  | some ⟨.type "type", _, .cls cd, sl⟩ => (match cd.mro, sl.toList with
    | .ref C' :: bm, [_, _, _, _, some (.builtin n), _] => C' == C && n == "ValueError.__new__" && !cd.hasDel && cd.hasDict && PySem.HandSPX.refsVE bm && eqO (PySem.W.alongIn K "__init__" bm) (some (some (.builtin "ValueError.__init__")))
    | _, _ => false)
  | _ => false
theorem clsB_ok {K : PySem.W.Frag} {C : Addr} (q : clsB K C = true) :
    ∃ nm q N bs bm sn sub ab col dd k0 k1 k2 k3 k5, K.lookup C = some (excClassObj nm q C N bs bm true sn sub ab col dd k0 k1 k2 k3 k5 "ValueError.__new__") ∧ PySem.HandSPX.refsVE bm = true ∧ PySem.W.alongIn K "__init__" bm = some (some (.builtin "ValueError.__init__")) := by
  unfold clsB at q
  split at q
  · rename_i dd cd sl ho
    split at q
    · rename_i C' bm k0 k1 k2 k3 n k5 hm hs
      simp only [Bool.and_eq_true, beq_iff_eq, Bool.not_eq_true'] at q
      obtain ⟨⟨⟨⟨⟨rfl, rfl⟩, hdel⟩, hd⟩, hv⟩, hi⟩ := q
      obtain ⟨nm, bs, mro, ns, qn, hdc, sn, sub, ab, col, del⟩ := cd
      dsimp only at hm hdel hd
      subst hm hdel hd
      have hsl : sl = #[k0, k1, k2, k3, some (.builtin "ValueError.__new__"), k5] := by
        obtain ⟨l⟩ := sl
        simp only at hs
        rw [hs]
      subst hsl
      exact ⟨nm, qn, ns, bs, bm, sn, sub, ab, col, dd, k0, k1, k2, k3, k5, ho, hv, eqO_ok hi⟩
    · cases q
  · cases q
/-- the function object of an __init__ that says super(): its code's file, its cell -/
def initB (prog : Program) (K : PySem.W.Frag) (C fI : Addr) : Bool := match K.lookup fI with
  | some ⟨_, _, .func fd, _⟩ => (match fd.code, fd.closure, fd.defaults, fd.kwdefaults with
    | .ref cda, [(nm, cc)], .none, .none => decide (nm = ("__class__" : Str)) && (PySem.W.codeIn K (.ref cda) fd.qualname && ((match K.lookup cda with
        | some ⟨_, _, .fields vs, _⟩ => (match (vs[2]? : Option Value) with
          | some (.str file _) => (prog.main.file : Str) == file
          | _ => false)
        | _ => false) && (match K.lookup cc with
        | some ⟨_, _, .cell (some (.ref C')), _⟩ => C' == C
        | _ => false)))
    | _, _, _, _ => false)
  | _ => false
theorem initB_ok {prog : Program} {K : PySem.W.Frag} {C fI : Addr} (q : initB prog K C fI = true) :
    ∃ (oc : Value) (od : Option Addr) (fd : FuncData) (osl : Array (Option Value)) (cda cc : Addr) (ccl : Value) (cdd : Option Addr) (vs : Array Value) (ccs : Array (Option Value)) (file : Str) (tf : Tok) (cl : Value) (cld : Option Addr) (csl : Array (Option Value)),
      K.lookup fI = some ⟨oc, od, .func fd, osl⟩ ∧ fd.code = .ref cda ∧ fd.closure = [(("__class__" : Str), cc)] ∧ fd.defaults = .none ∧ fd.kwdefaults = .none ∧ PySem.W.codeIn K (.ref cda) fd.qualname = true ∧ K.lookup cda = some ⟨ccl, cdd, .fields vs, ccs⟩ ∧
      vs[2]? = some (.str file tf) ∧ ((prog.main.file : Str) == file) = true ∧ K.lookup cc = some ⟨cl, cld, .cell (some (.ref C)), csl⟩ := by
  unfold initB at q
  split at q
  · rename_i oc od fd osl ho
    split at q
    · rename_i cda nm cc hc hcl hd hk
      simp only [Bool.and_eq_true, decide_eq_true_eq] at q
      obtain ⟨rfl, h1, h2, h3⟩ := q
      split at h2
      · rename_i ccl cdd vs ccs hv
        split at h2
        · rename_i file tf hf
          split at h3
          · rename_i cl cld C' csl hcc
            rw [beq_iff_eq] at h3
            subst h3
            exact ⟨oc, od, fd, osl, cda, cc, ccl, cdd, vs, ccs, file, tf, cl, cld, csl, ho, hc, hcl, hd, hk, h1, hv, hf, h2, hcc⟩
          · cases h3
        · cases h2
      · cases h2
    · cases q
  · cases q
def badB (prog : Program) (x : Str) (K : PySem.W.Frag) : Bool :=
  clsB K (ga K x) && (initB prog K (ga K x) (ma K (ga K x) "__init__") && (
  eqO (PySem.W.findIn K (.ref (ga K x)) "__setattr__") (some (some (.builtin "object.__setattr__"))) && (
  eqO (PySem.W.findIn K (.ref (ga K x)) "__getattribute__") (some (some (.builtin "BaseException.__getattribute__"))) && (
  eqO (PySem.W.findIn K (.ref (ga K x)) "__getattr__") (some none) && (
  eqO (PySem.W.findIn K (.ref (ga K x)) "name") (some none) && (
  eqO (PySem.W.findIn K (.ref (ga K x)) "__init__") (some (some (.ref (ma K (ga K x) "__init__")))) && (
  decide (PySem.W.typeIn K (.ref (ma K (ga K x) "__init__")) = some (.type "function")) && (
  PySem.W.keepIn K (.ref (ga K x)) && (
  decide (PySem.W.subIn K (.ref (ga K x)) (.type "BaseException") = some true) && (
  decide (PySem.W.subIn K (.ref (ga K x)) (.type "ValueError") = some true) && (
  decide (PySem.W.typeIn K (.ref (ga K x)) = some (.type "type")) && (
  PySem.W.hasDictIn K (ga K x) && (
  decide (PySem.W.exmOne K (.ref (ga K x)) (.ref (ga K x)) = some true) && (
  decide (PySem.W.mroIn K (ga K x) (.ref (ga K x)) = some true) && (
  eqO (PySem.W.nsIn K cStatics "thirdparty.any") (some none) && (
  eqO (PySem.W.nsIn K mainGlobals x) (some (some (.ref (ga K x)))) && (
  eqO (PySem.W.nsIn K mainGlobals "super") (some none) && !(prog.main.scope.names.lookup ("super" : Str)).isSome)))))))))))))))))
abbrev FnI : Type := Option (Str × Arguments × FuncBody × Scope × Addr × Addr)
def fnI (K : PySem.W.Frag) (f : Addr) : FnI := match K.lookup f with
  | some ⟨_, _, .func fd, _⟩ => some (fd.name, fd.params, fd.body, fd.scope, fd.globals, fd.builtins)
  | _ => none
theorem bad_ok {prog : Program} {x : Str} {K : PySem.W.Frag} {h : Heap} {mg : Str → Option Value} {p1 p2 q1 q2 q3 q4 q5 q6 r1 r2 r3 r4 : Pos} (X : K.In h) (G : h.Ns mainGlobals mg) (c : badB prog x K = true)
    (e : fnI K (ma K (ga K x) "__init__") = some (("__init__" : Str), iA p1 p2, .stmts (iB q1 q2 q3 q4 q5 q6 r1 r2 r3 r4), iS, mainGlobals, builtinsNs)) (L : SupLine q1 q2 q3 q4 q5) : BadTxt prog K mg x (ga K x) (ma K (ga K x) "__init__") := by
  unfold badB at c
  obtain ⟨c1, c⟩ := ba c
  obtain ⟨c2, c⟩ := ba c
  obtain ⟨c3, c⟩ := ba c
  obtain ⟨c4, c⟩ := ba c
  obtain ⟨c5, c⟩ := ba c
  obtain ⟨c6, c⟩ := ba c
  obtain ⟨c7, c⟩ := ba c
  obtain ⟨c8, c⟩ := ba c
  obtain ⟨c9, c⟩ := ba c
  obtain ⟨c10, c⟩ := ba c
  obtain ⟨c11, c⟩ := ba c
  obtain ⟨c12, c⟩ := ba c
  obtain ⟨c13, c⟩ := ba c
  obtain ⟨c14, c⟩ := ba c
  obtain ⟨c15, c⟩ := ba c
  obtain ⟨c16, c⟩ := ba c
  obtain ⟨c17, c⟩ := ba c
  obtain ⟨c18, c19⟩ := ba c
  refine ⟨PySem.W.mg_of X G (eqO_ok c17), PySem.W.mg_none_of X G (eqO_ok c18), clsB_ok c1, eqO_ok c3, eqO_ok c4, eqO_ok c5, eqO_ok c6, eqO_ok c7, of_decide_eq_true c8, c9, of_decide_eq_true c10, of_decide_eq_true c11, of_decide_eq_true c12, c13, of_decide_eq_true c14, of_decide_eq_true c15, eqO_ok c16, by simpa using c19, ?_⟩
  obtain ⟨oc, od, fd, osl, cda, cc, ccl, cdd, vs, ccs, file, tf, cl, cld, csl, ho, h1, h2, h3, h4, h5, h6, h7, h8, h9⟩ := initB_ok c2
  unfold fnI at e
  rw [ho] at e
  obtain ⟨n1, n2, n3, n4, n5, n6, n7, n8, n9, n10, n11, n12, n13, n14, n15⟩ := fd
  dsimp only at e h1 h2 h3 h4 h5
  simp only [Option.some.injEq, Prod.mk.injEq] at e
  obtain ⟨rfl, rfl, rfl, rfl, rfl, rfl⟩ := e
  subst h1 h2 h3 h4
  exact ⟨oc, od, n10, n11, n12, cda, cc, n14, osl, n2, p1, p2, q1, q2, q3, q4, q5, q6, r1, r2, r3, r4, ccl, cdd, vs, ccs, file, tf, cl, cld, csl, ho, h5, h6, h7, h8, h9, L⟩
/-! ### the Hook -/
def asY (g : Addr → Option Obj) (n : Nat) : List Addr := asD g n ++ [cStatics]
abbrev AlY : Type := (AlD × Bool) × FnI
/-- x: the exception's name -/
def obsYK (prog : Program) (x : Str) (fa : List Fa) (fn : List DefD) (tf : List Defn) (g : Addr → Option Obj) (K : PySem.W.Frag) : AlY := ((obsD fa fn K, badB prog x K && tabsB g tf K), fnI K (ma K (ga K x) "__init__"))
def obsY (prog : Program) (x : Str) (n : Nat) (fa : List Fa) (fn : List DefD) (tf : List Defn) (g : Addr → Option Obj) : AlY := obsYK prog x fa fn tf g (frT g (asY g n))
def valY (fn : List DefD) (fi : FnI) : AlY := ((valD fn, true), fi)
structure SaysY (prog : Program) (x : Str) (fa : List Fa) (fn : List DefD) (tf : List Defn) (fi : FnI) (h : Heap) (K : PySem.W.Frag) : Prop where
  d : SaysD fa fn K
  bad : badB prog x K = true
  init : fnI K (ma K (ga K x) "__init__") = fi
  hd : ∀ p ∈ tf, PySem.W.codeHdIn K (cT K p).1 (cT K p).2 = true
  out : ∀ p ∈ tf, K.lookup (cT K p).2 = none
  empty : ∀ p ∈ tf, h.get? (cT K p).2 = some { cls := .none, data := .fields #[] }
theorem saysY_of {prog : Program} {x : Str} {n : Nat} {fa : List Fa} {fn : List DefD} {tf : List Defn} {fi : FnI} {h : Heap} (e : obsY prog x n fa fn tf h.get? = valY fn fi) : SaysY prog x fa fn tf fi h (frT h.get? (asY h.get? n)) := by
  have e1 : obsD fa fn (frT h.get? (asY h.get? n)) = valD fn := congrArg (fun z : AlY => z.1.1) e
  have e2 : (badB prog x (frT h.get? (asY h.get? n)) && tabsB h.get? tf (frT h.get? (asY h.get? n))) = true := congrArg (fun z : AlY => z.1.2) e
  have e3 : fnI (frT h.get? (asY h.get? n)) (ma (frT h.get? (asY h.get? n)) (ga (frT h.get? (asY h.get? n)) x) "__init__") = fi := congrArg (fun z : AlY => z.2) e
  obtain ⟨h1, h2⟩ := ba e2
  have key : ∀ p ∈ tf, PySem.W.codeHdIn (frT h.get? (asY h.get? n)) (cT (frT h.get? (asY h.get? n)) p).1 (cT (frT h.get? (asY h.get? n)) p).2 = true ∧ ∃ o, h.get? (cT (frT h.get? (asY h.get? n)) p).2 = some o ∧ emptyTab o = true := fun p hp => by
    obtain ⟨h3, h4⟩ := ba (List.all_eq_true.mp h2 p hp)
    refine ⟨h3, ?_⟩
    cases q : h.get? (cT (frT h.get? (asY h.get? n)) p).2 with
    | none =>
      rw [q] at h4
      cases h4
    | some o =>
      rw [q] at h4
      exact ⟨o, rfl, h4⟩
  exact ⟨e1, h1, e3, fun p hp => (key p hp).1, fun p hp => by
    obtain ⟨_, o, q, z⟩ := key p hp
    exact frT_none q z, fun p hp => by
    obtain ⟨_, o, q, z⟩ := key p hp
    rw [q, emptyTab_eq z]⟩
def hookY (prog : Program) (x : Str) (n : Nat) (fa : List Fa) (fn : List DefD) (tf : List Defn) (fi : FnI) : PySem.W.Hook where
  α := AlY
  obs := fun s => obsY prog x n fa fn tf s.heap.get?
  val := fun _ => valY fn fi
  says := fun _ h => ∃ K : PySem.W.Frag, K.In h ∧ SaysY prog x fa fn tf fi h K
  of := fun _ _ e => ⟨_, frT_in, saysY_of e⟩
  keeps := fun _ _ _ ⟨K, hK, c⟩ k => ⟨K, PySem.W.Frag.In.keeps hK k, ⟨c.d, c.bad, c.init, c.hd, c.out, fun p hp => k _ _ (c.empty p hp)⟩⟩
theorem obsY_eq {prog : Program} {x : Str} {n : Nat} {fa : List Fa} {fn : List DefD} {tf : List Defn} {fi : FnI} {g : Addr → Option Obj} {s : Shared} (h : ∀ a, g a = s.heap.get? a) : obsY prog x n fa fn tf g = (hookY prog x n fa fn tf fi).obs s := by
  have e : g = s.heap.get? := funext h
  rw [e] <;> rfl
end Ev
namespace Ev
open PySem PySem.Spec PyProof.Rows L2 He
def initOf : Stmt → FnI
  | .ClassDef (body := b) .. => (match b with
    | .FunctionDef n a b _ _ _ sc _ _ _ :: _ => some (n, a, .stmts b, sc, mainGlobals, builtinsNs)
    | _ => none)
  | _ => none
/-- the name of a lambda that the def x makes -/
def lamQ (x : Str) (sc : Scope) : Str := (envOfC x sc 0 0 .none).qual ++ "<lambda>"
theorem funC_of {K : PySem.W.Frag} {x qual : Str} {params : Arguments} {body : List Stmt} {scope : Scope} {p : Str × Option Str} {fd : FuncData} (F : FunD K x qual params body scope [] [] (fAd K p) fd) : FunC K x qual params body scope (fAd K p) fd (cT K p).1 := by
  obtain ⟨oc, od, dV, kV, doc, pm, an, cdv, ct, osl, e, lk, hcd, hD, hK⟩ := F.ex
  obtain ⟨c, rfl⟩ := codeIn_ref hcd
  have ec : codeOf K p = c := codeOf_eq lk (by rw [e])
  refine ⟨⟨oc, od, dV, kV, doc, pm, an, ct, osl, ?_, lk, ?_⟩⟩
  · show fd = PySem.W.fnOf x qual params body scope dV kV doc pm an (.ref (codeOf K p)) ct
    rw [ec]; exact e
  · show PySem.W.codeIn K (.ref (codeOf K p)) qual = true
    rw [ec]; exact hcd
theorem spLaw {K : PySem.W.Frag} {Ts : List (Addr × Str)} {exc : String → Option (Addr × Str)} {f : List Arg → RF} {ns : List Int} {H : L2.Hp} {a : Addr} (h : f [.sh (.list (ns.map .int))] = .ok (.bool true) []) (hS : SqL K H a (ns.map V.int)) (ht : LamX.Tabs Ts H) :
    spF K Ts exc 1 f [.ref a] H (fun v _ => v = .bl true) (fun _ _ _ => False) := by
  have dl : ∀ ns : List Int, DpAll K (hide [] H) (ns.map V.int) (ns.map PyData.int) := fun ns => by
    induction ns with
    | nil => exact .nil
    | cons n r ih => exact .cons (.int n) ih
  refine ⟨rfl, [], [], _, .sh (d := .list (ns.map .int)) (.lst ?_ (dl ns)) .nil, List.nodup_nil, (fun b hb => absurd hb (by simp)), ht, ?_⟩
  · exact (show hide [] H = H from funext fun b => hide_out (by simp)) ▸ hS
  · rw [h]
    exact fun v H' _ dv => dp_bool dv
theorem cx_false {P : Program} {w : World} {H : L2.Hp} {s : Shared} {e : Value} {s' : Shared} (z : L2.CX P w [] H s (fun _ _ _ => False) e s') : False := by
  obtain ⟨_, _, _, _, _, _, _, _, _, _, _, _, q⟩ := z
  exact q
end Ev

set_option Elab.async false
set_option linter.all false
set_option maxRecDepth 100000
set_option maxHeartbeats 0
namespace K10
open PySem PySem.Spec PyProof.Rows L2 Ev
def top (i : Nat) : Stmt := PySem.Challenge.pw_gridlights_k10_whole_word_squares.main.body.getD i (.Pass ⟨0, 0, 0, 0⟩)
/-! ### the defs -/
abbrev st_law_refused : Stmt := top 34
theorem sc_law_refused : FnScope ["call", "e"] ["call"] (defScope st_law_refused) := ⟨rfl, rfl, rfl, by decide +kernel, rfl, by decide +kernel, by decide +kernel⟩
abbrev st_is_in : Stmt := top 5
def m_is_in : MS := (sRet (eAnd (eU (isiD "int") (pVar 0)) (eAnd (eNot (eU (isiD "bool") (pVar 0))) (eChn .le .le (eVar 1) (eVar 0) (pVar 2)))))
def f_is_in : List Ev.Arg → RF := runD [false, false, false] 0 m_is_in

abbrev st_is_tuple : Stmt := top 6
def m_is_tuple : MS := (sRet (eAnd (eU (isiD "tuple") (pVar 0)) (eChn .le .le (eVar 1) (eU lenD (pVar 0)) (pVar 2))))
def f_is_tuple : List Ev.Arg → RF := runD [false, false, false] 0 m_is_tuple

abbrev st_is_text : Stmt := top 7
def m_is_text : MS := (sRet (eAnd (eU (isiD "str") (pVar 0)) (eAnd (eChn .le .le (eVar 1) (eU lenD (pVar 0)) (pVar 2)) (eU allD (eComp [4] (.nm 4) (iSeq (eVar 0)) eYes (eCmpV .isIn 4 (pVar 3)))))))
def f_is_text : List Ev.Arg → RF := runD [false, false, false, false] 1 m_is_text

abbrev st_is_ascending : Stmt := top 8
def m_is_ascending : MS := (sRet (eU allD (eComp [1, 2] (.tp [(.nm 1), (.nm 2)]) (iZip (eVar 0) (eSlc (eVar 0) (oSome (eCst (.int 1))) oNone)) eYes (eCmpV .lt 1 (pVar 2)))))
def f_is_ascending : List Ev.Arg → RF := runD [false] 2 m_is_ascending

abbrev st_demand : Stmt := top 9
def m_demand : MS := (sIf (eNot (eVar 0)) (sRaise "BadArgument" (eVar 1)) sNop)
def f_demand : List Ev.Arg → RF := runD [false, false] 0 m_demand

abbrev st_is_word : Stmt := top 14
def m_is_word : MS := (sRet (eCall 4 f_is_text (aSh (eVar 0) (aSh (eCst (.int 2)) (aSh (eCst (.int 9)) (aSh (eCst (.str ("abcdefghijklmnopqrstuvwxyz" : Str))) aNil))))))
def f_is_word : List Ev.Arg → RF := runD [false] 0 m_is_word

abbrev st_is_lexicon : Stmt := top 15
def m_is_lexicon : MS := (sRet (eAnd (eCall 3 f_is_tuple (aSh (eVar 0) (aSh (eCst (.int 1)) (aSh (eCst (.int 60)) aNil)))) (eAnd (eU allD (eComp [1] (.nm 1) (iSeq (eVar 0)) eYes (eCall 1 f_is_word (aSh (eVar 1) aNil)))) (eCall 1 f_is_ascending (aSh (eVar 0) aNil)))))
def f_is_lexicon : List Ev.Arg → RF := runD [false] 1 m_is_lexicon

abbrev st_columns_of : Stmt := top 19
def m_columns_of : MS := (sRet (eU tupD (eComp [1] (.nm 1) (iRng (eU lenD (eIdxV 0 (eCst (.int 0))))) eYes (eM2 joinD (eCst (.str ("" : Str))) (eComp [2] (.nm 2) (iSeq (eVar 0)) eYes (eIdxV 2 (eVar 1)))))))
def f_columns_of : List Ev.Arg → RF := runD [false] 2 m_columns_of

abbrev st_begun_squares : Stmt := top 20
def m_begun_squares : MS := (sSeq (sAsg 2 (eLst (lCons (eTup lNil) lNil)))
    (sSeq (sFor (.nm 3) (iRng (eVar 1)) (sSeq (sAsg 4 (eLst lNil))
    (sSeq (sFrz [2] (sFor (.nm 5) (iSeq (eVar 2)) (sSeq (sAsg 6 (eM2 joinD (eCst (.str ("" : Str))) (eComp [7] (.nm 7) (iSeq (eVar 5)) eYes (eIdxV 7 (eVar 3)))))
    (sExt 4 (eComp [7] (.nm 7) (iSeq (eVar 0)) (eM2 swD (eVar 7) (pVar 6)) (eTup (lStar (eVar 5) (lCons (eVar 7) lNil))))))))
    (sFrz [4] (sAsg 2 (eVar 4))))))
    (sFrz [2] (sRet (eVar 2)))))
def f_begun_squares : List Ev.Arg → RF := runD [false, false] 6 m_begun_squares

abbrev st_demand_length : Stmt := top 21
def m_demand_length : MS := (sSeq (sExpr (eCall 2 f_demand (aSh (eCall 1 f_is_lexicon (aSh (eVar 0) aNil)) (aSh (eCst (.str ("lexicon" : Str))) aNil))))
    (sExpr (eCall 2 f_demand (aSh (eCall 3 f_is_in (aSh (eVar 1) (aSh (eCst (.int 2)) (aSh (eCst (.int 5)) aNil)))) (aSh (eCst (.str ("length" : Str))) aNil)))))
def f_demand_length : List Ev.Arg → RF := runD [false, false] 0 m_demand_length

abbrev st_word_squares : Stmt := top 22
def m_word_squares : MS := (sSeq (sExpr (eCall 2 f_demand_length (aSh (eVar 0) (aSh (eVar 1) aNil))))
    (sRet (eU tupD (eU srtD (eCall 2 f_begun_squares (aSh (eComp [2] (.nm 2) (iSeq (eVar 0)) (eCmp .eq (eU lenD (pVar 2)) (pVar 1)) (eVar 2)) (aSh (eVar 1) aNil)))))))
def f_word_squares : List Ev.Arg → RF := runD [false, false] 1 m_word_squares

abbrev st_can_go_on : Stmt := top 23
def m_can_go_on : MS := (sRet (eU allD (eComp [2] (.nm 2) (iSeq (eCall 1 f_columns_of (aSh (eVar 0) aNil))) eYes (eU anyD (eComp [3] (.nm 3) (iSeq (eVar 1)) eYes (eM2 swD (eVar 3) (pVar 2)))))))
def f_can_go_on : List Ev.Arg → RF := runD [false, false] 2 m_can_go_on

abbrev st_is_double : Stmt := top 24
def m_is_double : MS := (sSeq (sAsg 2 (eBin .add (eVar 1) (eCall 1 f_columns_of (aSh (eVar 1) aNil))))
    (sFrz [2] (sRet (eAnd (eU allD (eComp [3] (.nm 3) (iSeq (eVar 2)) eYes (eCmpV .isIn 3 (pVar 0)))) (eCmp .eq (eU lenSetD (pVar 2)) (eU lenD (pVar 2)))))))
def f_is_double : List Ev.Arg → RF := runD [false, false] 2 m_is_double

abbrev st_all_doubles : Stmt := top 25
def m_all_doubles : MS := (sSeq (sAsg 2 (eLst (lCons (eTup lNil) lNil)))
    (sSeq (sFor (.nm 3) (iRng (eVar 1)) (sSeq (sAsg 4 (eLst lNil))
    (sSeq (sFrz [2] (sFor (.nm 5) (iSeq (eVar 2)) (sExt 4 (eComp [6] (.nm 6) (iSeq (eVar 0)) (eAnd (eCmpV .notIn 6 (pVar 5)) (eCall 2 f_can_go_on (aSh (eTup (lStar (eVar 5) (lCons (eVar 6) lNil))) (aSh (eVar 0) aNil)))) (eTup (lStar (eVar 5) (lCons (eVar 6) lNil)))))))
    (sFrz [4] (sAsg 2 (eVar 4))))))
    (sFrz [2] (sRet (eComp [5] (.nm 5) (iSeq (eVar 2)) (eCall 2 f_is_double (aSh (eVar 0) (aSh (eVar 5) aNil))) (eVar 5))))))
def f_all_doubles : List Ev.Arg → RF := runD [false, false] 5 m_all_doubles

abbrev st_double_squares : Stmt := top 26
def m_double_squares : MS := (sSeq (sExpr (eCall 2 f_demand_length (aSh (eVar 0) (aSh (eVar 1) aNil))))
    (sSeq (sAsg 2 (eCall 2 f_all_doubles (aSh (eComp [3] (.nm 3) (iSeq (eVar 0)) (eCmp .eq (eU lenD (pVar 3)) (pVar 1)) (eVar 3)) (aSh (eVar 1) aNil))))
    (sFrz [2] (sRet (eU tupD (eU srtD (eComp [4] (.nm 4) (iSeq (eVar 2)) (eCmpV .lt 4 (eCall 1 f_columns_of (aSh (eVar 4) aNil))) (eVar 4))))))))
def f_double_squares : List Ev.Arg → RF := runD [false, false] 3 m_double_squares

abbrev st_are_rows : Stmt := top 27
def m_are_rows : MS := (sSeq (sIf (eOr (eNot (eCall 3 f_is_tuple (aSh (eVar 0) (aSh (eCst (.int 2)) (aSh (eCst (.int 5)) aNil))))) (eNot (eU allD (eComp [1] (.nm 1) (iSeq (eVar 0)) eYes (eCall 1 f_is_word (aSh (eVar 1) aNil)))))) (sRet (eCst (.bool false))) sNop)
    (sRet (eU allD (eComp [1] (.nm 1) (iSeq (eVar 0)) eYes (eCmp .eq (eU lenD (pVar 1)) (eU lenD (pVar 0)))))))
def f_are_rows : List Ev.Arg → RF := runD [false] 1 m_are_rows

abbrev st_is_word_square : Stmt := top 28
def m_is_word_square : MS := (sSeq (sExpr (eCall 2 f_demand (aSh (eCall 1 f_is_lexicon (aSh (eVar 0) aNil)) (aSh (eCst (.str ("lexicon" : Str))) aNil))))
    (sRet (eAnd (eCall 1 f_are_rows (aSh (eVar 1) aNil)) (eAnd (eU allD (eComp [2] (.nm 2) (iSeq (eVar 1)) eYes (eCmpV .isIn 2 (pVar 0)))) (eCmp .eq (eCall 1 f_columns_of (aSh (eVar 1) aNil)) (pVar 1))))))
def f_is_word_square : List Ev.Arg → RF := runD [false, false] 1 m_is_word_square

abbrev st_is_double_square : Stmt := top 29
def m_is_double_square : MS := (sSeq (sExpr (eCall 2 f_demand (aSh (eCall 1 f_is_lexicon (aSh (eVar 0) aNil)) (aSh (eCst (.str ("lexicon" : Str))) aNil))))
    (sRet (eAnd (eCall 1 f_are_rows (aSh (eVar 1) aNil)) (eCall 2 f_is_double (aSh (eVar 0) (aSh (eVar 1) aNil))))))
def f_is_double_square : List Ev.Arg → RF := runD [false, false] 0 m_is_double_square

abbrev st_law_dice : Stmt := top 31
def m_law_dice : MS := (sSeq (sAsg 2 (eIf (eCmpV .lt 1 (eU lenD (pVar 0))) (eIdxV 0 (eVar 1)) (eBin .add (eBin .mul (eCst (.int 733)) (pVar 1)) (eCst (.int 29)))))
    (sSeq (sAsg 3 (eBin .add (eCst (.int 910003)) (eBin .mul (eCst (.int 7907)) (pVar 1))))
    (sSeq (sFrz [2] (sFor (.nm 4) (iSeq (eBin .add (eSlc (eVar 0) oNone (oSome (eCst (.int 6)))) (eLst (lCons (eVar 2) lNil)))) (sFrz [3] (sAsg 3 (eBin .mod (eU intD (eBin .add (eBin .mul (eVar 3) (eCst (.int 48271))) (eBin .mod (eU intD (pVar 4)) (eCst (.int 2147480009))))) (eCst (.int 2147480009)))))))
    (sFrz [3] (sRet (eLst (lCons (eIf (eOr (eCmpV .lt 2 (eCst (.int 0))) (eCmpV .ge 2 (eBin .pow (eCst (.int 10)) (eCst (.int 16))))) (eU absD (pVar 2)) (eCst (.int 0))) (lCons (eVar 3) (lCons (eCst (.int 0)) lNil)))))))))
def f_law_dice : List Ev.Arg → RF := runD [false, false] 3 m_law_dice

abbrev st_law_roll : Stmt := top 32
def m_law_roll : MS := (sSeq (sIf (eCmp .gt (eIdxV 0 (eCst (.int 0))) (eCst (.int 0))) (sSeq (sAsg 2 (eBin .mod (eU intD (eIdxV 0 (eCst (.int 0)))) (pVar 1)))
    (sSeq (sSetI 0 (eCst (.int 0)) (eBin .fdiv (eIdxV 0 (eCst (.int 0))) (pVar 1)))
    (sRet (eVar 2)))) sNop)
    (sSeq (sSetI 0 (eCst (.int 2)) (eBin .add (eIdxV 0 (eCst (.int 2))) (eCst (.int 1))))
    (sSeq (sSetI 0 (eCst (.int 1)) (eBin .mod (eU intD (eBin .add (eBin .add (eBin .mul (eIdxV 0 (eCst (.int 1))) (eCst (.int 52501))) (eBin .mul (eBin .mul (eIdxV 0 (eCst (.int 2))) (eIdxV 0 (eCst (.int 2)))) (eCst (.int 1009)))) (eCst (.int 77)))) (eCst (.int 2147480009))))
    (sRet (eBin .mod (eU intD (eBin .fdiv (eIdxV 0 (eCst (.int 1))) (eCst (.int 211)))) (pVar 1))))))
def f_law_roll : List Ev.Arg → RF := runD [true, false] 1 m_law_roll

abbrev st_law_pick : Stmt := top 33
def m_law_pick : MS := (sRet (eIdxV 1 (eCall 2 f_law_roll (aByr 0 (aSh (eU lenD (pVar 1)) aNil)))))
def f_law_pick : List Ev.Arg → RF := runD [true, false] 0 m_law_pick

abbrev st_law_g_word : Stmt := top 35
def m_law_g_word : MS := (sRet (eM2 joinD (eCst (.str ("" : Str))) (eComp [4] (.nm 4) (iRng (eBin .add (eVar 2) (eCall 2 f_law_roll (aByr 0 (aSh (eBin .add (eBin .sub (eVar 3) (pVar 2)) (eCst (.int 1))) aNil))))) eYes (eCall 2 f_law_pick (aByr 0 (aSh (eU lstD (pVar 1)) aNil))))))
def f_law_g_word : List Ev.Arg → RF := runD [true, false, false, false] 1 m_law_g_word

abbrev st_law_g_lexicon : Stmt := top 36
def m_law_g_lexicon : MS := (sRet (eU tupD (eU srtSetD (eComp [5] (.nm 5) (iRng (eBin .add (eCst (.int 1)) (eCall 2 f_law_roll (aByr 0 (aSh (eVar 4) aNil))))) eYes (eCall 4 f_law_g_word (aByr 0 (aSh (eVar 1) (aSh (eVar 2) (aSh (eVar 3) aNil)))))))))
def f_law_g_lexicon : List Ev.Arg → RF := runD [true, false, false, false, false] 1 m_law_g_lexicon

abbrev st_law_g_wrong : Stmt := top 37
def m_law_g_wrong : MS := (sRet (eCall 2 f_law_pick (aByr 0 (aSh (eLst (lCons (eCst .none) (lCons (eTup lNil) (lCons (eLst (lCons (eCst (.str ("ab" : Str))) lNil)) (lCons (eTup (lCons (eCst (.str ("b" : Str))) lNil)) (lCons (eTup (lCons (eCst (.str ("ab" : Str))) (lCons (eCst (.str ("aa" : Str))) lNil))) (lCons (eTup (lCons (eCst (.str ("ab" : Str))) (lCons (eCst (.str ("ab" : Str))) lNil))) (lCons (eTup (lCons (eCst (.str ("Ab" : Str))) lNil)) (lCons (eTup (lCons (eCst (.str ("abcdefghij" : Str))) lNil)) (lCons (eTup (lCons (eCst (.int 1)) lNil)) (lCons (eCst (.str ("ab" : Str))) lNil))))))))))) aNil))))
def f_law_g_wrong : List Ev.Arg → RF := runD [true] 0 m_law_g_wrong

abbrev st_law_columns : Stmt := top 38
def m_law_columns : MS := (sRet (eU tupD (eComp [1] (.nm 1) (iRng (eU lenD (eIdxV 0 (eCst (.int 0))))) eYes (eM2 joinD (eCst (.str ("" : Str))) (eComp [2] (.nm 2) (iSeq (eVar 0)) eYes (eIdxV 2 (eVar 1)))))))
def f_law_columns : List Ev.Arg → RF := runD [false] 2 m_law_columns

abbrev st_law_tuples : Stmt := top 39
def m_law_tuples : MS := (sSeq (sAsg 2 (eLst (lCons (eTup lNil) lNil)))
    (sSeq (sFor (.nm 3) (iRng (eVar 1)) (sSeq (sAsg 4 (eLst lNil))
    (sSeq (sFrz [2] (sFor (.nm 5) (iSeq (eVar 2)) (sFrz [4] (sAsg 4 (eBin .add (eVar 4) (eComp [6] (.nm 6) (iSeq (eVar 0)) eYes (eBin .add (eVar 5) (eTup (lCons (eVar 6) lNil)))))))))
    (sFrz [4] (sAsg 2 (eVar 4))))))
    (sFrz [2] (sRet (eVar 2)))))
def f_law_tuples : List Ev.Arg → RF := runD [false, false] 5 m_law_tuples

abbrev st_law_is_square : Stmt := top 40
def m_law_is_square : MS := (sSeq (sIf (eOr (eNot (eU (isiD "tuple") (pVar 1))) (eOr (eNot (eChn .le .le (eCst (.int 2)) (eU lenD (pVar 1)) (eCst (.int 5)))) (eCmp .ne (eComp [4] (.nm 4) (iSeq (eVar 1)) (eOr (eNot (eU (isiD "str") (pVar 4))) (eCmp .ne (eU lenD (pVar 4)) (eU lenD (pVar 1)))) (eVar 4)) (eLst lNil)))) (sRet (eCst (.bool false))) sNop)
    (sSeq (sAsg 3 (eBin .add (eVar 1) (eCall 1 f_law_columns (aSh (eVar 1) aNil))))
    (sSeq (sFrz [3] (sIf (eCmp .ne (eComp [4] (.nm 4) (iSeq (eVar 3)) (eCmpV .notIn 4 (pVar 0)) (eVar 4)) (eLst lNil)) (sRet (eCst (.bool false))) sNop))
    (sRet (eIf (eVar 2) (eCmp .eq (eU lenSetD (pVar 3)) (eU lenD (pVar 3))) (eCmp .eq (eCall 1 f_law_columns (aSh (eVar 1) aNil)) (pVar 1)))))))
def f_law_is_square : List Ev.Arg → RF := runD [false, false, false] 2 m_law_is_square

abbrev st_law_right : Stmt := top 41
def m_law_right : MS := (sSeq (sAsg 1 (eCall 2 f_law_pick (aByr 0 (aSh (eLst (lCons (eCst (.int 2)) (lCons (eCst (.int 2)) (lCons (eCst (.int 3)) (lCons (eCst (.int 3)) lNil))))) aNil))))
    (sSeq (sAsg 2 (eCall 2 f_law_pick (aByr 0 (aSh (eLst (lCons (eCst (.str ("ab" : Str))) (lCons (eCst (.str ("abc" : Str))) (lCons (eCst (.str ("abcd" : Str))) lNil)))) aNil))))
    (sSeq (sFrz [2] (sAsg 3 (eCall 5 f_law_g_lexicon (aByr 0 (aSh (eVar 2) (aSh (eCst (.int 2)) (aSh (eCst (.int 3)) (aSh (eCst (.int 11)) aNil))))))))
    (sSeq (sFrz [1, 3] (sAsg 4 (eCall 2 f_law_tuples (aSh (eComp [13] (.nm 13) (iSeq (eVar 3)) (eCmp .eq (eU lenD (pVar 13)) (pVar 1)) (eVar 13)) (aSh (eVar 1) aNil)))))
    (sSeq (sFrz [3, 4] (sPar 7 8 (eComp [14] (.nm 14) (iSeq (eVar 4)) (eCall 3 f_law_is_square (aSh (eVar 3) (aSh (eVar 14) (aSh (eCst (.bool false)) aNil)))) (eVar 14)) (eComp [14] (.nm 14) (iSeq (eVar 4)) (eCall 3 f_law_is_square (aSh (eVar 3) (aSh (eVar 14) (aSh (eCst (.bool true)) aNil)))) (eVar 14))))
    (sSeq (sFrz [1, 3] (sIf (eOr (eCmp .ne (eCall 2 f_word_squares (aSh (eVar 3) (aSh (eVar 1) aNil))) (eU tupD (eU srtD (pVar 7)))) (eCmp .ne (eCallK 2 0 2 f_word_squares [1, 0] lNil (lCons (eVar 1) (lCons (eVar 3) lNil))) (eU tupD (eU srtD (pVar 7))))) (sRet (eCst (.bool false))) sNop))
    (sSeq (sFrz [1, 3] (sIf (eOr (eCmp .ne (eCall 2 f_double_squares (aSh (eVar 3) (aSh (eVar 1) aNil))) (eU tupD (eU srtD (eComp [14] (.nm 14) (iSeq (eVar 8)) (eCmpV .lt 14 (eCall 1 f_law_columns (aSh (eVar 14) aNil))) (eVar 14))))) (eCmp .ne (eCallK 2 0 2 f_double_squares [1, 0] lNil (lCons (eVar 1) (lCons (eVar 3) lNil))) (eCall 2 f_double_squares (aSh (eVar 3) (aSh (eVar 1) aNil))))) (sRet (eCst (.bool false))) sNop))
    (sSeq (sFor (.nm 5) (iRng (eCst (.int 6))) (sSeq (sFrz [4] (sAsg 9 (eCall 2 f_law_pick (aByr 0 (aSh (eBin .add (eBin .add (eBin .add (eVar 7) (pVar 8)) (eSlc (eVar 4) oNone (oSome (eCst (.int 5))))) (eLst (lCons (eTup (lCons (eCst (.str ("ab" : Str))) (lCons (eCst (.str ("ba" : Str))) lNil))) lNil))) aNil)))))
    (sSeq (sFrz [9] (sAsg 10 (eCall 2 f_law_pick (aByr 0 (aSh (eLst (lCons (eVar 9) (lCons (eVar 9) (lCons (eRev (eVar 9)) (lCons (eCall 1 f_law_columns (aSh (eVar 9) aNil)) (lCons (eU lstD (pVar 9)) (lCons (eCst .none) (lCons (eSlc (eVar 9) (oSome (eCst (.int 1))) oNone) (lCons (eBin .add (eVar 9) (eSlc (eVar 9) oNone (oSome (eCst (.int 1))))) (lCons (eTup (lCons (eIdxV 9 (eCst (.int 0))) lNil)) (lCons (eBin .add (eSlc (eVar 9) oNone (oSome (eNeg (eCst (.int 1))))) (eTup (lCons (eCst .none) lNil))) lNil))))))))))) aNil)))))
    (sFrz [3, 10] (sIf (eOr (eCmp .ne (eCallK 2 1 1 f_is_word_square [0, 1] (lCons (eVar 3) lNil) (lCons (eVar 10) lNil)) (eCall 3 f_law_is_square (aSh (eVar 3) (aSh (eVar 10) (aSh (eCst (.bool false)) aNil))))) (eCmp .ne (eCallK 2 1 1 f_is_double_square [0, 1] (lCons (eVar 3) lNil) (lCons (eVar 10) lNil)) (eCall 3 f_law_is_square (aSh (eVar 3) (aSh (eVar 10) (aSh (eCst (.bool true)) aNil)))))) (sRet (eCst (.bool false))) sNop)))))
    (sSeq (sAsgT (.tp [(.nm 11), (.nm 12)]) (eTup (lCons (eCall 1 f_law_g_wrong (aByr 0 aNil)) (lCons (eCall 2 f_law_pick (aByr 0 (aSh (eLst (lCons (eCst (.int 1)) (lCons (eCst (.int 6)) (lCons (eCst .none) (lCons (eCst (.bool true)) lNil))))) aNil))) lNil))))
    (sSeq (sFrz [3] (sAsg 6 (eLst (lCons (eRefused "BadArgument" (eCall 2 f_word_squares (aSh (eVar 11) (aSh (eVar 12) aNil)))) (lCons (eRefused "BadArgument" (eCall 2 f_word_squares (aSh (eVar 3) (aSh (eVar 12) aNil)))) (lCons (eRefused "BadArgument" (eCall 2 f_double_squares (aSh (eVar 3) (aSh (eVar 12) aNil)))) (lCons (eRefused "BadArgument" (eCall 2 f_is_word_square (aSh (eVar 11) (aSh (eTup lNil) aNil)))) (lCons (eRefused "BadArgument" (eCall 2 f_is_double_square (aSh (eVar 11) (aSh (eTup lNil) aNil)))) lNil))))))))
    (sRet (eCmpV .eq 6 (eLst (lCons (eCst (.str ("lexicon" : Str))) (lCons (eCst (.str ("length" : Str))) (lCons (eCst (.str ("length" : Str))) (lCons (eCst (.str ("lexicon" : Str))) (lCons (eCst (.str ("lexicon" : Str))) lNil))))))))))))))))))
def f_law_right : List Ev.Arg → RF := runD [true] 14 m_law_right

abbrev st_law : Stmt := top 42
def m_law : MS := (sSeq (sFor (.nm 1) (iRng (eB2 maxD (eCst (.int 1)) (eB2 minD (eCst (.int 5)) (eU lenD (pVar 0))))) (sIf (eNot (eCall 1 f_law_right (aByt (eCall 2 f_law_dice (aSh (eVar 0) (aSh (eVar 1) aNil))) aNil))) (sRet (eCst (.bool false))) sNop))
    (sRet (eAnd (eCmp .eq (eCall 2 f_word_squares (aSh (eTup (lCons (eCst (.str ("ab" : Str))) (lCons (eCst (.str ("ba" : Str))) (lCons (eCst (.str ("bc" : Str))) lNil)))) (aSh (eCst (.int 2)) aNil))) (eTup (lCons (eTup (lCons (eCst (.str ("ab" : Str))) (lCons (eCst (.str ("ba" : Str))) lNil))) (lCons (eTup (lCons (eCst (.str ("ab" : Str))) (lCons (eCst (.str ("bc" : Str))) lNil))) (lCons (eTup (lCons (eCst (.str ("ba" : Str))) (lCons (eCst (.str ("ab" : Str))) lNil))) lNil))))) (eCmp .eq (eCall 2 f_double_squares (aSh (eTup (lCons (eCst (.str ("ab" : Str))) (lCons (eCst (.str ("ac" : Str))) (lCons (eCst (.str ("bd" : Str))) (lCons (eCst (.str ("cd" : Str))) lNil))))) (aSh (eCst (.int 2)) aNil))) (eTup (lCons (eTup (lCons (eCst (.str ("ab" : Str))) (lCons (eCst (.str ("cd" : Str))) lNil))) lNil))))))
def f_law : List Ev.Arg → RF := runD [false] 1 m_law

structure Facts (K : PySem.W.Frag) (mg : Str → Option Value) : Prop where
  b_abs : mg ("abs" : Str) = none
  b_all : mg ("all" : Str) = none
  b_any : mg ("any" : Str) = none
  b_bool : mg ("bool" : Str) = none
  b_int : mg ("int" : Str) = none
  b_isinstance : mg ("isinstance" : Str) = none
  b_len : mg ("len" : Str) = none
  b_list : mg ("list" : Str) = none
  b_max : mg ("max" : Str) = none
  b_min : mg ("min" : Str) = none
  b_range : mg ("range" : Str) = none
  b_set : mg ("set" : Str) = none
  b_sorted : mg ("sorted" : Str) = none
  b_str : mg ("str" : Str) = none
  b_tuple : mg ("tuple" : Str) = none
  b_zip : mg ("zip" : Str) = none
  LEAST_SIDE : GC mg ("LEAST_SIDE" : Str) (.int 2)
  LEAST_WORD : GC mg ("LEAST_WORD" : Str) (.int 2)
  LETTERS : GC mg ("LETTERS" : Str) (.str ("abcdefghijklmnopqrstuvwxyz" : Str))
  MOST_SIDE : GC mg ("MOST_SIDE" : Str) (.int 5)
  MOST_WORD : GC mg ("MOST_WORD" : Str) (.int 9)
  MOST_WORDS : GC mg ("MOST_WORDS" : Str) (.int 60)
section
variable {P : Program} {w : World} {K : PySem.W.Frag} {mg : Str → Option Value} {base : Heap} {Ts : List (Addr × Str)} {exc : String → Option (Addr × Str)}
theorem sc_is_in : FnScope [("value" : Str), ("low" : Str), ("high" : Str)] [("value" : Str), ("low" : Str), ("high" : Str)] (defScope st_is_in) := ⟨rfl, rfl, rfl, by decide +kernel, rfl, by decide +kernel, by decide +kernel⟩
theorem ok_is_in {f : Addr} {fd : FuncData} (T : Facts K mg) (F : FunD K ("is_in" : Str) ("is_in" : Str) (defArgs st_is_in) (defBody st_is_in) (defScope st_is_in) [] [] f fd) :
    FnOk P w K mg base (L2.CX P w) 1 f fd [("value" : Str), ("low" : Str), ("high" : Str)] (spF K Ts exc 3 f_is_in) := by
  refine fn_ev (n := 3) (nl := 0) F sc_is_in [false, false, false] rfl rfl m_is_in fun cdv A outer s H E G hG hT hE hr => ?_
  have hK : K = G.K := hG.symm
  have hu : (A.deeper (envOfC ("is_in" : Str) (defScope st_is_in) s.heap.objs.size f cdv)).units + 65 < cLine := by have := hr.un; omega
  have tk := takes_of (X := cxOf (L2.CX P w) P w K mg base [("value" : Str), ("low" : Str), ("high" : Str)] ("is_in" : Str) (defScope st_is_in) f cdv A outer s H E) rfl rfl rfl rfl
  unfold m_is_in
  exact (pss_sOne (ps_sRet (pe_eAnd (pe_isi hK (by decide) (pp_nm (pv 0)) rfl T.b_isinstance rfl T.b_int (by decide +kernel)) (pe_eAnd (pe_eNot (pe_isi hK (by decide) (pp_nm (pv 0)) rfl T.b_isinstance rfl T.b_bool (by decide +kernel))) (pe_eOne (pe_eChn hK hu .le .le (pe_nm (pv 1)) (pe_nm (pv 0)) (pp_nm (pv 2))))))))

theorem sc_is_tuple : FnScope [("value" : Str), ("least" : Str), ("most" : Str)] [("value" : Str), ("least" : Str), ("most" : Str)] (defScope st_is_tuple) := ⟨rfl, rfl, rfl, by decide +kernel, rfl, by decide +kernel, by decide +kernel⟩
theorem ok_is_tuple {f : Addr} {fd : FuncData} (T : Facts K mg) (F : FunD K ("is_tuple" : Str) ("is_tuple" : Str) (defArgs st_is_tuple) (defBody st_is_tuple) (defScope st_is_tuple) [] [] f fd) :
    FnOk P w K mg base (L2.CX P w) 1 f fd [("value" : Str), ("least" : Str), ("most" : Str)] (spF K Ts exc 3 f_is_tuple) := by
  refine fn_ev (n := 3) (nl := 0) F sc_is_tuple [false, false, false] rfl rfl m_is_tuple fun cdv A outer s H E G hG hT hE hr => ?_
  have hK : K = G.K := hG.symm
  have hu : (A.deeper (envOfC ("is_tuple" : Str) (defScope st_is_tuple) s.heap.objs.size f cdv)).units + 65 < cLine := by have := hr.un; omega
  have tk := takes_of (X := cxOf (L2.CX P w) P w K mg base [("value" : Str), ("least" : Str), ("most" : Str)] ("is_tuple" : Str) (defScope st_is_tuple) f cdv A outer s H E) rfl rfl rfl rfl
  unfold m_is_tuple
  exact (pss_sOne (ps_sRet (pe_eAnd (pe_isi hK (by decide) (pp_nm (pv 0)) rfl T.b_isinstance rfl T.b_tuple (by decide +kernel)) (pe_eOne (pe_eChn hK hu .le .le (pe_nm (pv 1)) (pe_eU (cr_len hK) (pp_nm (pv 0)) rfl T.b_len (by decide +kernel)) (pp_nm (pv 2)))))))

theorem sc_is_text : FnScope [("value" : Str), ("least" : Str), ("most" : Str), ("signs" : Str), ("sign" : Str)] [("value" : Str), ("least" : Str), ("most" : Str), ("signs" : Str)] (defScope st_is_text) := ⟨rfl, rfl, rfl, by decide +kernel, rfl, by decide +kernel, by decide +kernel⟩
theorem ok_is_text {f : Addr} {fd : FuncData} (T : Facts K mg) (F : FunD K ("is_text" : Str) ("is_text" : Str) (defArgs st_is_text) (defBody st_is_text) (defScope st_is_text) [] [] f fd) :
    FnOk P w K mg base (L2.CX P w) 1 f fd [("value" : Str), ("least" : Str), ("most" : Str), ("signs" : Str)] (spF K Ts exc 4 f_is_text) := by
  refine fn_ev (n := 4) (nl := 1) F sc_is_text [false, false, false, false] rfl rfl m_is_text fun cdv A outer s H E G hG hT hE hr => ?_
  have hK : K = G.K := hG.symm
  have hu : (A.deeper (envOfC ("is_text" : Str) (defScope st_is_text) s.heap.objs.size f cdv)).units + 65 < cLine := by have := hr.un; omega
  have tk := takes_of (X := cxOf (L2.CX P w) P w K mg base [("value" : Str), ("least" : Str), ("most" : Str), ("signs" : Str), ("sign" : Str)] ("is_text" : Str) (defScope st_is_text) f cdv A outer s H E) rfl rfl rfl rfl
  unfold m_is_text
  exact (pss_sOne (ps_sRet (pe_eAnd (pe_isi hK (by decide) (pp_nm (pv 0)) rfl T.b_isinstance rfl T.b_str (by decide +kernel)) (pe_eAnd (pe_eChn hK hu .le .le (pe_nm (pv 1)) (pe_eU (cr_len hK) (pp_nm (pv 0)) rfl T.b_len (by decide +kernel)) (pp_nm (pv 2))) (pe_eOne (pe_eU (cr_allD hK rfl) (pp_of (pe_eComp (own := [(("sign" : Str), 4)]) rfl sc_is_text.nd (pi_iSeq hK (pe_nm (pv 0))) (blkOk_by (by kernel_rfl)) (fun _ _ _ _ _ => (pg_nm (pg_name (i := 4) sc_is_text.nd rfl (by first | exact Or.inl rfl | exact Or.inr rfl)))) (fun _ _ _ _ _ => pts_eYes) (fun _ _ _ _ _ => (pe_eCmpV hK hu .isIn (pv 4) (pp_nm (pv 3)))) rfl (by decide))) rfl T.b_all (by decide +kernel)))))))

theorem sc_is_ascending : FnScope [("values" : Str), ("one" : Str), ("two" : Str)] [("values" : Str)] (defScope st_is_ascending) := ⟨rfl, rfl, rfl, by decide +kernel, rfl, by decide +kernel, by decide +kernel⟩
theorem ok_is_ascending {f : Addr} {fd : FuncData} (T : Facts K mg) (F : FunD K ("is_ascending" : Str) ("is_ascending" : Str) (defArgs st_is_ascending) (defBody st_is_ascending) (defScope st_is_ascending) [] [] f fd) :
    FnOk P w K mg base (L2.CX P w) 1 f fd [("values" : Str)] (spF K Ts exc 1 f_is_ascending) := by
  refine fn_ev (n := 1) (nl := 2) F sc_is_ascending [false] rfl rfl m_is_ascending fun cdv A outer s H E G hG hT hE hr => ?_
  have hK : K = G.K := hG.symm
  have hu : (A.deeper (envOfC ("is_ascending" : Str) (defScope st_is_ascending) s.heap.objs.size f cdv)).units + 65 < cLine := by have := hr.un; omega
  have tk := takes_of (X := cxOf (L2.CX P w) P w K mg base [("values" : Str), ("one" : Str), ("two" : Str)] ("is_ascending" : Str) (defScope st_is_ascending) f cdv A outer s H E) rfl rfl rfl rfl
  unfold m_is_ascending
  exact (pss_sOne (ps_sRet (pe_eU (cr_allD hK rfl) (pp_of (pe_eComp (own := [(("one" : Str), 1), (("two" : Str), 2)]) rfl sc_is_ascending.nd (pi_iZip hK rfl T.b_zip (pe_nm (pv 0)) (pe_eSlc hK (pe_nm (pv 0)) (po_oSome (W := WF) pe_ci) po_oNone)) (blkOk_by (by kernel_rfl)) (fun _ _ _ _ _ => (pg_tp hK rfl (pgs_c (pg_nm (pg_name (i := 1) sc_is_ascending.nd rfl (by first | exact Or.inl rfl | exact Or.inr rfl))) (pgs_c (pg_nm (pg_name (i := 2) sc_is_ascending.nd rfl (by first | exact Or.inl rfl | exact Or.inr rfl))) pgs_n)))) (fun _ _ _ _ _ => pts_eYes) (fun _ _ _ _ _ => (pe_eCmpV hK hu .lt (pv 1) (pp_nm (pv 2)))) rfl (by decide))) rfl T.b_all (by decide +kernel))))

theorem sc_demand : FnScope [("is_good" : Str), ("name" : Str)] [("is_good" : Str), ("name" : Str)] (defScope st_demand) := ⟨rfl, rfl, rfl, by decide +kernel, rfl, by decide +kernel, by decide +kernel⟩
theorem ok_demand {f : Addr} {fd : FuncData} (T : Facts K mg) (F : FunD K ("demand" : Str) ("demand" : Str) (defArgs st_demand) (defBody st_demand) (defScope st_demand) [] [] f fd)
    {C fI : Addr} (BX : BadTxt P K mg "BadArgument" C fI) (hx : exc "BadArgument" = some (C, ("name" : Str))) :
    FnOk P w K mg base (L2.CX P w) 4 f fd [("is_good" : Str), ("name" : Str)] (spF K Ts exc 2 f_demand) := by
  refine fn_ev (n := 2) (nl := 0) F sc_demand [false, false] rfl rfl m_demand fun cdv A outer s H E G hG hT hE hr => ?_
  have hK : K = G.K := hG.symm
  have hu : (A.deeper (envOfC ("demand" : Str) (defScope st_demand) s.heap.objs.size f cdv)).units + 65 < cLine := by have := hr.un; omega
  have tk := takes_of (X := cxOf (L2.CX P w) P w K mg base [("is_good" : Str), ("name" : Str)] ("demand" : Str) (defScope st_demand) f cdv A outer s H E) rfl rfl rfl rfl
  unfold m_demand
  exact (pss_sOne (ps_sIf (pt_eNot (tB_of (pe_nm (pv 0)))) (pss_sOne (ps_sRaise BX hK (by rw [hE]; exact hx) hr tk (pe_nm (pv 1)))) pss_sNil))

theorem sc_is_word : FnScope [("value" : Str)] [("value" : Str)] (defScope st_is_word) := ⟨rfl, rfl, rfl, by decide +kernel, rfl, by decide +kernel, by decide +kernel⟩
theorem ok_is_word {f : Addr} {fd : FuncData} (T : Facts K mg) (F : FunD K ("is_word" : Str) ("is_word" : Str) (defArgs st_is_word) (defBody st_is_word) (defScope st_is_word) [] [] f fd)
    (C_is_text : Callee P w K mg base Ts exc ("is_text" : Str) 1 4 f_is_text) :
    FnOk P w K mg base (L2.CX P w) 2 f fd [("value" : Str)] (spF K Ts exc 1 f_is_word) := by
  refine fn_ev (n := 1) (nl := 0) F sc_is_word [false] rfl rfl m_is_word fun cdv A outer s H E G hG hT hE hr => ?_
  have hK : K = G.K := hG.symm
  have hu : (A.deeper (envOfC ("is_word" : Str) (defScope st_is_word) s.heap.objs.size f cdv)).units + 65 < cLine := by have := hr.un; omega
  have tk := takes_of (X := cxOf (L2.CX P w) P w K mg base [("value" : Str)] ("is_word" : Str) (defScope st_is_word) f cdv A outer s H E) rfl rfl rfl rfl
  unfold m_is_word
  exact (pss_sOne (ps_sRet (pe_fn C_is_text hK hT hE tk hr (by decide) rfl (pa_aSh (pe_nm (pv 0)) (pa_aSh (pe_gc rfl T.LEAST_WORD) (pa_aSh (pe_gc rfl T.MOST_WORD) (pa_aSh (pe_gc rfl T.LETTERS) pa_aNil)))))))

theorem sc_is_lexicon : FnScope [("value" : Str), ("word" : Str)] [("value" : Str)] (defScope st_is_lexicon) := ⟨rfl, rfl, rfl, by decide +kernel, rfl, by decide +kernel, by decide +kernel⟩
theorem ok_is_lexicon {f : Addr} {fd : FuncData} (T : Facts K mg) (F : FunD K ("is_lexicon" : Str) ("is_lexicon" : Str) (defArgs st_is_lexicon) (defBody st_is_lexicon) (defScope st_is_lexicon) [] [] f fd)
    (C_is_ascending : Callee P w K mg base Ts exc ("is_ascending" : Str) 1 1 f_is_ascending)
    (C_is_tuple : Callee P w K mg base Ts exc ("is_tuple" : Str) 1 3 f_is_tuple)
    (C_is_word : Callee P w K mg base Ts exc ("is_word" : Str) 2 1 f_is_word) :
    FnOk P w K mg base (L2.CX P w) 3 f fd [("value" : Str)] (spF K Ts exc 1 f_is_lexicon) := by
  refine fn_ev (n := 1) (nl := 1) F sc_is_lexicon [false] rfl rfl m_is_lexicon fun cdv A outer s H E G hG hT hE hr => ?_
  have hK : K = G.K := hG.symm
  have hu : (A.deeper (envOfC ("is_lexicon" : Str) (defScope st_is_lexicon) s.heap.objs.size f cdv)).units + 65 < cLine := by have := hr.un; omega
  have tk := takes_of (X := cxOf (L2.CX P w) P w K mg base [("value" : Str), ("word" : Str)] ("is_lexicon" : Str) (defScope st_is_lexicon) f cdv A outer s H E) rfl rfl rfl rfl
  unfold m_is_lexicon
  exact (pss_sOne (ps_sRet (pe_eAnd (pe_fn C_is_tuple hK hT hE tk hr (by decide) rfl (pa_aSh (pe_nm (pv 0)) (pa_aSh pe_ci (pa_aSh (pe_gc rfl T.MOST_WORDS) pa_aNil)))) (pe_eAnd (pe_eU (cr_allD hK rfl) (pp_of (pe_eComp (own := [(("word" : Str), 1)]) rfl sc_is_lexicon.nd (pi_iSeq hK (pe_nm (pv 0))) (blkOk_by (by kernel_rfl)) (fun _ _ _ _ _ => (pg_nm (pg_name (i := 1) sc_is_lexicon.nd rfl (by first | exact Or.inl rfl | exact Or.inr rfl)))) (fun _ _ _ _ _ => pts_eYes) (fun _ _ _ _ _ => (pe_fn C_is_word hK hT hE takes0 hr (by decide) rfl (pa_aSh (pe_nm (pv 1)) pa_aNil))) rfl (by decide))) rfl T.b_all (by decide +kernel)) (pe_eOne (pe_fn C_is_ascending hK hT hE tk hr (by decide) rfl (pa_aSh (pe_nm (pv 0)) pa_aNil)))))))

theorem sc_columns_of : FnScope [("rows" : Str), ("at" : Str), ("row" : Str)] [("rows" : Str)] (defScope st_columns_of) := ⟨rfl, rfl, rfl, by decide +kernel, rfl, by decide +kernel, by decide +kernel⟩
theorem ok_columns_of {f : Addr} {fd : FuncData} (T : Facts K mg) (F : FunD K ("columns_of" : Str) ("columns_of" : Str) (defArgs st_columns_of) (defBody st_columns_of) (defScope st_columns_of) [] [] f fd) :
    FnOk P w K mg base (L2.CX P w) 1 f fd [("rows" : Str)] (spF K Ts exc 1 f_columns_of) := by
  refine fn_ev (n := 1) (nl := 2) F sc_columns_of [false] rfl rfl m_columns_of fun cdv A outer s H E G hG hT hE hr => ?_
  have hK : K = G.K := hG.symm
  have hu : (A.deeper (envOfC ("columns_of" : Str) (defScope st_columns_of) s.heap.objs.size f cdv)).units + 65 < cLine := by have := hr.un; omega
  have tk := takes_of (X := cxOf (L2.CX P w) P w K mg base [("rows" : Str), ("at" : Str), ("row" : Str)] ("columns_of" : Str) (defScope st_columns_of) f cdv A outer s H E) rfl rfl rfl rfl
  unfold m_columns_of
  exact (pss_sOne (ps_sRet (pe_eT (cr_tup hK) (pp_of (pe_eComp (own := [(("at" : Str), 1)]) rfl sc_columns_of.nd (pi_iRng rfl T.b_range (pe_eU (cr_len hK) (pp_of (pe_eIdxV hK (pv 0) pe_ci)) rfl T.b_len (by decide +kernel))) (blkOk_by (by kernel_rfl)) (fun _ _ _ _ _ => (pg_nm (pg_name (i := 1) sc_columns_of.nd rfl (by first | exact Or.inl rfl | exact Or.inr rfl)))) (fun _ _ _ _ _ => pts_eYes) (fun _ _ _ _ _ => (pe_join2 hK pe_cs (pp_of (pe_eComp (own := [(("row" : Str), 2)]) rfl sc_columns_of.nd (pi_iSeq hK (pe_nm (pv 0))) (blkOk_by (by kernel_rfl)) (fun _ _ _ _ _ => (pg_nm (pg_name (i := 2) sc_columns_of.nd rfl (by first | exact Or.inl rfl | exact Or.inr rfl)))) (fun _ _ _ _ _ => pts_eYes) (fun _ _ _ _ _ => (pe_eIdxV hK (pv 2) (pe_nm (pv 1)))) rfl (by decide))))) rfl (by decide))) rfl T.b_tuple (by decide +kernel))))

theorem sc_begun_squares : FnScope [("words" : Str), ("length" : Str), ("rows" : Str), ("turn" : Str), ("longer" : Str), ("row" : Str), ("start" : Str), ("word" : Str)] [("words" : Str), ("length" : Str)] (defScope st_begun_squares) := ⟨rfl, rfl, rfl, by decide +kernel, rfl, by decide +kernel, by decide +kernel⟩
theorem ok_begun_squares {f : Addr} {fd : FuncData} (T : Facts K mg) (F : FunD K ("begun_squares" : Str) ("begun_squares" : Str) (defArgs st_begun_squares) (defBody st_begun_squares) (defScope st_begun_squares) [] [] f fd) :
    FnOk P w K mg base (L2.CX P w) 1 f fd [("words" : Str), ("length" : Str)] (spF K Ts exc 2 f_begun_squares) := by
  refine fn_ev (n := 2) (nl := 6) F sc_begun_squares [false, false] rfl rfl m_begun_squares fun cdv A outer s H E G hG hT hE hr => ?_
  have hK : K = G.K := hG.symm
  have hu : (A.deeper (envOfC ("begun_squares" : Str) (defScope st_begun_squares) s.heap.objs.size f cdv)).units + 65 < cLine := by have := hr.un; omega
  have tk := takes_of (X := cxOf (L2.CX P w) P w K mg base [("words" : Str), ("length" : Str), ("rows" : Str), ("turn" : Str), ("longer" : Str), ("row" : Str), ("start" : Str), ("word" : Str)] ("begun_squares" : Str) (defScope st_begun_squares) f cdv A outer s H E) rfl rfl rfl rfl
  unfold m_begun_squares
  exact (pss_sCons (ps_sAsg (ps_set (i := 2) sc_begun_squares.nd rfl (by first | exact Or.inl rfl | exact Or.inr rfl) (pe_eLst (pl_cons (pe_eTup pl_nil) pl_nil))))
    (pss_sCons (ps_sFor (passes_of rfl) rfl (pi_iRng rfl T.b_range (pe_nm (pv 1))) (pg_nm (pg_name (i := 3) sc_begun_squares.nd rfl (by first | exact Or.inl rfl | exact Or.inr rfl))) (pss_sCons (ps_sAsg (ps_set (i := 4) sc_begun_squares.nd rfl (by first | exact Or.inl rfl | exact Or.inr rfl) (pe_eLst pl_nil)))
    (pss_sCons (ps_sFrz [2] (ps_sFor (passes_of rfl) rfl (pi_iSeq hK (pe_nm (pv 2))) (pg_nm (pg_name (i := 5) sc_begun_squares.nd rfl (by first | exact Or.inl rfl | exact Or.inr rfl))) (pss_sCons (ps_sAsg (ps_set (i := 6) sc_begun_squares.nd rfl (by first | exact Or.inl rfl | exact Or.inr rfl) (pe_join2 hK pe_cs (pp_of (pe_eComp (own := [(("word" : Str), 7)]) rfl sc_begun_squares.nd (pi_iSeq hK (pe_nm (pv 5))) (blkOk_by (by kernel_rfl)) (fun _ _ _ _ _ => (pg_nm (pg_name (i := 7) sc_begun_squares.nd rfl (by first | exact Or.inl rfl | exact Or.inr rfl)))) (fun _ _ _ _ _ => pts_eYes) (fun _ _ _ _ _ => (pe_eIdxV hK (pv 7) (pe_nm (pv 3)))) rfl (by decide))))))
    (pss_sOne (ps_sExt (ps_expr (pe_bm PySem.F.plainAttrs_list PySem.F.slot_list_extend PySem.F.type_list_extend mt_extend (pv 4) (pa_cons (pe_eComp (own := [(("word" : Str), 7)]) rfl sc_begun_squares.nd (pi_iSeq hK (pe_nm (pv 0))) (blkOk_by (by kernel_rfl)) (fun _ _ _ _ _ => (pg_nm (pg_name (i := 7) sc_begun_squares.nd rfl (by first | exact Or.inl rfl | exact Or.inr rfl)))) (fun _ _ _ _ _ => (pts_one (tB_of (pe_sw (pe_nm (pv 7)) (pp_nm (pv 6)))))) (fun _ _ _ _ _ => (pe_eTup (pl_star hK (pe_nm (pv 5)) (pl_cons (pe_nm (pv 7)) pl_nil)))) rfl (by decide)) pa_nil))))))))
    (pss_sOne (ps_sFrz [4] (ps_sAsg (ps_set (i := 2) sc_begun_squares.nd rfl (by first | exact Or.inl rfl | exact Or.inr rfl) (pe_nm (pv 4)))))))))
    (pss_sOne (ps_sFrz [2] (ps_sRet (pe_nm (pv 2)))))))

theorem sc_demand_length : FnScope [("lexicon" : Str), ("length" : Str)] [("lexicon" : Str), ("length" : Str)] (defScope st_demand_length) := ⟨rfl, rfl, rfl, by decide +kernel, rfl, by decide +kernel, by decide +kernel⟩
theorem ok_demand_length {f : Addr} {fd : FuncData} (T : Facts K mg) (F : FunD K ("demand_length" : Str) ("demand_length" : Str) (defArgs st_demand_length) (defBody st_demand_length) (defScope st_demand_length) [] [] f fd)
    (C_demand : Callee P w K mg base Ts exc ("demand" : Str) 4 2 f_demand)
    (C_is_in : Callee P w K mg base Ts exc ("is_in" : Str) 1 3 f_is_in)
    (C_is_lexicon : Callee P w K mg base Ts exc ("is_lexicon" : Str) 3 1 f_is_lexicon) :
    FnOk P w K mg base (L2.CX P w) 5 f fd [("lexicon" : Str), ("length" : Str)] (spF K Ts exc 2 f_demand_length) := by
  refine fn_ev (n := 2) (nl := 0) F sc_demand_length [false, false] rfl rfl m_demand_length fun cdv A outer s H E G hG hT hE hr => ?_
  have hK : K = G.K := hG.symm
  have hu : (A.deeper (envOfC ("demand_length" : Str) (defScope st_demand_length) s.heap.objs.size f cdv)).units + 65 < cLine := by have := hr.un; omega
  have tk := takes_of (X := cxOf (L2.CX P w) P w K mg base [("lexicon" : Str), ("length" : Str)] ("demand_length" : Str) (defScope st_demand_length) f cdv A outer s H E) rfl rfl rfl rfl
  unfold m_demand_length
  exact (pss_sCons (ps_sExpr (pe_fn C_demand hK hT hE tk hr (by decide) rfl (pa_aSh (pe_fn C_is_lexicon hK hT hE tk hr (by decide) rfl (pa_aSh (pe_nm (pv 0)) pa_aNil)) (pa_aSh pe_cs pa_aNil))))
    (pss_sOne (ps_sExpr (pe_fn C_demand hK hT hE tk hr (by decide) rfl (pa_aSh (pe_fn C_is_in hK hT hE tk hr (by decide) rfl (pa_aSh (pe_nm (pv 1)) (pa_aSh (pe_gc rfl T.LEAST_SIDE) (pa_aSh (pe_gc rfl T.MOST_SIDE) pa_aNil)))) (pa_aSh pe_cs pa_aNil))))))

theorem sc_word_squares : FnScope [("lexicon" : Str), ("length" : Str), ("word" : Str)] [("lexicon" : Str), ("length" : Str)] (defScope st_word_squares) := ⟨rfl, rfl, rfl, by decide +kernel, rfl, by decide +kernel, by decide +kernel⟩
theorem ok_word_squares {f : Addr} {fd : FuncData} (T : Facts K mg) (F : FunD K ("word_squares" : Str) ("word_squares" : Str) (defArgs st_word_squares) (defBody st_word_squares) (defScope st_word_squares) [] [] f fd)
    (C_begun_squares : Callee P w K mg base Ts exc ("begun_squares" : Str) 1 2 f_begun_squares)
    (C_demand_length : Callee P w K mg base Ts exc ("demand_length" : Str) 5 2 f_demand_length) :
    FnOk P w K mg base (L2.CX P w) 6 f fd [("lexicon" : Str), ("length" : Str)] (spF K Ts exc 2 f_word_squares) := by
  refine fn_ev (n := 2) (nl := 1) F sc_word_squares [false, false] rfl rfl m_word_squares fun cdv A outer s H E G hG hT hE hr => ?_
  have hK : K = G.K := hG.symm
  have hu : (A.deeper (envOfC ("word_squares" : Str) (defScope st_word_squares) s.heap.objs.size f cdv)).units + 65 < cLine := by have := hr.un; omega
  have tk := takes_of (X := cxOf (L2.CX P w) P w K mg base [("lexicon" : Str), ("length" : Str), ("word" : Str)] ("word_squares" : Str) (defScope st_word_squares) f cdv A outer s H E) rfl rfl rfl rfl
  unfold m_word_squares
  exact (pss_sCons (ps_sExpr (pe_fn C_demand_length hK hT hE tk hr (by decide) rfl (pa_aSh (pe_nm (pv 0)) (pa_aSh (pe_nm (pv 1)) pa_aNil))))
    (pss_sOne (ps_sRet (pe_eT (cr_tup hK) (pp_of (pe_eU (cr_srtD hK) (pp_of (pe_fn C_begun_squares hK hT hE tk hr (by decide) rfl (pa_aSh (pe_eComp (own := [(("word" : Str), 2)]) rfl sc_word_squares.nd (pi_iSeq hK (pe_nm (pv 0))) (blkOk_by (by kernel_rfl)) (fun _ _ _ _ _ => (pg_nm (pg_name (i := 2) sc_word_squares.nd rfl (by first | exact Or.inl rfl | exact Or.inr rfl)))) (fun _ _ _ _ _ => (pts_one (pt_eCmp hK hu .eq (pe_eU (cr_len hK) (pp_nm (pv 2)) rfl T.b_len (by decide +kernel)) (pp_nm (pv 1))))) (fun _ _ _ _ _ => (pe_nm (pv 2))) rfl (by decide)) (pa_aSh (pe_nm (pv 1)) pa_aNil)))) rfl T.b_sorted (by decide +kernel))) rfl T.b_tuple (by decide +kernel)))))

theorem sc_can_go_on : FnScope [("rows" : Str), ("words" : Str), ("column" : Str), ("word" : Str)] [("rows" : Str), ("words" : Str)] (defScope st_can_go_on) := ⟨rfl, rfl, rfl, by decide +kernel, rfl, by decide +kernel, by decide +kernel⟩
theorem ok_can_go_on {f : Addr} {fd : FuncData} (T : Facts K mg) (F : FunD K ("can_go_on" : Str) ("can_go_on" : Str) (defArgs st_can_go_on) (defBody st_can_go_on) (defScope st_can_go_on) [] [] f fd)
    (C_columns_of : Callee P w K mg base Ts exc ("columns_of" : Str) 1 1 f_columns_of) :
    FnOk P w K mg base (L2.CX P w) 2 f fd [("rows" : Str), ("words" : Str)] (spF K Ts exc 2 f_can_go_on) := by
  refine fn_ev (n := 2) (nl := 2) F sc_can_go_on [false, false] rfl rfl m_can_go_on fun cdv A outer s H E G hG hT hE hr => ?_
  have hK : K = G.K := hG.symm
  have hu : (A.deeper (envOfC ("can_go_on" : Str) (defScope st_can_go_on) s.heap.objs.size f cdv)).units + 65 < cLine := by have := hr.un; omega
  have tk := takes_of (X := cxOf (L2.CX P w) P w K mg base [("rows" : Str), ("words" : Str), ("column" : Str), ("word" : Str)] ("can_go_on" : Str) (defScope st_can_go_on) f cdv A outer s H E) rfl rfl rfl rfl
  unfold m_can_go_on
  exact (pss_sOne (ps_sRet (pe_eU (cr_allD hK rfl) (pp_of (pe_eComp (own := [(("column" : Str), 2)]) rfl sc_can_go_on.nd (pi_iSeq hK (pe_fn C_columns_of hK hT hE tk hr (by decide) rfl (pa_aSh (pe_nm (pv 0)) pa_aNil))) (blkOk_by (by kernel_rfl)) (fun _ _ _ _ _ => (pg_nm (pg_name (i := 2) sc_can_go_on.nd rfl (by first | exact Or.inl rfl | exact Or.inr rfl)))) (fun _ _ _ _ _ => pts_eYes) (fun _ _ _ _ _ => (pe_eU (cr_anyD hK rfl) (pp_of (pe_eComp (own := [(("word" : Str), 3)]) rfl sc_can_go_on.nd (pi_iSeq hK (pe_nm (pv 1))) (blkOk_by (by kernel_rfl)) (fun _ _ _ _ _ => (pg_nm (pg_name (i := 3) sc_can_go_on.nd rfl (by first | exact Or.inl rfl | exact Or.inr rfl)))) (fun _ _ _ _ _ => pts_eYes) (fun _ _ _ _ _ => (pe_sw (pe_nm (pv 3)) (pp_nm (pv 2)))) rfl (by decide))) rfl T.b_any (by decide +kernel))) rfl (by decide))) rfl T.b_all (by decide +kernel))))

theorem sc_is_double : FnScope [("lexicon" : Str), ("rows" : Str), ("both" : Str), ("word" : Str)] [("lexicon" : Str), ("rows" : Str)] (defScope st_is_double) := ⟨rfl, rfl, rfl, by decide +kernel, rfl, by decide +kernel, by decide +kernel⟩
theorem ok_is_double {f : Addr} {fd : FuncData} (T : Facts K mg) (F : FunD K ("is_double" : Str) ("is_double" : Str) (defArgs st_is_double) (defBody st_is_double) (defScope st_is_double) [] [] f fd)
    (C_columns_of : Callee P w K mg base Ts exc ("columns_of" : Str) 1 1 f_columns_of) :
    FnOk P w K mg base (L2.CX P w) 2 f fd [("lexicon" : Str), ("rows" : Str)] (spF K Ts exc 2 f_is_double) := by
  refine fn_ev (n := 2) (nl := 2) F sc_is_double [false, false] rfl rfl m_is_double fun cdv A outer s H E G hG hT hE hr => ?_
  have hK : K = G.K := hG.symm
  have hu : (A.deeper (envOfC ("is_double" : Str) (defScope st_is_double) s.heap.objs.size f cdv)).units + 65 < cLine := by have := hr.un; omega
  have tk := takes_of (X := cxOf (L2.CX P w) P w K mg base [("lexicon" : Str), ("rows" : Str), ("both" : Str), ("word" : Str)] ("is_double" : Str) (defScope st_is_double) f cdv A outer s H E) rfl rfl rfl rfl
  unfold m_is_double
  exact (pss_sCons (ps_sAsg (ps_set (i := 2) sc_is_double.nd rfl (by first | exact Or.inl rfl | exact Or.inr rfl) (pe_eBin hK .add (pe_nm (pv 1)) (pp_of (pe_fn C_columns_of hK hT hE tk hr (by decide) rfl (pa_aSh (pe_nm (pv 1)) pa_aNil))))))
    (pss_sOne (ps_sFrz [2] (ps_sRet (pe_eAnd (pe_eU (cr_allD hK rfl) (pp_of (pe_eComp (own := [(("word" : Str), 3)]) rfl sc_is_double.nd (pi_iSeq hK (pe_nm (pv 2))) (blkOk_by (by kernel_rfl)) (fun _ _ _ _ _ => (pg_nm (pg_name (i := 3) sc_is_double.nd rfl (by first | exact Or.inl rfl | exact Or.inr rfl)))) (fun _ _ _ _ _ => pts_eYes) (fun _ _ _ _ _ => (pe_eCmpV hK hu .isIn (pv 3) (pp_nm (pv 0)))) rfl (by decide))) rfl T.b_all (by decide +kernel)) (pe_eOne (pe_eCmp hK hu .eq (pe_lenSetD hK rfl T.b_len T.b_set (pp_nm (pv 2))) (pp_of (pe_eU (cr_len hK) (pp_nm (pv 2)) rfl T.b_len (by decide +kernel))))))))))

theorem sc_all_doubles : FnScope [("words" : Str), ("length" : Str), ("rows" : Str), ("turn" : Str), ("longer" : Str), ("row" : Str), ("word" : Str)] [("words" : Str), ("length" : Str)] (defScope st_all_doubles) := ⟨rfl, rfl, rfl, by decide +kernel, rfl, by decide +kernel, by decide +kernel⟩
theorem ok_all_doubles {f : Addr} {fd : FuncData} (T : Facts K mg) (F : FunD K ("all_doubles" : Str) ("all_doubles" : Str) (defArgs st_all_doubles) (defBody st_all_doubles) (defScope st_all_doubles) [] [] f fd)
    (C_can_go_on : Callee P w K mg base Ts exc ("can_go_on" : Str) 2 2 f_can_go_on)
    (C_is_double : Callee P w K mg base Ts exc ("is_double" : Str) 2 2 f_is_double) :
    FnOk P w K mg base (L2.CX P w) 3 f fd [("words" : Str), ("length" : Str)] (spF K Ts exc 2 f_all_doubles) := by
  refine fn_ev (n := 2) (nl := 5) F sc_all_doubles [false, false] rfl rfl m_all_doubles fun cdv A outer s H E G hG hT hE hr => ?_
  have hK : K = G.K := hG.symm
  have hu : (A.deeper (envOfC ("all_doubles" : Str) (defScope st_all_doubles) s.heap.objs.size f cdv)).units + 65 < cLine := by have := hr.un; omega
  have tk := takes_of (X := cxOf (L2.CX P w) P w K mg base [("words" : Str), ("length" : Str), ("rows" : Str), ("turn" : Str), ("longer" : Str), ("row" : Str), ("word" : Str)] ("all_doubles" : Str) (defScope st_all_doubles) f cdv A outer s H E) rfl rfl rfl rfl
  unfold m_all_doubles
  exact (pss_sCons (ps_sAsg (ps_set (i := 2) sc_all_doubles.nd rfl (by first | exact Or.inl rfl | exact Or.inr rfl) (pe_eLst (pl_cons (pe_eTup pl_nil) pl_nil))))
    (pss_sCons (ps_sFor (passes_of rfl) rfl (pi_iRng rfl T.b_range (pe_nm (pv 1))) (pg_nm (pg_name (i := 3) sc_all_doubles.nd rfl (by first | exact Or.inl rfl | exact Or.inr rfl))) (pss_sCons (ps_sAsg (ps_set (i := 4) sc_all_doubles.nd rfl (by first | exact Or.inl rfl | exact Or.inr rfl) (pe_eLst pl_nil)))
    (pss_sCons (ps_sFrz [2] (ps_sFor (passes_of rfl) rfl (pi_iSeq hK (pe_nm (pv 2))) (pg_nm (pg_name (i := 5) sc_all_doubles.nd rfl (by first | exact Or.inl rfl | exact Or.inr rfl))) (pss_sOne (ps_sExt (ps_expr (pe_bm PySem.F.plainAttrs_list PySem.F.slot_list_extend PySem.F.type_list_extend mt_extend (pv 4) (pa_cons (pe_eComp (own := [(("word" : Str), 6)]) rfl sc_all_doubles.nd (pi_iSeq hK (pe_nm (pv 0))) (blkOk_by (by kernel_rfl)) (fun _ _ _ _ _ => (pg_nm (pg_name (i := 6) sc_all_doubles.nd rfl (by first | exact Or.inl rfl | exact Or.inr rfl)))) (fun _ _ _ _ _ => (pts_one (PW.pt (pw_eAnd (pt_eCmpV hK hu .notIn (pv 6) (pp_nm (pv 5))) (pw_eAnd1 (tB_of (pe_fn C_can_go_on hK hT hE takes0 hr (by decide) rfl (pa_aSh (pe_eTup (pl_star hK (pe_nm (pv 5)) (pl_cons (pe_nm (pv 6)) pl_nil))) (pa_aSh (pe_nm (pv 0)) pa_aNil))))))))) (fun _ _ _ _ _ => (pe_eTup (pl_star hK (pe_nm (pv 5)) (pl_cons (pe_nm (pv 6)) pl_nil)))) rfl (by decide)) pa_nil)))))))
    (pss_sOne (ps_sFrz [4] (ps_sAsg (ps_set (i := 2) sc_all_doubles.nd rfl (by first | exact Or.inl rfl | exact Or.inr rfl) (pe_nm (pv 4)))))))))
    (pss_sOne (ps_sFrz [2] (ps_sRet (pe_eComp (own := [(("row" : Str), 5)]) rfl sc_all_doubles.nd (pi_iSeq hK (pe_nm (pv 2))) (blkOk_by (by kernel_rfl)) (fun _ _ _ _ _ => (pg_nm (pg_name (i := 5) sc_all_doubles.nd rfl (by first | exact Or.inl rfl | exact Or.inr rfl)))) (fun _ _ _ _ _ => (pts_one (tB_of (pe_fn C_is_double hK hT hE takes0 hr (by decide) rfl (pa_aSh (pe_nm (pv 0)) (pa_aSh (pe_nm (pv 5)) pa_aNil)))))) (fun _ _ _ _ _ => (pe_nm (pv 5))) rfl (by decide)))))))

theorem sc_double_squares : FnScope [("lexicon" : Str), ("length" : Str), ("found" : Str), ("word" : Str), ("rows" : Str)] [("lexicon" : Str), ("length" : Str)] (defScope st_double_squares) := ⟨rfl, rfl, rfl, by decide +kernel, rfl, by decide +kernel, by decide +kernel⟩
theorem ok_double_squares {f : Addr} {fd : FuncData} (T : Facts K mg) (F : FunD K ("double_squares" : Str) ("double_squares" : Str) (defArgs st_double_squares) (defBody st_double_squares) (defScope st_double_squares) [] [] f fd)
    (C_all_doubles : Callee P w K mg base Ts exc ("all_doubles" : Str) 3 2 f_all_doubles)
    (C_columns_of : Callee P w K mg base Ts exc ("columns_of" : Str) 1 1 f_columns_of)
    (C_demand_length : Callee P w K mg base Ts exc ("demand_length" : Str) 5 2 f_demand_length) :
    FnOk P w K mg base (L2.CX P w) 6 f fd [("lexicon" : Str), ("length" : Str)] (spF K Ts exc 2 f_double_squares) := by
  refine fn_ev (n := 2) (nl := 3) F sc_double_squares [false, false] rfl rfl m_double_squares fun cdv A outer s H E G hG hT hE hr => ?_
  have hK : K = G.K := hG.symm
  have hu : (A.deeper (envOfC ("double_squares" : Str) (defScope st_double_squares) s.heap.objs.size f cdv)).units + 65 < cLine := by have := hr.un; omega
  have tk := takes_of (X := cxOf (L2.CX P w) P w K mg base [("lexicon" : Str), ("length" : Str), ("found" : Str), ("word" : Str), ("rows" : Str)] ("double_squares" : Str) (defScope st_double_squares) f cdv A outer s H E) rfl rfl rfl rfl
  unfold m_double_squares
  exact (pss_sCons (ps_sExpr (pe_fn C_demand_length hK hT hE tk hr (by decide) rfl (pa_aSh (pe_nm (pv 0)) (pa_aSh (pe_nm (pv 1)) pa_aNil))))
    (pss_sCons (ps_sAsg (ps_set (i := 2) sc_double_squares.nd rfl (by first | exact Or.inl rfl | exact Or.inr rfl) (pe_fn C_all_doubles hK hT hE tk hr (by decide) rfl (pa_aSh (pe_eComp (own := [(("word" : Str), 3)]) rfl sc_double_squares.nd (pi_iSeq hK (pe_nm (pv 0))) (blkOk_by (by kernel_rfl)) (fun _ _ _ _ _ => (pg_nm (pg_name (i := 3) sc_double_squares.nd rfl (by first | exact Or.inl rfl | exact Or.inr rfl)))) (fun _ _ _ _ _ => (pts_one (pt_eCmp hK hu .eq (pe_eU (cr_len hK) (pp_nm (pv 3)) rfl T.b_len (by decide +kernel)) (pp_nm (pv 1))))) (fun _ _ _ _ _ => (pe_nm (pv 3))) rfl (by decide)) (pa_aSh (pe_nm (pv 1)) pa_aNil)))))
    (pss_sOne (ps_sFrz [2] (ps_sRet (pe_eT (cr_tup hK) (pp_of (pe_eU (cr_srtD hK) (pp_of (pe_eComp (own := [(("rows" : Str), 4)]) rfl sc_double_squares.nd (pi_iSeq hK (pe_nm (pv 2))) (blkOk_by (by kernel_rfl)) (fun _ _ _ _ _ => (pg_nm (pg_name (i := 4) sc_double_squares.nd rfl (by first | exact Or.inl rfl | exact Or.inr rfl)))) (fun _ _ _ _ _ => (pts_one (pt_eCmpV hK hu .lt (pv 4) (pp_of (pe_fn C_columns_of hK hT hE takes0 hr (by decide) rfl (pa_aSh (pe_nm (pv 4)) pa_aNil)))))) (fun _ _ _ _ _ => (pe_nm (pv 4))) rfl (by decide))) rfl T.b_sorted (by decide +kernel))) rfl T.b_tuple (by decide +kernel)))))))

theorem sc_are_rows : FnScope [("value" : Str), ("word" : Str)] [("value" : Str)] (defScope st_are_rows) := ⟨rfl, rfl, rfl, by decide +kernel, rfl, by decide +kernel, by decide +kernel⟩
theorem ok_are_rows {f : Addr} {fd : FuncData} (T : Facts K mg) (F : FunD K ("are_rows" : Str) ("are_rows" : Str) (defArgs st_are_rows) (defBody st_are_rows) (defScope st_are_rows) [] [] f fd)
    (C_is_tuple : Callee P w K mg base Ts exc ("is_tuple" : Str) 1 3 f_is_tuple)
    (C_is_word : Callee P w K mg base Ts exc ("is_word" : Str) 2 1 f_is_word) :
    FnOk P w K mg base (L2.CX P w) 3 f fd [("value" : Str)] (spF K Ts exc 1 f_are_rows) := by
  refine fn_ev (n := 1) (nl := 1) F sc_are_rows [false] rfl rfl m_are_rows fun cdv A outer s H E G hG hT hE hr => ?_
  have hK : K = G.K := hG.symm
  have hu : (A.deeper (envOfC ("are_rows" : Str) (defScope st_are_rows) s.heap.objs.size f cdv)).units + 65 < cLine := by have := hr.un; omega
  have tk := takes_of (X := cxOf (L2.CX P w) P w K mg base [("value" : Str), ("word" : Str)] ("are_rows" : Str) (defScope st_are_rows) f cdv A outer s H E) rfl rfl rfl rfl
  unfold m_are_rows
  exact (pss_sCons (ps_sIf (PW.pt (pw_eOr (pt_eNot (tB_of (pe_fn C_is_tuple hK hT hE tk hr (by decide) rfl (pa_aSh (pe_nm (pv 0)) (pa_aSh (pe_gc rfl T.LEAST_SIDE) (pa_aSh (pe_gc rfl T.MOST_SIDE) pa_aNil)))))) (pw_eOr1 (pt_eNot (tB_of (pe_eU (cr_allD hK rfl) (pp_of (pe_eComp (own := [(("word" : Str), 1)]) rfl sc_are_rows.nd (pi_iSeq hK (pe_nm (pv 0))) (blkOk_by (by kernel_rfl)) (fun _ _ _ _ _ => (pg_nm (pg_name (i := 1) sc_are_rows.nd rfl (by first | exact Or.inl rfl | exact Or.inr rfl)))) (fun _ _ _ _ _ => pts_eYes) (fun _ _ _ _ _ => (pe_fn C_is_word hK hT hE takes0 hr (by decide) rfl (pa_aSh (pe_nm (pv 1)) pa_aNil))) rfl (by decide))) rfl T.b_all (by decide +kernel))))))) (pss_sOne (ps_sRet pe_cb)) pss_sNil)
    (pss_sOne (ps_sRet (pe_eU (cr_allD hK rfl) (pp_of (pe_eComp (own := [(("word" : Str), 1)]) rfl sc_are_rows.nd (pi_iSeq hK (pe_nm (pv 0))) (blkOk_by (by kernel_rfl)) (fun _ _ _ _ _ => (pg_nm (pg_name (i := 1) sc_are_rows.nd rfl (by first | exact Or.inl rfl | exact Or.inr rfl)))) (fun _ _ _ _ _ => pts_eYes) (fun _ _ _ _ _ => (pe_eCmp hK hu .eq (pe_eU (cr_len hK) (pp_nm (pv 1)) rfl T.b_len (by decide +kernel)) (pp_of (pe_eU (cr_len hK) (pp_nm (pv 0)) rfl T.b_len (by decide +kernel))))) rfl (by decide))) rfl T.b_all (by decide +kernel)))))

theorem sc_is_word_square : FnScope [("lexicon" : Str), ("value" : Str), ("word" : Str)] [("lexicon" : Str), ("value" : Str)] (defScope st_is_word_square) := ⟨rfl, rfl, rfl, by decide +kernel, rfl, by decide +kernel, by decide +kernel⟩
theorem ok_is_word_square {f : Addr} {fd : FuncData} (T : Facts K mg) (F : FunD K ("is_word_square" : Str) ("is_word_square" : Str) (defArgs st_is_word_square) (defBody st_is_word_square) (defScope st_is_word_square) [] [] f fd)
    (C_are_rows : Callee P w K mg base Ts exc ("are_rows" : Str) 3 1 f_are_rows)
    (C_columns_of : Callee P w K mg base Ts exc ("columns_of" : Str) 1 1 f_columns_of)
    (C_demand : Callee P w K mg base Ts exc ("demand" : Str) 4 2 f_demand)
    (C_is_lexicon : Callee P w K mg base Ts exc ("is_lexicon" : Str) 3 1 f_is_lexicon) :
    FnOk P w K mg base (L2.CX P w) 5 f fd [("lexicon" : Str), ("value" : Str)] (spF K Ts exc 2 f_is_word_square) := by
  refine fn_ev (n := 2) (nl := 1) F sc_is_word_square [false, false] rfl rfl m_is_word_square fun cdv A outer s H E G hG hT hE hr => ?_
  have hK : K = G.K := hG.symm
  have hu : (A.deeper (envOfC ("is_word_square" : Str) (defScope st_is_word_square) s.heap.objs.size f cdv)).units + 65 < cLine := by have := hr.un; omega
  have tk := takes_of (X := cxOf (L2.CX P w) P w K mg base [("lexicon" : Str), ("value" : Str), ("word" : Str)] ("is_word_square" : Str) (defScope st_is_word_square) f cdv A outer s H E) rfl rfl rfl rfl
  unfold m_is_word_square
  exact (pss_sCons (ps_sExpr (pe_fn C_demand hK hT hE tk hr (by decide) rfl (pa_aSh (pe_fn C_is_lexicon hK hT hE tk hr (by decide) rfl (pa_aSh (pe_nm (pv 0)) pa_aNil)) (pa_aSh pe_cs pa_aNil))))
    (pss_sOne (ps_sRet (pe_eAnd (pe_fn C_are_rows hK hT hE tk hr (by decide) rfl (pa_aSh (pe_nm (pv 1)) pa_aNil)) (pe_eAnd (pe_eU (cr_allD hK rfl) (pp_of (pe_eComp (own := [(("word" : Str), 2)]) rfl sc_is_word_square.nd (pi_iSeq hK (pe_nm (pv 1))) (blkOk_by (by kernel_rfl)) (fun _ _ _ _ _ => (pg_nm (pg_name (i := 2) sc_is_word_square.nd rfl (by first | exact Or.inl rfl | exact Or.inr rfl)))) (fun _ _ _ _ _ => pts_eYes) (fun _ _ _ _ _ => (pe_eCmpV hK hu .isIn (pv 2) (pp_nm (pv 0)))) rfl (by decide))) rfl T.b_all (by decide +kernel)) (pe_eOne (pe_eCmp hK hu .eq (pe_fn C_columns_of hK hT hE tk hr (by decide) rfl (pa_aSh (pe_nm (pv 1)) pa_aNil)) (pp_nm (pv 1)))))))))

theorem sc_is_double_square : FnScope [("lexicon" : Str), ("value" : Str)] [("lexicon" : Str), ("value" : Str)] (defScope st_is_double_square) := ⟨rfl, rfl, rfl, by decide +kernel, rfl, by decide +kernel, by decide +kernel⟩
theorem ok_is_double_square {f : Addr} {fd : FuncData} (T : Facts K mg) (F : FunD K ("is_double_square" : Str) ("is_double_square" : Str) (defArgs st_is_double_square) (defBody st_is_double_square) (defScope st_is_double_square) [] [] f fd)
    (C_are_rows : Callee P w K mg base Ts exc ("are_rows" : Str) 3 1 f_are_rows)
    (C_demand : Callee P w K mg base Ts exc ("demand" : Str) 4 2 f_demand)
    (C_is_double : Callee P w K mg base Ts exc ("is_double" : Str) 2 2 f_is_double)
    (C_is_lexicon : Callee P w K mg base Ts exc ("is_lexicon" : Str) 3 1 f_is_lexicon) :
    FnOk P w K mg base (L2.CX P w) 5 f fd [("lexicon" : Str), ("value" : Str)] (spF K Ts exc 2 f_is_double_square) := by
  refine fn_ev (n := 2) (nl := 0) F sc_is_double_square [false, false] rfl rfl m_is_double_square fun cdv A outer s H E G hG hT hE hr => ?_
  have hK : K = G.K := hG.symm
  have hu : (A.deeper (envOfC ("is_double_square" : Str) (defScope st_is_double_square) s.heap.objs.size f cdv)).units + 65 < cLine := by have := hr.un; omega
  have tk := takes_of (X := cxOf (L2.CX P w) P w K mg base [("lexicon" : Str), ("value" : Str)] ("is_double_square" : Str) (defScope st_is_double_square) f cdv A outer s H E) rfl rfl rfl rfl
  unfold m_is_double_square
  exact (pss_sCons (ps_sExpr (pe_fn C_demand hK hT hE tk hr (by decide) rfl (pa_aSh (pe_fn C_is_lexicon hK hT hE tk hr (by decide) rfl (pa_aSh (pe_nm (pv 0)) pa_aNil)) (pa_aSh pe_cs pa_aNil))))
    (pss_sOne (ps_sRet (pe_eAnd (pe_fn C_are_rows hK hT hE tk hr (by decide) rfl (pa_aSh (pe_nm (pv 1)) pa_aNil)) (pe_eOne (pe_fn C_is_double hK hT hE tk hr (by decide) rfl (pa_aSh (pe_nm (pv 0)) (pa_aSh (pe_nm (pv 1)) pa_aNil))))))))

theorem sc_law_dice : FnScope [("script" : Str), ("spot" : Str), ("own" : Str), ("mixed" : Str), ("cell" : Str)] [("script" : Str), ("spot" : Str)] (defScope st_law_dice) := ⟨rfl, rfl, rfl, by decide +kernel, rfl, by decide +kernel, by decide +kernel⟩
theorem ok_law_dice {f : Addr} {fd : FuncData} (T : Facts K mg) (F : FunD K ("_law_dice" : Str) ("_law_dice" : Str) (defArgs st_law_dice) (defBody st_law_dice) (defScope st_law_dice) [] [] f fd) :
    FnOk P w K mg base (L2.CX P w) 1 f fd [("script" : Str), ("spot" : Str)] (spF K Ts exc 2 f_law_dice) := by
  refine fn_ev (n := 2) (nl := 3) F sc_law_dice [false, false] rfl rfl m_law_dice fun cdv A outer s H E G hG hT hE hr => ?_
  have hK : K = G.K := hG.symm
  have hu : (A.deeper (envOfC ("_law_dice" : Str) (defScope st_law_dice) s.heap.objs.size f cdv)).units + 65 < cLine := by have := hr.un; omega
  have tk := takes_of (X := cxOf (L2.CX P w) P w K mg base [("script" : Str), ("spot" : Str), ("own" : Str), ("mixed" : Str), ("cell" : Str)] ("_law_dice" : Str) (defScope st_law_dice) f cdv A outer s H E) rfl rfl rfl rfl
  unfold m_law_dice
  exact (pss_sCons (ps_sAsg (ps_set (i := 2) sc_law_dice.nd rfl (by first | exact Or.inl rfl | exact Or.inr rfl) (pe_eIf (pt_eCmpV hK hu .lt (pv 1) (pp_of (pe_eU (cr_len hK) (pp_nm (pv 0)) rfl T.b_len (by decide +kernel)))) (pe_eIdxV hK (pv 0) (pe_nm (pv 1))) (pe_eBin hK .add (pe_eBin hK .mul pe_ci (pp_nm (pv 1))) (pp_of pe_ci)))))
    (pss_sCons (ps_sAsg (ps_set (i := 3) sc_law_dice.nd rfl (by first | exact Or.inl rfl | exact Or.inr rfl) (pe_eBin hK .add pe_ci (pp_of (pe_eBin hK .mul pe_ci (pp_nm (pv 1)))))))
    (pss_sCons (ps_sFrz [2] (ps_sFor (passes_of rfl) rfl (pi_iSeq hK (pe_eBin hK .add (pe_eSlc hK (pe_nm (pv 0)) po_oNone (po_oSome (W := WF) pe_ci)) (pp_of (pe_eLst (pl_cons (pe_nm (pv 2)) pl_nil))))) (pg_nm (pg_name (i := 4) sc_law_dice.nd rfl (by first | exact Or.inl rfl | exact Or.inr rfl))) (pss_sOne (ps_sFrz [3] (ps_sAsg (ps_set (i := 3) sc_law_dice.nd rfl (by first | exact Or.inl rfl | exact Or.inr rfl) (pe_eBin hK .mod (pe_eT (cr_intD) (pp_of (pe_eBin hK .add (pe_eBin hK .mul (pe_nm (pv 3)) (pp_of pe_ci)) (pp_of (pe_eBin hK .mod (pe_eT (cr_intD) (pp_nm (pv 4)) rfl T.b_int (by decide +kernel)) (pp_of pe_ci))))) rfl T.b_int (by decide +kernel)) (pp_of pe_ci))))))))
    (pss_sOne (ps_sFrz [3] (ps_sRet (pe_eLst (pl_cons (pe_eIf (PW.pt (pw_eOr (pt_eCmpV hK hu .lt (pv 2) (pp_of pe_ci)) (pw_eOr1 (pt_eCmpV hK hu .ge (pv 2) (pp_of (pe_eBin hK .pow pe_ci (pp_of pe_ci))))))) (pe_eU (cr_absD) (pp_nm (pv 2)) rfl T.b_abs (by decide +kernel)) pe_ci) (pl_cons (pe_nm (pv 3)) (pl_cons pe_ci pl_nil))))))))))

theorem sc_law_roll : FnScope [("dice" : Str), ("total" : Str), ("found" : Str)] [("dice" : Str), ("total" : Str)] (defScope st_law_roll) := ⟨rfl, rfl, rfl, by decide +kernel, rfl, by decide +kernel, by decide +kernel⟩
theorem ok_law_roll {f : Addr} {fd : FuncData} (T : Facts K mg) (F : FunD K ("_law_roll" : Str) ("_law_roll" : Str) (defArgs st_law_roll) (defBody st_law_roll) (defScope st_law_roll) [] [] f fd) :
    FnOk P w K mg base (L2.CX P w) 1 f fd [("dice" : Str), ("total" : Str)] (spF K Ts exc 2 f_law_roll) := by
  refine fn_ev (n := 2) (nl := 1) F sc_law_roll [true, false] rfl rfl m_law_roll fun cdv A outer s H E G hG hT hE hr => ?_
  have hK : K = G.K := hG.symm
  have hu : (A.deeper (envOfC ("_law_roll" : Str) (defScope st_law_roll) s.heap.objs.size f cdv)).units + 65 < cLine := by have := hr.un; omega
  have tk := takes_of (X := cxOf (L2.CX P w) P w K mg base [("dice" : Str), ("total" : Str), ("found" : Str)] ("_law_roll" : Str) (defScope st_law_roll) f cdv A outer s H E) rfl rfl rfl rfl
  unfold m_law_roll
  exact (pss_sCons (ps_sIf (pt_eCmp hK hu .gt (pe_eIdxV hK (pv 0) pe_ci) (pp_of pe_ci)) (pss_sCons (ps_sAsg (ps_set (i := 2) sc_law_roll.nd rfl (by first | exact Or.inl rfl | exact Or.inr rfl) (pe_eBin hK .mod (pe_eT (cr_intD) (pp_of (pe_eIdxV hK (pv 0) pe_ci)) rfl T.b_int (by decide +kernel)) (pp_nm (pv 1)))))
    (pss_sCons (ps_sSetI (ps_asg (pe_eBin hK .fdiv (pe_eIdxV hK (pv 0) pe_ci) (pp_nm (pv 1))) (pg_sub (pv 0) pe_ci set_list)))
    (pss_sOne (ps_sRet (pe_nm (pv 2)))))) pss_sNil)
    (pss_sCons (ps_sSetI (ps_asg (pe_eBin hK .add (pe_eIdxV hK (pv 0) pe_ci) (pp_of pe_ci)) (pg_sub (pv 0) pe_ci set_list)))
    (pss_sCons (ps_sSetI (ps_asg (pe_eBin hK .mod (pe_eT (cr_intD) (pp_of (pe_eBin hK .add (pe_eBin hK .add (pe_eBin hK .mul (pe_eIdxV hK (pv 0) pe_ci) (pp_of pe_ci)) (pp_of (pe_eBin hK .mul (pe_eBin hK .mul (pe_eIdxV hK (pv 0) pe_ci) (pp_of (pe_eIdxV hK (pv 0) pe_ci))) (pp_of pe_ci)))) (pp_of pe_ci))) rfl T.b_int (by decide +kernel)) (pp_of pe_ci)) (pg_sub (pv 0) pe_ci set_list)))
    (pss_sOne (ps_sRet (pe_eBin hK .mod (pe_eT (cr_intD) (pp_of (pe_eBin hK .fdiv (pe_eIdxV hK (pv 0) pe_ci) (pp_of pe_ci))) rfl T.b_int (by decide +kernel)) (pp_nm (pv 1))))))))

theorem sc_law_pick : FnScope [("dice" : Str), ("things" : Str)] [("dice" : Str), ("things" : Str)] (defScope st_law_pick) := ⟨rfl, rfl, rfl, by decide +kernel, rfl, by decide +kernel, by decide +kernel⟩
theorem ok_law_pick {f : Addr} {fd : FuncData} (T : Facts K mg) (F : FunD K ("_law_pick" : Str) ("_law_pick" : Str) (defArgs st_law_pick) (defBody st_law_pick) (defScope st_law_pick) [] [] f fd)
    (C_law_roll : Callee P w K mg base Ts exc ("_law_roll" : Str) 1 2 f_law_roll) :
    FnOk P w K mg base (L2.CX P w) 2 f fd [("dice" : Str), ("things" : Str)] (spF K Ts exc 2 f_law_pick) := by
  refine fn_ev (n := 2) (nl := 0) F sc_law_pick [true, false] rfl rfl m_law_pick fun cdv A outer s H E G hG hT hE hr => ?_
  have hK : K = G.K := hG.symm
  have hu : (A.deeper (envOfC ("_law_pick" : Str) (defScope st_law_pick) s.heap.objs.size f cdv)).units + 65 < cLine := by have := hr.un; omega
  have tk := takes_of (X := cxOf (L2.CX P w) P w K mg base [("dice" : Str), ("things" : Str)] ("_law_pick" : Str) (defScope st_law_pick) f cdv A outer s H E) rfl rfl rfl rfl
  unfold m_law_pick
  exact (pss_sOne (ps_sRet (pe_eIdxV hK (pv 1) (pe_fn C_law_roll hK hT hE tk hr (by decide) rfl (pa_aByr (pv 0) (pa_aSh (pe_eU (cr_len hK) (pp_nm (pv 1)) rfl T.b_len (by decide +kernel)) pa_aNil))))))

theorem sc_law_g_word : FnScope [("dice" : Str), ("letters" : Str), ("least" : Str), ("most" : Str), ("sign" : Str)] [("dice" : Str), ("letters" : Str), ("least" : Str), ("most" : Str)] (defScope st_law_g_word) := ⟨rfl, rfl, rfl, by decide +kernel, rfl, by decide +kernel, by decide +kernel⟩
theorem ok_law_g_word {f : Addr} {fd : FuncData} (T : Facts K mg) (F : FunD K ("_law_g_word" : Str) ("_law_g_word" : Str) (defArgs st_law_g_word) (defBody st_law_g_word) (defScope st_law_g_word) [] [] f fd)
    (C_law_pick : Callee P w K mg base Ts exc ("_law_pick" : Str) 2 2 f_law_pick)
    (C_law_roll : Callee P w K mg base Ts exc ("_law_roll" : Str) 1 2 f_law_roll) :
    FnOk P w K mg base (L2.CX P w) 3 f fd [("dice" : Str), ("letters" : Str), ("least" : Str), ("most" : Str)] (spF K Ts exc 4 f_law_g_word) := by
  refine fn_ev (n := 4) (nl := 1) F sc_law_g_word [true, false, false, false] rfl rfl m_law_g_word fun cdv A outer s H E G hG hT hE hr => ?_
  have hK : K = G.K := hG.symm
  have hu : (A.deeper (envOfC ("_law_g_word" : Str) (defScope st_law_g_word) s.heap.objs.size f cdv)).units + 65 < cLine := by have := hr.un; omega
  have tk := takes_of (X := cxOf (L2.CX P w) P w K mg base [("dice" : Str), ("letters" : Str), ("least" : Str), ("most" : Str), ("sign" : Str)] ("_law_g_word" : Str) (defScope st_law_g_word) f cdv A outer s H E) rfl rfl rfl rfl
  unfold m_law_g_word
  exact (pss_sOne (ps_sRet (pe_join2 hK pe_cs (pp_of (pe_eComp (own := [(("sign" : Str), 4)]) rfl sc_law_g_word.nd (pi_iRng rfl T.b_range (pe_eBin hK .add (pe_nm (pv 2)) (pp_of (pe_fn C_law_roll hK hT hE tk hr (by decide) rfl (pa_aByr (pv 0) (pa_aSh (pe_eBin hK .add (pe_eBin hK .sub (pe_nm (pv 3)) (pp_nm (pv 2))) (pp_of pe_ci)) pa_aNil)))))) (blkOk_by (by kernel_rfl)) (fun _ _ _ _ _ => (pg_nm (pg_name (i := 4) sc_law_g_word.nd rfl (by first | exact Or.inl rfl | exact Or.inr rfl)))) (fun _ _ _ _ _ => pts_eYes) (fun _ _ _ _ _ => (pe_fn C_law_pick hK hT hE takes0 hr (by decide) rfl (pa_aByr (pv 0) (pa_aSh (pe_eT (cr_lst hK rfl) (pp_nm (pv 1)) rfl T.b_list (by decide +kernel)) pa_aNil)))) rfl (by decide))))))

theorem sc_law_g_lexicon : FnScope [("dice" : Str), ("letters" : Str), ("least" : Str), ("most" : Str), ("many" : Str), ("word" : Str)] [("dice" : Str), ("letters" : Str), ("least" : Str), ("most" : Str), ("many" : Str)] (defScope st_law_g_lexicon) := ⟨rfl, rfl, rfl, by decide +kernel, rfl, by decide +kernel, by decide +kernel⟩
theorem ok_law_g_lexicon {f : Addr} {fd : FuncData} (T : Facts K mg) (F : FunD K ("_law_g_lexicon" : Str) ("_law_g_lexicon" : Str) (defArgs st_law_g_lexicon) (defBody st_law_g_lexicon) (defScope st_law_g_lexicon) [] [] f fd)
    (C_law_g_word : Callee P w K mg base Ts exc ("_law_g_word" : Str) 3 4 f_law_g_word)
    (C_law_roll : Callee P w K mg base Ts exc ("_law_roll" : Str) 1 2 f_law_roll) :
    FnOk P w K mg base (L2.CX P w) 4 f fd [("dice" : Str), ("letters" : Str), ("least" : Str), ("most" : Str), ("many" : Str)] (spF K Ts exc 5 f_law_g_lexicon) := by
  refine fn_ev (n := 5) (nl := 1) F sc_law_g_lexicon [true, false, false, false, false] rfl rfl m_law_g_lexicon fun cdv A outer s H E G hG hT hE hr => ?_
  have hK : K = G.K := hG.symm
  have hu : (A.deeper (envOfC ("_law_g_lexicon" : Str) (defScope st_law_g_lexicon) s.heap.objs.size f cdv)).units + 65 < cLine := by have := hr.un; omega
  have tk := takes_of (X := cxOf (L2.CX P w) P w K mg base [("dice" : Str), ("letters" : Str), ("least" : Str), ("most" : Str), ("many" : Str), ("word" : Str)] ("_law_g_lexicon" : Str) (defScope st_law_g_lexicon) f cdv A outer s H E) rfl rfl rfl rfl
  unfold m_law_g_lexicon
  exact (pss_sOne (ps_sRet (pe_eT (cr_tup hK) (pp_of (pe_srtSet hK rfl T.b_sorted T.b_set (pp_of (pe_eComp (own := [(("word" : Str), 5)]) rfl sc_law_g_lexicon.nd (pi_iRng rfl T.b_range (pe_eBin hK .add pe_ci (pp_of (pe_fn C_law_roll hK hT hE tk hr (by decide) rfl (pa_aByr (pv 0) (pa_aSh (pe_nm (pv 4)) pa_aNil)))))) (blkOk_by (by kernel_rfl)) (fun _ _ _ _ _ => (pg_nm (pg_name (i := 5) sc_law_g_lexicon.nd rfl (by first | exact Or.inl rfl | exact Or.inr rfl)))) (fun _ _ _ _ _ => pts_eYes) (fun _ _ _ _ _ => (pe_fn C_law_g_word hK hT hE takes0 hr (by decide) rfl (pa_aByr (pv 0) (pa_aSh (pe_nm (pv 1)) (pa_aSh (pe_nm (pv 2)) (pa_aSh (pe_nm (pv 3)) pa_aNil)))))) rfl (by decide))))) rfl T.b_tuple (by decide +kernel))))

theorem sc_law_g_wrong : FnScope [("dice" : Str)] [("dice" : Str)] (defScope st_law_g_wrong) := ⟨rfl, rfl, rfl, by decide +kernel, rfl, by decide +kernel, by decide +kernel⟩
theorem ok_law_g_wrong {f : Addr} {fd : FuncData} (T : Facts K mg) (F : FunD K ("_law_g_wrong" : Str) ("_law_g_wrong" : Str) (defArgs st_law_g_wrong) (defBody st_law_g_wrong) (defScope st_law_g_wrong) [] [] f fd)
    (C_law_pick : Callee P w K mg base Ts exc ("_law_pick" : Str) 2 2 f_law_pick) :
    FnOk P w K mg base (L2.CX P w) 3 f fd [("dice" : Str)] (spF K Ts exc 1 f_law_g_wrong) := by
  refine fn_ev (n := 1) (nl := 0) F sc_law_g_wrong [true] rfl rfl m_law_g_wrong fun cdv A outer s H E G hG hT hE hr => ?_
  have hK : K = G.K := hG.symm
  have hu : (A.deeper (envOfC ("_law_g_wrong" : Str) (defScope st_law_g_wrong) s.heap.objs.size f cdv)).units + 65 < cLine := by have := hr.un; omega
  have tk := takes_of (X := cxOf (L2.CX P w) P w K mg base [("dice" : Str)] ("_law_g_wrong" : Str) (defScope st_law_g_wrong) f cdv A outer s H E) rfl rfl rfl rfl
  unfold m_law_g_wrong
  exact (pss_sOne (ps_sRet (pe_fn C_law_pick hK hT hE tk hr (by decide) rfl (pa_aByr (pv 0) (pa_aSh (pe_eLst (pl_cons pe_cn (pl_cons (pe_eTup pl_nil) (pl_cons (pe_eLst (pl_cons pe_cs pl_nil)) (pl_cons (pe_eTup (pl_cons pe_cs pl_nil)) (pl_cons (pe_eTup (pl_cons pe_cs (pl_cons pe_cs pl_nil))) (pl_cons (pe_eTup (pl_cons pe_cs (pl_cons pe_cs pl_nil))) (pl_cons (pe_eTup (pl_cons pe_cs pl_nil)) (pl_cons (pe_eTup (pl_cons pe_cs pl_nil)) (pl_cons (pe_eTup (pl_cons pe_ci pl_nil)) (pl_cons pe_cs pl_nil))))))))))) pa_aNil)))))

theorem sc_law_columns : FnScope [("rows" : Str), ("at" : Str), ("row" : Str)] [("rows" : Str)] (defScope st_law_columns) := ⟨rfl, rfl, rfl, by decide +kernel, rfl, by decide +kernel, by decide +kernel⟩
theorem ok_law_columns {f : Addr} {fd : FuncData} (T : Facts K mg) (F : FunD K ("_law_columns" : Str) ("_law_columns" : Str) (defArgs st_law_columns) (defBody st_law_columns) (defScope st_law_columns) [] [] f fd) :
    FnOk P w K mg base (L2.CX P w) 1 f fd [("rows" : Str)] (spF K Ts exc 1 f_law_columns) := by
  refine fn_ev (n := 1) (nl := 2) F sc_law_columns [false] rfl rfl m_law_columns fun cdv A outer s H E G hG hT hE hr => ?_
  have hK : K = G.K := hG.symm
  have hu : (A.deeper (envOfC ("_law_columns" : Str) (defScope st_law_columns) s.heap.objs.size f cdv)).units + 65 < cLine := by have := hr.un; omega
  have tk := takes_of (X := cxOf (L2.CX P w) P w K mg base [("rows" : Str), ("at" : Str), ("row" : Str)] ("_law_columns" : Str) (defScope st_law_columns) f cdv A outer s H E) rfl rfl rfl rfl
  unfold m_law_columns
  exact (pss_sOne (ps_sRet (pe_eT (cr_tup hK) (pp_of (pe_eComp (own := [(("at" : Str), 1)]) rfl sc_law_columns.nd (pi_iRng rfl T.b_range (pe_eU (cr_len hK) (pp_of (pe_eIdxV hK (pv 0) pe_ci)) rfl T.b_len (by decide +kernel))) (blkOk_by (by kernel_rfl)) (fun _ _ _ _ _ => (pg_nm (pg_name (i := 1) sc_law_columns.nd rfl (by first | exact Or.inl rfl | exact Or.inr rfl)))) (fun _ _ _ _ _ => pts_eYes) (fun _ _ _ _ _ => (pe_join2 hK pe_cs (pp_of (pe_eComp (own := [(("row" : Str), 2)]) rfl sc_law_columns.nd (pi_iSeq hK (pe_nm (pv 0))) (blkOk_by (by kernel_rfl)) (fun _ _ _ _ _ => (pg_nm (pg_name (i := 2) sc_law_columns.nd rfl (by first | exact Or.inl rfl | exact Or.inr rfl)))) (fun _ _ _ _ _ => pts_eYes) (fun _ _ _ _ _ => (pe_eIdxV hK (pv 2) (pe_nm (pv 1)))) rfl (by decide))))) rfl (by decide))) rfl T.b_tuple (by decide +kernel))))

theorem sc_law_tuples : FnScope [("words" : Str), ("length" : Str), ("rows" : Str), ("turn" : Str), ("longer" : Str), ("row" : Str), ("word" : Str)] [("words" : Str), ("length" : Str)] (defScope st_law_tuples) := ⟨rfl, rfl, rfl, by decide +kernel, rfl, by decide +kernel, by decide +kernel⟩
theorem ok_law_tuples {f : Addr} {fd : FuncData} (T : Facts K mg) (F : FunD K ("_law_tuples" : Str) ("_law_tuples" : Str) (defArgs st_law_tuples) (defBody st_law_tuples) (defScope st_law_tuples) [] [] f fd) :
    FnOk P w K mg base (L2.CX P w) 1 f fd [("words" : Str), ("length" : Str)] (spF K Ts exc 2 f_law_tuples) := by
  refine fn_ev (n := 2) (nl := 5) F sc_law_tuples [false, false] rfl rfl m_law_tuples fun cdv A outer s H E G hG hT hE hr => ?_
  have hK : K = G.K := hG.symm
  have hu : (A.deeper (envOfC ("_law_tuples" : Str) (defScope st_law_tuples) s.heap.objs.size f cdv)).units + 65 < cLine := by have := hr.un; omega
  have tk := takes_of (X := cxOf (L2.CX P w) P w K mg base [("words" : Str), ("length" : Str), ("rows" : Str), ("turn" : Str), ("longer" : Str), ("row" : Str), ("word" : Str)] ("_law_tuples" : Str) (defScope st_law_tuples) f cdv A outer s H E) rfl rfl rfl rfl
  unfold m_law_tuples
  exact (pss_sCons (ps_sAsg (ps_set (i := 2) sc_law_tuples.nd rfl (by first | exact Or.inl rfl | exact Or.inr rfl) (pe_eLst (pl_cons (pe_eTup pl_nil) pl_nil))))
    (pss_sCons (ps_sFor (passes_of rfl) rfl (pi_iRng rfl T.b_range (pe_nm (pv 1))) (pg_nm (pg_name (i := 3) sc_law_tuples.nd rfl (by first | exact Or.inl rfl | exact Or.inr rfl))) (pss_sCons (ps_sAsg (ps_set (i := 4) sc_law_tuples.nd rfl (by first | exact Or.inl rfl | exact Or.inr rfl) (pe_eLst pl_nil)))
    (pss_sCons (ps_sFrz [2] (ps_sFor (passes_of rfl) rfl (pi_iSeq hK (pe_nm (pv 2))) (pg_nm (pg_name (i := 5) sc_law_tuples.nd rfl (by first | exact Or.inl rfl | exact Or.inr rfl))) (pss_sOne (ps_sFrz [4] (ps_sAsg (ps_set (i := 4) sc_law_tuples.nd rfl (by first | exact Or.inl rfl | exact Or.inr rfl) (pe_eBin hK .add (pe_nm (pv 4)) (pp_of (pe_eComp (own := [(("word" : Str), 6)]) rfl sc_law_tuples.nd (pi_iSeq hK (pe_nm (pv 0))) (blkOk_by (by kernel_rfl)) (fun _ _ _ _ _ => (pg_nm (pg_name (i := 6) sc_law_tuples.nd rfl (by first | exact Or.inl rfl | exact Or.inr rfl)))) (fun _ _ _ _ _ => pts_eYes) (fun _ _ _ _ _ => (pe_eBin hK .add (pe_nm (pv 5)) (pp_of (pe_eTup (pl_cons (pe_nm (pv 6)) pl_nil))))) rfl (by decide))))))))))
    (pss_sOne (ps_sFrz [4] (ps_sAsg (ps_set (i := 2) sc_law_tuples.nd rfl (by first | exact Or.inl rfl | exact Or.inr rfl) (pe_nm (pv 4)))))))))
    (pss_sOne (ps_sFrz [2] (ps_sRet (pe_nm (pv 2)))))))

theorem sc_law_is_square : FnScope [("lexicon" : Str), ("value" : Str), ("is_double_v" : Str), ("both" : Str), ("word" : Str)] [("lexicon" : Str), ("value" : Str), ("is_double_v" : Str)] (defScope st_law_is_square) := ⟨rfl, rfl, rfl, by decide +kernel, rfl, by decide +kernel, by decide +kernel⟩
theorem ok_law_is_square {f : Addr} {fd : FuncData} (T : Facts K mg) (F : FunD K ("_law_is_square" : Str) ("_law_is_square" : Str) (defArgs st_law_is_square) (defBody st_law_is_square) (defScope st_law_is_square) [] [] f fd)
    (C_law_columns : Callee P w K mg base Ts exc ("_law_columns" : Str) 1 1 f_law_columns) :
    FnOk P w K mg base (L2.CX P w) 2 f fd [("lexicon" : Str), ("value" : Str), ("is_double_v" : Str)] (spF K Ts exc 3 f_law_is_square) := by
  refine fn_ev (n := 3) (nl := 2) F sc_law_is_square [false, false, false] rfl rfl m_law_is_square fun cdv A outer s H E G hG hT hE hr => ?_
  have hK : K = G.K := hG.symm
  have hu : (A.deeper (envOfC ("_law_is_square" : Str) (defScope st_law_is_square) s.heap.objs.size f cdv)).units + 65 < cLine := by have := hr.un; omega
  have tk := takes_of (X := cxOf (L2.CX P w) P w K mg base [("lexicon" : Str), ("value" : Str), ("is_double_v" : Str), ("both" : Str), ("word" : Str)] ("_law_is_square" : Str) (defScope st_law_is_square) f cdv A outer s H E) rfl rfl rfl rfl
  unfold m_law_is_square
  exact (pss_sCons (ps_sIf (PW.pt (pw_eOr (pt_eNot (tB_of (pe_isi hK (by decide) (pp_nm (pv 1)) rfl T.b_isinstance rfl T.b_tuple (by decide +kernel)))) (pw_eOr (pt_eNot (pt_eChn hK hu .le .le pe_ci (pe_eU (cr_len hK) (pp_nm (pv 1)) rfl T.b_len (by decide +kernel)) (pp_of pe_ci))) (pw_eOr1 (pt_eCmp hK hu .ne (pe_eComp (own := [(("word" : Str), 4)]) rfl sc_law_is_square.nd (pi_iSeq hK (pe_nm (pv 1))) (blkOk_by (by kernel_rfl)) (fun _ _ _ _ _ => (pg_nm (pg_name (i := 4) sc_law_is_square.nd rfl (by first | exact Or.inl rfl | exact Or.inr rfl)))) (fun _ _ _ _ _ => (pts_one (PW.pt (pw_eOr (pt_eNot (tB_of (pe_isi hK (by decide) (pp_nm (pv 4)) rfl T.b_isinstance rfl T.b_str (by decide +kernel)))) (pw_eOr1 (pt_eCmp hK hu .ne (pe_eU (cr_len hK) (pp_nm (pv 4)) rfl T.b_len (by decide +kernel)) (pp_of (pe_eU (cr_len hK) (pp_nm (pv 1)) rfl T.b_len (by decide +kernel))))))))) (fun _ _ _ _ _ => (pe_nm (pv 4))) rfl (by decide)) (pp_of (pe_eLst pl_nil))))))) (pss_sOne (ps_sRet pe_cb)) pss_sNil)
    (pss_sCons (ps_sAsg (ps_set (i := 3) sc_law_is_square.nd rfl (by first | exact Or.inl rfl | exact Or.inr rfl) (pe_eBin hK .add (pe_nm (pv 1)) (pp_of (pe_fn C_law_columns hK hT hE tk hr (by decide) rfl (pa_aSh (pe_nm (pv 1)) pa_aNil))))))
    (pss_sCons (ps_sFrz [3] (ps_sIf (pt_eCmp hK hu .ne (pe_eComp (own := [(("word" : Str), 4)]) rfl sc_law_is_square.nd (pi_iSeq hK (pe_nm (pv 3))) (blkOk_by (by kernel_rfl)) (fun _ _ _ _ _ => (pg_nm (pg_name (i := 4) sc_law_is_square.nd rfl (by first | exact Or.inl rfl | exact Or.inr rfl)))) (fun _ _ _ _ _ => (pts_one (pt_eCmpV hK hu .notIn (pv 4) (pp_nm (pv 0))))) (fun _ _ _ _ _ => (pe_nm (pv 4))) rfl (by decide)) (pp_of (pe_eLst pl_nil))) (pss_sOne (ps_sRet pe_cb)) pss_sNil))
    (pss_sOne (ps_sRet (pe_eIf (tB_of (pe_nm (pv 2))) (pe_eCmp hK hu .eq (pe_lenSetD hK rfl T.b_len T.b_set (pp_nm (pv 3))) (pp_of (pe_eU (cr_len hK) (pp_nm (pv 3)) rfl T.b_len (by decide +kernel)))) (pe_eCmp hK hu .eq (pe_fn C_law_columns hK hT hE tk hr (by decide) rfl (pa_aSh (pe_nm (pv 1)) pa_aNil)) (pp_nm (pv 1)))))))))

theorem sc_law_right : FnScope [("dice" : Str), ("length" : Str), ("letters" : Str), ("lexicon" : Str), ("rows" : Str), ("turn" : Str), ("told" : Str), ("one" : Str), ("two" : Str), ("some" : Str), ("near" : Str), ("bad" : Str), ("odd" : Str), ("word" : Str), ("row" : Str)] [("dice" : Str)] (defScope st_law_right) := ⟨rfl, rfl, rfl, by decide +kernel, rfl, by decide +kernel, by decide +kernel⟩
theorem ok_law_right {f : Addr} {fd : FuncData} {cd Pt : Addr} (T : Facts K mg) (F : FunC K ("_law_right" : Str) ("_law_right" : Str) (defArgs st_law_right) (defBody st_law_right) (defScope st_law_right) f fd cd)
    {C fI : Addr} (BX : BadTxt P K mg "BadArgument" C fI) (hx : exc "BadArgument" = some (C, ("name" : Str)))
    {gf : Addr} {fdr : FuncData} (FR : FunD K "_law_refused" "_law_refused" (defArgs st_law_refused) (defBody st_law_refused) (defScope st_law_refused) [] [] gf fdr) (bR : Binds K fdr ["call"] []) (mR : mg "_law_refused" = some (.ref gf)) (TB : LamX.TabB base mg cd Pt) (hmT : (Pt, lamQ ("_law_right" : Str) (defScope st_law_right)) ∈ Ts) (hut : ∀ p ∈ Ts, p.1 = Pt → p.2 = lamQ ("_law_right" : Str) (defScope st_law_right))
    (C_law_columns : Callee P w K mg base Ts exc ("_law_columns" : Str) 1 1 f_law_columns)
    (C_law_g_lexicon : Callee P w K mg base Ts exc ("_law_g_lexicon" : Str) 4 5 f_law_g_lexicon)
    (C_law_g_wrong : Callee P w K mg base Ts exc ("_law_g_wrong" : Str) 3 1 f_law_g_wrong)
    (C_law_is_square : Callee P w K mg base Ts exc ("_law_is_square" : Str) 2 3 f_law_is_square)
    (C_law_pick : Callee P w K mg base Ts exc ("_law_pick" : Str) 2 2 f_law_pick)
    (C_law_tuples : Callee P w K mg base Ts exc ("_law_tuples" : Str) 1 2 f_law_tuples)
    (C_double_squares : Callee P w K mg base Ts exc ("double_squares" : Str) 6 2 f_double_squares)
    (C_is_double_square : Callee P w K mg base Ts exc ("is_double_square" : Str) 5 2 f_is_double_square)
    (C_is_word_square : Callee P w K mg base Ts exc ("is_word_square" : Str) 5 2 f_is_word_square)
    (C_word_squares : Callee P w K mg base Ts exc ("word_squares" : Str) 6 2 f_word_squares)
    (C_word_squares_0_length_lexicon : CalleeK P w K mg base Ts exc ("word_squares" : Str) 6 2 0 [("length" : Str), ("lexicon" : Str)] [1, 0] f_word_squares)
    (C_double_squares_0_length_lexicon : CalleeK P w K mg base Ts exc ("double_squares" : Str) 6 2 0 [("length" : Str), ("lexicon" : Str)] [1, 0] f_double_squares)
    (C_is_word_square_1_value : CalleeK P w K mg base Ts exc ("is_word_square" : Str) 5 2 1 [("value" : Str)] [0, 1] f_is_word_square)
    (C_is_double_square_1_value : CalleeK P w K mg base Ts exc ("is_double_square" : Str) 5 2 1 [("value" : Str)] [0, 1] f_is_double_square) :
    FnOk P w K mg base (L2.CX P w) 10 f fd [("dice" : Str)] (spF K Ts exc 1 f_law_right) := by
  refine fn_evC (n := 1) (nl := 14) F sc_law_right [true] rfl rfl m_law_right fun A outer s H E G hG hT hE hr => ?_
  have hK : K = G.K := hG.symm
  have hu : (A.deeper (envOfC ("_law_right" : Str) (defScope st_law_right) s.heap.objs.size f (.ref cd))).units + 65 < cLine := by have := hr.un; omega
  have tk := takes_of (X := cxOf (L2.CX P w) P w K mg base [("dice" : Str), ("length" : Str), ("letters" : Str), ("lexicon" : Str), ("rows" : Str), ("turn" : Str), ("told" : Str), ("one" : Str), ("two" : Str), ("some" : Str), ("near" : Str), ("bad" : Str), ("odd" : Str), ("word" : Str), ("row" : Str)] ("_law_right" : Str) (defScope st_law_right) f (.ref cd) A outer s H E) rfl rfl rfl rfl
  unfold m_law_right
  exact (pss_sCons (ps_sAsg (ps_set (i := 1) sc_law_right.nd rfl (by first | exact Or.inl rfl | exact Or.inr rfl) (pe_fn C_law_pick hK hT hE tk hr (by decide) rfl (pa_aByr (pv 0) (pa_aSh (pe_eLst (pl_cons pe_ci (pl_cons pe_ci (pl_cons pe_ci (pl_cons pe_ci pl_nil))))) pa_aNil)))))
    (pss_sCons (ps_sAsg (ps_set (i := 2) sc_law_right.nd rfl (by first | exact Or.inl rfl | exact Or.inr rfl) (pe_fn C_law_pick hK hT hE tk hr (by decide) rfl (pa_aByr (pv 0) (pa_aSh (pe_eLst (pl_cons pe_cs (pl_cons pe_cs (pl_cons pe_cs pl_nil)))) pa_aNil)))))
    (pss_sCons (ps_sFrz [2] (ps_sAsg (ps_set (i := 3) sc_law_right.nd rfl (by first | exact Or.inl rfl | exact Or.inr rfl) (pe_fn C_law_g_lexicon hK hT hE tk hr (by decide) rfl (pa_aByr (pv 0) (pa_aSh (pe_nm (pv 2)) (pa_aSh pe_ci (pa_aSh pe_ci (pa_aSh pe_ci pa_aNil)))))))))
    (pss_sCons (ps_sFrz [1, 3] (ps_sAsg (ps_set (i := 4) sc_law_right.nd rfl (by first | exact Or.inl rfl | exact Or.inr rfl) (pe_fn C_law_tuples hK hT hE tk hr (by decide) rfl (pa_aSh (pe_eComp (own := [(("word" : Str), 13)]) rfl sc_law_right.nd (pi_iSeq hK (pe_nm (pv 3))) (blkOk_by (by kernel_rfl)) (fun _ _ _ _ _ => (pg_nm (pg_name (i := 13) sc_law_right.nd rfl (by first | exact Or.inl rfl | exact Or.inr rfl)))) (fun _ _ _ _ _ => (pts_one (pt_eCmp hK hu .eq (pe_eU (cr_len hK) (pp_nm (pv 13)) rfl T.b_len (by decide +kernel)) (pp_nm (pv 1))))) (fun _ _ _ _ _ => (pe_nm (pv 13))) rfl (by decide)) (pa_aSh (pe_nm (pv 1)) pa_aNil))))))
    (pss_sCons (ps_sFrz [3, 4] (ps_sPar (by decide) (ps_par (i := 7) (j := 8) rfl sc_law_right.nd rfl rfl (by decide) rfl rfl (pa_cons (pe_eComp (own := [(("row" : Str), 14)]) rfl sc_law_right.nd (pi_iSeq hK (pe_nm (pv 4))) (blkOk_by (by kernel_rfl)) (fun _ _ _ _ _ => (pg_nm (pg_name (i := 14) sc_law_right.nd rfl (by first | exact Or.inl rfl | exact Or.inr rfl)))) (fun _ _ _ _ _ => (pts_one (tB_of (pe_fn C_law_is_square hK hT hE takes0 hr (by decide) rfl (pa_aSh (pe_nm (pv 3)) (pa_aSh (pe_nm (pv 14)) (pa_aSh pe_cb pa_aNil))))))) (fun _ _ _ _ _ => (pe_nm (pv 14))) rfl (by decide)) (pa_cons (pe_eComp (own := [(("row" : Str), 14)]) rfl sc_law_right.nd (pi_iSeq hK (pe_nm (pv 4))) (blkOk_by (by kernel_rfl)) (fun _ _ _ _ _ => (pg_nm (pg_name (i := 14) sc_law_right.nd rfl (by first | exact Or.inl rfl | exact Or.inr rfl)))) (fun _ _ _ _ _ => (pts_one (tB_of (pe_fn C_law_is_square hK hT hE takes0 hr (by decide) rfl (pa_aSh (pe_nm (pv 3)) (pa_aSh (pe_nm (pv 14)) (pa_aSh pe_cb pa_aNil))))))) (fun _ _ _ _ _ => (pe_nm (pv 14))) rfl (by decide)) pa_nil)) (by rfl))))
    (pss_sCons (ps_sFrz [1, 3] (ps_sIf (PW.pt (pw_eOr (pt_eCmp hK hu .ne (pe_fn C_word_squares hK hT hE tk hr (by decide) rfl (pa_aSh (pe_nm (pv 3)) (pa_aSh (pe_nm (pv 1)) pa_aNil))) (pp_of (pe_eT (cr_tup hK) (pp_of (pe_eU (cr_srtD hK) (pp_nm (pv 7)) rfl T.b_sorted (by decide +kernel))) rfl T.b_tuple (by decide +kernel)))) (pw_eOr1 (pt_eCmp hK hu .ne (pe_fnK0 C_word_squares_0_length_lexicon hK hT hE tk hr (by decide) rfl (pk_consL (pe_nm (pv 1)) (pk_consL (pe_nm (pv 3)) pk_nilL))) (pp_of (pe_eT (cr_tup hK) (pp_of (pe_eU (cr_srtD hK) (pp_nm (pv 7)) rfl T.b_sorted (by decide +kernel))) rfl T.b_tuple (by decide +kernel))))))) (pss_sOne (ps_sRet pe_cb)) pss_sNil))
    (pss_sCons (ps_sFrz [1, 3] (ps_sIf (PW.pt (pw_eOr (pt_eCmp hK hu .ne (pe_fn C_double_squares hK hT hE tk hr (by decide) rfl (pa_aSh (pe_nm (pv 3)) (pa_aSh (pe_nm (pv 1)) pa_aNil))) (pp_of (pe_eT (cr_tup hK) (pp_of (pe_eU (cr_srtD hK) (pp_of (pe_eComp (own := [(("row" : Str), 14)]) rfl sc_law_right.nd (pi_iSeq hK (pe_nm (pv 8))) (blkOk_by (by kernel_rfl)) (fun _ _ _ _ _ => (pg_nm (pg_name (i := 14) sc_law_right.nd rfl (by first | exact Or.inl rfl | exact Or.inr rfl)))) (fun _ _ _ _ _ => (pts_one (pt_eCmpV hK hu .lt (pv 14) (pp_of (pe_fn C_law_columns hK hT hE takes0 hr (by decide) rfl (pa_aSh (pe_nm (pv 14)) pa_aNil)))))) (fun _ _ _ _ _ => (pe_nm (pv 14))) rfl (by decide))) rfl T.b_sorted (by decide +kernel))) rfl T.b_tuple (by decide +kernel)))) (pw_eOr1 (pt_eCmp hK hu .ne (pe_fnK0 C_double_squares_0_length_lexicon hK hT hE tk hr (by decide) rfl (pk_consL (pe_nm (pv 1)) (pk_consL (pe_nm (pv 3)) pk_nilL))) (pp_of (pe_fn C_double_squares hK hT hE tk hr (by decide) rfl (pa_aSh (pe_nm (pv 3)) (pa_aSh (pe_nm (pv 1)) pa_aNil)))))))) (pss_sOne (ps_sRet pe_cb)) pss_sNil))
    (pss_sCons (ps_sFor (passes_of rfl) rfl (pi_iRng rfl T.b_range pe_ci) (pg_nm (pg_name (i := 5) sc_law_right.nd rfl (by first | exact Or.inl rfl | exact Or.inr rfl))) (pss_sCons (ps_sFrz [4] (ps_sAsg (ps_set (i := 9) sc_law_right.nd rfl (by first | exact Or.inl rfl | exact Or.inr rfl) (pe_fn C_law_pick hK hT hE tk hr (by decide) rfl (pa_aByr (pv 0) (pa_aSh (pe_eBin hK .add (pe_eBin hK .add (pe_eBin hK .add (pe_nm (pv 7)) (pp_nm (pv 8))) (pp_of (pe_eSlc hK (pe_nm (pv 4)) po_oNone (po_oSome (W := WF) pe_ci)))) (pp_of (pe_eLst (pl_cons (pe_eTup (pl_cons pe_cs (pl_cons pe_cs pl_nil))) pl_nil)))) pa_aNil))))))
    (pss_sCons (ps_sFrz [9] (ps_sAsg (ps_set (i := 10) sc_law_right.nd rfl (by first | exact Or.inl rfl | exact Or.inr rfl) (pe_fn C_law_pick hK hT hE tk hr (by decide) rfl (pa_aByr (pv 0) (pa_aSh (pe_eLst (pl_cons (pe_nm (pv 9)) (pl_cons (pe_nm (pv 9)) (pl_cons (pe_eRev hK (pe_nm (pv 9))) (pl_cons (pe_fn C_law_columns hK hT hE tk hr (by decide) rfl (pa_aSh (pe_nm (pv 9)) pa_aNil)) (pl_cons (pe_eT (cr_lst hK rfl) (pp_nm (pv 9)) rfl T.b_list (by decide +kernel)) (pl_cons pe_cn (pl_cons (pe_eSlc hK (pe_nm (pv 9)) (po_oSome (W := WF) pe_ci) po_oNone) (pl_cons (pe_eBin hK .add (pe_nm (pv 9)) (pp_of (pe_eSlc hK (pe_nm (pv 9)) po_oNone (po_oSome (W := WF) pe_ci)))) (pl_cons (pe_eTup (pl_cons (pe_eIdxV hK (pv 9) pe_ci) pl_nil)) (pl_cons (pe_eBin hK .add (pe_eSlc hK (pe_nm (pv 9)) po_oNone (po_oSome (W := WF) (pe_eNeg pe_ci))) (pp_of (pe_eTup (pl_cons pe_cn pl_nil)))) pl_nil))))))))))) pa_aNil))))))
    (pss_sOne (ps_sFrz [3, 10] (ps_sIf (PW.pt (pw_eOr (pt_eCmp hK hu .ne (pe_fnK C_is_word_square_1_value hK hT hE tk hr (by decide) rfl (pl_cons (pe_nm (pv 3)) pl_nil) (pk_consL (pe_nm (pv 10)) pk_nilL)) (pp_of (pe_fn C_law_is_square hK hT hE tk hr (by decide) rfl (pa_aSh (pe_nm (pv 3)) (pa_aSh (pe_nm (pv 10)) (pa_aSh pe_cb pa_aNil)))))) (pw_eOr1 (pt_eCmp hK hu .ne (pe_fnK C_is_double_square_1_value hK hT hE tk hr (by decide) rfl (pl_cons (pe_nm (pv 3)) pl_nil) (pk_consL (pe_nm (pv 10)) pk_nilL)) (pp_of (pe_fn C_law_is_square hK hT hE tk hr (by decide) rfl (pa_aSh (pe_nm (pv 3)) (pa_aSh (pe_nm (pv 10)) (pa_aSh pe_cb pa_aNil))))))))) (pss_sOne (ps_sRet pe_cb)) pss_sNil))))))
    (pss_sCons (ps_sAsgT (ps_asg (pe_eTup (pl_cons (pe_fn C_law_g_wrong hK hT hE tk hr (by decide) rfl (pa_aByr (pv 0) pa_aNil)) (pl_cons (pe_fn C_law_pick hK hT hE tk hr (by decide) rfl (pa_aByr (pv 0) (pa_aSh (pe_eLst (pl_cons pe_ci (pl_cons pe_ci (pl_cons pe_cn (pl_cons pe_cb pl_nil))))) pa_aNil))) pl_nil))) (pg_tp hK rfl (pgs_c (pg_nm (pg_name (i := 11) sc_law_right.nd rfl (by first | exact Or.inl rfl | exact Or.inr rfl))) (pgs_c (pg_nm (pg_name (i := 12) sc_law_right.nd rfl (by first | exact Or.inl rfl | exact Or.inr rfl))) pgs_n)))))
    (pss_sCons (ps_sFrz [3] (ps_sAsg (ps_set (i := 6) sc_law_right.nd rfl (by first | exact Or.inl rfl | exact Or.inr rfl) (pe_eLst (pl_cons (pe_refused BX (by rw [hE]; exact hx) FR bR mR sc_law_refused rfl rfl (.inl rfl) TB rfl (by rw [hT]; exact hmT) (by rw [hT]; exact hut) hr (LamX.lamS_by (by kernel_rfl)) (fun A' outer' s' H' E' f' c' hr hu tkl => (pe_fn C_word_squares hK hT hE tkl hr (by decide) rfl (pa_aSh (pe_nm (pv 11)) (pa_aSh (pe_nm (pv 12)) pa_aNil))))) (pl_cons (pe_refused BX (by rw [hE]; exact hx) FR bR mR sc_law_refused rfl rfl (.inl rfl) TB rfl (by rw [hT]; exact hmT) (by rw [hT]; exact hut) hr (LamX.lamS_by (by kernel_rfl)) (fun A' outer' s' H' E' f' c' hr hu tkl => (pe_fn C_word_squares hK hT hE tkl hr (by decide) rfl (pa_aSh (pe_nm (pv 3)) (pa_aSh (pe_nm (pv 12)) pa_aNil))))) (pl_cons (pe_refused BX (by rw [hE]; exact hx) FR bR mR sc_law_refused rfl rfl (.inl rfl) TB rfl (by rw [hT]; exact hmT) (by rw [hT]; exact hut) hr (LamX.lamS_by (by kernel_rfl)) (fun A' outer' s' H' E' f' c' hr hu tkl => (pe_fn C_double_squares hK hT hE tkl hr (by decide) rfl (pa_aSh (pe_nm (pv 3)) (pa_aSh (pe_nm (pv 12)) pa_aNil))))) (pl_cons (pe_refused BX (by rw [hE]; exact hx) FR bR mR sc_law_refused rfl rfl (.inl rfl) TB rfl (by rw [hT]; exact hmT) (by rw [hT]; exact hut) hr (LamX.lamS_by (by kernel_rfl)) (fun A' outer' s' H' E' f' c' hr hu tkl => (pe_fn C_is_word_square hK hT hE tkl hr (by decide) rfl (pa_aSh (pe_nm (pv 11)) (pa_aSh (pe_eTup pl_nil) pa_aNil))))) (pl_cons (pe_refused BX (by rw [hE]; exact hx) FR bR mR sc_law_refused rfl rfl (.inl rfl) TB rfl (by rw [hT]; exact hmT) (by rw [hT]; exact hut) hr (LamX.lamS_by (by kernel_rfl)) (fun A' outer' s' H' E' f' c' hr hu tkl => (pe_fn C_is_double_square hK hT hE tkl hr (by decide) rfl (pa_aSh (pe_nm (pv 11)) (pa_aSh (pe_eTup pl_nil) pa_aNil))))) pl_nil)))))))))
    (pss_sOne (ps_sRet (pe_eCmpV hK hu .eq (pv 6) (pp_of (pe_eLst (pl_cons pe_cs (pl_cons pe_cs (pl_cons pe_cs (pl_cons pe_cs (pl_cons pe_cs pl_nil))))))))))))))))))))

theorem sc_law : FnScope [("script" : Str), ("spot" : Str)] [("script" : Str)] (defScope st_law) := ⟨rfl, rfl, rfl, by decide +kernel, rfl, by decide +kernel, by decide +kernel⟩
theorem ok_law {f : Addr} {fd : FuncData} (T : Facts K mg) (F : FunD K ("law" : Str) ("law" : Str) (defArgs st_law) (defBody st_law) (defScope st_law) [] [] f fd)
    (C_law_dice : Callee P w K mg base Ts exc ("_law_dice" : Str) 1 2 f_law_dice)
    (C_law_right : Callee P w K mg base Ts exc ("_law_right" : Str) 10 1 f_law_right)
    (C_double_squares : Callee P w K mg base Ts exc ("double_squares" : Str) 6 2 f_double_squares)
    (C_word_squares : Callee P w K mg base Ts exc ("word_squares" : Str) 6 2 f_word_squares) :
    FnOk P w K mg base (L2.CX P w) 11 f fd [("script" : Str)] (spF K Ts exc 1 f_law) := by
  refine fn_ev (n := 1) (nl := 1) F sc_law [false] rfl rfl m_law fun cdv A outer s H E G hG hT hE hr => ?_
  have hK : K = G.K := hG.symm
  have hu : (A.deeper (envOfC ("law" : Str) (defScope st_law) s.heap.objs.size f cdv)).units + 65 < cLine := by have := hr.un; omega
  have tk := takes_of (X := cxOf (L2.CX P w) P w K mg base [("script" : Str), ("spot" : Str)] ("law" : Str) (defScope st_law) f cdv A outer s H E) rfl rfl rfl rfl
  unfold m_law
  exact (pss_sCons (ps_sFor (passes_of rfl) rfl (pi_iRng rfl T.b_range (pe_eB2 (cr_maxD rfl) pe_ci (pe_eB2 (cr_minD rfl) pe_ci (pe_eU (cr_len hK) (pp_nm (pv 0)) rfl T.b_len (by decide +kernel)) rfl T.b_min (by decide +kernel)) rfl T.b_max (by decide +kernel))) (pg_nm (pg_name (i := 1) sc_law.nd rfl (by first | exact Or.inl rfl | exact Or.inr rfl))) (pss_sOne (ps_sIf (pt_eNot (tB_of (pe_fn C_law_right hK hT hE tk hr (by decide) rfl (pa_aByt (pe_fn C_law_dice hK hT hE tk hr (by decide) rfl (pa_aSh (pe_nm (pv 0)) (pa_aSh (pe_nm (pv 1)) pa_aNil))) pa_aNil)))) (pss_sOne (ps_sRet pe_cb)) pss_sNil)))
    (pss_sOne (ps_sRet (pe_eAnd (pe_eCmp hK hu .eq (pe_fn C_word_squares hK hT hE tk hr (by decide) rfl (pa_aSh (pe_eTup (pl_cons pe_cs (pl_cons pe_cs (pl_cons pe_cs pl_nil)))) (pa_aSh pe_ci pa_aNil))) (pp_of (pe_eTup (pl_cons (pe_eTup (pl_cons pe_cs (pl_cons pe_cs pl_nil))) (pl_cons (pe_eTup (pl_cons pe_cs (pl_cons pe_cs pl_nil))) (pl_cons (pe_eTup (pl_cons pe_cs (pl_cons pe_cs pl_nil))) pl_nil)))))) (pe_eOne (pe_eCmp hK hu .eq (pe_fn C_double_squares hK hT hE tk hr (by decide) rfl (pa_aSh (pe_eTup (pl_cons pe_cs (pl_cons pe_cs (pl_cons pe_cs (pl_cons pe_cs pl_nil))))) (pa_aSh pe_ci pa_aNil))) (pp_of (pe_eTup (pl_cons (pe_eTup (pl_cons pe_cs (pl_cons pe_cs pl_nil))) pl_nil)))))))))

end
def d_is_in : He.DefD := ⟨(("is_in" : Str), none), ("is_in" : Str), ("is_in" : Str), defArgs st_is_in, defBody st_is_in, defScope st_is_in, [], []⟩
def d_is_tuple : He.DefD := ⟨(("is_tuple" : Str), none), ("is_tuple" : Str), ("is_tuple" : Str), defArgs st_is_tuple, defBody st_is_tuple, defScope st_is_tuple, [], []⟩
def d_is_text : He.DefD := ⟨(("is_text" : Str), none), ("is_text" : Str), ("is_text" : Str), defArgs st_is_text, defBody st_is_text, defScope st_is_text, [], []⟩
def d_is_ascending : He.DefD := ⟨(("is_ascending" : Str), none), ("is_ascending" : Str), ("is_ascending" : Str), defArgs st_is_ascending, defBody st_is_ascending, defScope st_is_ascending, [], []⟩
def d_demand : He.DefD := ⟨(("demand" : Str), none), ("demand" : Str), ("demand" : Str), defArgs st_demand, defBody st_demand, defScope st_demand, [], []⟩
def d_is_word : He.DefD := ⟨(("is_word" : Str), none), ("is_word" : Str), ("is_word" : Str), defArgs st_is_word, defBody st_is_word, defScope st_is_word, [], []⟩
def d_is_lexicon : He.DefD := ⟨(("is_lexicon" : Str), none), ("is_lexicon" : Str), ("is_lexicon" : Str), defArgs st_is_lexicon, defBody st_is_lexicon, defScope st_is_lexicon, [], []⟩
def d_columns_of : He.DefD := ⟨(("columns_of" : Str), none), ("columns_of" : Str), ("columns_of" : Str), defArgs st_columns_of, defBody st_columns_of, defScope st_columns_of, [], []⟩
def d_begun_squares : He.DefD := ⟨(("begun_squares" : Str), none), ("begun_squares" : Str), ("begun_squares" : Str), defArgs st_begun_squares, defBody st_begun_squares, defScope st_begun_squares, [], []⟩
def d_demand_length : He.DefD := ⟨(("demand_length" : Str), none), ("demand_length" : Str), ("demand_length" : Str), defArgs st_demand_length, defBody st_demand_length, defScope st_demand_length, [], []⟩
def d_word_squares : He.DefD := ⟨(("word_squares" : Str), none), ("word_squares" : Str), ("word_squares" : Str), defArgs st_word_squares, defBody st_word_squares, defScope st_word_squares, [], []⟩
def d_can_go_on : He.DefD := ⟨(("can_go_on" : Str), none), ("can_go_on" : Str), ("can_go_on" : Str), defArgs st_can_go_on, defBody st_can_go_on, defScope st_can_go_on, [], []⟩
def d_is_double : He.DefD := ⟨(("is_double" : Str), none), ("is_double" : Str), ("is_double" : Str), defArgs st_is_double, defBody st_is_double, defScope st_is_double, [], []⟩
def d_all_doubles : He.DefD := ⟨(("all_doubles" : Str), none), ("all_doubles" : Str), ("all_doubles" : Str), defArgs st_all_doubles, defBody st_all_doubles, defScope st_all_doubles, [], []⟩
def d_double_squares : He.DefD := ⟨(("double_squares" : Str), none), ("double_squares" : Str), ("double_squares" : Str), defArgs st_double_squares, defBody st_double_squares, defScope st_double_squares, [], []⟩
def d_are_rows : He.DefD := ⟨(("are_rows" : Str), none), ("are_rows" : Str), ("are_rows" : Str), defArgs st_are_rows, defBody st_are_rows, defScope st_are_rows, [], []⟩
def d_is_word_square : He.DefD := ⟨(("is_word_square" : Str), none), ("is_word_square" : Str), ("is_word_square" : Str), defArgs st_is_word_square, defBody st_is_word_square, defScope st_is_word_square, [], []⟩
def d_is_double_square : He.DefD := ⟨(("is_double_square" : Str), none), ("is_double_square" : Str), ("is_double_square" : Str), defArgs st_is_double_square, defBody st_is_double_square, defScope st_is_double_square, [], []⟩
def d_law_dice : He.DefD := ⟨(("_law_dice" : Str), none), ("_law_dice" : Str), ("_law_dice" : Str), defArgs st_law_dice, defBody st_law_dice, defScope st_law_dice, [], []⟩
def d_law_roll : He.DefD := ⟨(("_law_roll" : Str), none), ("_law_roll" : Str), ("_law_roll" : Str), defArgs st_law_roll, defBody st_law_roll, defScope st_law_roll, [], []⟩
def d_law_pick : He.DefD := ⟨(("_law_pick" : Str), none), ("_law_pick" : Str), ("_law_pick" : Str), defArgs st_law_pick, defBody st_law_pick, defScope st_law_pick, [], []⟩
def d_law_g_word : He.DefD := ⟨(("_law_g_word" : Str), none), ("_law_g_word" : Str), ("_law_g_word" : Str), defArgs st_law_g_word, defBody st_law_g_word, defScope st_law_g_word, [], []⟩
def d_law_g_lexicon : He.DefD := ⟨(("_law_g_lexicon" : Str), none), ("_law_g_lexicon" : Str), ("_law_g_lexicon" : Str), defArgs st_law_g_lexicon, defBody st_law_g_lexicon, defScope st_law_g_lexicon, [], []⟩
def d_law_g_wrong : He.DefD := ⟨(("_law_g_wrong" : Str), none), ("_law_g_wrong" : Str), ("_law_g_wrong" : Str), defArgs st_law_g_wrong, defBody st_law_g_wrong, defScope st_law_g_wrong, [], []⟩
def d_law_columns : He.DefD := ⟨(("_law_columns" : Str), none), ("_law_columns" : Str), ("_law_columns" : Str), defArgs st_law_columns, defBody st_law_columns, defScope st_law_columns, [], []⟩
def d_law_tuples : He.DefD := ⟨(("_law_tuples" : Str), none), ("_law_tuples" : Str), ("_law_tuples" : Str), defArgs st_law_tuples, defBody st_law_tuples, defScope st_law_tuples, [], []⟩
def d_law_is_square : He.DefD := ⟨(("_law_is_square" : Str), none), ("_law_is_square" : Str), ("_law_is_square" : Str), defArgs st_law_is_square, defBody st_law_is_square, defScope st_law_is_square, [], []⟩
def d_law_right : He.DefD := ⟨(("_law_right" : Str), none), ("_law_right" : Str), ("_law_right" : Str), defArgs st_law_right, defBody st_law_right, defScope st_law_right, [], []⟩
def d_law : He.DefD := ⟨(("law" : Str), none), ("law" : Str), ("law" : Str), defArgs st_law, defBody st_law, defScope st_law, [], []⟩
def d_law_refused : He.DefD := ⟨(("_law_refused" : Str), none), ("_law_refused" : Str), ("_law_refused" : Str), defArgs st_law_refused, defBody st_law_refused, defScope st_law_refused, [], []⟩
def fn_0 : List He.DefD := [d_is_in, d_is_tuple, d_is_text, d_is_ascending, d_demand, d_is_word, d_is_lexicon, d_columns_of, d_begun_squares, d_demand_length, d_word_squares, d_can_go_on]
def fn_1 : List He.DefD := [d_is_double, d_all_doubles, d_double_squares, d_are_rows, d_is_word_square, d_is_double_square, d_law_dice, d_law_roll, d_law_pick, d_law_g_word, d_law_g_lexicon, d_law_g_wrong]
def fn_2 : List He.DefD := [d_law_columns, d_law_tuples, d_law_is_square, d_law_right, d_law, d_law_refused]
def fn : List He.DefD := fn_0 ++ fn_1 ++ fn_2
def fa_0 : List He.Fa := [.glo ("is_in" : Str), .glo ("is_tuple" : Str), .glo ("is_text" : Str), .glo ("is_ascending" : Str), .glo ("demand" : Str), .glo ("is_word" : Str), .glo ("is_lexicon" : Str), .glo ("columns_of" : Str), .glo ("begun_squares" : Str), .glo ("demand_length" : Str), .glo ("word_squares" : Str), .glo ("can_go_on" : Str)]
def fa_1 : List He.Fa := [.glo ("is_double" : Str), .glo ("all_doubles" : Str), .glo ("double_squares" : Str), .glo ("are_rows" : Str), .glo ("is_word_square" : Str), .glo ("is_double_square" : Str), .glo ("_law_dice" : Str), .glo ("_law_roll" : Str), .glo ("_law_pick" : Str), .glo ("_law_g_word" : Str), .glo ("_law_g_lexicon" : Str), .glo ("_law_g_wrong" : Str)]
def fa_2 : List He.Fa := [.glo ("_law_columns" : Str), .glo ("_law_tuples" : Str), .glo ("_law_is_square" : Str), .glo ("_law_right" : Str), .glo ("law" : Str), .glo ("_law_refused" : Str), .free ("abs" : Str), .free ("all" : Str), .free ("any" : Str), .free ("bool" : Str), .free ("int" : Str), .free ("isinstance" : Str)]
def fa_3 : List He.Fa := [.free ("len" : Str), .free ("list" : Str), .free ("max" : Str), .free ("min" : Str), .free ("range" : Str), .free ("set" : Str), .free ("sorted" : Str), .free ("str" : Str), .free ("tuple" : Str), .free ("zip" : Str), .int ("LEAST_SIDE" : Str) 2, .int ("LEAST_WORD" : Str) 2]
def fa_4 : List He.Fa := [.str ("LETTERS" : Str) ("abcdefghijklmnopqrstuvwxyz" : Str), .int ("MOST_SIDE" : Str) 5, .int ("MOST_WORD" : Str) 9, .int ("MOST_WORDS" : Str) 60]
def fa : List He.Fa := fa_0 ++ fa_1 ++ fa_2 ++ fa_3 ++ fa_4
def tf : List He.Defn := [(("_law_right" : Str), none)]
abbrev Rw : PySem.W.OpenRow := PySem.W.OpenLaw.row PySem.Challenge.rw_gridlights_k10_whole_word_squares
abbrev PR : Program := PySem.Challenge.pw_gridlights_k10_whole_word_squares
def fi : FnI := initOf (top 2)
abbrev hk : PySem.W.Hook := hookY PR "BadArgument" 6 fa fn tf fi
def ob (s : PySem.W.SharedT) : AlY := obsY PR "BadArgument" 6 fa fn tf (HandSHeadRun.getT s)
theorem ob_eq (s : PySem.W.SharedT) : ob s = hk.obs s.abs := obsY_eq (fi := fi) (HandSHeadRun.getT_eq s)
def loose_ : List Str := ([("is_in" : Str), ("is_tuple" : Str), ("is_text" : Str), ("is_ascending" : Str), ("demand" : Str), ("is_word" : Str), ("is_lexicon" : Str), ("columns_of" : Str), ("begun_squares" : Str), ("demand_length" : Str), ("word_squares" : Str), ("can_go_on" : Str), ("is_double" : Str), ("all_doubles" : Str), ("double_squares" : Str), ("are_rows" : Str), ("is_word_square" : Str), ("is_double_square" : Str), ("_law_dice" : Str), ("_law_roll" : Str)] : List Str) ++ ([("_law_pick" : Str), ("_law_refused" : Str), ("_law_g_word" : Str), ("_law_g_lexicon" : Str), ("_law_g_wrong" : Str), ("_law_columns" : Str), ("_law_tuples" : Str), ("_law_is_square" : Str), ("_law_right" : Str), ("GridError" : Str), ("BadArgument" : Str), ("LETTERS" : Str), ("LEAST_WORD" : Str), ("MOST_WORD" : Str), ("MOST_WORDS" : Str), ("LEAST_SIDE" : Str), ("MOST_SIDE" : Str)] : List Str)
theorem run (w : World) : HandSHeadRun.RunEq Rw (PySem.W.view Rw.prog [42]) hk ob 4000 loose_ w := by
  intro os
  kernel_rfl
/-- all the plain mathematics that the law asks -/
def Pure : Prop := ∀ ns : List Int, ns.length ≤ 63 → (∀ z ∈ ns, Builtin.Int.intBits z ≤ 1048576) → f_law [.sh (.list (ns.map .int))] = .ok (.bool true) []
theorem facts (pure : Pure) {w : World} {K : PySem.W.Frag} {h : Heap} {mg : Str → Option Value} {fl : Addr} (X : K.In h) (G : h.Ns mainGlobals mg) (hfa : mg ("law" : Str) = some (.ref fl)) (c : SaysY PR "BadArgument" fa fn tf fi h K) :
    LamX.LawAtS PySem.Challenge.rw_gridlights_k10_whole_word_squares w K (L2.CX PR w) 11 63 "script" mg fl h := by
  have T : Facts K mg := ⟨He.free_ok X G (c.d.fact 30 (f := .free ("abs" : Str)) rfl), He.free_ok X G (c.d.fact 31 (f := .free ("all" : Str)) rfl), He.free_ok X G (c.d.fact 32 (f := .free ("any" : Str)) rfl), He.free_ok X G (c.d.fact 33 (f := .free ("bool" : Str)) rfl), He.free_ok X G (c.d.fact 34 (f := .free ("int" : Str)) rfl), He.free_ok X G (c.d.fact 35 (f := .free ("isinstance" : Str)) rfl), He.free_ok X G (c.d.fact 36 (f := .free ("len" : Str)) rfl), He.free_ok X G (c.d.fact 37 (f := .free ("list" : Str)) rfl), He.free_ok X G (c.d.fact 38 (f := .free ("max" : Str)) rfl), He.free_ok X G (c.d.fact 39 (f := .free ("min" : Str)) rfl), He.free_ok X G (c.d.fact 40 (f := .free ("range" : Str)) rfl), He.free_ok X G (c.d.fact 41 (f := .free ("set" : Str)) rfl), He.free_ok X G (c.d.fact 42 (f := .free ("sorted" : Str)) rfl), He.free_ok X G (c.d.fact 43 (f := .free ("str" : Str)) rfl), He.free_ok X G (c.d.fact 44 (f := .free ("tuple" : Str)) rfl), He.free_ok X G (c.d.fact 45 (f := .free ("zip" : Str)) rfl), He.int_ok X G (c.d.fact 46 (f := .int ("LEAST_SIDE" : Str) 2) rfl), He.int_ok X G (c.d.fact 47 (f := .int ("LEAST_WORD" : Str) 2) rfl), He.str_ok X G (c.d.fact 48 (f := .str ("LETTERS" : Str) ("abcdefghijklmnopqrstuvwxyz" : Str)) rfl), He.int_ok X G (c.d.fact 49 (f := .int ("MOST_SIDE" : Str) 5) rfl), He.int_ok X G (c.d.fact 50 (f := .int ("MOST_WORD" : Str) 9) rfl), He.int_ok X G (c.d.fact 51 (f := .int ("MOST_WORDS" : Str) 60) rfl)⟩
  have BX : BadTxt PR K mg "BadArgument" (He.ga K "BadArgument") (He.ma K (He.ga K "BadArgument") "__init__") := bad_ok X G c.bad (c.init.trans rfl) ⟨_, fun _ => rfl⟩
  let exc : String → Option (Addr × Str) := fun n => if n = "BadArgument" then some (He.ga K "BadArgument", ("name" : Str)) else none
  have hx : exc "BadArgument" = some (He.ga K "BadArgument", ("name" : Str)) := rfl
  let Ts : List (Addr × Str) := [((He.cT K (("_law_right" : Str), none)).2, lamQ ("_law_right" : Str) (defScope st_law_right))]
  obtain ⟨fd_is_in, F_is_in⟩ := c.d.def_ 0 (d := d_is_in) rfl
  have g_is_in := He.glo_ok X G (c.d.fact 0 (f := .glo ("is_in" : Str)) rfl)
  have b_is_in : Binds K fd_is_in [("value" : Str), ("low" : Str), ("high" : Str)] [] := FunD.bindsN F_is_in fun _ _ _ _ _ _ us hl => match us, hl with | [_, _, _], _ => rfl
  obtain ⟨fd_is_tuple, F_is_tuple⟩ := c.d.def_ 1 (d := d_is_tuple) rfl
  have g_is_tuple := He.glo_ok X G (c.d.fact 1 (f := .glo ("is_tuple" : Str)) rfl)
  have b_is_tuple : Binds K fd_is_tuple [("value" : Str), ("least" : Str), ("most" : Str)] [] := FunD.bindsN F_is_tuple fun _ _ _ _ _ _ us hl => match us, hl with | [_, _, _], _ => rfl
  obtain ⟨fd_is_text, F_is_text⟩ := c.d.def_ 2 (d := d_is_text) rfl
  have g_is_text := He.glo_ok X G (c.d.fact 2 (f := .glo ("is_text" : Str)) rfl)
  have b_is_text : Binds K fd_is_text [("value" : Str), ("least" : Str), ("most" : Str), ("signs" : Str)] [] := FunD.bindsN F_is_text fun _ _ _ _ _ _ us hl => match us, hl with | [_, _, _, _], _ => rfl
  obtain ⟨fd_is_ascending, F_is_ascending⟩ := c.d.def_ 3 (d := d_is_ascending) rfl
  have g_is_ascending := He.glo_ok X G (c.d.fact 3 (f := .glo ("is_ascending" : Str)) rfl)
  have b_is_ascending : Binds K fd_is_ascending [("values" : Str)] [] := FunD.bindsN F_is_ascending fun _ _ _ _ _ _ us hl => match us, hl with | [_], _ => rfl
  obtain ⟨fd_demand, F_demand⟩ := c.d.def_ 4 (d := d_demand) rfl
  have g_demand := He.glo_ok X G (c.d.fact 4 (f := .glo ("demand" : Str)) rfl)
  have b_demand : Binds K fd_demand [("is_good" : Str), ("name" : Str)] [] := FunD.bindsN F_demand fun _ _ _ _ _ _ us hl => match us, hl with | [_, _], _ => rfl
  obtain ⟨fd_is_word, F_is_word⟩ := c.d.def_ 5 (d := d_is_word) rfl
  have g_is_word := He.glo_ok X G (c.d.fact 5 (f := .glo ("is_word" : Str)) rfl)
  have b_is_word : Binds K fd_is_word [("value" : Str)] [] := FunD.bindsN F_is_word fun _ _ _ _ _ _ us hl => match us, hl with | [_], _ => rfl
  obtain ⟨fd_is_lexicon, F_is_lexicon⟩ := c.d.def_ 6 (d := d_is_lexicon) rfl
  have g_is_lexicon := He.glo_ok X G (c.d.fact 6 (f := .glo ("is_lexicon" : Str)) rfl)
  have b_is_lexicon : Binds K fd_is_lexicon [("value" : Str)] [] := FunD.bindsN F_is_lexicon fun _ _ _ _ _ _ us hl => match us, hl with | [_], _ => rfl
  obtain ⟨fd_columns_of, F_columns_of⟩ := c.d.def_ 7 (d := d_columns_of) rfl
  have g_columns_of := He.glo_ok X G (c.d.fact 7 (f := .glo ("columns_of" : Str)) rfl)
  have b_columns_of : Binds K fd_columns_of [("rows" : Str)] [] := FunD.bindsN F_columns_of fun _ _ _ _ _ _ us hl => match us, hl with | [_], _ => rfl
  obtain ⟨fd_begun_squares, F_begun_squares⟩ := c.d.def_ 8 (d := d_begun_squares) rfl
  have g_begun_squares := He.glo_ok X G (c.d.fact 8 (f := .glo ("begun_squares" : Str)) rfl)
  have b_begun_squares : Binds K fd_begun_squares [("words" : Str), ("length" : Str)] [] := FunD.bindsN F_begun_squares fun _ _ _ _ _ _ us hl => match us, hl with | [_, _], _ => rfl
  obtain ⟨fd_demand_length, F_demand_length⟩ := c.d.def_ 9 (d := d_demand_length) rfl
  have g_demand_length := He.glo_ok X G (c.d.fact 9 (f := .glo ("demand_length" : Str)) rfl)
  have b_demand_length : Binds K fd_demand_length [("lexicon" : Str), ("length" : Str)] [] := FunD.bindsN F_demand_length fun _ _ _ _ _ _ us hl => match us, hl with | [_, _], _ => rfl
  obtain ⟨fd_word_squares, F_word_squares⟩ := c.d.def_ 10 (d := d_word_squares) rfl
  have g_word_squares := He.glo_ok X G (c.d.fact 10 (f := .glo ("word_squares" : Str)) rfl)
  have b_word_squares : Binds K fd_word_squares [("lexicon" : Str), ("length" : Str)] [] := FunD.bindsN F_word_squares fun _ _ _ _ _ _ us hl => match us, hl with | [_, _], _ => rfl
  obtain ⟨fd_can_go_on, F_can_go_on⟩ := c.d.def_ 11 (d := d_can_go_on) rfl
  have g_can_go_on := He.glo_ok X G (c.d.fact 11 (f := .glo ("can_go_on" : Str)) rfl)
  have b_can_go_on : Binds K fd_can_go_on [("rows" : Str), ("words" : Str)] [] := FunD.bindsN F_can_go_on fun _ _ _ _ _ _ us hl => match us, hl with | [_, _], _ => rfl
  obtain ⟨fd_is_double, F_is_double⟩ := c.d.def_ 12 (d := d_is_double) rfl
  have g_is_double := He.glo_ok X G (c.d.fact 12 (f := .glo ("is_double" : Str)) rfl)
  have b_is_double : Binds K fd_is_double [("lexicon" : Str), ("rows" : Str)] [] := FunD.bindsN F_is_double fun _ _ _ _ _ _ us hl => match us, hl with | [_, _], _ => rfl
  obtain ⟨fd_all_doubles, F_all_doubles⟩ := c.d.def_ 13 (d := d_all_doubles) rfl
  have g_all_doubles := He.glo_ok X G (c.d.fact 13 (f := .glo ("all_doubles" : Str)) rfl)
  have b_all_doubles : Binds K fd_all_doubles [("words" : Str), ("length" : Str)] [] := FunD.bindsN F_all_doubles fun _ _ _ _ _ _ us hl => match us, hl with | [_, _], _ => rfl
  obtain ⟨fd_double_squares, F_double_squares⟩ := c.d.def_ 14 (d := d_double_squares) rfl
  have g_double_squares := He.glo_ok X G (c.d.fact 14 (f := .glo ("double_squares" : Str)) rfl)
  have b_double_squares : Binds K fd_double_squares [("lexicon" : Str), ("length" : Str)] [] := FunD.bindsN F_double_squares fun _ _ _ _ _ _ us hl => match us, hl with | [_, _], _ => rfl
  obtain ⟨fd_are_rows, F_are_rows⟩ := c.d.def_ 15 (d := d_are_rows) rfl
  have g_are_rows := He.glo_ok X G (c.d.fact 15 (f := .glo ("are_rows" : Str)) rfl)
  have b_are_rows : Binds K fd_are_rows [("value" : Str)] [] := FunD.bindsN F_are_rows fun _ _ _ _ _ _ us hl => match us, hl with | [_], _ => rfl
  obtain ⟨fd_is_word_square, F_is_word_square⟩ := c.d.def_ 16 (d := d_is_word_square) rfl
  have g_is_word_square := He.glo_ok X G (c.d.fact 16 (f := .glo ("is_word_square" : Str)) rfl)
  have b_is_word_square : Binds K fd_is_word_square [("lexicon" : Str), ("value" : Str)] [] := FunD.bindsN F_is_word_square fun _ _ _ _ _ _ us hl => match us, hl with | [_, _], _ => rfl
  obtain ⟨fd_is_double_square, F_is_double_square⟩ := c.d.def_ 17 (d := d_is_double_square) rfl
  have g_is_double_square := He.glo_ok X G (c.d.fact 17 (f := .glo ("is_double_square" : Str)) rfl)
  have b_is_double_square : Binds K fd_is_double_square [("lexicon" : Str), ("value" : Str)] [] := FunD.bindsN F_is_double_square fun _ _ _ _ _ _ us hl => match us, hl with | [_, _], _ => rfl
  obtain ⟨fd_law_dice, F_law_dice⟩ := c.d.def_ 18 (d := d_law_dice) rfl
  have g_law_dice := He.glo_ok X G (c.d.fact 18 (f := .glo ("_law_dice" : Str)) rfl)
  have b_law_dice : Binds K fd_law_dice [("script" : Str), ("spot" : Str)] [] := FunD.bindsN F_law_dice fun _ _ _ _ _ _ us hl => match us, hl with | [_, _], _ => rfl
  obtain ⟨fd_law_roll, F_law_roll⟩ := c.d.def_ 19 (d := d_law_roll) rfl
  have g_law_roll := He.glo_ok X G (c.d.fact 19 (f := .glo ("_law_roll" : Str)) rfl)
  have b_law_roll : Binds K fd_law_roll [("dice" : Str), ("total" : Str)] [] := FunD.bindsN F_law_roll fun _ _ _ _ _ _ us hl => match us, hl with | [_, _], _ => rfl
  obtain ⟨fd_law_pick, F_law_pick⟩ := c.d.def_ 20 (d := d_law_pick) rfl
  have g_law_pick := He.glo_ok X G (c.d.fact 20 (f := .glo ("_law_pick" : Str)) rfl)
  have b_law_pick : Binds K fd_law_pick [("dice" : Str), ("things" : Str)] [] := FunD.bindsN F_law_pick fun _ _ _ _ _ _ us hl => match us, hl with | [_, _], _ => rfl
  obtain ⟨fd_law_g_word, F_law_g_word⟩ := c.d.def_ 21 (d := d_law_g_word) rfl
  have g_law_g_word := He.glo_ok X G (c.d.fact 21 (f := .glo ("_law_g_word" : Str)) rfl)
  have b_law_g_word : Binds K fd_law_g_word [("dice" : Str), ("letters" : Str), ("least" : Str), ("most" : Str)] [] := FunD.bindsN F_law_g_word fun _ _ _ _ _ _ us hl => match us, hl with | [_, _, _, _], _ => rfl
  obtain ⟨fd_law_g_lexicon, F_law_g_lexicon⟩ := c.d.def_ 22 (d := d_law_g_lexicon) rfl
  have g_law_g_lexicon := He.glo_ok X G (c.d.fact 22 (f := .glo ("_law_g_lexicon" : Str)) rfl)
  have b_law_g_lexicon : Binds K fd_law_g_lexicon [("dice" : Str), ("letters" : Str), ("least" : Str), ("most" : Str), ("many" : Str)] [] := FunD.bindsN F_law_g_lexicon fun _ _ _ _ _ _ us hl => match us, hl with | [_, _, _, _, _], _ => rfl
  obtain ⟨fd_law_g_wrong, F_law_g_wrong⟩ := c.d.def_ 23 (d := d_law_g_wrong) rfl
  have g_law_g_wrong := He.glo_ok X G (c.d.fact 23 (f := .glo ("_law_g_wrong" : Str)) rfl)
  have b_law_g_wrong : Binds K fd_law_g_wrong [("dice" : Str)] [] := FunD.bindsN F_law_g_wrong fun _ _ _ _ _ _ us hl => match us, hl with | [_], _ => rfl
  obtain ⟨fd_law_columns, F_law_columns⟩ := c.d.def_ 24 (d := d_law_columns) rfl
  have g_law_columns := He.glo_ok X G (c.d.fact 24 (f := .glo ("_law_columns" : Str)) rfl)
  have b_law_columns : Binds K fd_law_columns [("rows" : Str)] [] := FunD.bindsN F_law_columns fun _ _ _ _ _ _ us hl => match us, hl with | [_], _ => rfl
  obtain ⟨fd_law_tuples, F_law_tuples⟩ := c.d.def_ 25 (d := d_law_tuples) rfl
  have g_law_tuples := He.glo_ok X G (c.d.fact 25 (f := .glo ("_law_tuples" : Str)) rfl)
  have b_law_tuples : Binds K fd_law_tuples [("words" : Str), ("length" : Str)] [] := FunD.bindsN F_law_tuples fun _ _ _ _ _ _ us hl => match us, hl with | [_, _], _ => rfl
  obtain ⟨fd_law_is_square, F_law_is_square⟩ := c.d.def_ 26 (d := d_law_is_square) rfl
  have g_law_is_square := He.glo_ok X G (c.d.fact 26 (f := .glo ("_law_is_square" : Str)) rfl)
  have b_law_is_square : Binds K fd_law_is_square [("lexicon" : Str), ("value" : Str), ("is_double_v" : Str)] [] := FunD.bindsN F_law_is_square fun _ _ _ _ _ _ us hl => match us, hl with | [_, _, _], _ => rfl
  obtain ⟨fd_law_right, F_law_right⟩ := c.d.def_ 27 (d := d_law_right) rfl
  have g_law_right := He.glo_ok X G (c.d.fact 27 (f := .glo ("_law_right" : Str)) rfl)
  have b_law_right : Binds K fd_law_right [("dice" : Str)] [] := FunD.bindsN F_law_right fun _ _ _ _ _ _ us hl => match us, hl with | [_], _ => rfl
  obtain ⟨fd_law, F_law⟩ := c.d.def_ 28 (d := d_law) rfl
  have g_law := He.glo_ok X G (c.d.fact 28 (f := .glo ("law" : Str)) rfl)
  have b_law : Binds K fd_law [("script" : Str)] [] := FunD.bindsN F_law fun _ _ _ _ _ _ us hl => match us, hl with | [_], _ => rfl
  obtain ⟨fd_law_refused, F_law_refused⟩ := c.d.def_ 29 (d := d_law_refused) rfl
  have g_law_refused := He.glo_ok X G (c.d.fact 29 (f := .glo ("_law_refused" : Str)) rfl)
  have b_law_refused : Binds K fd_law_refused [("call" : Str)] [] := FunD.bindsN F_law_refused fun _ _ _ _ _ _ us hl => match us, hl with | [_], _ => rfl
  cases hfa.symm.trans g_law
  refine ⟨fd_law, [He.cT K (("_law_right" : Str), none)], spF K Ts exc 1 f_law, fun p hp => ?_, fun p hp => ?_, fun p hp => ?_, fun s u => (show BindsTo s fd_law ⟨[u], []⟩ [(("script" : Str), u)] from by exact FunD.bindsA (ps := ["script"]) F_law (fun _ _ _ _ _ _ us hl => match us, hl with | [_], _ => rfl) s [u] rfl), fun H a ns hl hbits hT hS => ?_, fun base _ _ hTB => ?_⟩
  · obtain ⟨q, hq, rfl⟩ := List.mem_map.mp (show p ∈ tf.map (fun q => He.cT K q) from hp)
    exact c.empty _ hq
  · obtain ⟨q, hq, rfl⟩ := List.mem_map.mp (show p ∈ tf.map (fun q => He.cT K q) from hp)
    exact c.out _ hq
  · obtain ⟨q, hq, rfl⟩ := List.mem_map.mp (show p ∈ tf.map (fun q => He.cT K q) from hp)
    exact PySem.W.codeHd_of_K X (c.hd _ hq)
  · refine spLaw (pure ns hl hbits) hS fun p hp => ?_
    simp only [Ts, List.mem_cons, List.not_mem_nil, or_false] at hp
    rcases hp with rfl
    · exact LamX.TabS.nil (hT (He.cT K (("_law_right" : Str), none)) (by simp))
  · have k_is_in := ok_is_in (P := PR) (w := w) (base := base) (Ts := Ts) (exc := exc) T F_is_in
    have C_is_in : Callee PR w K mg base Ts exc ("is_in" : Str) 1 3 f_is_in := ⟨_, _, _, g_is_in, k_is_in, F_is_in.kp, b_is_in⟩
    have k_is_tuple := ok_is_tuple (P := PR) (w := w) (base := base) (Ts := Ts) (exc := exc) T F_is_tuple
    have C_is_tuple : Callee PR w K mg base Ts exc ("is_tuple" : Str) 1 3 f_is_tuple := ⟨_, _, _, g_is_tuple, k_is_tuple, F_is_tuple.kp, b_is_tuple⟩
    have k_is_text := ok_is_text (P := PR) (w := w) (base := base) (Ts := Ts) (exc := exc) T F_is_text
    have C_is_text : Callee PR w K mg base Ts exc ("is_text" : Str) 1 4 f_is_text := ⟨_, _, _, g_is_text, k_is_text, F_is_text.kp, b_is_text⟩
    have k_is_ascending := ok_is_ascending (P := PR) (w := w) (base := base) (Ts := Ts) (exc := exc) T F_is_ascending
    have C_is_ascending : Callee PR w K mg base Ts exc ("is_ascending" : Str) 1 1 f_is_ascending := ⟨_, _, _, g_is_ascending, k_is_ascending, F_is_ascending.kp, b_is_ascending⟩
    have k_demand := ok_demand (P := PR) (w := w) (base := base) (Ts := Ts) (exc := exc) T F_demand BX hx
    have C_demand : Callee PR w K mg base Ts exc ("demand" : Str) 4 2 f_demand := ⟨_, _, _, g_demand, k_demand, F_demand.kp, b_demand⟩
    have k_is_word := ok_is_word (P := PR) (w := w) (base := base) (Ts := Ts) (exc := exc) T F_is_word C_is_text
    have C_is_word : Callee PR w K mg base Ts exc ("is_word" : Str) 2 1 f_is_word := ⟨_, _, _, g_is_word, k_is_word, F_is_word.kp, b_is_word⟩
    have k_is_lexicon := ok_is_lexicon (P := PR) (w := w) (base := base) (Ts := Ts) (exc := exc) T F_is_lexicon C_is_ascending C_is_tuple C_is_word
    have C_is_lexicon : Callee PR w K mg base Ts exc ("is_lexicon" : Str) 3 1 f_is_lexicon := ⟨_, _, _, g_is_lexicon, k_is_lexicon, F_is_lexicon.kp, b_is_lexicon⟩
    have k_columns_of := ok_columns_of (P := PR) (w := w) (base := base) (Ts := Ts) (exc := exc) T F_columns_of
    have C_columns_of : Callee PR w K mg base Ts exc ("columns_of" : Str) 1 1 f_columns_of := ⟨_, _, _, g_columns_of, k_columns_of, F_columns_of.kp, b_columns_of⟩
    have k_begun_squares := ok_begun_squares (P := PR) (w := w) (base := base) (Ts := Ts) (exc := exc) T F_begun_squares
    have C_begun_squares : Callee PR w K mg base Ts exc ("begun_squares" : Str) 1 2 f_begun_squares := ⟨_, _, _, g_begun_squares, k_begun_squares, F_begun_squares.kp, b_begun_squares⟩
    have k_demand_length := ok_demand_length (P := PR) (w := w) (base := base) (Ts := Ts) (exc := exc) T F_demand_length C_demand C_is_in C_is_lexicon
    have C_demand_length : Callee PR w K mg base Ts exc ("demand_length" : Str) 5 2 f_demand_length := ⟨_, _, _, g_demand_length, k_demand_length, F_demand_length.kp, b_demand_length⟩
    have k_word_squares := ok_word_squares (P := PR) (w := w) (base := base) (Ts := Ts) (exc := exc) T F_word_squares C_begun_squares C_demand_length
    have C_word_squares : Callee PR w K mg base Ts exc ("word_squares" : Str) 6 2 f_word_squares := ⟨_, _, _, g_word_squares, k_word_squares, F_word_squares.kp, b_word_squares⟩
    have k_can_go_on := ok_can_go_on (P := PR) (w := w) (base := base) (Ts := Ts) (exc := exc) T F_can_go_on C_columns_of
    have C_can_go_on : Callee PR w K mg base Ts exc ("can_go_on" : Str) 2 2 f_can_go_on := ⟨_, _, _, g_can_go_on, k_can_go_on, F_can_go_on.kp, b_can_go_on⟩
    have k_is_double := ok_is_double (P := PR) (w := w) (base := base) (Ts := Ts) (exc := exc) T F_is_double C_columns_of
    have C_is_double : Callee PR w K mg base Ts exc ("is_double" : Str) 2 2 f_is_double := ⟨_, _, _, g_is_double, k_is_double, F_is_double.kp, b_is_double⟩
    have k_all_doubles := ok_all_doubles (P := PR) (w := w) (base := base) (Ts := Ts) (exc := exc) T F_all_doubles C_can_go_on C_is_double
    have C_all_doubles : Callee PR w K mg base Ts exc ("all_doubles" : Str) 3 2 f_all_doubles := ⟨_, _, _, g_all_doubles, k_all_doubles, F_all_doubles.kp, b_all_doubles⟩
    have k_double_squares := ok_double_squares (P := PR) (w := w) (base := base) (Ts := Ts) (exc := exc) T F_double_squares C_all_doubles C_columns_of C_demand_length
    have C_double_squares : Callee PR w K mg base Ts exc ("double_squares" : Str) 6 2 f_double_squares := ⟨_, _, _, g_double_squares, k_double_squares, F_double_squares.kp, b_double_squares⟩
    have k_are_rows := ok_are_rows (P := PR) (w := w) (base := base) (Ts := Ts) (exc := exc) T F_are_rows C_is_tuple C_is_word
    have C_are_rows : Callee PR w K mg base Ts exc ("are_rows" : Str) 3 1 f_are_rows := ⟨_, _, _, g_are_rows, k_are_rows, F_are_rows.kp, b_are_rows⟩
    have k_is_word_square := ok_is_word_square (P := PR) (w := w) (base := base) (Ts := Ts) (exc := exc) T F_is_word_square C_are_rows C_columns_of C_demand C_is_lexicon
    have C_is_word_square : Callee PR w K mg base Ts exc ("is_word_square" : Str) 5 2 f_is_word_square := ⟨_, _, _, g_is_word_square, k_is_word_square, F_is_word_square.kp, b_is_word_square⟩
    have k_is_double_square := ok_is_double_square (P := PR) (w := w) (base := base) (Ts := Ts) (exc := exc) T F_is_double_square C_are_rows C_demand C_is_double C_is_lexicon
    have C_is_double_square : Callee PR w K mg base Ts exc ("is_double_square" : Str) 5 2 f_is_double_square := ⟨_, _, _, g_is_double_square, k_is_double_square, F_is_double_square.kp, b_is_double_square⟩
    have k_law_dice := ok_law_dice (P := PR) (w := w) (base := base) (Ts := Ts) (exc := exc) T F_law_dice
    have C_law_dice : Callee PR w K mg base Ts exc ("_law_dice" : Str) 1 2 f_law_dice := ⟨_, _, _, g_law_dice, k_law_dice, F_law_dice.kp, b_law_dice⟩
    have k_law_roll := ok_law_roll (P := PR) (w := w) (base := base) (Ts := Ts) (exc := exc) T F_law_roll
    have C_law_roll : Callee PR w K mg base Ts exc ("_law_roll" : Str) 1 2 f_law_roll := ⟨_, _, _, g_law_roll, k_law_roll, F_law_roll.kp, b_law_roll⟩
    have k_law_pick := ok_law_pick (P := PR) (w := w) (base := base) (Ts := Ts) (exc := exc) T F_law_pick C_law_roll
    have C_law_pick : Callee PR w K mg base Ts exc ("_law_pick" : Str) 2 2 f_law_pick := ⟨_, _, _, g_law_pick, k_law_pick, F_law_pick.kp, b_law_pick⟩
    have k_law_g_word := ok_law_g_word (P := PR) (w := w) (base := base) (Ts := Ts) (exc := exc) T F_law_g_word C_law_pick C_law_roll
    have C_law_g_word : Callee PR w K mg base Ts exc ("_law_g_word" : Str) 3 4 f_law_g_word := ⟨_, _, _, g_law_g_word, k_law_g_word, F_law_g_word.kp, b_law_g_word⟩
    have k_law_g_lexicon := ok_law_g_lexicon (P := PR) (w := w) (base := base) (Ts := Ts) (exc := exc) T F_law_g_lexicon C_law_g_word C_law_roll
    have C_law_g_lexicon : Callee PR w K mg base Ts exc ("_law_g_lexicon" : Str) 4 5 f_law_g_lexicon := ⟨_, _, _, g_law_g_lexicon, k_law_g_lexicon, F_law_g_lexicon.kp, b_law_g_lexicon⟩
    have k_law_g_wrong := ok_law_g_wrong (P := PR) (w := w) (base := base) (Ts := Ts) (exc := exc) T F_law_g_wrong C_law_pick
    have C_law_g_wrong : Callee PR w K mg base Ts exc ("_law_g_wrong" : Str) 3 1 f_law_g_wrong := ⟨_, _, _, g_law_g_wrong, k_law_g_wrong, F_law_g_wrong.kp, b_law_g_wrong⟩
    have k_law_columns := ok_law_columns (P := PR) (w := w) (base := base) (Ts := Ts) (exc := exc) T F_law_columns
    have C_law_columns : Callee PR w K mg base Ts exc ("_law_columns" : Str) 1 1 f_law_columns := ⟨_, _, _, g_law_columns, k_law_columns, F_law_columns.kp, b_law_columns⟩
    have k_law_tuples := ok_law_tuples (P := PR) (w := w) (base := base) (Ts := Ts) (exc := exc) T F_law_tuples
    have C_law_tuples : Callee PR w K mg base Ts exc ("_law_tuples" : Str) 1 2 f_law_tuples := ⟨_, _, _, g_law_tuples, k_law_tuples, F_law_tuples.kp, b_law_tuples⟩
    have k_law_is_square := ok_law_is_square (P := PR) (w := w) (base := base) (Ts := Ts) (exc := exc) T F_law_is_square C_law_columns
    have C_law_is_square : Callee PR w K mg base Ts exc ("_law_is_square" : Str) 2 3 f_law_is_square := ⟨_, _, _, g_law_is_square, k_law_is_square, F_law_is_square.kp, b_law_is_square⟩
    have FC_law_right : FunC K ("_law_right" : Str) ("_law_right" : Str) (defArgs st_law_right) (defBody st_law_right) (defScope st_law_right) (He.ga K ("_law_right" : Str)) fd_law_right (He.cT K (("_law_right" : Str), none)).1 := funC_of (p := (("_law_right" : Str), none)) F_law_right
    have C_word_squares_0_length_lexicon : CalleeK PR w K mg base Ts exc ("word_squares" : Str) 6 2 0 [("length" : Str), ("lexicon" : Str)] [1, 0] f_word_squares := ⟨_, _, _, g_word_squares, k_word_squares, F_word_squares.kp, kbn_of F_word_squares fun _ _ _ _ _ _ us ws l1 l2 => match us, ws, l1, l2 with | [], [_, _], _, _ => rfl⟩
    have C_double_squares_0_length_lexicon : CalleeK PR w K mg base Ts exc ("double_squares" : Str) 6 2 0 [("length" : Str), ("lexicon" : Str)] [1, 0] f_double_squares := ⟨_, _, _, g_double_squares, k_double_squares, F_double_squares.kp, kbn_of F_double_squares fun _ _ _ _ _ _ us ws l1 l2 => match us, ws, l1, l2 with | [], [_, _], _, _ => rfl⟩
    have C_is_word_square_1_value : CalleeK PR w K mg base Ts exc ("is_word_square" : Str) 5 2 1 [("value" : Str)] [0, 1] f_is_word_square := ⟨_, _, _, g_is_word_square, k_is_word_square, F_is_word_square.kp, kbn_of F_is_word_square fun _ _ _ _ _ _ us ws l1 l2 => match us, ws, l1, l2 with | [_], [_], _, _ => rfl⟩
    have C_is_double_square_1_value : CalleeK PR w K mg base Ts exc ("is_double_square" : Str) 5 2 1 [("value" : Str)] [0, 1] f_is_double_square := ⟨_, _, _, g_is_double_square, k_is_double_square, F_is_double_square.kp, kbn_of F_is_double_square fun _ _ _ _ _ _ us ws l1 l2 => match us, ws, l1, l2 with | [_], [_], _, _ => rfl⟩
    have k_law_right := ok_law_right (P := PR) (w := w) (base := base) (Ts := Ts) (exc := exc) T FC_law_right BX hx F_law_refused b_law_refused g_law_refused (hTB _ (by simp)) (by simp [Ts]) (by simp [Ts]) C_law_columns C_law_g_lexicon C_law_g_wrong C_law_is_square C_law_pick C_law_tuples C_double_squares C_is_double_square C_is_word_square C_word_squares C_word_squares_0_length_lexicon C_double_squares_0_length_lexicon C_is_word_square_1_value C_is_double_square_1_value
    have C_law_right : Callee PR w K mg base Ts exc ("_law_right" : Str) 10 1 f_law_right := ⟨_, _, _, g_law_right, k_law_right, F_law_right.kp, b_law_right⟩
    have k_law := ok_law (P := PR) (w := w) (base := base) (Ts := Ts) (exc := exc) T F_law C_law_dice C_law_right C_double_squares C_word_squares
    exact k_law
end K10
section
open PySem PySem.W PySem.Calls PyProof.Rows
theorem K10.holds_of (pure : K10.Pure) : PySem.Challenge.rw_gridlights_k10_whole_word_squares.Holds := by
  w_on; o_law
  refine HandSHeadRun.head_any (r := OpenLaw.row PySem.Challenge.rw_gridlights_k10_whole_word_squares) (q := view (OpenLaw.row PySem.Challenge.rw_gridlights_k10_whole_word_squares).prog [42]) (H := K10.hk) (ob := K10.ob) (M := 4000) (loose := K10.loose_) (d := HandSHeadRun.topDef (OpenLaw.row PySem.Challenge.rw_gridlights_k10_whole_word_squares).prog 42) (kwd := []) K10.ob_eq
    (by kernel_rfl) (fun s => by kernel_rfl) K10.run (by kernel_rfl) (by kernel_rfl) (by kernel_rfl) (by rfl) (by first | assumption | decide +kernel) (by decide +kernel) ⟨rfl, rfl, rfl, rfl, rfl, by decide +kernel⟩ ?hw ?hc
  case hw => w_witness2
  case hc =>
    refine LamX.walk_ofTsE (l := PySem.Challenge.rw_gridlights_k10_whole_word_squares) (n := 63) (k := 11) (x := "script") (CX := fun w => L2.CX K10.PR w) rfl (by decide) (by kernel_rfl) ⟨rfl, by decide, by decide⟩ ?F ?X
    case X => exact fun w H s e s' z => Ev.cx_false z
    intro w mg fa h Y G hmg0
    obtain ⟨K, KX, c⟩ := Y
    have hmg : mg ("law" : PySem.Str) = some (.ref fa) := by
      have e : (HandSHeadRun.topDef (OpenLaw.row PySem.Challenge.rw_gridlights_k10_whole_word_squares).prog 42).name = ("law" : PySem.Str) := by kernel_rfl
      rw [← e]
      exact hmg0
    exact ⟨K, KX, K10.facts pure KX G hmg c⟩

end

set_option Elab.async false
set_option linter.all false
set_option maxRecDepth 100000
set_option maxHeartbeats 4000000
/-! Ty: the combinators over Lean's own types. A typed reading t of a combinator: where t yields a value, the combinator yields its data. -/
namespace Ty
open PySem Ev

/-- a typed end -/
inductive R (α : Type) where
  | ok (a : α) | ex (x : Exn) | bad
section
variable {α β γ σ ρ δ : Type}
def R.bind (t : R α) (f : α → R β) : R β := match t with
  | .ok a => f a
  | .ex x => .ex x
  | .bad => .bad
@[simp] theorem R.bind_ok (a : α) (f : α → R β) : R.bind (.ok a) f = f a := rfl
@[simp] theorem R.bind_ex (x : Exn) (f : α → R β) : R.bind (.ex x) f = .ex x := rfl
@[simp] theorem R.bind_bad (f : α → R β) : R.bind .bad f = .bad := rfl
/-- exceptions are not looked at -/
def R.noex (t : R α) : R α := match t with
  | .ok a => .ok a
  | _ => .bad
@[simp] theorem R.noex_ok (a : α) : R.noex (.ok a) = .ok a := rfl
def R.ofOpt : Option α → R α
  | some a => .ok a
  | none => .bad
@[simp] theorem R.ofOpt_some (a : α) : R.ofOpt (some a) = .ok a := rfl
/-- a statement's end within a loop -/
inductive Out (σ ρ : Type) where
  | nx (s : σ) | bk (s : σ) | ct (s : σ) | rt (v : ρ)

/-! ### what stands in the slots -/
abbrev K := Slot → Prop
def kSh (d : PyData) : K := fun s => s = .sh d
def kOw (xs : List PyData) : K := fun s => s = .ow (.lst xs)
def kBr (xs : List PyData) : K := fun s => s = .br (.lst xs)
def kAn (d : PyData) : K := fun s => s = .sh d ∨ ∃ o, s = .ow o ∧ o.d = d
def kFr : K := fun s => s = .un ∨ ∃ d, s = .sh d
def kDd : K := fun s => ∀ o, s ≠ .br o
def kTop : K := fun _ => True
def Fit : List K → Gam → Prop
  | [], [] => True
  | k :: ks, s :: g => k s ∧ Fit ks g
  | _, _ => False
theorem Fit.len : ∀ {ks : List K} {g : Gam}, Fit ks g → g.length = ks.length
  | [], [], _ => rfl
  | _ :: _, _ :: _, h => by rw [List.length_cons, List.length_cons, h.2.len]
  | [], _ :: _, h => h.elim
  | _ :: _, [], h => h.elim
theorem Fit.get : ∀ {ks : List K} {g : Gam} {i : Nat} {k : K}, Fit ks g → ks[i]? = some k → ∃ s, g[i]? = some s ∧ k s
  | k :: ks, s :: g, 0, k', h, e => ⟨s, rfl, by cases (Option.some.inj e); exact h.1⟩
  | k :: ks, s :: g, i + 1, k', h, e => h.2.get (i := i) e
  | [], [], _, _, _, e => by simp at e
  | [], _ :: _, _, _, h, _ => h.elim
  | _ :: _, [], _, _, h, _ => h.elim
theorem Fit.set : ∀ {ks : List K} {g : Gam} {k : K} {s : Slot} (i : Nat), Fit ks g → k s → Fit (ks.set i k) (g.set i s)
  | _ :: _, _ :: _, _, _, 0, h, hk => ⟨hk, h.2⟩
  | _ :: _, _ :: _, _, _, i + 1, h, hk => ⟨h.1, h.2.set i hk⟩
  | [], [], _, _, _, _, _ => trivial
  | [], _ :: _, _, _, _, h, _ => h.elim
  | _ :: _, [], _, _, _, h, _ => h.elim
def Imp : List K → List K → Prop
  | [], [] => True
  | k :: ks, l :: ls => (∀ s, k s → l s) ∧ Imp ks ls
  | _, _ => False
theorem Fit.imp : ∀ {ks ls : List K} {g : Gam}, Fit ks g → Imp ks ls → Fit ls g
  | _ :: _, _ :: _, _ :: _, h, i => ⟨i.1 _ h.1, h.2.imp i.2⟩
  | [], [], [], _, _ => trivial
  | [], _ :: _, _, _, i => i.elim
  | _ :: _, [], _, _, i => i.elim
  | [], [], _ :: _, h, _ => h.elim
  | _ :: _, _ :: _, [], h, _ => h.elim
theorem i_id {k : K} : ∀ s, k s → k s := fun _ h => h
theorem i_top {k : K} : ∀ s, k s → kTop s := fun _ _ => trivial
theorem i_sf {d : PyData} : ∀ s, kSh d s → kFr s := fun _ h => .inr ⟨_, h⟩
theorem i_sa {d : PyData} : ∀ s, kSh d s → kAn d s := fun _ h => .inl h
theorem i_oa {xs : List PyData} : ∀ s, kOw xs s → kAn (.list xs) s := fun _ h => .inr ⟨_, h, rfl⟩
theorem i_fd : ∀ s, kFr s → kDd s := fun _ h o e => by rcases h with h | ⟨_, h⟩ <;> rw [h] at e <;> cases e
theorem i_sd {d : PyData} : ∀ s, kSh d s → kDd s := fun _ h o e => by rw [h] at e; cases e
theorem i_od {xs : List PyData} : ∀ s, kOw xs s → kDd s := fun _ h o e => by rw [h] at e; cases e
theorem i_ad {d : PyData} : ∀ s, kAn d s → kDd s := fun _ h o e => by rcases h with h | ⟨_, h, _⟩ <;> rw [h] at e <;> cases e
/-- not a lent one -/
def NB (k : K) : Prop := ∀ s, k s → ∀ o, s ≠ .br o
theorem nb_s {d} : NB (kSh d) := i_sd
theorem nb_o {d} : NB (kOw d) := i_od
theorem nb_a {d} : NB (kAn d) := i_ad
theorem nb_f : NB kFr := i_fd
theorem nb_d : NB kDd := fun _ h => h
theorem Fit.put {ks : List K} {g : Gam} {i : Nat} {k k' : K} {s : Slot} (h : Fit ks g) (e : ks[i]? = some k) (nb : NB k) (hs : k' s) : put g i s = some (g.set i s) ∧ Fit (ks.set i k') (g.set i s) := by
  obtain ⟨s0, e0, h0⟩ := h.get e
  refine ⟨?_, h.set i hs⟩
  unfold Ev.put
  rw [e0]
  cases s0 with
  | br o => exact absurd rfl (nb _ h0 o)
  | _ => rfl
/-! looked at -/
def Pk (ks : List K) (i : Nat) (d : PyData) : Prop := ∀ g, Fit ks g → peek g i = some d
theorem pk_s {ks : List K} {i : Nat} {d : PyData} (e : ks[i]? = some (kSh d)) : Pk ks i d := fun g h => by
  obtain ⟨s, e1, e2⟩ := h.get e
  unfold peek; rw [e1, show s = _ from e2]
theorem pk_o {ks : List K} {i : Nat} {xs : List PyData} (e : ks[i]? = some (kOw xs)) : Pk ks i (.list xs) := fun g h => by
  obtain ⟨s, e1, e2⟩ := h.get e
  unfold peek; rw [e1, show s = _ from e2]; rfl
theorem pk_b {ks : List K} {i : Nat} {xs : List PyData} (e : ks[i]? = some (kBr xs)) : Pk ks i (.list xs) := fun g h => by
  obtain ⟨s, e1, e2⟩ := h.get e
  unfold peek; rw [e1, show s = _ from e2]; rfl
theorem pk_a {ks : List K} {i : Nat} {d : PyData} (e : ks[i]? = some (kAn d)) : Pk ks i d := fun g h => by
  obtain ⟨s, e1, e2⟩ := h.get e
  unfold peek
  rcases e2 with rfl | ⟨o, rfl, e3⟩
  · rw [e1]
  · rw [e1]; exact congrArg some e3
/-! lent -/
def Ln (ks : List K) (i : Nat) (xs : List PyData) : Prop := ∀ g, Fit ks g → lends g i = some (.lst xs)
theorem ln_o {ks : List K} {i : Nat} {xs : List PyData} (e : ks[i]? = some (kOw xs)) : Ln ks i xs := fun g h => by
  obtain ⟨s, e1, e2⟩ := h.get e
  unfold lends; rw [e1, show s = _ from e2]
theorem ln_b {ks : List K} {i : Nat} {xs : List PyData} (e : ks[i]? = some (kBr xs)) : Ln ks i xs := fun g h => by
  obtain ⟨s, e1, e2⟩ := h.get e
  unfold lends; rw [e1, show s = _ from e2]
/-- taken back -/
def Tk (ks ks' : List K) (i : Nat) (ys : List PyData) : Prop := ∀ g, Fit ks g → ∃ g', retake g i (.lst ys) = some g' ∧ Fit ks' g'
theorem tk_o {ks : List K} {i : Nat} {xs ys : List PyData} (e : ks[i]? = some (kOw xs)) : Tk ks (ks.set i (kOw ys)) i ys := fun g h => by
  obtain ⟨s, e1, e2⟩ := h.get e
  refine ⟨g.set i (.ow (.lst ys)), ?_, h.set i rfl⟩
  unfold retake; rw [e1, show s = _ from e2]
theorem tk_b {ks : List K} {i : Nat} {xs ys : List PyData} (e : ks[i]? = some (kBr xs)) : Tk ks (ks.set i (kBr ys)) i ys := fun g h => by
  obtain ⟨s, e1, e2⟩ := h.get e
  refine ⟨g.set i (.br (.lst ys)), ?_, h.set i rfl⟩
  unfold retake; rw [e1, show s = _ from e2]
/-! ### expressions -/
/-- how a value comes: plain, a fresh list, either -/
inductive Fl where
  | o | f | a
def Fl.is : Fl → RE → PyData → Gam → Prop
  | .o, r, d, g => r = .ok d g
  | .f, r, d, g => ∃ xs, d = .list xs ∧ r = .fr (.lst xs) g
  | .a, r, d, g => r.sh = .ok d g
theorem Fl.is_sh {fl : Fl} {r : RE} {d : PyData} {g : Gam} (h : fl.is r d g) : r.sh = .ok d g := by
  cases fl with
  | o => rw [show r = _ from h]; rfl
  | f => obtain ⟨xs, rfl, e⟩ := h; rw [e]; rfl
  | a => exact h
theorem sh_cases {r : RE} {d : PyData} {g : Gam} (h : r.sh = .ok d g) : r = .ok d g ∨ ∃ o, o.d = d ∧ r = .fr o g := by
  cases r with
  | ok d' g' => exact .inl h
  | fr o g' => simp only [RE.sh, RE.ok.injEq] at h; exact .inr ⟨o, h.1, by rw [h.2]⟩
  | ex x g' => cases h
  | bad => cases h
/-- r does what t says: data by E, the slots behind by κ -/
def SR (n : Nat) (fl : Fl) (r : RE) (t : R α) (E : α → PyData) (κ : α → List K) : Prop := match t with
  | .ok a => ∃ g', fl.is r (E a) g' ∧ Fit (κ a) g'
  | .ex x => ∃ g', r = .ex x g' ∧ g'.length = n
  | .bad => True
variable {n : Nat} {fl fl' fl'' : Fl} {ks ks' : List K} {g : Gam} {E : α → PyData} {E' : β → PyData} {κ : α → List K} {κ' : β → List K}
theorem SR.any {r : RE} {t : R α} (h : SR n fl r t E κ) : SR n .a r t E κ := by
  cases t with
  | ok a => obtain ⟨g', e, k⟩ := h; exact ⟨g', Fl.is_sh e, k⟩
  | ex x => exact h
  | bad => trivial
theorem andThen_sh {r : RE} {d : PyData} {g : Gam} {f : PyData → Gam → RE} (h : r.sh = .ok d g) : r.andThen f = f d g := by
  rcases sh_cases h with rfl | ⟨o, rfl, rfl⟩ <;> rfl
theorem SR.andThen {r : RE} {t : R α} {f : PyData → Gam → RE} {t' : α → R β} (h : SR n fl r t E κ) (k : ∀ a g, Fit (κ a) g → SR n fl' (f (E a) g) (t' a) E' κ') : SR n fl' (r.andThen f) (t.bind t') E' κ' := by
  cases t with
  | ok a =>
    obtain ⟨g', e, h'⟩ := h
    rw [andThen_sh (Fl.is_sh e)]
    exact k a g' h'
  | ex x =>
    obtain ⟨g', e, h'⟩ := h
    rw [e]
    exact ⟨g', rfl, h'⟩
  | bad => trivial
/-- the slots behind may be told otherwise -/
theorem SR.conv {r : RE} {t : R α} {f : α → β} (h : SR n fl r t E κ) (hE : ∀ a, E a = E' (f a)) (hk : ∀ a g, Fit (κ a) g → Fit (κ' (f a)) g) : SR n fl r (t.bind fun a => .ok (f a)) E' κ' := by
  cases t with
  | ok a => obtain ⟨g', e, k⟩ := h; exact ⟨g', by rw [← hE]; exact e, hk a _ k⟩
  | ex x => exact h
  | bad => trivial
theorem SR.noex {r : RE} {t : R α} (h : SR n fl r t E κ) : SR n fl r t.noex E κ := by
  cases t with
  | ok a => exact h
  | ex x => trivial
  | bad => trivial
theorem SR.okO {a : α} (h : Fit (κ a) g) : SR n .o (.ok (E a) g) (.ok a) E κ := ⟨g, rfl, h⟩
/-! names -/
theorem SR_var {i : Nat} {a : α} (h : Fit ks g) (hk : ks[i]? = some (kSh (E a))) : SR n .o (eVar i g) (.ok a) E fun _ => ks := by
  obtain ⟨s, e, e2⟩ := h.get hk
  refine ⟨g, ?_, h⟩
  show eVar i g = _
  unfold eVar; rw [e, show s = _ from e2]
theorem SR_pv {i : Nat} {a : α} (h : Fit ks g) (hk : Pk ks i (E a)) : SR n .o (pVar i g) (.ok a) E fun _ => ks := by
  refine ⟨g, ?_, h⟩
  show ofO g (peek g i) = _
  rw [hk g h]; rfl
theorem SR_cst {d : PyData} {a : α} (h : Fit ks g) (hd : E a = d) : SR n .o (eCst d g) (.ok a) E fun _ => ks := ⟨g, by rw [hd]; rfl, h⟩
theorem SR_bindV {i : Nat} {d : PyData} {b : ME} {t : R α} {k : PyData → PyData → Gam → RE} {t' : α → R β} (h : Fit ks g) (p : Pk ks i d) (hb : SR n fl (b g) t E κ) (p2 : ∀ a, Pk (κ a) i d)
    (hk : ∀ a g, Fit (κ a) g → SR n fl' (k d (E a) g) (t' a) E' κ') : SR n fl' (bindV i b k g) (t.bind t') E' κ' := by
  unfold bindV
  rw [p g h]
  exact SR.andThen hb fun a g h' => by rw [p2 a g h']; exact hk a g h'
/-! operators: leaves over data -/
def LB (o : Option (Bool × PyData)) (f : Bool) (t : R α) (E : α → PyData) : Prop := match t with
  | .ok a => o = some (f, E a)
  | .ex _ => False
  | .bad => True
def LO (o : Option PyData) (t : R α) (E : α → PyData) : Prop := match t with
  | .ok a => o = some (E a)
  | .ex _ => False
  | .bad => True
def LC (o : Option Bool) (t : R Bool) : Prop := match t with
  | .ok a => o = some a
  | .ex _ => False
  | .bad => True
theorem SR_ofB {o : Option (Bool × PyData)} {t : R α} (h : Fit ks g) (l : LB o false t E) : SR n .o (ofB g o) t E fun _ => ks := by
  cases t with
  | ok a => exact ⟨g, by rw [show o = _ from l]; rfl, h⟩
  | ex x => exact l.elim
  | bad => trivial
theorem SR_ofBf {o : Option (Bool × PyData)} {t : R (List α)} {F : α → PyData} (h : Fit ks g) (l : LB o true t fun xs => .list (xs.map F)) : SR n .f (ofB g o) t (fun xs => .list (xs.map F)) fun _ => ks := by
  cases t with
  | ok a => exact ⟨g, ⟨_, rfl, by rw [show o = _ from l]; rfl⟩, h⟩
  | ex x => exact l.elim
  | bad => trivial
theorem SR_ofO {o : Option PyData} {t : R α} (h : Fit ks g) (l : LO o t E) : SR n .o (ofO g o) t E fun _ => ks := by
  cases t with
  | ok a => exact ⟨g, by rw [show o = _ from l]; rfl, h⟩
  | ex x => exact l.elim
  | bad => trivial
theorem SR_kCmp {o : COp} {x y : PyData} {t : R Bool} (h : Fit ks g) (l : LC (cmpD o x y) t) : SR n .o (kCmp o x y g) t .bool fun _ => ks := by
  cases t with
  | ok a => exact ⟨g, by unfold kCmp; rw [show cmpD o x y = _ from l]; rfl, h⟩
  | ex x => exact l.elim
  | bad => trivial
variable {E₁ : α → PyData} {E₂ : β → PyData} {E₃ : γ → PyData} {κ₁ : α → List K} {κ₂ : α → β → List K} {κ₃ : γ → List K}
theorem SR_bin {o : BOp} {a b : ME} {ta : R α} {tb : α → R β} {tc : α → β → R γ} (pa : SR n fl (a g) ta E₁ κ₁) (pb : ∀ x g, Fit (κ₁ x) g → SR n fl' (b g) (tb x) E₂ (κ₂ x))
    (l : ∀ x y g, Fit (κ₂ x y) g → SR n fl'' (ofB g (binD o (E₁ x) (E₂ y))) (tc x y) E₃ κ₃) : SR n fl'' (eBin o a b g) (ta.bind fun x => (tb x).bind fun y => tc x y) E₃ κ₃ :=
  SR.andThen pa fun x g h => SR.andThen (pb x g h) fun y g h => l x y g h
theorem SR_b2 {f : PyData → PyData → Option (Bool × PyData)} {a b : ME} {ta : R α} {tb : α → R β} {tc : α → β → R γ} (pa : SR n fl (a g) ta E₁ κ₁) (pb : ∀ x g, Fit (κ₁ x) g → SR n fl' (b g) (tb x) E₂ (κ₂ x))
    (l : ∀ x y g, Fit (κ₂ x y) g → SR n fl'' (ofB g (f (E₁ x) (E₂ y))) (tc x y) E₃ κ₃) : SR n fl'' (eB2 f a b g) (ta.bind fun x => (tb x).bind fun y => tc x y) E₃ κ₃ :=
  SR.andThen pa fun x g h => SR.andThen (pb x g h) fun y g h => l x y g h
theorem SR_cmp {o : COp} {a b : ME} {ta : R α} {tb : α → R β} {tc : α → β → R Bool} {κ₃ : Bool → List K} (pa : SR n fl (a g) ta E₁ κ₁) (pb : ∀ x g, Fit (κ₁ x) g → SR n fl' (b g) (tb x) E₂ (κ₂ x))
    (l : ∀ x y g, Fit (κ₂ x y) g → SR n .o (kCmp o (E₁ x) (E₂ y) g) (tc x y) .bool κ₃) : SR n .o (eCmp o a b g) (ta.bind fun x => (tb x).bind fun y => tc x y) .bool κ₃ :=
  SR.andThen pa fun x g h => SR.andThen (pb x g h) fun y g h => l x y g h
theorem SR_idx {a b : ME} {ta : R α} {tb : α → R β} {tc : α → β → R γ} (pa : SR n fl (a g) ta E₁ κ₁) (pb : ∀ x g, Fit (κ₁ x) g → SR n fl' (b g) (tb x) E₂ (κ₂ x))
    (l : ∀ x y g, Fit (κ₂ x y) g → SR n fl'' (ofO g (idxD (E₁ x) (E₂ y))) (tc x y) E₃ κ₃) : SR n fl'' (eIdx a b g) (ta.bind fun x => (tb x).bind fun y => tc x y) E₃ κ₃ :=
  SR.andThen pa fun x g h => SR.andThen (pb x g h) fun y g h => l x y g h
theorem SR_u {f : U1} {a : ME} {ta : R α} {tc : α → R γ} (pa : SR n fl (a g) ta E₁ κ₁) (l : ∀ x g, Fit (κ₁ x) g → SR n fl'' (ofB g (f (E₁ x))) (tc x) E₃ κ₃) : SR n fl'' (eU f a g) (ta.bind tc) E₃ κ₃ :=
  SR.andThen pa fun x g h => l x g h
theorem SR_rev {a : ME} {ta : R α} {tc : α → R γ} (pa : SR n fl (a g) ta E₁ κ₁) (l : ∀ x g, Fit (κ₁ x) g → SR n fl'' (ofB g (revD (E₁ x))) (tc x) E₃ κ₃) : SR n fl'' (eRev a g) (ta.bind tc) E₃ κ₃ :=
  SR.andThen pa fun x g h => l x g h
theorem SR_neg {a : ME} {ta : R Int} (pa : SR n fl (a g) ta .int fun _ => ks) : SR n .o (eNeg a g) (ta.bind fun x => .ok (-x)) .int fun _ => ks :=
  SR.andThen pa fun x g h => ⟨g, rfl, h⟩
theorem SR_not {a : ME} {ta : R Bool} (pa : SR n fl (a g) ta .bool fun _ => ks) : SR n .o (eNot a g) (ta.bind fun x => .ok (!x)) .bool fun _ => ks :=
  SR.andThen pa fun x g h => ⟨g, rfl, h⟩
theorem SR_m2 {f : PyData → PyData → Option PyData} {a b : ME} {ta : R α} {tb : α → R β} {tc : α → β → R γ} {z : α → Str} (pa : SR n fl (a g) ta (fun x => .str (z x)) κ₁) (pb : ∀ x g, Fit (κ₁ x) g → SR n fl' (b g) (tb x) E₂ (κ₂ x))
    (l : ∀ x y g, Fit (κ₂ x y) g → SR n fl'' (ofO g (f (.str (z x)) (E₂ y))) (tc x y) E₃ κ₃) : SR n fl'' (eM2 f a b g) (ta.bind fun x => (tb x).bind fun y => tc x y) E₃ κ₃ :=
  SR.andThen pa fun x g h => SR.andThen (pb x g h) fun y g h => l x y g h
theorem SR_if {c a b : ME} {tc : R Bool} {ta tb : Bool → R α} {κ₁ : Bool → List K} (pc : SR n fl (c g) tc .bool κ₁) (pa : ∀ x g, Fit (κ₁ x) g → SR n fl' (a g) (ta x) E κ) (pb : ∀ x g, Fit (κ₁ x) g → SR n fl' (b g) (tb x) E κ) :
    SR n fl' (eIf c a b g) (tc.bind fun x => cond x (ta x) (tb x)) E κ := SR.andThen pc fun x g h => by
  cases x with
  | true => exact pa true g h
  | false => exact pb false g h
theorem SR_and {a b : ME} {ta : R Bool} {tb : R Bool} (pa : SR n fl (a g) ta .bool fun _ => ks) (pb : ∀ g, Fit ks g → SR n .o (b g) tb .bool fun _ => ks) :
    SR n .o (eAnd a b g) (ta.bind fun x => cond x tb (.ok false)) .bool fun _ => ks := SR.andThen pa fun x g h => by
  cases x with
  | true => exact pb g h
  | false => exact ⟨g, rfl, h⟩
theorem SR_or {a b : ME} {ta : R Bool} {tb : R Bool} (pa : SR n fl (a g) ta .bool fun _ => ks) (pb : ∀ g, Fit ks g → SR n .o (b g) tb .bool fun _ => ks) :
    SR n .o (eOr a b g) (ta.bind fun x => cond x (.ok true) tb) .bool fun _ => ks := SR.andThen pa fun x g h => by
  cases x with
  | false => exact pb g h
  | true => exact ⟨g, rfl, h⟩
theorem SR_chn {o p : COp} {a b c : ME} {ta : R α} {tb : R β} {tc : R γ} {t1 : α → β → R Bool} {t2 : β → γ → R Bool} (pa : SR n fl (a g) ta E₁ fun _ => ks) (pb : ∀ g, Fit ks g → SR n fl' (b g) tb E₂ fun _ => ks) (pc : ∀ g, Fit ks g → SR n fl'' (c g) tc E₃ fun _ => ks)
    (l1 : ∀ x y, LC (cmpD o (E₁ x) (E₂ y)) (t1 x y)) (l2 : ∀ y z, LC (cmpD p (E₂ y) (E₃ z)) (t2 y z)) :
    SR n .o (eChn o p a b c g) (ta.bind fun x => tb.bind fun y => (t1 x y).bind fun r => cond r (tc.bind fun z => t2 y z) (.ok false)) .bool fun _ => ks :=
  SR.andThen pa fun x g h => SR.andThen (pb g h) fun y g h => by
    have q := l1 x y
    cases e : t1 x y with
    | ok r =>
      rw [e] at q
      rw [show cmpD o (E₁ x) (E₂ y) = _ from q]
      cases r with
      | true =>
        show SR n .o ((c g).andThen fun z g => kCmp p (E₂ y) z g) (tc.bind fun z => t2 y z) .bool _
        exact SR.andThen (pc g h) fun z g h => SR_kCmp h (l2 y z)
      | false => exact ⟨g, rfl, h⟩
    | ex x => rw [e] at q; exact q.elim
    | bad => trivial
/-! slices -/
def SO (n : Nat) (r : RO) (t : R (Option Int)) (ks : List K) : Prop := match t with
  | .ok a => ∃ g', r = .ok a g' ∧ Fit ks g'
  | .ex x => False
  | .bad => True
theorem SO_none (h : Fit ks g) : SO n (oNone g) (.ok none) ks := ⟨g, rfl, h⟩
theorem SO_some {e : ME} {t : R Int} (p : SR n fl (e g) t .int fun _ => ks) : SO n (oSome e g) (t.noex.bind fun i => .ok (some i)) ks := by
  cases t with
  | ok i =>
    obtain ⟨g', e1, h⟩ := p
    refine ⟨g', ?_, h⟩
    unfold oSome
    rw [Fl.is_sh e1]
  | ex x => trivial
  | bad => trivial
theorem SR_slc {a : ME} {lo hi : MO} {ta : R α} {tl th : R (Option Int)} {tc : Option Int → Option Int → α → R γ} (pa : SR n fl (a g) ta E₁ fun _ => ks) (pl : ∀ g, Fit ks g → SO n (lo g) tl ks) (ph : ∀ g, Fit ks g → SO n (hi g) th ks)
    (l : ∀ lo hi x g, Fit ks g → SR n fl'' (ofB g (slcD lo hi (E₁ x))) (tc lo hi x) E₃ κ₃) : SR n fl'' (eSlc a lo hi g) (ta.bind fun x => tl.bind fun l => th.bind fun h => tc l h x) E₃ κ₃ :=
  SR.andThen pa fun x g h => by
    have q := pl g h
    cases tl with
    | ok i =>
      obtain ⟨g1, e1, h1⟩ := q
      rw [e1]
      have q2 := ph g1 h1
      cases th with
      | ok j =>
        obtain ⟨g2, e2, h2⟩ := q2
        show SR n fl'' ((hi g1).andThen fun h g => ofB g (slcD i h (E₁ x))) _ _ _
        rw [e2]
        exact l i j x g2 h2
      | ex x => exact q2.elim
      | bad => trivial
    | ex x => exact q.elim
    | bad => trivial
/-! lists of expressions: what comes behind is k -/
theorem SR_tup {l : ML} {t : R α} (p : SR n fl ((l g).andThen fun ds g => if ds.length ≤ sizeLine then .ok (.tuple ds) g else .bad) t E κ) : SR n fl (eTup l g) t E κ := p
theorem SR_lst {l : ML} {t : R α} (p : SR n fl ((l g).andThen fun ds g => if ds.length ≤ sizeLine then .fr (.lst ds) g else .bad) t E κ) : SR n fl (eLst l g) t E κ := p
theorem SR_nil {k : List PyData → Gam → RE} {t : R α} (p : SR n fl (k [] g) t E κ) : SR n fl ((lNil g).andThen k) t E κ := p
theorem SR_cons {e : ME} {l : ML} {k : List PyData → Gam → RE} {t : R α} {t' : α → R β} (p : SR n fl (e g) t E κ) (q : ∀ a g, Fit (κ a) g → SR n fl' ((l g).andThen fun ds g => k (E a :: ds) g) (t' a) E' κ') :
    SR n fl' ((lCons e l g).andThen k) (t.bind t') E' κ' := by
  have step : ∀ (r : RE), (r.thenL fun d g => (l g).cons d).andThen k = r.andThen fun d g => (l g).andThen fun ds g => k (d :: ds) g := fun r => by
    cases r with
    | ok d g => show RL.andThen (RL.cons d (l g)) k = RL.andThen (l g) _; cases l g <;> rfl
    | fr o g => show RL.andThen (RL.cons o.d (l g)) k = RL.andThen (l g) _; cases l g <;> rfl
    | ex x g => rfl
    | bad => rfl
  unfold lCons
  rw [step]
  exact SR.andThen p q
theorem SR_star {e : ME} {l : ML} {k : List PyData → Gam → RE} {t : R α} {t' : α → R β} {X : α → List PyData} (p : SR n fl (e g) t E κ) (hX : ∀ a, seqD (E a) = some (X a)) (q : ∀ a g, Fit (κ a) g → SR n fl' ((l g).andThen fun ds g => k (X a ++ ds) g) (t' a) E' κ') :
    SR n fl' ((lStar e l g).andThen k) (t.bind t') E' κ' := by
  have app_thn : ∀ (xs : List PyData) (r : RL), (r.app xs).andThen k = r.andThen fun ds g => k (xs ++ ds) g := fun xs r => by cases r <;> rfl
  cases t with
  | ok a =>
    obtain ⟨g', e1, h'⟩ := p
    have e2 : lStar e l g = (l g').app (X a) := by
      unfold lStar
      rcases sh_cases (Fl.is_sh e1) with e3 | ⟨o, e4, e3⟩
      · rw [e3]; simp only [RE.thenL, hX]
      · rw [e3]; simp only [RE.thenL, e4, hX]
    rw [e2, app_thn]
    exact q a g' h'
  | ex x =>
    obtain ⟨g', e1, h'⟩ := p
    refine ⟨g', ?_, h'⟩
    unfold lStar
    rw [e1]
    rfl
  | bad => trivial
theorem SR_endT {ds : List PyData} {a : α} (h : Fit (κ a) g) (hd : E a = .tuple ds) (hz : ds.length ≤ 16777216) : SR n .o (if ds.length ≤ sizeLine then RE.ok (.tuple ds) g else .bad) (.ok a) E κ := by
  rw [if_pos (by rw [sizeLine_eq]; exact hz), ← hd]
  exact ⟨g, rfl, h⟩
theorem SR_endL {ds : List PyData} {a : α} (h : Fit (κ a) g) (hd : E a = .list ds) (hz : ds.length ≤ 16777216) : SR n .f (if ds.length ≤ sizeLine then RE.fr (.lst ds) g else .bad) (.ok a) E κ := by
  rw [if_pos (by rw [sizeLine_eq]; exact hz)]
  exact ⟨g, ⟨_, hd, rfl⟩, h⟩
/-- a sequence that is not too long -/
def szR (xs : List α) : R (List α) := if xs.length ≤ 16777216 then .ok xs else .bad
theorem SR_endTs {ds : List PyData} {xs : List α} {F : α → PyData} (h : Fit ks g) (hd : ds = xs.map F) : SR n .o (if ds.length ≤ sizeLine then RE.ok (.tuple ds) g else .bad) (szR xs) (fun xs => .tuple (xs.map F)) fun _ => ks := by
  subst hd
  unfold szR
  rw [List.length_map]
  by_cases k : xs.length ≤ 16777216
  · rw [if_pos k, if_pos (by rw [sizeLine_eq]; exact k)]
    exact ⟨g, rfl, h⟩
  · rw [if_neg k]; trivial
theorem SR_endLs {ds : List PyData} {xs : List α} {F : α → PyData} (h : Fit ks g) (hd : ds = xs.map F) : SR n .f (if ds.length ≤ sizeLine then RE.fr (.lst ds) g else .bad) (szR xs) (fun xs => .list (xs.map F)) fun _ => ks := by
  subst hd
  unfold szR
  rw [List.length_map]
  by_cases k : xs.length ≤ 16777216
  · rw [if_pos k, if_pos (by rw [sizeLine_eq]; exact k)]
    exact ⟨g, ⟨_, rfl, rfl⟩, h⟩
  · rw [if_neg k]; trivial
/-! ### calls -/
def Fl.isF : Fl → RF → PyData → List Own → Prop
  | .o, r, d, bs => r = .ok d bs
  | .f, r, d, bs => ∃ xs, d = .list xs ∧ r = .fr (.lst xs) bs
  | .a, r, d, bs => r = .ok d bs ∨ ∃ o, o.d = d ∧ r = .fr o bs
theorem Fl.isF_any {fl : Fl} {r : RF} {d : PyData} {bs : List Own} (h : fl.isF r d bs) : r = .ok d bs ∨ ∃ o, o.d = d ∧ r = .fr o bs := by
  cases fl with
  | o => exact .inl h
  | f => obtain ⟨xs, rfl, e⟩ := h; exact .inr ⟨_, rfl, e⟩
  | a => exact h
/-- a def does what t says -/
def SFn (fl : Fl) (r : RF) (t : R α) (E : α → PyData) (B : α → List Own) : Prop := match t with
  | .ok a => fl.isF r (E a) (B a)
  | .ex x => r = .ex x []
  | .bad => True
theorem callBack_ok {fl : Fl} {r : RF} {d : PyData} {bs : List Own} {avs : List AV} {g g' : Gam} (h : fl.isF r d bs) (e : takeBack avs bs g = some g') : fl.is (callBack avs g r) d g' := by
  cases fl with
  | o => rw [show r = _ from h]; show (match takeBack avs bs g with | some g => RE.ok d g | none => .bad) = _; rw [e]
  | f =>
    obtain ⟨xs, rfl, e2⟩ := h
    refine ⟨xs, rfl, ?_⟩
    rw [e2]; show (match takeBack avs bs g with | some g => RE.fr _ g | none => .bad) = _; rw [e]
  | a =>
    rcases h with e2 | ⟨o, rfl, e2⟩
    · rw [e2]; show (match takeBack avs bs g with | some g => RE.ok d g | none => .bad).sh = _; rw [e]; rfl
    · rw [e2]; show (match takeBack avs bs g with | some g => RE.fr o g | none => .bad).sh = _; rw [e]; rfl
theorem args_sh (g : Gam) : ∀ ds : List PyData, argsOf g (ds.map .sh) = some (ds.map .sh)
  | [] => rfl
  | d :: r => by show (argsOf g (r.map .sh)).map _ = _; rw [args_sh g r]; rfl
theorem back_sh (g : Gam) : ∀ ds : List PyData, takeBack (ds.map .sh) [] g = some g
  | [] => rfl
  | d :: r => back_sh g r
theorem byrs_sh : ∀ ds : List PyData, byrs (ds.map .sh) = []
  | [] => rfl
  | d :: r => byrs_sh r
def RA.thn (r : RA) (k : List AV → Gam → RE) : RE := match r with
  | .ok as g => k as g
  | .ex x g => .ex x g
  | .bad => .bad
theorem RA.thn_cons (a : AV) (r : RA) (k : List AV → Gam → RE) : Ty.RA.thn (r.cons a) k = Ty.RA.thn r fun as g => k (a :: as) g := by cases r <;> rfl
theorem eCall_thn (m : Nat) (f : List Ev.Arg → RF) (l : MA) (g : Gam) : eCall m f l g = RA.thn (l g) (Ev.callEnd m f) := by
  unfold eCall RA.thn; cases l g <;> rfl
theorem SR_call {m : Nat} {f : List Ev.Arg → RF} {l : MA} {t : R α} (p : SR n fl (RA.thn (l g) (Ev.callEnd m f)) t E κ) : SR n fl (eCall m f l g) t E κ := by rw [eCall_thn]; exact p
theorem SR_aNil {k : List AV → Gam → RE} {t : R α} (p : SR n fl (k [] g) t E κ) : SR n fl (RA.thn (aNil g) k) t E κ := p
theorem SR_aSh {e : ME} {l : MA} {k : List AV → Gam → RE} {t : R α} {t' : α → R β} (p : SR n fl (e g) t E κ) (q : ∀ a g, Fit (κ a) g → SR n fl' (RA.thn (l g) fun as g => k (.sh (E a) :: as) g) (t' a) E' κ') :
    SR n fl' (RA.thn (aSh e l g) k) (t.bind t') E' κ' := by
  cases t with
  | ok a =>
    obtain ⟨g', e1, h'⟩ := p
    unfold aSh
    rw [Fl.is_sh e1]
    show SR n fl' (RA.thn (RA.cons (.sh (E a)) (l g')) k) _ _ _
    rw [RA.thn_cons]
    exact q a g' h'
  | ex x =>
    obtain ⟨g', e1, h'⟩ := p
    refine ⟨g', ?_, h'⟩
    unfold aSh
    rw [e1]
    rfl
  | bad => trivial
theorem SR_aByr {i : Nat} {xs : List PyData} {l : MA} {k : List AV → Gam → RE} {t : R α} (h : Fit ks g) (e : Ln ks i xs) (q : SR n fl (RA.thn (l g) fun as g => k (.byr i :: as) g) t E κ) : SR n fl (RA.thn (aByr i l g) k) t E κ := by
  unfold aByr
  rw [e g h]
  show SR n fl (RA.thn (RA.cons (.byr i) (l g)) k) _ _ _
  rw [RA.thn_cons]
  exact q
theorem SR_aByt {F : γ → List PyData} {e : ME} {l : MA} {k : List AV → Gam → RE} {t : R γ} {t' : γ → R β} {κ : γ → List K} (p : SR n .f (e g) t (fun c => .list (F c)) κ) (q : ∀ a g, Fit (κ a) g → SR n fl' (RA.thn (l g) fun as g => k (.byt (.lst (F a)) :: as) g) (t' a) E' κ') :
    SR n fl' (RA.thn (aByt e l g) k) (t.bind t') E' κ' := by
  cases t with
  | ok a =>
    obtain ⟨g', ⟨xs, e0, e1⟩, h'⟩ := p
    cases e0
    unfold aByt
    rw [e1]
    show SR n fl' (RA.thn (RA.cons (.byt (.lst (F a))) (l g')) k) _ _ _
    rw [RA.thn_cons]
    exact q a g' h'
  | ex x =>
    obtain ⟨g', e1, h'⟩ := p
    refine ⟨g', ?_, h'⟩
    unfold aByt
    rw [e1]
    rfl
  | bad => trivial
/-- the call, all arguments shared -/
theorem SR_endS {m : Nat} {f : List Ev.Arg → RF} {ds : List PyData} {t : R α} (h : Fit ks g) (hn : ks.length = n) (hm : ds.length = m) (hf : SFn fl (f (ds.map .sh)) t E fun _ => []) : SR n fl (Ev.callEnd m f (ds.map .sh) g) t E fun _ => ks := by
  unfold Ev.callEnd
  rw [if_pos ⟨by rw [List.length_map]; exact hm, by rw [byrs_sh]; exact List.nodup_nil⟩, args_sh]
  show SR n fl (callBack (ds.map .sh) g (f (ds.map .sh))) _ _ _
  cases t with
  | ok a => exact ⟨g, callBack_ok hf (back_sh g ds), h⟩
  | ex x =>
    rw [show f (ds.map .sh) = _ from hf]
    refine ⟨g, ?_, by rw [← hn]; exact h.len⟩
    show (match takeBack (ds.map .sh) [] g with | some g => RE.ex x g | none => .bad) = _
    rw [back_sh]
  | bad => trivial
/-- the first argument is lent -/
theorem SR_endB {m : Nat} {f : List Ev.Arg → RF} {i : Nat} {xs : List PyData} {ds : List PyData} {t : R α} {B : α → List PyData} {κ : α → List K} (h : Fit ks g) (e : Ln ks i xs) (hm : ds.length + 1 = m) (hf : SFn fl (f (.by (.lst xs) :: ds.map .sh)) t E fun p => [.lst (B p)]) (tk : ∀ a, Tk ks (κ a) i (B a)) :
    SR n fl (Ev.callEnd m f (.byr i :: ds.map .sh) g) t.noex E κ := by
  cases t with
  | ok a =>
    unfold Ev.callEnd
    rw [if_pos ⟨by rw [List.length_cons, List.length_map]; exact hm, by show (i :: byrs (ds.map .sh)).Nodup; rw [byrs_sh]; simp⟩]
    have ea : argsOf g (.byr i :: ds.map .sh) = some (.by (.lst xs) :: ds.map .sh) := by
      show (lends g i).bind (fun o => (argsOf g (ds.map .sh)).map (.by o :: ·)) = _
      rw [e g h, Option.bind_some, args_sh]; rfl
    rw [ea]
    obtain ⟨g', e1, h1⟩ := tk a g h
    refine ⟨g', callBack_ok hf ?_, h1⟩
    show (retake g i (.lst (B a))).bind (fun g => takeBack (ds.map .sh) [] g) = _
    rw [e1, Option.bind_some, back_sh]
  | ex x => trivial
  | bad => trivial
/-- the first argument is lent and given away -/
theorem SR_endG {m : Nat} {f : List Ev.Arg → RF} {xs : List PyData} {ds : List PyData} {t : R α} {B : α → List PyData} (h : Fit ks g) (hm : ds.length + 1 = m) (hf : SFn fl (f (.by (.lst xs) :: ds.map .sh)) t E fun p => [.lst (B p)]) :
    SR n fl (Ev.callEnd m f (.byt (.lst xs) :: ds.map .sh) g) t.noex E fun _ => ks := by
  cases t with
  | ok a =>
    unfold Ev.callEnd
    rw [if_pos ⟨by rw [List.length_cons, List.length_map]; exact hm, by show (byrs (ds.map .sh)).Nodup; rw [byrs_sh]; simp⟩]
    have ea : argsOf g (.byt (.lst xs) :: ds.map .sh) = some (.by (.lst xs) :: ds.map .sh) := by
      show (argsOf g (ds.map .sh)).map (.by (.lst xs) :: ·) = _
      rw [args_sh]; rfl
    rw [ea]
    refine ⟨g, callBack_ok hf ?_, h⟩
    exact back_sh g ds
  | ex x => trivial
  | bad => trivial
/-- with keywords: all shared; js: the parameters' order -/
theorem SR_callK {m a b : Nat} {f : List Ev.Arg → RF} {js : List Nat} {l kl : ML} {t : R α} (p : SR n fl ((l g).andThen fun ds g => (kl g).andThen fun es g => if ds.length = a ∧ es.length = b then callSh m f (permL js (ds ++ es)) g else .bad) t E κ) :
    SR n fl (eCallK m a b f js l kl g) t E κ := p
theorem SR_endK {m a b : Nat} {f : List Ev.Arg → RF} {ds es fs : List PyData} {js : List Nat} {t : R α} (h : Fit ks g) (hn : ks.length = n) (ha : ds.length = a) (hb : es.length = b) (hp : permL js (ds ++ es) = fs) (hm : fs.length = m) (hf : SFn fl (f (fs.map .sh)) t E fun _ => []) :
    SR n fl (if ds.length = a ∧ es.length = b then callSh m f (permL js (ds ++ es)) g else .bad) t E fun _ => ks := by
  rw [if_pos ⟨ha, hb⟩, hp]
  unfold callSh
  rw [if_pos hm]
  cases t with
  | ok v =>
    cases fl with
    | o => rw [show f _ = _ from hf]; exact ⟨g, rfl, h⟩
    | f => obtain ⟨xs, e1, e2⟩ := hf; rw [e2]; exact ⟨g, ⟨xs, e1, rfl⟩, h⟩
    | a =>
      rcases hf with e | ⟨o, e1, e⟩
      · rw [e]; exact ⟨g, rfl, h⟩
      · rw [e]; exact ⟨g, by show RE.ok o.d g = _; rw [e1], h⟩
  | ex x => rw [show f _ = _ from hf]; exact ⟨g, rfl, by rw [← hn]; exact h.len⟩
  | bad => trivial
end
end Ty

set_option Elab.async false
set_option linter.all false
set_option maxRecDepth 100000
set_option maxHeartbeats 4000000
/-! TyB: types' data, operators, walks, comprehensions. -/
namespace Ty
open PySem Ev
abbrev Ch := Fin 1114112
abbrev Tx := List Ch
def toS (t : Tx) : Str := ⟨(t.map Fin.val).toArray⟩
def eTx (t : Tx) : PyData := .str (toS t)
def eCh (c : Ch) : PyData := .str ⟨#[c.val]⟩
def eN (_ : Unit) : PyData := .none
abbrev eAny (d : PyData) : PyData := d
section
variable {α β γ δ σ ρ : Type}
abbrev eL (E : α → PyData) : List α → PyData := fun xs => .list (xs.map E)
abbrev eT (E : α → PyData) : List α → PyData := fun xs => .tuple (xs.map E)
abbrev eP2 (E : α → PyData) (F : β → PyData) : α × β → PyData := fun p => .tuple [E p.1, F p.2]
abbrev eP3 (E : α → PyData) (F : β → PyData) (G : γ → PyData) : α × β × γ → PyData := fun p => .tuple [E p.1, F p.2.1, G p.2.2]
abbrev eP4 (E : α → PyData) (F : β → PyData) (G : γ → PyData) (H : δ → PyData) : α × β × γ × δ → PyData := fun p => .tuple [E p.1, F p.2.1, G p.2.2.1, H p.2.2.2]
def eO (E : α → PyData) : Option α → PyData
  | none => .none
  | some a => E a
variable {n : Nat} {fl fl' fl'' : Fl} {ks ks' : List K} {g : Gam} {E : α → PyData} {E' : β → PyData} {F : β → PyData} {κ : α → List K} {κ' : β → List K}
theorem toS_len (t : Tx) : (toS t).length = t.length := by show (t.map Fin.val).toArray.size = _; simp
theorem toS_list (t : Tx) : (toS t).cps.toList = t.map Fin.val := rfl
theorem map_val_inj : ∀ {a b : Tx}, a.map Fin.val = b.map Fin.val → a = b
  | [], [], _ => rfl
  | [], _ :: _, h => by simp at h
  | _ :: _, [], h => by simp at h
  | x :: a, y :: b, h => by
    rw [List.map_cons, List.map_cons, List.cons.injEq] at h
    rw [map_val_inj h.2, Fin.ext h.1]
theorem toS_inj {a b : Tx} (h : toS a = toS b) : a = b := by
  have := congrArg (fun z : Str => z.cps.toList) h
  exact map_val_inj this
/-! equality -/
structure EqE (E : α → PyData) (d : Nat) [DecidableEq α] : Prop where
  can : ∀ a, (E a).canLay0 = true
  dep : ∀ a, (E a).depth ≤ d
  eqv : ∀ a b, PyData.eqv (E a) (E b) = decide (a = b)
theorem EqE.shaped [DecidableEq α] {d : Nat} (q : EqE E d) (hd : d ≤ 64) (a : α) : SeqAt.shaped (E a) = true := by
  unfold SeqAt.shaped
  rw [q.can, Bool.true_and, decide_eq_true_eq]
  exact Nat.le_trans (q.dep a) hd
theorem qInt : EqE PyData.int 0 := ⟨fun _ => rfl, fun _ => Nat.le_refl _, fun a b => by
  show (a == b) = _
  rw [Bool.eq_iff_iff, beq_iff_eq, decide_eq_true_eq]⟩
theorem qBool : EqE PyData.bool 0 := ⟨fun _ => rfl, fun _ => Nat.le_refl _, fun a b => by
  show (a == b) = _
  rw [Bool.eq_iff_iff, beq_iff_eq, decide_eq_true_eq]⟩
theorem qTx : EqE eTx 0 := ⟨fun a => by
    show PyData.strOk (toS a) = true
    unfold PyData.strOk toS
    rw [Array.all_eq_true']
    intro x hx
    rw [List.mem_toArray] at hx
    obtain ⟨c, _, rfl⟩ := List.mem_map.mp hx
    exact decide_eq_true c.isLt, fun _ => Nat.le_refl _, fun a b => by
  show (toS a == toS b) = _
  rw [Bool.eq_iff_iff, beq_iff_eq, decide_eq_true_eq]
  exact ⟨toS_inj, fun h => by rw [h]⟩⟩
theorem eCh_eq (c : Ch) : eCh c = eTx [c] := rfl
theorem qCh : EqE eCh 0 := ⟨fun a => qTx.can [a], fun _ => Nat.le_refl _, fun a b => by
  rw [eCh_eq, eCh_eq, qTx.eqv]
  simp⟩
theorem qN : EqE eN 0 := ⟨fun _ => rfl, fun _ => Nat.le_refl _, fun _ _ => rfl⟩
theorem canAll_map [DecidableEq α] {d : Nat} (q : EqE E d) : ∀ xs : List α, PyData.canLayAll0 (xs.map E) = true
  | [] => rfl
  | x :: r => by show (PyData.canLay0 (E x) && PyData.canLayAll0 (r.map E)) = true; rw [q.can, canAll_map q r]; rfl
theorem depAll_map [DecidableEq α] {d : Nat} (q : EqE E d) : ∀ xs : List α, PyData.depthAll (xs.map E) ≤ d
  | [] => Nat.zero_le _
  | x :: r => by show max (PyData.depth (E x)) (PyData.depthAll (r.map E)) ≤ d; exact Nat.max_le.mpr ⟨q.dep x, depAll_map q r⟩
theorem eqvAll_map [DecidableEq α] {d : Nat} (q : EqE E d) : ∀ xs ys : List α, PyData.eqvAll (xs.map E) (ys.map E) = decide (xs = ys)
  | [], [] => rfl
  | [], _ :: _ => by simp [PyData.eqvAll]
  | _ :: _, [] => by simp [PyData.eqvAll]
  | x :: xs, y :: ys => by
    show (PyData.eqv (E x) (E y) && PyData.eqvAll (xs.map E) (ys.map E)) = _
    rw [q.eqv, eqvAll_map q xs ys]
    simp [List.cons.injEq]
theorem qT [DecidableEq α] {d : Nat} (q : EqE E d) : EqE (eT E) (d + 1) := ⟨fun xs => canAll_map q xs, fun xs => Nat.succ_le_succ (depAll_map q xs), fun xs ys => eqvAll_map q xs ys⟩
theorem qL [DecidableEq α] {d : Nat} (q : EqE E d) : EqE (eL E) (d + 1) := ⟨fun xs => canAll_map q xs, fun xs => Nat.succ_le_succ (depAll_map q xs), fun xs ys => eqvAll_map q xs ys⟩
theorem qP2 [DecidableEq α] [DecidableEq β] {d e : Nat} (q : EqE E d) (r : EqE F e) : EqE (eP2 E F) (max d e + 1) := ⟨fun p => by
    show (PyData.canLay0 (E p.1) && (PyData.canLay0 (F p.2) && true)) = true; rw [q.can, r.can]; rfl, fun p => by
    show max (PyData.depth (E p.1)) (max (PyData.depth (F p.2)) 0) + 1 ≤ _
    have h1 := q.dep p.1
    have h2 := r.dep p.2
    omega, fun a b => by
    show (PyData.eqv (E a.1) (E b.1) && (PyData.eqv (F a.2) (F b.2) && true)) = _
    rw [q.eqv, r.eqv]
    obtain ⟨a1, a2⟩ := a
    obtain ⟨b1, b2⟩ := b
    simp⟩
/-! order -/
structure LtE (E : α → PyData) (lt : α → α → Bool) : Prop where
  lt : ∀ a b, tlt (E a) (E b) = lt a b
def ltI (a b : Int) : Bool := decide (a < b)
def ltTx (a b : Tx) : Bool := decide (a.map Fin.val < b.map Fin.val)
def ltLex (lt : α → α → Bool) : List α → List α → Bool
  | [], [] => false
  | [], _ :: _ => true
  | _ :: _, [] => false
  | x :: xs, y :: ys => if lt x y then true else if lt y x then false else ltLex lt xs ys
def ltP2 (l1 : α → α → Bool) (l2 : β → β → Bool) (a b : α × β) : Bool := if l1 a.1 b.1 then true else if l1 b.1 a.1 then false else l2 a.2 b.2
theorem lInt : LtE PyData.int ltI := ⟨fun a b => by
  unfold tlt ltI
  simp only [ordD]
  by_cases h : a < b
  · rw [if_pos h, decide_eq_true h]; rfl
  · rw [if_neg h, decide_eq_false h]; split <;> rfl⟩
theorem lTx : LtE eTx ltTx := ⟨fun a b => by unfold eTx; rw [tlt_ss]; rfl⟩
theorem tlt_eq (a b : PyData) : tlt a b = true ↔ ordD a b = .lt := by unfold tlt; rw [beq_iff_eq]
theorem ordL_map {lt : α → α → Bool} (q : LtE E lt) (asym : ∀ a b, ordD (E a) (E b) = (ordD (E b) (E a)).swap) : ∀ xs ys : List α, (ordL (xs.map E) (ys.map E) == .lt) = ltLex lt xs ys
  | [], [] => rfl
  | [], _ :: _ => rfl
  | _ :: _, [] => rfl
  | x :: xs, y :: ys => by
    rw [List.map_cons, List.map_cons, ordL_cons]
    unfold ltLex
    have h1 := q.lt x y
    have h2 := q.lt y x
    unfold tlt at h1 h2
    rw [← h1, ← h2, asym y x]
    cases e : ordD (E x) (E y) with
    | lt => rfl
    | gt => rfl
    | eq => simpa [e] using ordL_map q asym xs ys
theorem lT {lt : α → α → Bool} (q : LtE E lt) (sw : ∀ a b, ordD (E a) (E b) = (ordD (E b) (E a)).swap) : LtE (eT E) (ltLex lt) := ⟨fun xs ys => ordL_map q sw xs ys⟩
theorem insD_map {lt : α → α → Bool} (q : LtE E lt) (x : α) : ∀ r : List α, ∃ s : List α, insD (E x) (r.map E) = s.map E
  | [] => ⟨[x], rfl⟩
  | y :: r => by
    obtain ⟨s, e⟩ := insD_map q x r
    rw [List.map_cons]
    unfold insD
    by_cases h : tlt (E y) (E x) = true
    · exact ⟨y :: s, by rw [if_pos h, e]; rfl⟩
    · exact ⟨x :: y :: r, by rw [if_neg h]; rfl⟩
def insT (lt : α → α → Bool) (x : α) : List α → List α
  | [] => [x]
  | y :: r => if lt y x then y :: insT lt x r else x :: y :: r
def sortT (lt : α → α → Bool) : List α → List α
  | [] => []
  | x :: r => insT lt x (sortT lt r)
theorem insT_map {lt : α → α → Bool} (q : LtE E lt) (x : α) : ∀ r : List α, insD (E x) (r.map E) = (insT lt x r).map E
  | [] => rfl
  | y :: r => by
    rw [List.map_cons]
    unfold insD insT
    rw [q.lt]
    by_cases h : lt y x = true
    · rw [if_pos h, if_pos h, insT_map q x r]; rfl
    · rw [if_neg h, if_neg h]; rfl
theorem sortT_map {lt : α → α → Bool} (q : LtE E lt) : ∀ r : List α, isortD (r.map E) = (sortT lt r).map E
  | [] => rfl
  | x :: r => by
    show insD (E x) (isortD (r.map E)) = _
    rw [sortT_map q r, insT_map q]; rfl
/-- may be sorted -/
structure SoE (E : α → PyData) (lt : α → α → Bool) (p : α → Bool) : Prop where
  lt : LtE E lt
  so : ∀ xs : List α, (∀ x ∈ xs, p x = true) → sortable (xs.map E) = true
def sortR (lt : α → α → Bool) (p : α → Bool) (xs : List α) : R (List α) := if xs.all p then .ok (sortT lt xs) else .bad
theorem sInt : SoE PyData.int ltI fun _ => true := ⟨lInt, fun xs _ => by
  unfold sortable
  have : (xs.map PyData.int).all (fun x => kindD x == 0) = true := by
    rw [List.all_eq_true]; intro d hd; obtain ⟨i, _, rfl⟩ := List.mem_map.mp hd; rfl
  rw [this]; rfl⟩
theorem sTx : SoE eTx ltTx fun _ => true := ⟨lTx, fun xs _ => by
  unfold sortable
  have : (xs.map eTx).all (fun x => kindD x == 1) = true := by
    rw [List.all_eq_true]; intro d hd; obtain ⟨i, _, rfl⟩ := List.mem_map.mp hd; rfl
  rw [this]; simp⟩
theorem sw_tx (a b : Tx) : ordD (eTx a) (eTx b) = (ordD (eTx b) (eTx a)).swap := by
  unfold eTx
  simp only [ordD]
  cases h : ltS (toS a) (toS b) with
  | true =>
    cases k : ltS (toS b) (toS a) with
    | true => exact absurd (of_decide_eq_true k) (List.lt_asymm (of_decide_eq_true h))
    | false => rfl
  | false => cases k : ltS (toS b) (toS a) <;> rfl
theorem sw_int (a b : Int) : ordD (.int a) (.int b) = (ordD (.int b) (.int a)).swap := by
  simp only [ordD]
  by_cases h : a < b
  · rw [if_pos h, if_neg (by omega), if_pos h]; rfl
  · by_cases k : b < a
    · rw [if_neg h, if_pos k, if_pos k]; rfl
    · rw [if_neg h, if_neg k, if_neg k, if_neg h]; rfl
theorem alikeL_strs : ∀ xs ys : List Tx, alikeL (xs.map eTx) (ys.map eTx) = true
  | [], _ => by cases ‹List Tx› <;> rfl
  | _ :: _, [] => rfl
  | x :: xs, y :: ys => by show (alike (eTx x) (eTx y) && alikeL _ _) = true; rw [alikeL_strs xs ys]; rfl
/-- tuples of texts, none of them empty -/
theorem sTTx : SoE (eT eTx) (ltLex ltTx) fun t => !t.isEmpty := ⟨lT lTx sw_tx, fun xs h => by
  unfold sortable
  have h1 : (xs.map (eT eTx)).all flatTup = true := by
    rw [List.all_eq_true]
    intro d hd
    obtain ⟨t, ht, rfl⟩ := List.mem_map.mp hd
    show (flatAll (t.map eTx) && !(t.map eTx).isEmpty) = true
    rw [flatAll_eq]
    have := h t ht
    rw [Bool.and_eq_true]
    refine ⟨?_, by simpa using this⟩
    rw [List.all_eq_true]; intro d hd; obtain ⟨i, _, rfl⟩ := List.mem_map.mp hd; rfl
  have h2 : ((xs.map (eT eTx)).all fun x => (xs.map (eT eTx)).all fun y => alike x y) = true := by
    rw [List.all_eq_true]; intro d hd; obtain ⟨t, _, rfl⟩ := List.mem_map.mp hd
    rw [List.all_eq_true]; intro d hd; obtain ⟨u, _, rfl⟩ := List.mem_map.mp hd
    exact alikeL_strs t u
  rw [h1, h2]; simp⟩
/-! sets -/
def dedupT [DecidableEq α] : List α → List α
  | [] => []
  | x :: r => if x ∈ dedupT r then dedupT r else x :: dedupT r
theorem any_eqv [DecidableEq α] {d : Nat} (q : EqE E d) (a : α) : ∀ xs : List α, ((xs.map E).any fun z => PyData.eqv z (E a)) = decide (a ∈ xs)
  | [] => by simp
  | x :: r => by
    rw [List.map_cons, List.any_cons, any_eqv q a r, q.eqv, Bool.eq_iff_iff, Bool.or_eq_true, decide_eq_true_eq, decide_eq_true_eq, decide_eq_true_eq, List.mem_cons]
    exact ⟨fun h => h.imp Eq.symm id, fun h => h.imp Eq.symm id⟩
theorem dedup_map [DecidableEq α] {d : Nat} (q : EqE E d) : ∀ xs : List α, dedupS (xs.map E) = (dedupT xs).map E
  | [] => rfl
  | x :: r => by
    rw [List.map_cons]
    unfold dedupS dedupT
    rw [dedup_map q r, any_eqv q]
    by_cases h : x ∈ dedupT r
    · rw [if_pos (decide_eq_true h), if_pos h]
    · rw [if_neg (by rw [decide_eq_true_eq]; exact h), if_neg h]; rfl
structure FlE (E : α → PyData) : Prop where
  fl : ∀ xs : List α, flatAll (xs.map E) = true
theorem fInt : FlE PyData.int := ⟨fun xs => by rw [flatAll_eq, List.all_eq_true]; intro d hd; obtain ⟨i, _, rfl⟩ := List.mem_map.mp hd; rfl⟩
theorem fTx : FlE eTx := ⟨fun xs => by rw [flatAll_eq, List.all_eq_true]; intro d hd; obtain ⟨i, _, rfl⟩ := List.mem_map.mp hd; rfl⟩
theorem fCh : FlE eCh := ⟨fun xs => by rw [flatAll_eq, List.all_eq_true]; intro d hd; obtain ⟨i, _, rfl⟩ := List.mem_map.mp hd; rfl⟩
def setSortR [DecidableEq α] (lt : α → α → Bool) (xs : List α) : R (List α) := if xs.length < 4095 then .ok (sortT lt (dedupT xs)) else .bad
def setLenR [DecidableEq α] (xs : List α) : R Int := if xs.length < 4095 then .ok (dedupT xs).length else .bad
theorem lb_setSort [DecidableEq α] {lt : α → α → Bool} {d : Nat} (q : EqE E d) (s : SoE E lt fun _ => true) (f : FlE E) (xs : List α) : LB (srtSetD (.list (xs.map E))) true (setSortR lt xs) (eL E) := by
  unfold setSortR
  by_cases h : xs.length < 4095
  · rw [if_pos h]
    show (if sortable (xs.map E) && flatAll (xs.map E) && decide ((xs.map E).length < 4095) then some (true, PyData.list (isortD (dedupS (xs.map E)))) else none) = _
    rw [s.so xs fun _ _ => rfl, f.fl, List.length_map, decide_eq_true h, dedup_map q, sortT_map s.lt]
    rfl
  · rw [if_neg h]; trivial
theorem lb_setSortT [DecidableEq α] {lt : α → α → Bool} {d : Nat} (q : EqE E d) (s : SoE E lt fun _ => true) (f : FlE E) (xs : List α) : LB (srtSetD (.tuple (xs.map E))) true (setSortR lt xs) (eL E) := lb_setSort q s f xs
theorem lb_setLen [DecidableEq α] {d : Nat} (q : EqE E d) (f : FlE E) (xs : List α) : LB (lenSetD (.list (xs.map E))) false (setLenR xs) .int := by
  unfold setLenR
  by_cases h : xs.length < 4095
  · rw [if_pos h]
    show (if flatAll (xs.map E) && decide ((xs.map E).length < 4095) then some (false, PyData.int (dedupS (xs.map E)).length) else none) = _
    rw [f.fl, List.length_map, decide_eq_true h, dedup_map q, List.length_map]
    rfl
  · rw [if_neg h]; trivial
theorem lb_setLenT [DecidableEq α] {d : Nat} (q : EqE E d) (f : FlE E) (xs : List α) : LB (lenSetD (.tuple (xs.map E))) false (setLenR xs) .int := lb_setLen q f xs
theorem lb_srt {lt : α → α → Bool} {p : α → Bool} (s : SoE E lt p) (xs : List α) : LB (srtD (.list (xs.map E))) true (sortR lt p xs) (eL E) := by
  unfold sortR
  by_cases h : xs.all p = true
  · rw [if_pos h]
    show (sortD (xs.map E)).map _ = _
    unfold sortD
    rw [if_pos (s.so xs (List.all_eq_true.mp h)), sortT_map s.lt]
    rfl
  · rw [if_neg h]; trivial
/-! ### operators -/
def mulR (i j : Int) : R Int := if small i then .ok (i * j) else .bad
def fdivR (i j : Int) : R Int := if j ≠ 0 ∧ j.natAbs < 1073741824 then .ok (i.fdiv j) else .bad
def modR (i j : Int) : R Int := if j ≠ 0 then .ok (i.fmod j) else .bad
def powR (i j : Int) : R Int := if 0 ≤ j ∧ j ≤ 1000000 ∧ i.natAbs < 2 ^ 64 then .ok (i ^ j.toNat) else .bad
theorem lb_add (i j : Int) : LB (binD .add (.int i) (.int j)) false (.ok (i + j)) .int := rfl
theorem lb_sub (i j : Int) : LB (binD .sub (.int i) (.int j)) false (.ok (i - j)) .int := rfl
theorem lb_mul (i j : Int) : LB (binD .mul (.int i) (.int j)) false (mulR i j) .int := by
  unfold mulR
  by_cases h : small i = true
  · rw [if_pos h]; show (if small i then some (false, PyData.int (i * j)) else none) = _; rw [if_pos h]
  · rw [if_neg h]; trivial
theorem lb_fdiv (i j : Int) : LB (binD .fdiv (.int i) (.int j)) false (fdivR i j) .int := by
  unfold fdivR
  by_cases h : j ≠ 0 ∧ j.natAbs < 1073741824
  · rw [if_pos h]; show (if j ≠ 0 ∧ j.natAbs < 1073741824 then some (false, PyData.int (i.fdiv j)) else none) = _; rw [if_pos h]
  · rw [if_neg h]; trivial
theorem lb_mod (i j : Int) : LB (binD .mod (.int i) (.int j)) false (modR i j) .int := by
  unfold modR
  by_cases h : j ≠ 0
  · rw [if_pos h]; show (if j ≠ 0 then some (false, PyData.int (i.fmod j)) else none) = _; rw [if_pos h]
  · rw [if_neg h]; trivial
theorem lb_pow (i j : Int) : LB (binD .pow (.int i) (.int j)) false (powR i j) .int := by
  unfold powR
  by_cases h : 0 ≤ j ∧ j ≤ 1000000 ∧ i.natAbs < 2 ^ 64
  · rw [if_pos h]; show (if 0 ≤ j ∧ j ≤ 1000000 ∧ i.natAbs < 2 ^ 64 then some (false, PyData.int (i ^ j.toNat)) else none) = _; rw [if_pos h]
  · rw [if_neg h]; trivial
theorem toS_app (a b : Tx) : toS a ++ toS b = toS (a ++ b) := by
  show (⟨(a.map Fin.val).toArray ++ (b.map Fin.val).toArray⟩ : Str) = ⟨((a ++ b).map Fin.val).toArray⟩
  rw [List.map_append, List.append_toArray]
theorem lb_addTx (a b : Tx) : LB (binD .add (eTx a) (eTx b)) false (szR (a ++ b)) eTx := by
  unfold szR
  by_cases h : (a ++ b).length ≤ 16777216
  · rw [if_pos h]
    show (if (toS a).length + (toS b).length ≤ sizeLine then some (false, PyData.str (toS a ++ toS b)) else none) = _
    rw [toS_len, toS_len, if_pos (by rw [sizeLine_eq]; rw [List.length_append] at h; exact h), toS_app]
    rfl
  · rw [if_neg h]; trivial
theorem lb_addT (a b : List α) : LB (binD .add (.tuple (a.map E)) (.tuple (b.map E))) false (szR (a ++ b)) (eT E) := by
  unfold szR
  by_cases h : (a ++ b).length ≤ 16777216
  · rw [if_pos h]
    show (if (a.map E).length + (b.map E).length ≤ sizeLine then some (false, PyData.tuple (a.map E ++ b.map E)) else none) = _
    rw [List.length_map, List.length_map, if_pos (by rw [sizeLine_eq]; rw [List.length_append] at h; exact h), ← List.map_append]
  · rw [if_neg h]; trivial
theorem lb_addL (a b : List α) : LB (binD .add (.list (a.map E)) (.list (b.map E))) true (szR (a ++ b)) (eL E) := by
  unfold szR
  by_cases h : (a ++ b).length ≤ 16777216
  · rw [if_pos h]
    show (if (a.map E).length + (b.map E).length ≤ sizeLine then some (true, PyData.list (a.map E ++ b.map E)) else none) = _
    rw [List.length_map, List.length_map, if_pos (by rw [sizeLine_eq]; rw [List.length_append] at h; exact h), ← List.map_append]
  · rw [if_neg h]; trivial
/-! comparing -/
/-- the same -/
def eqT [DecidableEq α] (a b : α) : Bool := decide (a = b)
/-- is in -/
def memT [DecidableEq α] (a : α) (xs : List α) : Bool := decide (a ∈ xs)
@[simp] theorem eqT_iff [DecidableEq α] {a b : α} : eqT a b = true ↔ a = b := decide_eq_true_iff
@[simp] theorem memT_iff [DecidableEq α] {a : α} {xs : List α} : memT a xs = true ↔ a ∈ xs := decide_eq_true_iff
theorem lc_lt (i j : Int) : LC (cmpD .lt (.int i) (.int j)) (.ok (decide (i < j))) := rfl
theorem lc_le (i j : Int) : LC (cmpD .le (.int i) (.int j)) (.ok (decide (i ≤ j))) := rfl
theorem lc_gt (i j : Int) : LC (cmpD .gt (.int i) (.int j)) (.ok (decide (j < i))) := rfl
theorem lc_ge (i j : Int) : LC (cmpD .ge (.int i) (.int j)) (.ok (decide (j ≤ i))) := rfl
theorem lc_ltTx (a b : Tx) : LC (cmpD .lt (eTx a) (eTx b)) (.ok (ltTx a b)) := rfl
theorem lc_leTx (a b : Tx) : LC (cmpD .le (eTx a) (eTx b)) (.ok (!ltTx b a)) := rfl
theorem lc_gtTx (a b : Tx) : LC (cmpD .gt (eTx a) (eTx b)) (.ok (ltTx b a)) := rfl
theorem lc_geTx (a b : Tx) : LC (cmpD .ge (eTx a) (eTx b)) (.ok (!ltTx a b)) := rfl
theorem lc_any (o : COp) (x y : PyData) : LC (cmpD o x y) (R.ofOpt (cmpD o x y)) := by cases cmpD o x y <;> first | rfl | trivial
theorem lc_eq [DecidableEq α] {d : Nat} (q : EqE E d) (hd : d ≤ 64) (a b : α) : LC (cmpD .eq (E a) (E b)) (.ok (eqT a b)) := by
  show (if SeqAt.shaped (E a) && SeqAt.shaped (E b) then some (PyData.eqv (E a) (E b)) else none) = _
  rw [q.shaped hd, q.shaped hd, q.eqv]; rfl
theorem lc_ne [DecidableEq α] {d : Nat} (q : EqE E d) (hd : d ≤ 64) (a b : α) : LC (cmpD .ne (E a) (E b)) (.ok (!eqT a b)) := by
  show (if SeqAt.shaped (E a) && SeqAt.shaped (E b) then some (!PyData.eqv (E a) (E b)) else none) = _
  rw [q.shaped hd, q.shaped hd, q.eqv]; rfl
theorem lc_inL [DecidableEq α] {d : Nat} (q : EqE E d) (hd : d + 1 ≤ 64) (a : α) (xs : List α) : LC (cmpD .isIn (E a) (.list (xs.map E))) (.ok (memT a xs)) := by
  show (if SeqAt.shaped (E a) && SeqAt.shaped (.list (xs.map E)) then some ((xs.map E).any fun z => PyData.eqv z (E a)) else none) = _
  rw [q.shaped (by omega), (qL q).shaped hd xs, any_eqv q]; rfl
theorem lc_inT [DecidableEq α] {d : Nat} (q : EqE E d) (hd : d + 1 ≤ 64) (a : α) (xs : List α) : LC (cmpD .isIn (E a) (.tuple (xs.map E))) (.ok (memT a xs)) := by
  show (if SeqAt.shaped (E a) && SeqAt.shaped (.tuple (xs.map E)) then some ((xs.map E).any fun z => PyData.eqv z (E a)) else none) = _
  rw [q.shaped (by omega), (qT q).shaped hd xs, any_eqv q]; rfl
theorem lc_ninL [DecidableEq α] {d : Nat} (q : EqE E d) (hd : d + 1 ≤ 64) (a : α) (xs : List α) : LC (cmpD .notIn (E a) (.list (xs.map E))) (.ok (!memT a xs)) := by
  show (if SeqAt.shaped (E a) && SeqAt.shaped (.list (xs.map E)) then some (!(xs.map E).any fun z => PyData.eqv z (E a)) else none) = _
  rw [q.shaped (by omega), (qL q).shaped hd xs, any_eqv q]; rfl
theorem lc_ninT [DecidableEq α] {d : Nat} (q : EqE E d) (hd : d + 1 ≤ 64) (a : α) (xs : List α) : LC (cmpD .notIn (E a) (.tuple (xs.map E))) (.ok (!memT a xs)) := by
  show (if SeqAt.shaped (E a) && SeqAt.shaped (.tuple (xs.map E)) then some (!(xs.map E).any fun z => PyData.eqv z (E a)) else none) = _
  rw [q.shaped (by omega), (qT q).shaped hd xs, any_eqv q]; rfl
theorem cont_one (z : Tx) (c : Ch) : Txt.contains (toS z) ⟨#[c.val]⟩ = decide (c ∈ z) := by
  unfold Txt.contains
  rw [StrLaws.found_one, toS_list, Bool.eq_iff_iff, decide_eq_true_eq, decide_eq_true_eq, List.mem_map]
  exact ⟨fun ⟨a, h, e⟩ => by rw [← Fin.ext e]; exact h, fun h => ⟨c, h, rfl⟩⟩
theorem lc_inC (c : Ch) (z : Tx) : LC (cmpD .isIn (eCh c) (eTx z)) (.ok (memT c z)) := by
  show some (Txt.contains (toS z) ⟨#[c.val]⟩) = _; rw [cont_one]; rfl
theorem lc_ninC (c : Ch) (z : Tx) : LC (cmpD .notIn (eCh c) (eTx z)) (.ok (!memT c z)) := by
  show some (!Txt.contains (toS z) ⟨#[c.val]⟩) = _; rw [cont_one]; rfl
def contT (z a : Tx) : Bool := Txt.contains (toS z) (toS a)
theorem lc_inS (a z : Tx) : LC (cmpD .isIn (eTx a) (eTx z)) (.ok (contT z a)) := rfl
theorem lc_ninS (a z : Tx) : LC (cmpD .notIn (eTx a) (eTx z)) (.ok (!contT z a)) := rfl
/-- tuples, less -/
theorem ltL_map [DecidableEq α] {d : Nat} {lt : α → α → Bool} (q : EqE E d) (l : ∀ a b, ltD (E a) (E b) = some (lt a b)) (irr : ∀ a, lt a a = false) (tri : ∀ a b, lt a b = false → lt b a = false → a = b) (asy : ∀ a b, lt a b = true → lt b a = false) : ∀ xs ys : List α, ltL (xs.map E) (ys.map E) = some (ltLex lt xs ys)
  | [], [] => rfl
  | [], _ :: _ => rfl
  | _ :: _, [] => rfl
  | x :: xs, y :: ys => by
    rw [List.map_cons, List.map_cons, ltL_cons, q.eqv]
    unfold ltLex
    by_cases h : x = y
    · subst h
      rw [decide_eq_true rfl, if_pos rfl, irr, if_neg (by decide), if_neg (by decide)]
      exact ltL_map q l irr tri asy xs ys
    · rw [decide_eq_false h, if_neg (by decide), l]
      cases k : lt x y with
      | true => rfl
      | false =>
        cases k2 : lt y x with
        | true => rfl
        | false => exact absurd (tri _ _ k k2) h
theorem ltTx_irr (a : Tx) : ltTx a a = false := decide_eq_false (List.lt_irrefl _)
theorem ltTx_asy (a b : Tx) (h : ltTx a b = true) : ltTx b a = false := decide_eq_false (List.lt_asymm (of_decide_eq_true h))
theorem ltTx_tri (a b : Tx) (h : ltTx a b = false) (k : ltTx b a = false) : a = b := by
  have h1 := of_decide_eq_false h
  have h2 := of_decide_eq_false k
  exact map_val_inj (List.le_antisymm (List.not_lt.mp h2) (List.not_lt.mp h1))
theorem lc_ltTTx (xs ys : List Tx) : LC (cmpD .lt (.tuple (xs.map eTx)) (.tuple (ys.map eTx))) (.ok (ltLex ltTx xs ys)) := by
  show (if flatAll (xs.map eTx) && flatAll (ys.map eTx) then ltL (xs.map eTx) (ys.map eTx) else none) = _
  rw [fTx.fl, fTx.fl, ltL_map (lt := ltTx) qTx (fun _ _ => rfl) ltTx_irr ltTx_tri ltTx_asy]
  rfl
/-! indexing, slices, lengths -/
def idxR (xs : List α) (i : Int) : R α := R.ofOpt (L2.atI xs i)
theorem atI_map {α β : Type} (E : α → β) (xs : List α) (i : Int) : L2.atI (xs.map E) i = (L2.atI xs i).map E := by
  unfold L2.atI
  rw [List.length_map]
  cases L2.ixN xs.length i with
  | none => rfl
  | some j => exact List.getElem?_map
theorem lo_idxL (xs : List α) (i : Int) : LO (idxD (.list (xs.map E)) (.int i)) (idxR xs i) E := by
  unfold idxR
  cases h : L2.atI xs i with
  | none => trivial
  | some a => show L2.atI (xs.map E) i = _; rw [atI_map, h]; rfl
theorem lo_idxT (xs : List α) (i : Int) : LO (idxD (.tuple (xs.map E)) (.int i)) (idxR xs i) E := lo_idxL xs i
def idxTx (z : Tx) (i : Int) : R Ch := if z.length ≤ 16777216 then R.ofOpt (L2.atI z i) else .bad
theorem lo_idxTx (z : Tx) (i : Int) : LO (idxD (eTx z) (.int i)) (idxTx z i) eCh := by
  unfold idxTx
  by_cases h : z.length ≤ 16777216
  · rw [if_pos h]
    cases k : L2.atI z i with
    | none => trivial
    | some c =>
      show (if (toS z).length ≤ sizeLine then (L2.atI (toS z).cps.toList i).map chD else none) = _
      rw [toS_len, if_pos (by rw [sizeLine_eq]; exact h), toS_list, atI_map, k]
      rfl
  · rw [if_neg h]; trivial
theorem lo_p1 {d e : PyData} : LO (idxD (.tuple (d :: [e])) (.int 0)) (.ok ()) fun _ => d := rfl
def lenTx (z : Tx) : R Int := if z.length ≤ 16777216 then .ok z.length else .bad
theorem lb_lenL (xs : List α) : LB (lenD (.list (xs.map E))) false (.ok (xs.length : Int)) .int := by show some (false, PyData.int (xs.map E).length) = _; rw [List.length_map]
theorem lb_lenT (xs : List α) : LB (lenD (.tuple (xs.map E))) false (.ok (xs.length : Int)) .int := lb_lenL xs
theorem lb_lenTx (z : Tx) : LB (lenD (eTx z)) false (lenTx z) .int := by
  unfold lenTx
  by_cases h : z.length ≤ 16777216
  · rw [if_pos h]
    show (if (toS z).length ≤ sizeLine then some (false, PyData.int (toS z).length) else none) = _
    rw [toS_len, if_pos (by rw [sizeLine_eq]; exact h)]
  · rw [if_neg h]; trivial
theorem cut_map (xs : List α) (f : α → β) (lo hi : Option Int) : cutD (xs.map f) lo hi = (cutD xs lo hi).map f := by
  unfold cutD
  rw [List.length_map, List.map_take, List.map_drop]
theorem lb_slcL (lo hi : Option Int) (xs : List α) : LB (slcD lo hi (.list (xs.map E))) true (.ok (cutD xs lo hi)) (eL E) := by show some (true, PyData.list (cutD (xs.map E) lo hi)) = _; rw [cut_map]
theorem lb_slcT (lo hi : Option Int) (xs : List α) : LB (slcD lo hi (.tuple (xs.map E))) false (.ok (cutD xs lo hi)) (eT E) := by show some (false, PyData.tuple (cutD (xs.map E) lo hi)) = _; rw [cut_map]
def cutTx (lo hi : Option Int) (z : Tx) : R Tx := if z.length ≤ 16777216 then .ok (cutD z lo hi) else .bad
theorem lb_slcTx (lo hi : Option Int) (z : Tx) : LB (slcD lo hi (eTx z)) false (cutTx lo hi z) eTx := by
  unfold cutTx
  by_cases h : z.length ≤ 16777216
  · rw [if_pos h]
    show (if (toS z).length ≤ sizeLine then some (false, PyData.str (L2.cutS (toS z) lo hi)) else none) = _
    rw [toS_len, if_pos (by rw [sizeLine_eq]; exact h)]
    have e : L2.cutS (toS z) lo hi = toS (cutD z lo hi) := by
      unfold L2.cutS
      show (⟨(cutD (toS z).cps.toList lo hi).toArray⟩ : Str) = _
      rw [toS_list, cut_map]
      rfl
    rw [e]; rfl
  · rw [if_neg h]; trivial
theorem lb_revL (xs : List α) : LB (revD (.list (xs.map E))) true (.ok xs.reverse) (eL E) := by show some (true, PyData.list (xs.map E).reverse) = _; rw [← List.map_reverse]
theorem lb_revT (xs : List α) : LB (revD (.tuple (xs.map E))) false (.ok xs.reverse) (eT E) := by show some (false, PyData.tuple (xs.map E).reverse) = _; rw [← List.map_reverse]
theorem lb_tupL (xs : List α) : LB (tupD (.list (xs.map E))) false (.ok xs) (eT E) := rfl
theorem lb_tupT (xs : List α) : LB (tupD (.tuple (xs.map E))) false (.ok xs) (eT E) := rfl
theorem lb_lstL (xs : List α) : LB (lstD (.list (xs.map E))) true (.ok xs) (eL E) := rfl
theorem lb_lstT (xs : List α) : LB (lstD (.tuple (xs.map E))) true (.ok xs) (eL E) := rfl
theorem map_chD (z : Tx) : (toS z).cps.toList.map chD = z.map eCh := by rw [toS_list, List.map_map]; rfl
theorem lb_lstTx (z : Tx) : LB (lstD (eTx z)) true (szR z) (eL eCh) := by
  unfold szR
  by_cases h : z.length ≤ 16777216
  · rw [if_pos h]
    show (if (toS z).length ≤ sizeLine then some (true, PyData.list ((toS z).cps.toList.map chD)) else none) = _
    rw [toS_len, if_pos (by rw [sizeLine_eq]; exact h), map_chD]
  · rw [if_neg h]; trivial
theorem bools_map : ∀ l : List Bool, boolsD (l.map PyData.bool) = some l
  | [] => rfl
  | x :: r => by show (boolsD (r.map PyData.bool)).map _ = _; rw [bools_map r]; rfl
theorem lb_all (l : List Bool) : LB (allD (.list (l.map .bool))) false (.ok (l.all id)) .bool := by show (boolsD (l.map PyData.bool)).map _ = _; rw [bools_map]; rfl
theorem lb_anyB (l : List Bool) : LB (anyD (.list (l.map .bool))) false (.ok (l.any id)) .bool := by show (boolsD (l.map PyData.bool)).map _ = _; rw [bools_map]; rfl
theorem lb_int (i : Int) : LB (intD (.int i)) false (.ok i) .int := rfl
theorem lb_abs (i : Int) : LB (absD (.int i)) false (.ok (if i < 0 then -i else i)) .int := rfl
theorem lb_max (i j : Int) : LB (maxD (.int i) (.int j)) false (.ok (if j > i then j else i)) .int := rfl
theorem lb_min (i j : Int) : LB (minD (.int i) (.int j)) false (.ok (if j < i then j else i)) .int := rfl
/-! texts joined -/
def joinT (sep : Tx) : List Tx → Tx
  | [] => []
  | [x] => x
  | x :: y :: r => x ++ sep ++ joinT sep (y :: r)
def joinR (sep : Tx) (xs : List Tx) : R Tx := if (xs.map List.length).sum + xs.length * sep.length ≤ 16777216 then .ok (joinT sep xs) else .bad
theorem strs_map : ∀ l : List Tx, strsD (l.map eTx) = some (l.map toS)
  | [] => rfl
  | x :: r => by show (strsD (r.map eTx)).map _ = _; rw [strs_map r]; rfl
theorem strs_mapC : ∀ l : List Ch, strsD (l.map eCh) = some ((l.map fun c => [c]).map toS)
  | [] => rfl
  | x :: r => by show (strsD (r.map eCh)).map _ = _; rw [strs_mapC r]; rfl
theorem glue_foldT (sep : Tx) : ∀ (r : List Tx) (x : Tx), ((r.map toS).foldl (fun acc p => acc ++ (toS sep).cps ++ p.cps) (toS x).cps).toList = (joinT sep (x :: r)).map Fin.val
  | [], x => rfl
  | y :: r, x => by
    rw [List.map_cons, List.foldl_cons]
    have e : (toS x).cps ++ (toS sep).cps ++ (toS y).cps = (toS (x ++ sep ++ y)).cps := by
      show (x.map Fin.val).toArray ++ (sep.map Fin.val).toArray ++ (y.map Fin.val).toArray = ((x ++ sep ++ y).map Fin.val).toArray
      simp
    rw [e, glue_foldT sep r]
    cases r with
    | nil => rfl
    | cons z r =>
      show ((x ++ sep ++ y) ++ sep ++ joinT sep (z :: r)).map Fin.val = (x ++ sep ++ (y ++ sep ++ joinT sep (z :: r))).map Fin.val
      congr 1
      simp
theorem join_eq (sep : Tx) (xs : List Tx) : Txt.join (toS sep) (xs.map toS) = toS (joinT sep xs) := by
  unfold Txt.join Builtin.Str.glued
  cases xs with
  | nil => rfl
  | cons x r =>
    show (⟨(r.map toS).foldl (fun acc p => acc ++ (toS sep).cps ++ p.cps) (toS x).cps⟩ : Str) = ⟨((joinT sep (x :: r)).map Fin.val).toArray⟩
    congr 1
    apply Array.toList_inj.mp
    rw [glue_foldT]
theorem sum_lens : ∀ xs : List Tx, ((xs.map toS).map (·.length)).sum = (xs.map List.length).sum
  | [] => rfl
  | x :: r => by rw [List.map_cons, List.map_cons, List.sum_cons, sum_lens r, List.map_cons, List.sum_cons, toS_len]
theorem lo_join_ {sep : Tx} {xs : List Tx} {ds : List PyData} (h : strsD ds = some (xs.map toS)) : LO (joinD (.str (toS sep)) (.list ds)) (joinR sep xs) eTx ∧ LO (joinD (.str (toS sep)) (.tuple ds)) (joinR sep xs) eTx := by
  unfold joinR
  by_cases k : (xs.map List.length).sum + xs.length * sep.length ≤ 16777216
  · rw [if_pos k]
    have e : (strsD ds).bind (fun ys => if (ys.map (·.length)).sum + ys.length * (toS sep).length ≤ 16777216 then some (PyData.str (Txt.join (toS sep) ys)) else none) = some (eTx (joinT sep xs)) := by
      rw [h, Option.bind_some, sum_lens, List.length_map, toS_len, if_pos k, join_eq]
      rfl
    exact ⟨e, e⟩
  · rw [if_neg k]; exact ⟨trivial, trivial⟩
theorem lo_joinL (sep : Tx) (xs : List Tx) : LO (joinD (.str (toS sep)) (.list (xs.map eTx))) (joinR sep xs) eTx := (lo_join_ (strs_map xs)).1
theorem lo_joinT (sep : Tx) (xs : List Tx) : LO (joinD (.str (toS sep)) (.tuple (xs.map eTx))) (joinR sep xs) eTx := (lo_join_ (strs_map xs)).2
/-- characters behind each other, with a text between -/
def joinC (sep : Tx) (xs : List Ch) : R Tx := if sep = [] then szR xs else joinR sep (xs.map fun c => [c])
theorem joinT_chars : ∀ xs : List Ch, joinT [] (xs.map fun c => [c]) = xs
  | [] => rfl
  | [x] => rfl
  | x :: y :: r => by
    show [x] ++ [] ++ joinT [] ((y :: r).map fun c => [c]) = _
    rw [joinT_chars (y :: r)]; rfl
theorem sum_ones : ∀ xs : List Ch, ((xs.map fun c => [c]).map List.length).sum = xs.length
  | [] => rfl
  | x :: r => by rw [List.map_cons, List.map_cons, List.sum_cons, sum_ones r]; simp; omega
theorem lo_joinC (sep : Tx) (xs : List Ch) : LO (joinD (.str (toS sep)) (.list (xs.map eCh))) (joinC sep xs) eTx := by
  have q := (lo_join_ (sep := sep) (strs_mapC xs)).1
  unfold joinC
  by_cases h : sep = []
  · subst h
    rw [if_pos rfl]
    unfold joinR at q
    rw [joinT_chars, sum_ones] at q
    unfold szR
    by_cases k : xs.length ≤ 16777216
    · rw [if_pos k]
      rw [if_pos (by rw [List.length_nil]; omega)] at q
      exact q
    · rw [if_neg k]; trivial
  · rw [if_neg h]; exact q
theorem lo_sw (a b : Tx) : LO (swD (eTx a) (eTx b)) (.ok (eqT (a.take b.length) b)) .bool := by
  show some (PyData.bool (Txt.startswith (toS a) (toS b))) = _
  rw [sw_eq, toS_list, toS_list]
  have e : (toS b).cps.size = b.length := toS_len b
  rw [e, ← List.map_take]
  congr 2
  rw [Bool.eq_iff_iff, beq_iff_eq, eqT_iff]
  exact ⟨map_val_inj, fun h => by rw [h]⟩
/-! any data -/
def isA (ty : String) (d : PyData) : Bool := match isiD ty d with
  | some (_, .bool b) => b
  | _ => false
theorem lb_isA {ty : String} (h : ∀ d, ∃ b, isiD ty d = some (false, .bool b)) (d : PyData) : LB (isiD ty d) false (.ok (isA ty d)) .bool := by
  obtain ⟨b, e⟩ := h d
  show isiD ty d = some (false, .bool (isA ty d))
  unfold isA
  rw [e]
theorem isi_int (d : PyData) : ∃ b, isiD "int" d = some (false, .bool b) := ⟨_, rfl⟩
theorem isi_bool (d : PyData) : ∃ b, isiD "bool" d = some (false, .bool b) := ⟨_, rfl⟩
theorem isi_str (d : PyData) : ∃ b, isiD "str" d = some (false, .bool b) := ⟨_, rfl⟩
theorem isi_tuple (d : PyData) : ∃ b, isiD "tuple" d = some (false, .bool b) := ⟨_, rfl⟩
theorem isi_list (d : PyData) : ∃ b, isiD "list" d = some (false, .bool b) := ⟨_, rfl⟩
def lenA (d : PyData) : R Int := match lenD d with
  | some (false, .int i) => .ok i
  | _ => .bad
theorem lb_lenA (d : PyData) : LB (lenD d) false (lenA d) .int := by
  unfold lenA
  cases h : lenD d with
  | none => trivial
  | some p =>
    obtain ⟨b, x⟩ := p
    cases b <;> cases x <;> first | rfl | trivial
def idxA (d i : PyData) : R PyData := R.ofOpt (idxD d i)
theorem lo_idxA (d i : PyData) : LO (idxD d i) (idxA d i) eAny := by
  unfold idxA
  cases h : idxD d i with
  | none => trivial
  | some x => rfl
def itA (d : PyData) : R (List PyData) := R.ofOpt (itemsD d)
/-! from any data -/
def Dec (E : α → PyData) (D : PyData → Option α) : Prop := ∀ d a, D d = some a → E a = d
def dInt : PyData → Option Int
  | .int i => some i
  | _ => none
theorem dec_int : Dec PyData.int dInt := fun d a h => by cases d <;> simp [dInt] at h; rw [h]
def dBool : PyData → Option Bool
  | .bool i => some i
  | _ => none
theorem dec_bool : Dec PyData.bool dBool := fun d a h => by cases d <;> simp [dBool] at h; rw [h]
def ofNats : List Nat → Option Tx
  | [] => some []
  | x :: r => if h : x < 1114112 then (ofNats r).map (⟨x, h⟩ :: ·) else none
theorem ofNats_eq : ∀ {l : List Nat} {t : Tx}, ofNats l = some t → t.map Fin.val = l
  | [], t, h => by cases h; rfl
  | x :: r, t, h => by
    unfold ofNats at h
    by_cases k : x < 1114112
    · rw [dif_pos k] at h
      obtain ⟨u, e1, e2⟩ := Option.map_eq_some_iff.mp h
      subst e2
      rw [List.map_cons, ofNats_eq e1]
    · rw [dif_neg k] at h; cases h
theorem ofNats_map : ∀ t : Tx, ofNats (t.map Fin.val) = some t
  | [] => rfl
  | c :: r => by rw [List.map_cons]; unfold ofNats; rw [dif_pos c.isLt, ofNats_map r]; rfl
def dTx : PyData → Option Tx
  | .str s => ofNats s.cps.toList
  | _ => none
theorem dec_tx : Dec eTx dTx := fun d a h => by
  cases d with
  | str s =>
    have := ofNats_eq (show ofNats s.cps.toList = some a from h)
    unfold eTx toS
    rw [this]
  | _ => cases h
@[simp] theorem dTx_e (t : Tx) : dTx (eTx t) = some t := ofNats_map t
@[simp] theorem dInt_e (i : Int) : dInt (.int i) = some i := rfl
@[simp] theorem dBool_e (i : Bool) : dBool (.bool i) = some i := rfl
def dAll (D : PyData → Option α) : List PyData → Option (List α)
  | [] => some []
  | d :: r => (D d).bind fun a => (dAll D r).map (a :: ·)
theorem dAll_eq {D : PyData → Option α} (h : Dec E D) : ∀ {ds : List PyData} {xs : List α}, dAll D ds = some xs → xs.map E = ds
  | [], xs, e => by cases e; rfl
  | d :: r, xs, e => by
    obtain ⟨a, e1, e2⟩ := Option.bind_eq_some_iff.mp e
    obtain ⟨ys, e3, e4⟩ := Option.map_eq_some_iff.mp e2
    subst e4
    rw [List.map_cons, dAll_eq h e3, h _ _ e1]
theorem dAll_map {D : PyData → Option α} (h : ∀ a, D (E a) = some a) : ∀ xs : List α, dAll D (xs.map E) = some xs
  | [] => rfl
  | x :: r => by rw [List.map_cons]; unfold dAll; rw [h, dAll_map h r]; rfl
def dT (D : PyData → Option α) : PyData → Option (List α)
  | .tuple xs => dAll D xs
  | _ => none
def dL (D : PyData → Option α) : PyData → Option (List α)
  | .list xs => dAll D xs
  | _ => none
theorem dec_T {D : PyData → Option α} (h : Dec E D) : Dec (eT E) (dT D) := fun d a e => by
  cases d with
  | tuple xs => exact congrArg PyData.tuple (dAll_eq h e)
  | _ => cases e
theorem dec_L {D : PyData → Option α} (h : Dec E D) : Dec (eL E) (dL D) := fun d a e => by
  cases d with
  | list xs => exact congrArg PyData.list (dAll_eq h e)
  | _ => cases e
@[simp] theorem dT_e {D : PyData → Option α} (h : ∀ a, D (E a) = some a) (xs : List α) : dT D (.tuple (xs.map E)) = some xs := dAll_map h xs
@[simp] theorem dL_e {D : PyData → Option α} (h : ∀ a, D (E a) = some a) (xs : List α) : dL D (.list (xs.map E)) = some xs := dAll_map h xs
theorem SR.dec {r : RE} {t : R PyData} {D : PyData → Option α} {κ : List K} (p : SR n fl r t eAny fun _ => κ) (h : Dec E D) : SR n .a r (t.bind fun d => R.ofOpt (D d)) E fun _ => κ := by
  cases t with
  | ok d =>
    show SR n .a r (R.ofOpt (D d)) E fun _ => κ
    cases e : D d with
    | none => trivial
    | some a =>
      obtain ⟨g', e1, e2⟩ := p
      exact ⟨g', by rw [h _ _ e]; exact Fl.is_sh e1, e2⟩
  | ex x => exact p
  | bad => trivial
/-! ### walks -/
def SI (n : Nat) (r : RL) (t : R β) (F : β → List PyData) (κ : β → List K) : Prop := match t with
  | .ok b => ∃ g', r = .ok (F b) g' ∧ Fit (κ b) g'
  | .ex x => ∃ g', r = .ex x g' ∧ g'.length = n
  | .bad => True
theorem thenL_sh {r : RE} {d : PyData} {g : Gam} {f : PyData → Gam → RL} (h : r.sh = .ok d g) : r.thenL f = f d g := by
  rcases sh_cases h with rfl | ⟨o, rfl, rfl⟩ <;> rfl
theorem SI_seq {e : ME} {t : R α} {F : α → List PyData} (p : SR n fl (e g) t E κ) (hF : ∀ a, itemsD (E a) = some (F a)) : SI n (iSeq e g) t F κ := by
  cases t with
  | ok a =>
    obtain ⟨g', e1, h⟩ := p
    refine ⟨g', ?_, h⟩
    unfold iSeq
    rw [thenL_sh (Fl.is_sh e1), hF]; rfl
  | ex x =>
    obtain ⟨g', e1, h⟩ := p
    exact ⟨g', by unfold iSeq; rw [e1]; rfl, h⟩
  | bad => trivial
theorem it_L (xs : List α) : itemsD (.list (xs.map E)) = some (xs.map E) := rfl
theorem it_T (xs : List α) : itemsD (.tuple (xs.map E)) = some (xs.map E) := rfl
theorem it_Tx (z : Tx) : itemsD (eTx z) = some (z.map eCh) := by show some _ = _; rw [map_chD]
theorem SI_any {e : ME} {t : R PyData} {κ : List K} (p : SR n fl (e g) t eAny fun _ => κ) : SI n (iSeq e g) (t.bind itA) (fun ds => ds.map eAny) fun _ => κ := by
  cases t with
  | ok a =>
    obtain ⟨g', e1, h⟩ := p
    show SI n _ (itA a) _ _
    unfold itA
    cases k : itemsD a with
    | none => trivial
    | some ds =>
      refine ⟨g', ?_, h⟩
      unfold iSeq
      rw [thenL_sh (Fl.is_sh e1), k]
      show RL.ok ds g' = RL.ok (ds.map fun d => d) g'
      rw [List.map_id']
  | ex x =>
    obtain ⟨g', e1, h⟩ := p
    exact ⟨g', by unfold iSeq; rw [e1]; rfl, h⟩
  | bad => trivial
def rngR (a b : Int) : R (List Int) := if a < 2 ^ 62 ∧ -(2 ^ 62) ≤ a ∧ b < 2 ^ 62 ∧ -(2 ^ 62) ≤ b then .ok ((List.range (b - a).toNat).map fun (k : Nat) => a + k) else .bad
theorem rngD_eq (a b : Int) : match rngR a b with | .ok xs => rngD a b = some (xs.map .int) | .ex _ => False | .bad => True := by
  unfold rngR
  by_cases h : a < 2 ^ 62 ∧ -(2 ^ 62) ≤ a ∧ b < 2 ^ 62 ∧ -(2 ^ 62) ≤ b
  · rw [if_pos h]
    show rngD a b = _
    unfold rngD
    rw [if_pos h, List.map_map]
    rfl
  · rw [if_neg h]; trivial
/-- a number, then a walk: with what the number's making changes -/
theorem SI_rng {e : ME} {t : R Int} (p : SR n fl (e g) t .int fun _ => ks) : SI n (iRng e g) (t.bind fun b => rngR 0 b) (fun xs => xs.map .int) fun _ => ks := by
  cases t with
  | ok b =>
    obtain ⟨g', e1, h⟩ := p
    show SI n _ (rngR 0 b) _ _
    have q := rngD_eq 0 b
    cases k : rngR 0 b with
    | ok xs =>
      rw [k] at q
      refine ⟨g', ?_, h⟩
      unfold iRng
      rw [thenL_sh (Fl.is_sh e1)]
      show RL.ofO g' (rngD 0 b) = _
      rw [q]; rfl
    | ex x => rw [k] at q; exact q.elim
    | bad => trivial
  | ex x =>
    obtain ⟨g', e1, h⟩ := p
    exact ⟨g', by unfold iRng; rw [e1]; rfl, h⟩
  | bad => trivial
/-- the same, the number with a state -/
theorem SI_rngM {e : ME} {t : R (Int × δ)} {κ : δ → List K} (p : SR n fl (e g) t (fun p => .int p.1) fun p => κ p.2) : SI n (iRng e g) (t.bind fun b => (rngR 0 b.1).bind fun xs => .ok (xs, b.2)) (fun p => p.1.map .int) fun p => κ p.2 := by
  cases t with
  | ok b =>
    obtain ⟨g', e1, h⟩ := p
    show SI n _ ((rngR 0 b.1).bind fun xs => .ok (xs, b.2)) _ _
    have q := rngD_eq 0 b.1
    cases k : rngR 0 b.1 with
    | ok xs =>
      rw [k] at q
      refine ⟨g', ?_, h⟩
      unfold iRng
      rw [thenL_sh (Fl.is_sh e1)]
      show RL.ofO g' (rngD 0 b.1) = _
      rw [q]; rfl
    | ex x => rw [k] at q; exact q.elim
    | bad => trivial
  | ex x =>
    obtain ⟨g', e1, h⟩ := p
    exact ⟨g', by unfold iRng; rw [e1]; rfl, h⟩
  | bad => trivial
theorem SI_rng2 {e f : ME} {t u : R Int} (p : SR n fl (e g) t .int fun _ => ks) (q : ∀ g, Fit ks g → SR n fl' (f g) u .int fun _ => ks) : SI n (iRng2 e f g) (t.bind fun a => u.bind fun b => rngR a b) (fun xs => xs.map .int) fun _ => ks := by
  cases t with
  | ok a =>
    obtain ⟨g', e1, h⟩ := p
    have q := q g' h
    cases u with
    | ok b =>
      obtain ⟨g2, e2, h2⟩ := q
      show SI n _ (rngR a b) _ _
      have q := rngD_eq a b
      cases k : rngR a b with
      | ok xs =>
        rw [k] at q
        refine ⟨g2, ?_, h2⟩
        unfold iRng2
        rw [thenL_sh (Fl.is_sh e1)]
        show (f g').thenL _ = _
        rw [thenL_sh (Fl.is_sh e2)]
        show RL.ofO g2 (rngD a b) = _
        rw [q]; rfl
      | ex x => rw [k] at q; exact q.elim
      | bad => trivial
    | ex x =>
      obtain ⟨g2, e2, h2⟩ := q
      refine ⟨g2, ?_, h2⟩
      unfold iRng2
      rw [thenL_sh (Fl.is_sh e1)]
      show (f g').thenL _ = _
      rw [e2]; rfl
    | bad => trivial
  | ex x =>
    obtain ⟨g', e1, h⟩ := p
    exact ⟨g', by unfold iRng2; rw [e1]; rfl, h⟩
  | bad => trivial
theorem zip_map (E : α → PyData) (F : β → PyData) : ∀ (xs : List α) (ys : List β), List.zipWith (fun x y => PyData.tuple [x, y]) (xs.map E) (ys.map F) = (List.zip xs ys).map (eP2 E F)
  | [], _ => by simp
  | _ :: _, [] => by simp
  | x :: xs, y :: ys => by simp [zip_map E F xs ys]
theorem SI_zip {e f : ME} {t : R (List α)} {u : R (List β)} {E1 : List α → PyData} {F1 : List β → PyData} {F : β → PyData} (p : SR n fl (e g) t E1 fun _ => ks) (q : ∀ g, Fit ks g → SR n fl' (f g) u F1 fun _ => ks) (hz : ∀ a b, zipD (E1 a) (F1 b) = some (List.zipWith (fun x y => PyData.tuple [x, y]) (a.map E) (b.map F))) :
    SI n (iZip e f g) (t.bind fun a => u.bind fun b => .ok (List.zip a b)) (fun xs => xs.map (eP2 E F)) fun _ => ks := by
  cases t with
  | ok a =>
    obtain ⟨g', e1, h⟩ := p
    have q := q g' h
    cases u with
    | ok b =>
      obtain ⟨g2, e2, h2⟩ := q
      refine ⟨g2, ?_, h2⟩
      unfold iZip
      rw [thenL_sh (Fl.is_sh e1)]
      show (f g').thenL _ = _
      rw [thenL_sh (Fl.is_sh e2), hz, zip_map]
      rfl
    | ex x =>
      obtain ⟨g2, e2, h2⟩ := q
      refine ⟨g2, ?_, h2⟩
      unfold iZip
      rw [thenL_sh (Fl.is_sh e1)]
      show (f g').thenL _ = _
      rw [e2]; rfl
    | bad => trivial
  | ex x =>
    obtain ⟨g', e1, h⟩ := p
    exact ⟨g', by unfold iZip; rw [e1]; rfl, h⟩
  | bad => trivial
/-! targets -/
def TG (t : Tg) (d : PyData) (ks ks' : List K) : Prop := ∀ g, Fit ks g → ∃ g', tgD t d g = some g' ∧ Fit ks' g'
def TGL (ts : List Tg) (ds : List PyData) (ks ks' : List K) : Prop := ∀ g, Fit ks g → ∃ g', tgL ts ds g = some g' ∧ Fit ks' g'
theorem tg_nm {i : Nat} {d : PyData} {k : K} (e : ks[i]? = some k) (nb : NB k) : TG (.nm i) d ks (ks.set i (kSh d)) := fun g h => by
  obtain ⟨e1, h1⟩ := h.put (k' := kSh d) (s := .sh d) e nb rfl
  exact ⟨_, e1, h1⟩
theorem tg_tp {ts : List Tg} {ds : List PyData} (p : TGL ts ds ks ks') : TG (.tp ts) (.tuple ds) ks ks' := p
theorem tgl_n : TGL [] [] ks ks := fun g h => ⟨g, rfl, h⟩
theorem tgl_c {t : Tg} {ts : List Tg} {d : PyData} {ds : List PyData} {ks1 ks2 ks3 : List K} (p : TG t d ks1 ks2) (q : TGL ts ds ks2 ks3) : TGL (t :: ts) (d :: ds) ks1 ks3 := fun g h => by
  obtain ⟨g1, e1, h1⟩ := p g h
  obtain ⟨g2, e2, h2⟩ := q g1 h1
  refine ⟨g2, ?_, h2⟩
  show (tgD t d g).bind _ = _
  rw [e1]; exact e2
/-! ### comprehensions -/
def wipeK (ks : List K) : List Nat → List K
  | [] => ks
  | i :: r => (wipeK ks r).set i kFr
def topK (ks : List K) (own : List Nat) : List K := own.foldl (fun l i => l.set i kTop) ks
theorem Fit.iff : ∀ {ks : List K} {g : Gam}, Fit ks g ↔ g.length = ks.length ∧ ∀ (i : Nat) (k : K), ks[i]? = some k → ∃ s, g[i]? = some s ∧ k s
  | [], [] => ⟨fun _ => ⟨rfl, fun i k e => by simp at e⟩, fun _ => trivial⟩
  | [], _ :: _ => ⟨fun h => h.elim, fun h => by simp at h⟩
  | _ :: _, [] => ⟨fun h => h.elim, fun h => by simp at h⟩
  | k :: ks, s :: g => ⟨fun h => ⟨h.len, fun i k' e => h.get e⟩, fun h => by
    refine ⟨?_, Fit.iff.mpr ⟨by simpa using h.1, fun i k' e => h.2 (i + 1) k' (by simpa using e)⟩⟩
    obtain ⟨s', e, hs⟩ := h.2 0 k rfl
    cases e; exact hs⟩
theorem wipeK_get : ∀ (ks : List K) (own : List Nat) (j : Nat), (wipeK ks own)[j]? = if j ∈ own then (ks[j]?).map fun _ => kFr else ks[j]?
  | ks, [], j => by simp [wipeK]
  | ks, i :: r, j => by
    show ((wipeK ks r).set i kFr)[j]? = _
    have hl : ∀ (r : List Nat), (wipeK ks r).length = ks.length := fun r => by
      induction r with
      | nil => rfl
      | cons i r ih => show ((wipeK ks r).set i kFr).length = _; rw [List.length_set, ih]
    rw [List.getElem?_set]
    by_cases h : i = j
    · subst h
      rw [if_pos rfl, if_pos List.mem_cons_self, hl]
      by_cases k : i < ks.length
      · rw [if_pos k, List.getElem?_eq_getElem k]; rfl
      · rw [if_neg k, List.getElem?_eq_none (by omega)]; rfl
    · rw [if_neg h, wipeK_get ks r j]
      have e : (j ∈ i :: r) ↔ j ∈ r := by
        rw [List.mem_cons]
        exact ⟨fun z => z.resolve_left fun q => h q.symm, .inr⟩
      by_cases k : j ∈ r
      · rw [if_pos k, if_pos (e.mpr k)]
      · rw [if_neg k, if_neg fun z => k (e.mp z)]
theorem topK_get : ∀ (own : List Nat) (ks : List K) (j : Nat), (topK ks own)[j]? = if j ∈ own then (ks[j]?).map fun _ => kTop else ks[j]?
  | [], ks, j => by simp [topK]
  | i :: r, ks, j => by
    show (topK (ks.set i kTop) r)[j]? = _
    rw [topK_get r, List.getElem?_set]
    by_cases k : j ∈ r
    · rw [if_pos k, if_pos (List.mem_cons_of_mem _ k)]
      by_cases h : i = j
      · subst h
        rw [if_pos rfl]
        by_cases l : i < ks.length
        · rw [if_pos l, List.getElem?_eq_getElem l]; rfl
        · rw [if_neg l, List.getElem?_eq_none (by omega)]
      · rw [if_neg h]
    · rw [if_neg k]
      by_cases h : i = j
      · subst h
        rw [if_pos rfl, if_pos List.mem_cons_self]
        by_cases l : i < ks.length
        · rw [if_pos l, List.getElem?_eq_getElem l]; rfl
        · rw [if_neg l, List.getElem?_eq_none (by omega)]; rfl
      · rw [if_neg h, if_neg (by rw [List.mem_cons]; exact fun z => z.elim (fun q => h q.symm) k)]
theorem topK_len (own : List Nat) (ks : List K) : (topK ks own).length = ks.length := by
  unfold topK
  induction own generalizing ks with
  | nil => rfl
  | cons i r ih => rw [List.foldl_cons, ih, List.length_set]
theorem wipeK_len (ks : List K) : ∀ own : List Nat, (wipeK ks own).length = ks.length
  | [] => rfl
  | i :: r => by show ((wipeK ks r).set i kFr).length = _; rw [List.length_set, wipeK_len ks r]
theorem top_fit {own : List Nat} (h : Fit ks g) : Fit (topK ks own) g := Fit.iff.mpr ⟨by rw [topK_len]; exact h.len, fun i k e => by
  rw [topK_get] at e
  by_cases m : i ∈ own
  · rw [if_pos m] at e
    obtain ⟨k', e1, e2⟩ := Option.map_eq_some_iff.mp e
    obtain ⟨s, e3, _⟩ := h.get e1
    exact ⟨s, e3, by rw [← e2]; trivial⟩
  · rw [if_neg m] at e
    exact h.get e⟩
theorem wipe_fit {own : List Nat} (h : Fit (topK ks own) g) : Fit (wipeK ks own) (wipeG g own) := Fit.iff.mpr ⟨by rw [wipeK_len, wipeU_len, h.len, topK_len], fun i k e => by
  rw [wipeK_get] at e
  rw [wipeU_get]
  by_cases m : i ∈ own
  · rw [if_pos m] at e
    obtain ⟨k', e1, e2⟩ := Option.map_eq_some_iff.mp e
    have : (topK ks own)[i]? = some kTop := by rw [topK_get, if_pos m, e1]; rfl
    obtain ⟨s, e3, _⟩ := h.get this
    rw [if_pos m, e3]
    exact ⟨.un, rfl, by rw [← e2]; exact .inl rfl⟩
  · rw [if_neg m] at e
    rw [if_neg m]
    exact h.get (by rw [topK_get, if_neg m]; exact e)⟩
theorem back_fit {own : List Nat} {ks0 : List K} {g0 : Gam} (h0 : Fit ks0 g0) (h : Fit (topK ks own) g) (hl : g.length = g0.length) (hs : Imp (topK ks own) (topK ks0 own)) : Fit ks0 (backG g0 g own) := Fit.iff.mpr ⟨by
    rw [← h0.len]
    exact (foldlU_len g0 own g).trans hl, fun i k e => by
  rw [backU_get g0 own g i hl]
  by_cases m : i ∈ own
  · rw [if_pos m]; exact h0.get e
  · rw [if_neg m]
    exact (h.imp hs).get (by rw [topK_get, if_neg m]; exact e)⟩
theorem Imp.refl : ∀ ks : List K, Imp ks ks
  | [] => trivial
  | _ :: ks => ⟨fun _ h => h, Imp.refl ks⟩
/-- each passing item, mapped -/
def compGoR : List α → (α → R Bool) → (α → R β) → R (List β)
  | [], _, _ => .ok []
  | x :: xs, p, f => (p x).noex.bind fun b => cond b ((f x).noex.bind fun y => (compGoR xs p f).bind fun ys => .ok (y :: ys)) (compGoR xs p f)
def compR (xs : List α) (p : α → R Bool) (f : α → R β) : R (List β) := (compGoR xs p f).bind fun ys => if ys.length < 16777216 then .ok ys else .bad
theorem comp_go {own : List Nat} {t : Tg} {c e : ME} {p : α → R Bool} {f : α → R β} {κt : α → List K} (hb : ∀ x, TG t (E x) (wipeK ks own) (κt x)) (hc : ∀ x g, Fit (κt x) g → SR n fl (c g) (p x) .bool fun _ => κt x)
    (he : ∀ x g, Fit (κt x) g → SR n fl' (e g) (f x) E' fun _ => κt x) (ho : ∀ x, Imp (κt x) (topK ks own)) : ∀ (xs : List α) (g : Gam) (acc : List PyData) (ys : List β), Fit (topK ks own) g → compGoR xs p f = .ok ys →
      ∃ g', compGo (compTurn own t c e) (xs.map E) g acc = some (acc.reverse ++ ys.map E', g') ∧ Fit (topK ks own) g'
  | [], g, acc, ys, h, q => by
    cases q
    exact ⟨g, by simp [compGo], h⟩
  | x :: xs, g, acc, ys, h, q => by
    unfold compGoR at q
    obtain ⟨g1, e1, h1⟩ := hb x (wipeG g own) (wipe_fit h)
    have c1 := hc x g1 h1
    cases kp : p x with
    | ok b =>
      rw [kp] at c1 q
      obtain ⟨g2, e2, h2⟩ := c1
      have e2 := Fl.is_sh e2
      cases b with
      | false =>
        obtain ⟨g', e3, h3⟩ := comp_go hb hc he ho xs g2 acc ys (h2.imp (ho x)) q
        refine ⟨g', ?_, h3⟩
        rw [List.map_cons]
        unfold compGo
        have : compTurn own t c e (E x) g = some (none, g2) := by
          unfold Ev.compTurn
          rw [e1, Option.bind_some, e2]
        rw [this]
        exact e3
      | true =>
        have c2 := he x g2 h2
        change (R.bind (f x).noex fun y => (compGoR xs p f).bind fun ys => .ok (y :: ys)) = .ok ys at q
        cases kf : f x with
        | ok y =>
          rw [kf] at c2 q
          obtain ⟨g3, e3, h3⟩ := c2
          have e3 := Fl.is_sh e3
          change (R.bind (compGoR xs p f) fun ys => .ok (y :: ys)) = .ok ys at q
          cases kr : compGoR xs p f with
          | ok zs =>
            rw [kr] at q
            cases q
            obtain ⟨g', e4, h4⟩ := comp_go hb hc he ho xs g3 (E' y :: acc) zs (h3.imp (ho x)) kr
            refine ⟨g', ?_, h4⟩
            rw [List.map_cons]
            unfold compGo
            have : compTurn own t c e (E x) g = some (some (E' y), g3) := by
              unfold Ev.compTurn
              rw [e1, Option.bind_some, e2]
              show (match (e g2).sh with | .ok d g => some (some d, g) | _ => none) = _
              rw [e3]
            rw [this]
            show compGo _ _ g3 (E' y :: acc) = _
            rw [e4, List.reverse_cons, List.append_assoc]
            rfl
          | ex _ => rw [kr] at q; cases q
          | bad => rw [kr] at q; cases q
        | ex _ => rw [kf] at q; cases q
        | bad => rw [kf] at q; cases q
    | ex _ => rw [kp] at q; cases q
    | bad => rw [kp] at q; cases q
theorem compGoR_noex (p : α → R Bool) (f : α → R β) (x : Exn) : ∀ xs : List α, compGoR xs p f ≠ .ex x
  | [], h => by cases h
  | a :: xs, h => by
    unfold compGoR at h
    cases kp : p a with
    | ok b =>
      rw [kp] at h
      cases b with
      | false => exact compGoR_noex p f x xs h
      | true =>
        change (R.bind (f a).noex fun y => (compGoR xs p f).bind fun ys => .ok (y :: ys)) = .ex x at h
        cases kf : f a with
        | ok y =>
          rw [kf] at h
          change (R.bind (compGoR xs p f) fun ys => .ok (y :: ys)) = .ex x at h
          cases kr : compGoR xs p f with
          | ok zs => rw [kr] at h; cases h
          | ex z => rw [kr] at h; cases h; exact compGoR_noex p f x xs kr
          | bad => rw [kr] at h; cases h
        | ex _ => rw [kf] at h; cases h
        | bad => rw [kf] at h; cases h
    | ex _ => rw [kp] at h; cases h
    | bad => rw [kp] at h; cases h
theorem go_len {turn : PyData → Gam → Option (Option PyData × Gam)} {xs : List PyData} : True := trivial
theorem SR_comp {own : List Nat} {t : Tg} {l : ML} {c e : ME} {tl : R δ} {X : δ → List α} {κ₁ : δ → List K} {κr : List β → List K} {p : δ → α → R Bool} {f : δ → α → R β} {κt : δ → α → List K}
    (pl : SI n (l g) tl (fun b => (X b).map E) κ₁) (hf : ∀ b g, Fit (κ₁ b) g → freeOf g own = true) (hb : ∀ b x, TG t (E x) (wipeK (κ₁ b) own) (κt b x)) (hc : ∀ b x g, Fit (κt b x) g → SR n fl (c g) (p b x) .bool fun _ => κt b x)
    (he : ∀ b x g, Fit (κt b x) g → SR n fl' (e g) (f b x) E' fun _ => κt b x) (ho : ∀ b x, Imp (κt b x) (topK (κ₁ b) own)) (hr : ∀ b ys g, Fit (κ₁ b) g → Fit (κr ys) g) :
    SR n .f (eComp own t l c e g) (tl.bind fun b => compR (X b) (p b) (f b)) (fun ys => .list (ys.map E')) κr := by
  cases tl with
  | ok b =>
    obtain ⟨g1, e1, h1⟩ := pl
    show SR n .f _ (compR (X b) (p b) (f b)) _ _
    unfold compR
    cases kr : compGoR (X b) (p b) (f b) with
    | ok ys =>
      show SR n .f _ (if ys.length < 16777216 then .ok ys else .bad) _ _
      by_cases hz : ys.length < 16777216
      · rw [if_pos hz]
        obtain ⟨g', e2, h2⟩ := comp_go (hb b) (hc b) (he b) (ho b) (X b) g1 [] ys (top_fit h1) kr
        refine ⟨backG g1 g' own, ⟨_, rfl, ?_⟩, hr b ys _ (back_fit h1 h2 (by rw [h2.len, topK_len, h1.len]) (Imp.refl _))⟩
        unfold eComp
        rw [e1]
        show (if Ev.freeOf g1 own then compEnd own g1 (compGo (compTurn own t c e) ((X b).map E) g1 []) else .bad) = _
        rw [if_pos (hf b g1 h1), e2]
        show (if (([] : List PyData).reverse ++ ys.map E').length < sizeLine then RE.fr (.lst (([] : List PyData).reverse ++ ys.map E')) (backG g1 g' own) else .bad) = _
        rw [if_pos (by rw [sizeLine_eq]; simpa using hz)]
        rfl
      · rw [if_neg hz]; trivial
    | ex x => exact absurd kr (compGoR_noex _ _ _ _)
    | bad => trivial
  | ex x =>
    obtain ⟨g', e1, h⟩ := pl
    exact ⟨g', by unfold eComp; rw [e1]; rfl, h⟩
  | bad => trivial
/-- with a state -/
def compGoM : List α → δ → (α → δ → R (β × δ)) → R (List β × δ)
  | [], s, _ => .ok ([], s)
  | x :: xs, s, f => (f x s).noex.bind fun y => (compGoM xs y.2 f).bind fun r => .ok (y.1 :: r.1, r.2)
def compM (xs : List α) (s : δ) (f : α → δ → R (β × δ)) : R (List β × δ) := (compGoM xs s f).bind fun r => if r.1.length < 16777216 then .ok r else .bad
theorem comp_goM {own : List Nat} {t : Tg} {e : ME} {f : α → δ → R (β × δ)} {κ₁ : δ → List K} {κt : δ → α → List K} (hb : ∀ s x, TG t (E x) (wipeK (κ₁ s) own) (κt s x))
    (he : ∀ s x g, Fit (κt s x) g → SR n fl' (e g) (f x s) (fun r => E' r.1) fun r => κt r.2 x) (ho : ∀ s x, Imp (κt s x) (topK (κ₁ s) own)) : ∀ (xs : List α) (s : δ) (g : Gam) (acc : List PyData) (r : List β × δ), Fit (topK (κ₁ s) own) g → compGoM xs s f = .ok r →
      ∃ g', compGo (compTurn own t eYes e) (xs.map E) g acc = some (acc.reverse ++ r.1.map E', g') ∧ Fit (topK (κ₁ r.2) own) g'
  | [], s, g, acc, r, h, q => by
    cases q
    exact ⟨g, by simp [compGo], h⟩
  | x :: xs, s, g, acc, r, h, q => by
    unfold compGoM at q
    obtain ⟨g1, e1, h1⟩ := hb s x (wipeG g own) (wipe_fit h)
    have c2 := he s x g1 h1
    cases kf : f x s with
    | ok y =>
      rw [kf] at c2 q
      obtain ⟨g3, e3, h3⟩ := c2
      have e3 := Fl.is_sh e3
      change (R.bind (compGoM xs y.2 f) fun r => .ok (y.1 :: r.1, r.2)) = .ok r at q
      cases kr : compGoM xs y.2 f with
      | ok zs =>
        rw [kr] at q
        cases q
        obtain ⟨g', e4, h4⟩ := comp_goM hb he ho xs y.2 g3 (E' y.1 :: acc) zs (h3.imp (ho y.2 x)) kr
        refine ⟨g', ?_, h4⟩
        rw [List.map_cons]
        unfold compGo
        have : compTurn own t eYes e (E x) g = some (some (E' y.1), g3) := by
          unfold Ev.compTurn
          rw [e1, Option.bind_some]
          show (match (e g1).sh with | .ok d g => some (some d, g) | _ => none) = _
          rw [e3]
        rw [this]
        show compGo _ _ g3 (E' y.1 :: acc) = _
        rw [e4, List.reverse_cons, List.append_assoc]
        rfl
      | ex _ => rw [kr] at q; cases q
      | bad => rw [kr] at q; cases q
    | ex _ => rw [kf] at q; cases q
    | bad => rw [kf] at q; cases q
theorem compGoM_noex (f : α → δ → R (β × δ)) (x : Exn) : ∀ (xs : List α) (s : δ), compGoM xs s f ≠ .ex x
  | [], s, h => by cases h
  | a :: xs, s, h => by
    unfold compGoM at h
    cases kf : f a s with
    | ok y =>
      rw [kf] at h
      change (R.bind (compGoM xs y.2 f) fun r => .ok (y.1 :: r.1, r.2)) = .ex x at h
      cases kr : compGoM xs y.2 f with
      | ok zs => rw [kr] at h; cases h
      | ex z => rw [kr] at h; cases h; exact compGoM_noex f x xs y.2 kr
      | bad => rw [kr] at h; cases h
    | ex _ => rw [kf] at h; cases h
    | bad => rw [kf] at h; cases h
theorem SR_compM {ω : Type} {own : List Nat} {t : Tg} {l : ML} {e : ME} {tl : R ω} {X : ω → List α} {S : ω → δ} {κ₁ : δ → List K} {κr : List β × δ → List K} {f : α → δ → R (β × δ)} {κt : δ → α → List K}
    (pl : SI n (l g) tl (fun b => (X b).map E) fun b => κ₁ (S b)) (hf : ∀ s g, Fit (κ₁ s) g → freeOf g own = true) (hb : ∀ s x, TG t (E x) (wipeK (κ₁ s) own) (κt s x))
    (he : ∀ s x g, Fit (κt s x) g → SR n fl' (e g) (f x s) (fun r => E' r.1) fun r => κt r.2 x) (ho : ∀ s x, Imp (κt s x) (topK (κ₁ s) own))
    (hk : ∀ (s s' : δ) (g g' : Gam), Fit (κ₁ s) g → Fit (topK (κ₁ s') own) g' → Fit (κ₁ s') (backG g g' own)) (hr : ∀ r g, Fit (κ₁ r.2) g → Fit (κr r) g) :
    SR n .f (eComp own t l eYes e g) (tl.bind fun b => compM (X b) (S b) f) (fun r => .list (r.1.map E')) κr := by
  cases tl with
  | ok b =>
    obtain ⟨g1, e1, h1⟩ := pl
    show SR n .f _ (compM (X b) (S b) f) _ _
    unfold compM
    cases kr : compGoM (X b) (S b) f with
    | ok ys =>
      show SR n .f _ (if ys.1.length < 16777216 then .ok ys else .bad) _ _
      by_cases hz : ys.1.length < 16777216
      · rw [if_pos hz]
        obtain ⟨g', e2, h2⟩ := comp_goM hb he ho (X b) (S b) g1 [] ys (top_fit h1) kr
        refine ⟨backG g1 g' own, ⟨_, rfl, ?_⟩, hr ys _ (hk _ _ g1 g' h1 h2)⟩
        unfold eComp
        rw [e1]
        show (if Ev.freeOf g1 own then compEnd own g1 (compGo (compTurn own t eYes e) ((X b).map E) g1 []) else .bad) = _
        rw [if_pos (hf _ g1 h1), e2]
        show (if (([] : List PyData).reverse ++ ys.1.map E').length < sizeLine then RE.fr (.lst (([] : List PyData).reverse ++ ys.1.map E')) (backG g1 g' own) else .bad) = _
        rw [if_pos (by rw [sizeLine_eq]; simpa using hz)]
        rfl
      · rw [if_neg hz]; trivial
    | ex x => exact absurd kr (compGoM_noex _ _ _ _)
    | bad => trivial
  | ex x =>
    obtain ⟨g', e1, h⟩ := pl
    exact ⟨g', by unfold eComp; rw [e1]; rfl, h⟩
  | bad => trivial
end
end Ty

set_option Elab.async false
set_option linter.all false
set_option maxRecDepth 100000
set_option maxHeartbeats 4000000
/-! TyC: refusals, statements, defs. -/
namespace Ty
open PySem Ev
section
variable {α β γ δ σ τ ρ : Type} {n : Nat} {fl fl' fl'' : Fl} {ks ks' : List K} {g : Gam} {E : α → PyData} {E' : β → PyData} {κ : α → List K} {κ' : β → List K}
/-! ### _law_refused -/
def refE (c : String) (r : RE) : RE := match r with
  | .ok _ g => .ok (.str (Str.ofString "")) g
  | .fr _ g => .ok (.str (Str.ofString "")) g
  | .ex x g => if x.cls = c then .ok x.arg g else .bad
  | .bad => .bad
theorem SR_ref {c : String} {e : ME} {t : R Tx} {κ : Tx → List K} (p : SR n .o (refE c (e g)) t eTx κ) : SR n .o (eRefused c e g) t eTx κ := by
  have : eRefused c e g = refE c (e g) := by unfold eRefused refE; cases e g <;> rfl
  rw [this]; exact p
/-- what a call refuses -/
def refR (c : String) (t : R α) : R Tx := match t with
  | .ok _ => .ok []
  | .ex x => if x.cls = c then R.ofOpt (dTx x.arg) else .bad
  | .bad => .bad
theorem SR_rEnd {c : String} {r : RE} {t : R α} (p : SR n fl r t E fun _ => ks) (h : ∀ x g', r = .ex x g' → Fit ks g') : SR n .o (refE c r) (refR c t) eTx fun _ => ks := by
  cases t with
  | ok a =>
    obtain ⟨g', e1, h1⟩ := p
    refine ⟨g', ?_, h1⟩
    have e : eTx [] = .str (Str.ofString "") := by kernel_rfl
    show refE c r = .ok (eTx []) g'
    rw [e]
    rcases sh_cases (Fl.is_sh e1) with e2 | ⟨o, _, e2⟩ <;> rw [e2] <;> rfl
  | ex x =>
    obtain ⟨g', e1, h1⟩ := p
    show SR n .o _ (if x.cls = c then R.ofOpt (dTx x.arg) else .bad) _ _
    by_cases k : x.cls = c
    · rw [if_pos k]
      cases e : dTx x.arg with
      | none => trivial
      | some t =>
        refine ⟨g', ?_, h x g' e1⟩
        show refE c r = _
        rw [e1, dec_tx _ _ e]
        show (if x.cls = c then RE.ok x.arg g' else .bad) = _
        rw [if_pos k]
    · rw [if_neg k]; trivial
  | bad => trivial
/-- a call with shared arguments that is refused, perhaps -/
theorem SR_rEndS {c : String} {m : Nat} {f : List Ev.Arg → RF} {ds : List PyData} {t : R α} (h : Fit ks g) (hn : ks.length = n) (hm : ds.length = m) (hf : SFn fl (f (ds.map .sh)) t E fun _ => []) : SR n .o (refE c (Ev.callEnd m f (ds.map .sh) g)) (refR c t) eTx fun _ => ks := by
  refine SR_rEnd (SR_endS h hn hm hf) fun x g' e => ?_
  unfold Ev.callEnd at e
  rw [if_pos ⟨by rw [List.length_map]; exact hm, by rw [byrs_sh]; exact List.nodup_nil⟩, args_sh] at e
  change callBack (ds.map .sh) g (f (ds.map .sh)) = _ at e
  cases k : f (ds.map .sh) with
  | ok d bs => rw [k] at e; change (match takeBack (ds.map .sh) bs g with | some g => RE.ok d g | none => .bad) = _ at e; cases kk : takeBack (ds.map .sh) bs g <;> rw [kk] at e <;> cases e
  | fr d bs => rw [k] at e; change (match takeBack (ds.map .sh) bs g with | some g => RE.fr d g | none => .bad) = _ at e; cases kk : takeBack (ds.map .sh) bs g <;> rw [kk] at e <;> cases e
  | ex y bs =>
    cases t with
    | ok a =>
      rcases Fl.isF_any hf with q | ⟨o, _, q⟩ <;> rw [k] at q <;> cases q
    | ex z =>
      have hf2 : f (ds.map .sh) = .ex z [] := hf
      rw [hf2] at k
      cases k
      rw [hf2] at e
      change (match takeBack (ds.map .sh) [] g with | some g => RE.ex _ g | none => .bad) = _ at e
      rw [back_sh] at e
      cases e
      exact h
    | bad =>
      rw [k] at e
      change (match takeBack (ds.map .sh) bs g with | some g => RE.ex y g | none => .bad) = _ at e
      have : bs = [] ∨ takeBack (ds.map AV.sh) bs g = none := by
        clear e hf k hm
        induction ds with
        | nil => cases bs with
          | nil => exact .inl rfl
          | cons b bs => exact .inr rfl
        | cons d ds ih => exact ih
      rcases this with rfl | q
      · rw [back_sh] at e; cases e; exact h
      · rw [q] at e; cases e
  | bad => rw [k] at e; cases e
theorem SR_rNil {c : String} {k : List AV → Gam → RE} {t : R α} (p : SR n fl (refE c (k [] g)) t E κ) : SR n fl (refE c (RA.thn (aNil g) k)) t E κ := p
theorem SR_rSh {c : String} {e : ME} {l : MA} {k : List AV → Gam → RE} {t : R α} {t' : α → R β} (p : SR n fl (e g) t E κ) (q : ∀ a g, Fit (κ a) g → SR n fl' (refE c (RA.thn (l g) fun as g => k (.sh (E a) :: as) g)) (t' a) E' κ') :
    SR n fl' (refE c (RA.thn (aSh e l g) k)) (t.noex.bind t') E' κ' := by
  cases t with
  | ok a =>
    obtain ⟨g', e1, h'⟩ := p
    unfold aSh
    rw [Fl.is_sh e1]
    show SR n fl' (refE c (RA.thn (RA.cons (.sh (E a)) (l g')) k)) _ _ _
    rw [RA.thn_cons]
    exact q a g' h'
  | ex x => trivial
  | bad => trivial
theorem SR_rCall {c : String} {m : Nat} {f : List Ev.Arg → RF} {l : MA} {t : R α} (p : SR n fl (refE c (RA.thn (l g) (Ev.callEnd m f))) t E κ) : SR n fl (refE c (eCall m f l g)) t E κ := by rw [eCall_thn]; exact p
/-! ### statements -/
def SG (n : Nat) (Q : RS → β → Prop) (r : RS) (t : R β) : Prop := match t with
  | .ok v => Q r v
  | .ex x => ∃ g', r = .ex x g' ∧ g'.length = n
  | .bad => True
def QB (P : σ → List K) : RS → σ → Prop := fun r s => ∃ g', r = .nx g' ∧ Fit (P s) g'
def QT (fl : Fl) (brf : List Bool) (E : ρ → PyData) (B : ρ → List Own) : RS → ρ → Prop := fun r v => (∀ g, r ≠ .nx g) ∧ fl.isF (endF brf r) (E v) (B v)
def NN (Q : RS → β → Prop) : RS → β → Prop := fun r v => (∀ g, r ≠ .nx g) ∧ Q r v
def QO (P L : σ → List K) (QR : RS → ρ → Prop) : RS → Out σ ρ → Prop := fun r o => match o with
  | .nx s => ∃ g', r = .nx g' ∧ Fit (P s) g'
  | .bk s => ∃ g', r = .bk g' ∧ Fit (L s) g'
  | .ct s => ∃ g', r = .ct g' ∧ Fit (L s) g'
  | .rt v => QR r v
variable {Q : RS → β → Prop}
def Pn (ks : List K) (i : Nat) : Prop := ∃ k, ks[i]? = some k ∧ NB k
theorem SG.mono {Q' : RS → β → Prop} {r : RS} {t : R β} (h : SG n Q r t) (k : ∀ r v, Q r v → Q' r v) : SG n Q' r t := by
  cases t with
  | ok v => exact k _ _ h
  | ex x => exact h
  | bad => trivial
theorem thenS_sh {r : RE} {d : PyData} {g : Gam} {f : PyData → Gam → RS} (h : r.sh = .ok d g) : r.thenS f = f d g := by
  rcases sh_cases h with rfl | ⟨o, rfl, rfl⟩ <;> rfl
theorem SG_asg {i : Nat} {e : ME} {b : MS} {te : R α} {tb : α → R β} (pe : SR n .o (e g) te E κ) (hk : ∀ a, Pn (κ a) i) (kont : ∀ a g, Fit ((κ a).set i (kSh (E a))) g → SG n Q (b g) (tb a)) : SG n Q (sSeq (sAsg i e) b g) (te.bind tb) := by
  cases te with
  | ok a =>
    obtain ⟨g1, e1, h1⟩ := pe
    obtain ⟨k, ek, nb⟩ := hk a
    obtain ⟨e2, h2⟩ := h1.put (k' := kSh (E a)) (s := .sh (E a)) ek nb rfl
    show SG n Q ((sAsg i e g).thenSs b) _
    unfold sAsg
    rw [show e g = _ from e1]
    show SG n Q ((nxO (put g1 i (.sh (E a)))).thenSs b) _
    rw [e2]
    exact kont a _ h2
  | ex x =>
    obtain ⟨g1, e1, h1⟩ := pe
    exact ⟨g1, by show (sAsg i e g).thenSs b = _; unfold sAsg; rw [e1]; rfl, h1⟩
  | bad => trivial
theorem SG_asgf {X : α → List PyData} {i : Nat} {e : ME} {b : MS} {te : R α} {tb : α → R β} (pe : SR n .f (e g) te (fun a => .list (X a)) κ) (hk : ∀ a, Pn (κ a) i) (kont : ∀ a g, Fit ((κ a).set i (kOw (X a))) g → SG n Q (b g) (tb a)) : SG n Q (sSeq (sAsg i e) b g) (te.bind tb) := by
  cases te with
  | ok a =>
    obtain ⟨g1, ⟨xs, e0, e1⟩, h1⟩ := pe
    cases e0
    obtain ⟨k, ek, nb⟩ := hk a
    obtain ⟨e2, h2⟩ := h1.put (k' := kOw (X a)) (s := .ow (.lst (X a))) ek nb rfl
    show SG n Q ((sAsg i e g).thenSs b) _
    unfold sAsg
    rw [show e g = _ from e1]
    show SG n Q ((nxO (put g1 i (.ow (.lst (X a))))).thenSs b) _
    rw [e2]
    exact kont a _ h2
  | ex x =>
    obtain ⟨g1, e1, h1⟩ := pe
    exact ⟨g1, by show (sAsg i e g).thenSs b = _; unfold sAsg; rw [e1]; rfl, h1⟩
  | bad => trivial
theorem SG_asga {i : Nat} {e : ME} {b : MS} {te : R α} {tb : α → R β} (pe : SR n .a (e g) te E κ) (hk : ∀ a, Pn (κ a) i) (kont : ∀ a g, Fit ((κ a).set i (kAn (E a))) g → SG n Q (b g) (tb a)) : SG n Q (sSeq (sAsg i e) b g) (te.bind tb) := by
  cases te with
  | ok a =>
    obtain ⟨g1, e1, h1⟩ := pe
    obtain ⟨k, ek, nb⟩ := hk a
    show SG n Q ((sAsg i e g).thenSs b) _
    unfold sAsg
    rcases sh_cases (Fl.is_sh e1) with e2 | ⟨o, e3, e2⟩
    · rw [e2]
      obtain ⟨e2, h2⟩ := h1.put (k' := kAn (E a)) (s := .sh (E a)) ek nb (.inl rfl)
      show SG n Q ((nxO (put g1 i (.sh (E a)))).thenSs b) _
      rw [e2]
      exact kont a _ h2
    · rw [e2]
      obtain ⟨e2, h2⟩ := h1.put (k' := kAn (E a)) (s := .ow o) ek nb (.inr ⟨o, rfl, e3⟩)
      show SG n Q ((nxO (put g1 i (.ow o))).thenSs b) _
      rw [e2]
      exact kont a _ h2
  | ex x =>
    obtain ⟨g1, e1, h1⟩ := pe
    exact ⟨g1, by show (sAsg i e g).thenSs b = _; unfold sAsg; rw [e1]; rfl, h1⟩
  | bad => trivial
theorem SG_asgT {t : Tg} {e : ME} {b : MS} {te : R α} {tb : α → R β} {κt : α → List K} (pe : SR n fl (e g) te E κ) (hk : ∀ a, TG t (E a) (κ a) (κt a)) (kont : ∀ a g, Fit (κt a) g → SG n Q (b g) (tb a)) : SG n Q (sSeq (sAsgT t e) b g) (te.bind tb) := by
  cases te with
  | ok a =>
    obtain ⟨g1, e1, h1⟩ := pe
    obtain ⟨g2, e2, h2⟩ := hk a g1 h1
    show SG n Q ((sAsgT t e g).thenSs b) _
    unfold sAsgT
    rw [thenS_sh (Fl.is_sh e1), e2]
    exact kont a _ h2
  | ex x =>
    obtain ⟨g1, e1, h1⟩ := pe
    exact ⟨g1, by show (sAsgT t e g).thenSs b = _; unfold sAsgT; rw [e1]; rfl, h1⟩
  | bad => trivial
/-- a, b = e, f -/
theorem SG_par {i j : Nat} {e f : ME} {b : MS} {te : R α} {tf : α → R β} {tb : α → β → R γ} {κ₂ : α → β → List K} {Q : RS → γ → Prop} (pe : SR n fl (e g) te E κ) (pf : ∀ a g, Fit (κ a) g → SR n fl' (f g) (tf a) E' (κ₂ a)) (hk : ∀ a b, Pn (κ₂ a b) i) (hk2 : ∀ a b, Pn ((κ₂ a b).set i (kSh (E a))) j)
    (kont : ∀ a b' g, Fit (((κ₂ a b').set i (kSh (E a))).set j (kSh (E' b'))) g → SG n Q (b g) (tb a b')) : SG n Q (sSeq (sPar i j e f) b g) (te.bind fun a => (tf a).bind fun b => tb a b) := by
  cases te with
  | ok a =>
    obtain ⟨g1, e1, h1⟩ := pe
    show SG n Q ((sPar i j e f g).thenSs b) ((tf a).bind fun b => tb a b)
    unfold sPar
    rw [thenS_sh (Fl.is_sh e1)]
    have pf := pf a g1 h1
    cases kf : tf a with
    | ok b' =>
      rw [kf] at pf
      obtain ⟨g2, e2, h2⟩ := pf
      rw [thenS_sh (Fl.is_sh e2)]
      obtain ⟨k, ek, nb⟩ := hk a b'
      obtain ⟨e3, h3⟩ := h2.put (k' := kSh (E a)) (s := .sh (E a)) ek nb rfl
      obtain ⟨k, ek, nb⟩ := hk2 a b'
      obtain ⟨e4, h4⟩ := h3.put (k' := kSh (E' b')) (s := .sh (E' b')) ek nb rfl
      rw [e3, Option.bind_some, e4]
      exact kont a b' _ h4
    | ex x =>
      rw [kf] at pf
      obtain ⟨g2, e2, h2⟩ := pf
      rw [e2]
      exact ⟨g2, rfl, h2⟩
    | bad => trivial
  | ex x =>
    obtain ⟨g1, e1, h1⟩ := pe
    exact ⟨g1, by show (sPar i j e f g).thenSs b = _; unfold sPar; rw [e1]; rfl, h1⟩
  | bad => trivial
theorem SG_aug {i : Nat} {o : BOp} {e : ME} {b : MS} {d : PyData} {te : R β} {tc : β → R γ} {tb : β → γ → R τ} {E₃ : γ → PyData} {Q : RS → τ → Prop} (h : Fit ks g) (hk : ks[i]? = some (kSh d)) (pe : SR n fl (e g) te E' κ') (hk2 : ∀ a, Pn (κ' a) i) (l : ∀ y, LB (binD o d (E' y)) false (tc y) E₃)
    (kont : ∀ y z g, Fit ((κ' y).set i (kSh (E₃ z))) g → SG n Q (b g) (tb y z)) : SG n Q (sSeq (sAug i o e) b g) (te.bind fun y => (tc y).bind fun z => tb y z) := by
  obtain ⟨s0, es, hs⟩ := h.get hk
  cases hs
  show SG n Q ((sAug i o e g).thenSs b) _
  unfold sAug
  rw [es]
  show SG n Q (((e g).thenS fun y g => (match binD o d y with | some (false, d) => nxO (put g i (.sh d)) | _ => .bad)).thenSs b) _
  cases te with
  | ok y =>
    obtain ⟨g1, e1, h1⟩ := pe
    rw [thenS_sh (Fl.is_sh e1)]
    have l := l y
    show SG n Q _ ((tc y).bind fun z => tb y z)
    cases kc : tc y with
    | ok z =>
      rw [kc] at l
      rw [show binD o d (E' y) = _ from l]
      obtain ⟨k, ek, nb⟩ := hk2 y
      obtain ⟨e3, h3⟩ := h1.put (k' := kSh (E₃ z)) (s := .sh (E₃ z)) ek nb rfl
      show SG n Q ((nxO (put g1 i (.sh (E₃ z)))).thenSs b) _
      rw [e3]
      exact kont y z _ h3
    | ex x => rw [kc] at l; exact l.elim
    | bad => trivial
  | ex x =>
    obtain ⟨g1, e1, h1⟩ := pe
    rw [e1]
    exact ⟨g1, rfl, h1⟩
  | bad => trivial
theorem SG_seq {a b : MS} {P : σ → List K} {ta : R σ} {tb : σ → R β} (pa : SG n (QB P) (a g) ta) (kont : ∀ s g, Fit (P s) g → SG n Q (b g) (tb s)) : SG n Q (sSeq a b g) (ta.bind tb) := by
  cases ta with
  | ok s =>
    obtain ⟨g1, e1, h1⟩ := pa
    show SG n Q ((a g).thenSs b) _
    rw [e1]
    exact kont s _ h1
  | ex x =>
    obtain ⟨g1, e1, h1⟩ := pa
    exact ⟨g1, by show (a g).thenSs b = _; rw [e1]; rfl, h1⟩
  | bad => trivial
def onO (t : R (Out σ ρ)) (h : ρ → β) (k : σ → R β) : R β := t.bind fun o => match o with
  | .nx s => k s
  | .rt v => .ok (h v)
  | _ => .bad
/-- behind a loop that may return -/
theorem SG_seqO {a b : MS} {P L : σ → List K} {QR : RS → ρ → Prop} {ta : R (Out σ ρ)} {tb : σ → R β} {hf : ρ → β} (pa : SG n (QO P L (NN QR)) (a g) ta) (hq : ∀ r v, QR r v → Q r (hf v)) (kont : ∀ s g, Fit (P s) g → SG n Q (b g) (tb s)) : SG n Q (sSeq a b g) (onO ta hf tb) := by
  cases ta with
  | ok o =>
    cases o with
    | nx s =>
      obtain ⟨g1, e1, h1⟩ := pa
      show SG n Q ((a g).thenSs b) _
      rw [e1]
      exact kont s _ h1
    | rt v =>
      have pa : NN QR (a g) v := pa
      have e : (a g).thenSs b = a g := by
        cases k : a g with
        | nx g' => exact absurd k (pa.1 g')
        | _ => rfl
      show Q ((a g).thenSs b) (hf v)
      rw [e]
      exact hq _ _ pa.2
    | bk s => trivial
    | ct s => trivial
  | ex x =>
    obtain ⟨g1, e1, h1⟩ := pa
    exact ⟨g1, by show (a g).thenSs b = _; rw [e1]; rfl, h1⟩
  | bad => trivial
theorem SG_last {s : MS} {t : R β} (h : SG n Q (sSeq s sNop g) t) : SG n Q (s g) t := by
  have : sSeq s sNop g = s g := by
    show (s g).thenSs sNop = s g
    cases s g <;> rfl
  rw [this] at h
  exact h
theorem SG_nops {b : MS} {t : R β} (h : SG n Q (b g) t) : SG n Q (sSeq sNop b g) t := h
theorem SG_assoc {a b c : MS} {t : R β} (h : SG n Q (sSeq a (sSeq b c) g) t) : SG n Q (sSeq (sSeq a b) c g) t := by
  have : sSeq (sSeq a b) c g = sSeq a (sSeq b c) g := by
    show ((a g).thenSs b).thenSs c = (a g).thenSs fun g => (b g).thenSs c
    cases a g <;> rfl
  rw [this]; exact h
theorem SG_end {P : σ → List K} {s : σ} (h : Fit (P s) g) : SG n (QB P) (sNop g) (.ok s) := ⟨g, rfl, h⟩
theorem SG_endO {P L : σ → List K} {QR : RS → ρ → Prop} {s : σ} (h : Fit (P s) g) : SG n (QO P L QR) (sNop g) (.ok (.nx s)) := ⟨g, rfl, h⟩
theorem SG_brk {b : MS} {P L : σ → List K} {QR : RS → ρ → Prop} {s : σ} (h : Fit (L s) g) : SG n (NN (QO P L QR)) (sBrk g) (.ok (.bk s)) := ⟨fun _ e => (by cases e), ⟨g, rfl, h⟩⟩
theorem SG_cnt {b : MS} {P L : σ → List K} {QR : RS → ρ → Prop} {s : σ} (h : Fit (L s) g) : SG n (NN (QO P L QR)) (sCnt g) (.ok (.ct s)) := ⟨fun _ e => (by cases e), ⟨g, rfl, h⟩⟩
theorem SG.nn {r : RS} {t : R β} (h : SG n (NN Q) r t) : SG n Q r t := h.mono fun _ _ q => q.2
theorem SG_if {c : ME} {a b : MS} {tc : R Bool} {ta tb : Bool → R β} {κ : Bool → List K} (pc : SR n fl (c g) tc .bool κ) (pa : ∀ x g, Fit (κ x) g → SG n Q (a g) (ta x)) (pb : ∀ x g, Fit (κ x) g → SG n Q (b g) (tb x)) : SG n Q (sIf c a b g) (tc.bind fun x => cond x (ta x) (tb x)) := by
  unfold sIf
  cases tc with
  | ok x =>
    obtain ⟨g1, e1, h1⟩ := pc
    rw [thenS_sh (Fl.is_sh e1)]
    cases x with
    | true => exact pa true g1 h1
    | false => exact pb false g1 h1
  | ex x =>
    obtain ⟨g1, e1, h1⟩ := pc
    rw [e1]
    exact ⟨g1, rfl, h1⟩
  | bad => trivial
theorem nn_thenS {r : RS} {b : MS} (h : ∀ g, r ≠ .nx g) : r.thenSs b = r := by cases r with
  | nx g => exact absurd rfl (h g)
  | _ => rfl
/-- the first branch never falls through -/
theorem SG_ifr {c : ME} {a b r : MS} {tc : R Bool} {ta tb : Bool → R β} {κ : Bool → List K} (pc : SR n fl (c g) tc .bool κ) (pa : ∀ x g, Fit (κ x) g → SG n (NN Q) (a g) (ta x)) (pb : ∀ x g, Fit (κ x) g → SG n Q (sSeq b r g) (tb x)) : SG n Q (sSeq (sIf c a b) r g) (tc.bind fun x => cond x (ta x) (tb x)) := by
  show SG n Q ((sIf c a b g).thenSs r) _
  unfold sIf
  cases tc with
  | ok x =>
    obtain ⟨g1, e1, h1⟩ := pc
    rw [thenS_sh (Fl.is_sh e1)]
    cases x with
    | true =>
      have pa := pa true g1 h1
      show SG n Q ((a g1).thenSs r) (ta true)
      cases k : ta true with
      | ok v => rw [k] at pa; show Q ((a g1).thenSs r) v; rw [nn_thenS pa.1]; exact pa.2
      | ex x => rw [k] at pa; obtain ⟨g2, e2, h2⟩ := pa; exact ⟨g2, by rw [e2]; rfl, h2⟩
      | bad => trivial
    | false => exact pb false g1 h1
  | ex x =>
    obtain ⟨g1, e1, h1⟩ := pc
    rw [e1]
    exact ⟨g1, rfl, h1⟩
  | bad => trivial
/-- the second branch never falls through -/
theorem SG_ifr2 {c : ME} {a b r : MS} {tc : R Bool} {ta tb : Bool → R β} {κ : Bool → List K} (pc : SR n fl (c g) tc .bool κ) (pa : ∀ x g, Fit (κ x) g → SG n Q (sSeq a r g) (ta x)) (pb : ∀ x g, Fit (κ x) g → SG n (NN Q) (b g) (tb x)) : SG n Q (sSeq (sIf c a b) r g) (tc.bind fun x => cond x (ta x) (tb x)) := by
  show SG n Q ((sIf c a b g).thenSs r) _
  unfold sIf
  cases tc with
  | ok x =>
    obtain ⟨g1, e1, h1⟩ := pc
    rw [thenS_sh (Fl.is_sh e1)]
    cases x with
    | false =>
      have pb := pb false g1 h1
      show SG n Q ((b g1).thenSs r) (tb false)
      cases k : tb false with
      | ok v => rw [k] at pb; show Q ((b g1).thenSs r) v; rw [nn_thenS pb.1]; exact pb.2
      | ex x => rw [k] at pb; obtain ⟨g2, e2, h2⟩ := pb; exact ⟨g2, by rw [e2]; rfl, h2⟩
      | bad => trivial
    | true => exact pa true g1 h1
  | ex x =>
    obtain ⟨g1, e1, h1⟩ := pc
    rw [e1]
    exact ⟨g1, rfl, h1⟩
  | bad => trivial
/-! return -/
def RetS : Fl → RS → PyData → Gam → Prop
  | .o, r, d, g => r = .rt d g
  | .f, r, d, g => ∃ xs, d = .list xs ∧ r = .rf (.lst xs) g
  | .a, r, d, g => r = .rt d g ∨ ∃ o, o.d = d ∧ r = .rf o g
theorem SG_ret {e : ME} {te : R α} {v : α → β} (pe : SR n fl (e g) te E κ) (kont : ∀ a g r, Fit (κ a) g → RetS fl r (E a) g → Q r (v a)) : SG n Q (sRet e g) (te.bind fun a => .ok (v a)) := by
  unfold sRet
  cases te with
  | ok a =>
    obtain ⟨g1, e1, h1⟩ := pe
    refine kont a g1 _ h1 ?_
    cases fl with
    | o => rw [show e g = _ from e1]; rfl
    | f => obtain ⟨xs, e2, e3⟩ := e1; rw [e3]; exact ⟨xs, e2, rfl⟩
    | a =>
      rcases sh_cases (show (e g).sh = _ from e1) with e2 | ⟨o, e3, e2⟩
      · rw [e2]; exact .inl rfl
      · rw [e2]; exact .inr ⟨o, e3, rfl⟩
  | ex x =>
    obtain ⟨g1, e1, h1⟩ := pe
    rw [e1]
    exact ⟨g1, rfl, h1⟩
  | bad => trivial
theorem RetS.nn {r : RS} {d : PyData} {g : Gam} (h : RetS fl r d g) : ∀ g', r ≠ .nx g' := fun g' e => by
  cases fl with
  | o => rw [show r = _ from h] at e; cases e
  | f => obtain ⟨xs, _, h⟩ := h; rw [h] at e; cases e
  | a => rcases h with h | ⟨_, _, h⟩ <;> rw [h] at e <;> cases e
theorem RetS.isF {r : RS} {d : PyData} {g : Gam} {brf : List Bool} {bs : List Own} (h : RetS fl r d g) (e : lentAt brf g = some bs) : fl.isF (endF brf r) d bs := by
  cases fl with
  | o => rw [show r = _ from h]; show (match lentAt brf g with | some bs => RF.ok d bs | none => .bad) = _; rw [e]
  | f => obtain ⟨xs, rfl, h⟩ := h; rw [h]; refine ⟨xs, rfl, ?_⟩; show (match lentAt brf g with | some bs => RF.fr (.lst xs) bs | none => .bad) = _; rw [e]
  | a =>
    rcases h with h | ⟨o, e2, h⟩
    · rw [h]; left; show (match lentAt brf g with | some bs => RF.ok d bs | none => .bad) = _; rw [e]
    · rw [h]; right; refine ⟨o, e2, ?_⟩; show (match lentAt brf g with | some bs => RF.fr o bs | none => .bad) = _; rw [e]
theorem Fl.isF_a {r : RF} {d : PyData} {bs : List Own} (h : fl.isF r d bs) : Fl.isF .a r d bs := Fl.isF_any h
/-- what is lent, by what stands in the slots -/
def Lent (brf : List Bool) (ks : List K) (bs : List Own) : Prop := ∀ g, Fit ks g → lentAt brf g = some bs
theorem lent_n : Lent [] ks [] := fun _ _ => rfl
theorem lent_f {brf : List Bool} {k : K} {bs : List Own} (h : Lent brf ks bs) : Lent (false :: brf) (k :: ks) bs := fun g hg => match g, hg with
  | _ :: g, hg => h g hg.2
  | [], hg => hg.elim
theorem lent_t {brf : List Bool} {xs : List PyData} {bs : List Own} (h : Lent brf ks bs) : Lent (true :: brf) (kBr xs :: ks) (.lst xs :: bs) := fun g hg => match g, hg with
  | s :: g, hg => by
    rw [show s = _ from hg.1]
    show (lentAt brf g).map _ = _
    rw [h g hg.2]; rfl
  | [], hg => hg.elim
/-- a def's return -/
theorem qt_ret {brf : List Bool} {E : ρ → PyData} {B : ρ → List Own} {v : ρ} {g : Gam} {r : RS} (h : Fit ks g) (l : Lent brf ks (B v)) (hr : RetS fl r (E v) g) : QT fl brf E B r v := ⟨hr.nn, hr.isF (l g h)⟩
theorem qt_retA {brf : List Bool} {E : ρ → PyData} {B : ρ → List Own} {v : ρ} {g : Gam} {r : RS} (h : Fit ks g) (l : Lent brf ks (B v)) (hr : RetS fl r (E v) g) : QT .a brf E B r v := ⟨hr.nn, Fl.isF_a (hr.isF (l g h))⟩
theorem QT.nn {brf : List Bool} {E : ρ → PyData} {B : ρ → List Own} {r : RS} {v : ρ} (h : QT fl brf E B r v) : NN (QT fl brf E B) r v := ⟨h.1, h⟩
theorem SG.tn {brf : List Bool} {E : ρ → PyData} {B : ρ → List Own} {r : RS} {t : R ρ} (h : SG n (QT fl brf E B) r t) : SG n (NN (QT fl brf E B)) r t := h.mono fun _ _ q => q.nn
theorem SG.tnn {brf : List Bool} {E : ρ → PyData} {B : ρ → List Own} {r : RS} {t : R ρ} (h : SG n (QT fl brf E B) r t) : SG n (NN (NN (QT fl brf E B))) r t := h.mono fun _ _ q => ⟨q.1, q.nn⟩
/-- a def's end with nothing told -/
theorem SG_retN {v : β} (hq : Q (.rt .none g) v) : SG n Q (sRetN g) (.ok v) := hq
theorem SG_raise {c : String} {e : ME} {te : R α} (pe : SR n fl (e g) te E fun _ => ks) (hn : ks.length = n) : SG n Q (sRaise c e g) (te.bind fun a => .ex ⟨c, E a⟩) := by
  unfold sRaise
  cases te with
  | ok a =>
    obtain ⟨g1, e1, h1⟩ := pe
    rw [thenS_sh (Fl.is_sh e1)]
    exact ⟨g1, rfl, by rw [← hn]; exact h1.len⟩
  | ex x =>
    obtain ⟨g1, e1, h1⟩ := pe
    rw [e1]
    exact ⟨g1, rfl, h1⟩
  | bad => trivial
theorem SG_expr {e : ME} {b : MS} {te : R α} {tb : α → R β} (pe : SR n fl (e g) te E κ) (kont : ∀ a g, Fit (κ a) g → SG n Q (b g) (tb a)) : SG n Q (sSeq (sExpr e) b g) (te.bind tb) := by
  cases te with
  | ok a =>
    obtain ⟨g1, e1, h1⟩ := pe
    show SG n Q ((sExpr e g).thenSs b) _
    unfold sExpr
    rw [thenS_sh (Fl.is_sh e1)]
    exact kont a _ h1
  | ex x =>
    obtain ⟨g1, e1, h1⟩ := pe
    exact ⟨g1, by show (sExpr e g).thenSs b = _; unfold sExpr; rw [e1]; rfl, h1⟩
  | bad => trivial
/-! lists that change -/
def appR (xs : List α) (v : α) : R (List α) := if xs.length < 16777216 then .ok (xs ++ [v]) else .bad
theorem SG_app {i : Nat} {e : ME} {b : MS} {xs : List γ} {F : γ → PyData} {te : R α} {vf : α → γ} {tb : α → List γ → R β} {κ₂ : α → List γ → List K} (h : Fit ks g) (ln : Ln ks i (xs.map F)) (pe : SR n fl (e g) te (fun a => F (vf a)) κ) (ln2 : ∀ a, Ln (κ a) i (xs.map F)) (tk : ∀ a ys, Tk (κ a) (κ₂ a ys) i (ys.map F))
    (kont : ∀ a ys g, Fit (κ₂ a ys) g → SG n Q (b g) (tb a ys)) : SG n Q (sSeq (sApp i e) b g) (te.bind fun a => (appR xs (vf a)).bind fun ys => tb a ys) := by
  show SG n Q ((sApp i e g).thenSs b) _
  unfold sApp hasOwn
  rw [ln g h]
  show SG n Q (((e g).thenS (appEnd i)).thenSs b) _
  cases te with
  | ok a =>
    obtain ⟨g1, e1, h1⟩ := pe
    rw [thenS_sh (Fl.is_sh e1)]
    show SG n Q ((appEnd i (F (vf a)) g1).thenSs b) ((appR xs (vf a)).bind fun ys => tb a ys)
    unfold appEnd appR
    rw [ln2 a g1 h1]
    by_cases hz : xs.length < 16777216
    · rw [if_pos hz]
      obtain ⟨g2, e2, h2⟩ := tk a (xs ++ [vf a]) g1 h1
      show SG n Q ((if (xs.map F).length < sizeLine then nxO (retake g1 i (.lst (xs.map F ++ [F (vf a)]))) else .bad).thenSs b) _
      rw [if_pos (by rw [sizeLine_eq, List.length_map]; exact hz)]
      rw [List.map_append] at e2
      rw [show xs.map F ++ [F (vf a)] = xs.map F ++ [vf a].map F from rfl, e2]
      exact kont a _ g2 h2
    · rw [if_neg hz]; trivial
  | ex x =>
    obtain ⟨g1, e1, h1⟩ := pe
    rw [e1]
    exact ⟨g1, rfl, h1⟩
  | bad => trivial
theorem SG_ext {i : Nat} {e : ME} {b : MS} {xs : List γ} {F : γ → PyData} {te : R α} {vf : α → List γ} {tb : α → List γ → R β} {κ₂ : α → List γ → List K} (h : Fit ks g) (ln : Ln ks i (xs.map F)) (pe : SR n .f (e g) te (fun a => .list ((vf a).map F)) κ) (ln2 : ∀ a, Ln (κ a) i (xs.map F)) (tk : ∀ a ys, Tk (κ a) (κ₂ a ys) i (ys.map F))
    (kont : ∀ a ys g, Fit (κ₂ a ys) g → SG n Q (b g) (tb a ys)) : SG n Q (sSeq (sExt i e) b g) (te.bind fun a => (szR (xs ++ vf a)).bind fun ys => tb a ys) := by
  show SG n Q ((sExt i e g).thenSs b) _
  unfold sExt hasOwn
  rw [ln g h]
  show SG n Q ((extEnd i (e g)).thenSs b) _
  cases te with
  | ok a =>
    obtain ⟨g1, ⟨zs, e0, e1⟩, h1⟩ := pe
    cases e0
    rw [e1]
    show SG n Q ((extEnd i (.fr (.lst ((vf a).map F)) g1)).thenSs b) ((szR (xs ++ vf a)).bind fun ys => tb a ys)
    unfold extEnd szR
    show SG n Q ((match lends g1 i with | some (.lst xs) => if xs.length + ((vf a).map F).length ≤ sizeLine then nxO (retake g1 i (.lst (xs ++ (vf a).map F))) else .bad | _ => .bad).thenSs b) _
    rw [ln2 a g1 h1]
    by_cases hz : (xs ++ vf a).length ≤ 16777216
    · rw [if_pos hz]
      obtain ⟨g2, e2, h2⟩ := tk a (xs ++ vf a) g1 h1
      show SG n Q ((if (xs.map F).length + ((vf a).map F).length ≤ sizeLine then nxO (retake g1 i (.lst (xs.map F ++ (vf a).map F))) else .bad).thenSs b) _
      rw [if_pos (by rw [sizeLine_eq, List.length_map, List.length_map]; rw [List.length_append] at hz; exact hz), ← List.map_append, e2]
      exact kont a _ g2 h2
    · rw [if_neg hz]; trivial
  | ex x =>
    obtain ⟨g1, e1, h1⟩ := pe
    rw [e1]
    exact ⟨g1, rfl, h1⟩
  | bad => trivial
def setR (xs : List α) (j : Int) (v : α) : R (List α) := R.ofOpt ((L2.ixN xs.length j).map fun k => xs.set k v)
theorem set_map (F : γ → PyData) : ∀ (xs : List γ) (k : Nat) (v : γ), (xs.map F).set k (F v) = (xs.set k v).map F
  | [], _, _ => rfl
  | _ :: _, 0, _ => rfl
  | x :: xs, k + 1, v => by rw [List.map_cons, List.set_cons_succ, set_map F xs k v, List.set_cons_succ, List.map_cons]
theorem SG_setI {i : Nat} {k e : ME} {b : MS} {xs : List γ} {F : γ → PyData} {te : R α} {vf : α → γ} {tk : R Int} {tb : α → List γ → R β} {κ₂ : α → List γ → List K} (pe : SR n fl (e g) te (fun a => F (vf a)) κ) (pk : ∀ a g, Fit (κ a) g → SR n fl' (k g) tk .int fun _ => κ a) (ln2 : ∀ a, Ln (κ a) i (xs.map F)) (tk2 : ∀ a ys, Tk (κ a) (κ₂ a ys) i (ys.map F))
    (kont : ∀ a ys g, Fit (κ₂ a ys) g → SG n Q (b g) (tb a ys)) : SG n Q (sSeq (sSetI i k e) b g) (te.bind fun a => tk.bind fun j => (setR xs j (vf a)).bind fun ys => tb a ys) := by
  show SG n Q ((sSetI i k e g).thenSs b) _
  unfold sSetI
  cases te with
  | ok a =>
    obtain ⟨g1, e1, h1⟩ := pe
    rw [thenS_sh (Fl.is_sh e1)]
    unfold hasOwn
    rw [ln2 a g1 h1]
    show SG n Q (((k g1).thenS (setIEnd i (F (vf a)))).thenSs b) (tk.bind fun j => (setR xs j (vf a)).bind fun ys => tb a ys)
    have pk := pk a g1 h1
    cases tk with
    | ok j =>
      obtain ⟨g2, e2, h2⟩ := pk
      rw [thenS_sh (Fl.is_sh e2)]
      show SG n Q ((setIEnd i (F (vf a)) (.int j) g2).thenSs b) ((setR xs j (vf a)).bind fun ys => tb a ys)
      unfold setIEnd setR
      rw [ln2 a g2 h2]
      show SG n Q ((match setD (xs.map F) j (F (vf a)) with | some ys => nxO (retake g2 i (.lst ys)) | none => .bad).thenSs b) _
      unfold setD
      rw [List.length_map]
      cases ek : L2.ixN xs.length j with
      | none => trivial
      | some m =>
        show SG n Q ((nxO (retake g2 i (.lst ((xs.map F).set m (F (vf a)))))).thenSs b) (tb a (xs.set m (vf a)))
        obtain ⟨g3, e3, h3⟩ := tk2 a (xs.set m (vf a)) g2 h2
        rw [set_map, e3]
        exact kont a _ g3 h3
    | ex x =>
      obtain ⟨g2, e2, h2⟩ := pk
      rw [e2]
      exact ⟨g2, rfl, h2⟩
    | bad => trivial
  | ex x =>
    obtain ⟨g1, e1, h1⟩ := pe
    rw [e1]
    exact ⟨g1, rfl, h1⟩
  | bad => trivial
/-! frozen -/
def Frz (is : List Nat) (ks ks' : List K) : Prop := ∀ g, Fit ks g → Fit ks' (is.foldl frz g)
theorem frz_n : Frz [] ks ks := fun _ h => h
theorem frz_c {i : Nat} {is : List Nat} {k1 k2 : List K} (p : ∀ g, Fit ks g → Fit k1 (frz g i)) (q : Frz is k1 k2) : Frz (i :: is) ks k2 := fun g h => q _ (p g h)
theorem fz_o {i : Nat} {xs : List PyData} (e : ks[i]? = some (kOw xs)) : ∀ g, Fit ks g → Fit (ks.set i (kSh (.list xs))) (frz g i) := fun g h => by
  obtain ⟨s, e1, e2⟩ := h.get e
  unfold frz
  rw [e1, show s = _ from e2]
  exact h.set i rfl
theorem fz_a {i : Nat} {d : PyData} (e : ks[i]? = some (kAn d)) : ∀ g, Fit ks g → Fit (ks.set i (kSh d)) (frz g i) := fun g h => by
  obtain ⟨s, e1, e2⟩ := h.get e
  unfold frz
  rw [e1]
  rcases e2 with rfl | ⟨o, rfl, e3⟩
  · show Fit _ g
    have := h.set i (k := kSh d) (s := .sh d) rfl
    have e4 : g.set i (.sh d) = g := by
      obtain ⟨hi, e5⟩ := List.getElem?_eq_some_iff.mp e1
      rw [← e5]; exact List.set_getElem_self hi
    rw [e4] at this
    exact this
  · show Fit _ (g.set i (.sh o.d))
    rw [e3]
    exact h.set i rfl
theorem fz_k {i : Nat} {k : K} (e : ks[i]? = some k) (hk : ∀ s, k s → ∀ o, s ≠ .ow o) : ∀ g, Fit ks g → Fit ks (frz g i) := fun g h => by
  obtain ⟨s, e1, e2⟩ := h.get e
  unfold frz
  rw [e1]
  cases s with
  | ow o => exact absurd rfl (hk _ e2 o)
  | _ => exact h
theorem no_s {d : PyData} : ∀ s, kSh d s → ∀ o, s ≠ .ow o := fun s h o e => by rw [show s = _ from h] at e; cases e
theorem no_b {d : List PyData} : ∀ s, kBr d s → ∀ o, s ≠ .ow o := fun s h o e => by rw [show s = _ from h] at e; cases e
theorem no_f : ∀ s, kFr s → ∀ o, s ≠ .ow o := fun s h o e => by rcases h with h | ⟨_, h⟩ <;> rw [h] at e <;> cases e
theorem fz_d {i : Nat} (e : ks[i]? = some kDd) : ∀ g, Fit ks g → Fit ks (frz g i) := fun g h => by
  obtain ⟨s, e1, e2⟩ := h.get e
  unfold frz
  rw [e1]
  cases s with
  | ow o =>
    have := h.set i (k := kDd) (s := .sh o.d) (fun _ q => by cases q)
    have e4 : ks.set i kDd = ks := by
      obtain ⟨hi, e5⟩ := List.getElem?_eq_some_iff.mp e
      have := List.set_getElem_self hi
      rw [e5] at this; exact this
    rw [e4] at this
    exact this
  | _ => exact h
theorem SG_frz {is : List Nat} {m : MS} {t : R β} (h : Fit ks g) (f : Frz is ks ks') (p : ∀ g, Fit ks' g → SG n Q (m g) t) : SG n Q (sFrz is m g) t := p _ (f g h)
theorem SG_frzs {is : List Nat} {m b : MS} {t : R β} (h : Fit ks g) (f : Frz is ks ks') (p : ∀ g, Fit ks' g → SG n Q (sSeq m b g) t) : SG n Q (sSeq (sFrz is m) b g) t := p _ (f g h)
/-! ### loops -/
def forR : List α → σ → (α → σ → R σ) → R σ
  | [], s, _ => .ok s
  | x :: xs, s, f => (f x s).bind fun s => forR xs s f
def forO : List α → σ → (α → σ → R (Out σ ρ)) → R (Out σ ρ)
  | [], s, _ => .ok (.nx s)
  | x :: xs, s, f => (f x s).bind fun o => match o with
    | .nx s => forO xs s f
    | .ct s => forO xs s f
    | .bk s => .ok (.nx s)
    | .rt v => .ok (.rt v)
theorem for_go {t : Tg} {b : MS} {P : σ → List K} {P1 : α → σ → List K} {f : α → σ → R σ} (tg : ∀ x s, TG t (E x) (P s) (P1 x s)) (hb : ∀ x s g, Fit (P1 x s) g → SG n (QB P) (b g) (f x s)) : ∀ (xs : List α) (s : σ) (g : Gam), Fit (P s) g → SG n (QB P) (forGo t b (xs.map E) g) (forR xs s f)
  | [], s, g, h => ⟨g, rfl, h⟩
  | x :: xs, s, g, h => by
    obtain ⟨g1, e1, h1⟩ := tg x s g h
    have q := hb x s g1 h1
    rw [List.map_cons]
    unfold forGo forR
    rw [e1]
    cases kf : f x s with
    | ok s' =>
      rw [kf] at q
      obtain ⟨g2, e2, h2⟩ := q
      show SG n (QB P) (match b g1 with | .nx g => forGo t b (xs.map E) g | .ct g => forGo t b (xs.map E) g | .bk g => .nx g | r => r) _
      rw [e2]
      exact for_go tg hb xs s' g2 h2
    | ex x =>
      rw [kf] at q
      obtain ⟨g2, e2, h2⟩ := q
      refine ⟨g2, ?_, h2⟩
      show (match b g1 with | .nx g => forGo t b (xs.map E) g | .ct g => forGo t b (xs.map E) g | .bk g => .nx g | r => r) = _
      rw [e2]
    | bad => trivial
theorem SG_for {t : Tg} {l : ML} {b : MS} {tl : R δ} {X : δ → List α} {s0 : δ → σ} {κ₁ : δ → List K} {P : σ → List K} {P1 : α → σ → List K} {f : α → σ → R σ} (pl : SI n (l g) tl (fun d => (X d).map E) κ₁) (h0 : ∀ d g, Fit (κ₁ d) g → Fit (P (s0 d)) g) (tg : ∀ x s, TG t (E x) (P s) (P1 x s))
    (hb : ∀ x s g, Fit (P1 x s) g → SG n (QB P) (b g) (f x s)) : SG n (QB P) (sFor t l b g) (tl.bind fun d => forR (X d) (s0 d) f) := by
  unfold sFor
  cases tl with
  | ok d =>
    obtain ⟨g1, e1, h1⟩ := pl
    rw [e1]
    exact for_go tg hb (X d) (s0 d) g1 (h0 d g1 h1)
  | ex x =>
    obtain ⟨g1, e1, h1⟩ := pl
    rw [e1]
    exact ⟨g1, rfl, h1⟩
  | bad => trivial
theorem for_goO {t : Tg} {b : MS} {P : σ → List K} {P1 : α → σ → List K} {QR : RS → ρ → Prop} {f : α → σ → R (Out σ ρ)} (hqr : ∀ r v, QR r v → (∃ d g, r = .rt d g) ∨ ∃ o g, r = .rf o g) (tg : ∀ x s, TG t (E x) (P s) (P1 x s)) (hb : ∀ x s g, Fit (P1 x s) g → SG n (QO P P QR) (b g) (f x s)) : ∀ (xs : List α) (s : σ) (g : Gam), Fit (P s) g → SG n (QO P P QR) (forGo t b (xs.map E) g) (forO xs s f)
  | [], s, g, h => ⟨g, rfl, h⟩
  | x :: xs, s, g, h => by
    obtain ⟨g1, e1, h1⟩ := tg x s g h
    have q := hb x s g1 h1
    rw [List.map_cons]
    unfold forGo forO
    rw [e1]
    show SG n (QO P P QR) (match b g1 with | .nx g => forGo t b (xs.map E) g | .ct g => forGo t b (xs.map E) g | .bk g => .nx g | r => r) _
    cases kf : f x s with
    | ok o =>
      rw [kf] at q
      cases o with
      | nx s' =>
        obtain ⟨g2, e2, h2⟩ := q
        rw [e2]
        exact for_goO hqr tg hb xs s' g2 h2
      | ct s' =>
        obtain ⟨g2, e2, h2⟩ := q
        rw [e2]
        exact for_goO hqr tg hb xs s' g2 h2
      | bk s' =>
        obtain ⟨g2, e2, h2⟩ := q
        rw [e2]
        exact ⟨g2, rfl, h2⟩
      | rt v =>
        have q : QR (b g1) v := q
        rcases hqr _ _ q with ⟨d, g2, e2⟩ | ⟨d, g2, e2⟩
        · rw [e2]; rw [e2] at q; exact q
        · rw [e2]; rw [e2] at q; exact q
    | ex x =>
      rw [kf] at q
      obtain ⟨g2, e2, h2⟩ := q
      rw [e2]
      exact ⟨g2, rfl, h2⟩
    | bad => trivial
theorem SG_forO {t : Tg} {l : ML} {b : MS} {tl : R δ} {X : δ → List α} {s0 : δ → σ} {κ₁ : δ → List K} {P : σ → List K} {P1 : α → σ → List K} {QR : RS → ρ → Prop} {f : α → σ → R (Out σ ρ)} (hqr : ∀ r v, QR r v → (∃ d g, r = .rt d g) ∨ ∃ o g, r = .rf o g) (pl : SI n (l g) tl (fun d => (X d).map E) κ₁) (h0 : ∀ d g, Fit (κ₁ d) g → Fit (P (s0 d)) g) (tg : ∀ x s, TG t (E x) (P s) (P1 x s))
    (hb : ∀ x s g, Fit (P1 x s) g → SG n (QO P P QR) (b g) (f x s)) : SG n (QO P P QR) (sFor t l b g) (tl.bind fun d => forO (X d) (s0 d) f) := by
  unfold sFor
  cases tl with
  | ok d =>
    obtain ⟨g1, e1, h1⟩ := pl
    rw [e1]
    exact for_goO hqr tg hb (X d) (s0 d) g1 (h0 d g1 h1)
  | ex x =>
    obtain ⟨g1, e1, h1⟩ := pl
    rw [e1]
    exact ⟨g1, rfl, h1⟩
  | bad => trivial
theorem qt_rt {brf : List Bool} {E : ρ → PyData} {B : ρ → List Own} : ∀ (r : RS) (v : ρ), NN (QT fl brf E B) r v → (∃ d g, r = .rt d g) ∨ ∃ o g, r = .rf o g := fun r v h => by
  have q := Fl.isF_any h.2.2
  cases r with
  | nx g => exact absurd rfl (h.1 g)
  | rt d g => exact .inl ⟨d, g, rfl⟩
  | rf o g => exact .inr ⟨o, g, rfl⟩
  | bk g => rcases q with q | ⟨_, _, q⟩ <;> cases q
  | ct g => rcases q with q | ⟨_, _, q⟩ <;> cases q
  | ex x g =>
    rcases q with q | ⟨_, _, q⟩
    · change (match lentAt brf g with | some bs => RF.ex x bs | none => .bad) = _ at q
      cases k : lentAt brf g <;> rw [k] at q <;> cases q
    · change (match lentAt brf g with | some bs => RF.ex x bs | none => .bad) = _ at q
      cases k : lentAt brf g <;> rw [k] at q <;> cases q
  | bad => rcases q with q | ⟨_, _, q⟩ <;> cases q
/-- a return within a loop -/
theorem SG_retO {P L : σ → List K} {QR : RS → ρ → Prop} {r : RS} {t : R ρ} (h : SG n QR r t) : SG n (QO P L QR) r (t.bind fun v => .ok (.rt v)) := by
  cases t with
  | ok v => exact h
  | ex x => exact h
  | bad => trivial
theorem SG_nnO {P L : σ → List K} {QR : RS → ρ → Prop} {r : RS} {t : R (Out σ ρ)} (h : SG n (QO P L (NN QR)) r t) (hn : ∀ o, t = .ok o → ∀ s, o ≠ .nx s) : SG n (NN (QO P L (NN QR))) r t := by
  cases t with
  | ok o =>
    cases o with
    | nx s => exact absurd rfl (hn _ rfl s)
    | bk s => obtain ⟨g', e, h'⟩ := h; exact ⟨fun _ q => (by rw [e] at q; cases q), ⟨g', e, h'⟩⟩
    | ct s => obtain ⟨g', e, h'⟩ := h; exact ⟨fun _ q => (by rw [e] at q; cases q), ⟨g', e, h'⟩⟩
    | rt v => have h : NN QR r v := h; exact ⟨h.1, h⟩
  | ex x => exact h
  | bad => trivial
def whR (c : σ → R Bool) (f : σ → R σ) : Nat → σ → R σ
  | 0, _ => .bad
  | n + 1, s => (c s).bind fun b => cond b ((f s).bind fun s => whR c f n s) (.ok s)
theorem wh_go {c : ME} {b : MS} {P : σ → List K} {tc : σ → R Bool} {f : σ → R σ} (hc : ∀ s g, Fit (P s) g → SR n fl (c g) (tc s) .bool fun _ => P s) (hb : ∀ s g, Fit (P s) g → SG n (QB P) (b g) (f s)) : ∀ (m : Nat) (s : σ) (g : Gam), Fit (P s) g → SG n (QB P) (whGo c b m g) (whR tc f m s)
  | 0, s, g, h => trivial
  | m + 1, s, g, h => by
    unfold whGo whR
    have q := hc s g h
    cases kc : tc s with
    | ok x =>
      rw [kc] at q
      obtain ⟨g1, e1, h1⟩ := q
      rw [Fl.is_sh e1]
      cases x with
      | true =>
        have q2 := hb s g1 h1
        show SG n (QB P) (match b g1 with | .nx g => whGo c b m g | .ct g => whGo c b m g | .bk g => .nx g | r => r) ((f s).bind fun s => whR tc f m s)
        cases kf : f s with
        | ok s' =>
          rw [kf] at q2
          obtain ⟨g2, e2, h2⟩ := q2
          rw [e2]
          exact wh_go hc hb m s' g2 h2
        | ex x =>
          rw [kf] at q2
          obtain ⟨g2, e2, h2⟩ := q2
          rw [e2]
          exact ⟨g2, rfl, h2⟩
        | bad => trivial
      | false => exact ⟨g1, rfl, h1⟩
    | ex x =>
      rw [kc] at q
      obtain ⟨g1, e1, h1⟩ := q
      rw [e1]
      exact ⟨g1, rfl, h1⟩
    | bad => trivial
theorem SG_whl {c : ME} {b : MS} {P : σ → List K} {tc : σ → R Bool} {f : σ → R σ} {s : σ} (h : Fit (P s) g) (hc : ∀ s g, Fit (P s) g → SR n fl (c g) (tc s) .bool fun _ => P s) (hb : ∀ s g, Fit (P s) g → SG n (QB P) (b g) (f s)) : SG n (QB P) (sWhl c b g) (whR tc f turnsW s) :=
  wh_go hc hb turnsW s g h
/-! ### defs -/
theorem lent0 : ∀ {brf : List Bool} {g : Gam}, brf.all (· == false) = true → brf.length ≤ g.length → lentAt brf g = some []
  | [], _, _, _ => rfl
  | false :: r, s :: g, h, l => lent0 (brf := r) (g := g) (by simpa using h) (by simpa using l)
  | true :: r, _, h, _ => by simp at h
  | false :: r, [], _, l => by simp at l
/-- a def without lent parameters -/
theorem SFn_of {brf : List Bool} {r : RS} {t : R ρ} {E : ρ → PyData} (h : SG n (QT fl brf E fun _ => []) r t) (hb : brf.all (· == false) = true) (hn : brf.length ≤ n) : SFn fl (endF brf r) t E fun _ => [] := by
  cases t with
  | ok v => exact h.2
  | ex x =>
    obtain ⟨g', e, l⟩ := h
    show endF brf r = _
    rw [e]
    show (match lentAt brf g' with | some bs => RF.ex x bs | none => .bad) = _
    rw [lent0 hb (by rw [l]; exact hn)]
  | bad => trivial
/-- with lent parameters -/
theorem SFn_ofL {brf : List Bool} {r : RS} {t : R ρ} {E : ρ → PyData} {B : ρ → List Own} (h : SG n (QT fl brf E B) r t) : SFn fl (endF brf r) t.noex E B := by
  cases t with
  | ok v => exact h.2
  | ex x => trivial
  | bad => trivial
/-- a def that tells nothing -/
theorem SFn_ofN {brf : List Bool} {r : RS} {t : R σ} {P : σ → List K} (h : SG n (QB P) r t) (hb : brf.all (· == false) = true) (hn : brf.length ≤ n) (hP : ∀ s, (P s).length = n) : SFn .o (endF brf r) (t.bind fun _ => .ok ()) eN fun _ => [] := by
  cases t with
  | ok s =>
    obtain ⟨g', e, l⟩ := h
    show endF brf r = _
    rw [e]
    show (match lentAt brf g' with | some bs => RF.ok .none bs | none => .bad) = _
    rw [lent0 hb (by rw [l.len, hP]; exact hn)]
    rfl
  | ex x =>
    obtain ⟨g', e, l⟩ := h
    show endF brf r = _
    rw [e]
    show (match lentAt brf g' with | some bs => RF.ex x bs | none => .bad) = _
    rw [lent0 hb (by rw [l]; exact hn)]
  | bad => trivial
end
end Ty
namespace Ty
open PySem Ev
section
variable {α β γ δ σ τ ρ : Type} {n : Nat} {fl fl' fl'' : Fl} {ks ks' : List K} {g : Gam} {E : α → PyData} {E' : β → PyData} {κ : α → List K} {κ' : β → List K}
theorem imp_n : Imp [] [] := trivial
theorem imp_c {k l : K} (p : ∀ s, k s → l s) (q : Imp ks ks') : Imp (k :: ks) (l :: ks') := ⟨p, q⟩
theorem imp_top_ (own : List Nat) : ∀ (ks : List K), Imp ks (topK ks own) := by
  intro ks
  have key : ∀ (ks ls : List K), ks.length = ls.length → (∀ (i : Nat) (k l : K), ks[i]? = some k → ls[i]? = some l → ∀ s, k s → l s) → Imp ks ls := by
    intro ks
    induction ks with
    | nil => intro ls hl _; cases ls with
      | nil => trivial
      | cons _ _ => simp at hl
    | cons k ks ih => intro ls hl h; cases ls with
      | nil => simp at hl
      | cons l ls => exact ⟨h 0 k l rfl rfl, ih ls (by simpa using hl) fun i k l e1 e2 => h (i + 1) k l (by simpa using e1) (by simpa using e2)⟩
  refine key ks (topK ks own) (topK_len own ks).symm fun i k l e1 e2 s hs => ?_
  rw [topK_get] at e2
  by_cases m : i ∈ own
  · rw [if_pos m, e1] at e2; cases e2; trivial
  · rw [if_neg m, e1] at e2; cases e2; exact hs
theorem imp_top {own : List Nat} (e : topK ks own = topK ks' own) : Imp ks (topK ks' own) := e ▸ imp_top_ own ks
theorem backM_fit {own : List Nat} {ks0 : List K} {g0 : Gam} (h0 : Fit ks0 g0) (h : Fit (topK ks own) g) (hl : ks.length = ks0.length) (ho : ∀ i ∈ own, ks0[i]? = ks[i]?) : Fit ks (backG g0 g own) := by
  have hg : g.length = g0.length := by rw [h.len, topK_len, hl, h0.len]
  refine Fit.iff.mpr ⟨by rw [show (backG g0 g own).length = g.length from foldlU_len g0 own g, hg, h0.len, hl], fun i k e => ?_⟩
  rw [backU_get g0 own g i hg]
  by_cases m : i ∈ own
  · rw [if_pos m]; exact h0.get (by rw [ho i m]; exact e)
  · rw [if_neg m]; exact h.get (by rw [topK_get, if_neg m]; exact e)
theorem own_n {P : Nat → Prop} : ∀ i ∈ ([] : List Nat), P i := fun _ h => absurd h (by simp)
theorem own_c {P : Nat → Prop} {j : Nat} {r : List Nat} (h : P j) (k : ∀ i ∈ r, P i) : ∀ i ∈ j :: r, P i := fun i m => by
  rcases List.mem_cons.mp m with rfl | m
  · exact h
  · exact k i m
def Fre (ks : List K) (own : List Nat) : Prop := ∀ g, Fit ks g → Ev.freeOf g own = true
theorem fre_n : Fre ks [] := fun _ _ => rfl
theorem fre_c {i : Nat} {r : List Nat} {k : K} (e : ks[i]? = some k) (hk : ∀ s, k s → s = .un ∨ ∃ d, s = .sh d) (q : Fre ks r) : Fre ks (i :: r) := fun g h => by
  obtain ⟨s, e1, e2⟩ := h.get e
  have q := q g h
  unfold Ev.freeOf at q ⊢
  rw [List.all_cons, q, e1]
  rcases hk s e2 with rfl | ⟨d, rfl⟩ <;> rfl
theorem fr_f : ∀ s, kFr s → s = .un ∨ ∃ d, s = .sh d := fun _ h => h
theorem fr_s {d : PyData} : ∀ s, kSh d s → s = .un ∨ ∃ d, s = .sh d := fun _ h => .inr ⟨d, h⟩
theorem SR_idxVc {i : Nat} {k : Int} {d : PyData} {t : R α} (h : Fit ks g) (p : Pk ks i d) (l : LO (idxD d (.int k)) t E) : SR n .o (eIdxV i (eCst (.int k)) g) t E fun _ => ks := by
  have : eIdxV i (eCst (.int k)) g = ofO g (idxD d (.int k)) := by
    unfold eIdxV bindV
    rw [p g h]
    show (RE.ok (.int k) g).andThen (fun y g => match peek g i with | some x => kIdx x y g | none => .bad) = _
    show (match peek g i with | some x => kIdx x (.int k) g | none => .bad) = _
    rw [p g h]; rfl
  rw [this]
  exact SR_ofO h l
theorem SR_idxc {a : ME} {k : Int} {ta : R α} {tc : α → R β} (pa : SR n fl (a g) ta E fun _ => ks) (l : ∀ x, LO (idxD (E x) (.int k)) (tc x) E') : SR n .o (eIdx a (eCst (.int k)) g) (ta.bind tc) E' fun _ => ks :=
  SR.andThen pa fun x g h => SR_ofO h (l x)
theorem SG_retON {P L : σ → List K} {QR : RS → ρ → Prop} {r : RS} {t : R ρ} (h : SG n (NN QR) r t) : SG n (NN (QO P L (NN QR))) r (t.bind fun v => .ok (.rt v)) := by
  cases t with
  | ok v => exact ⟨h.1, h⟩
  | ex x => exact h
  | bad => trivial
@[simp] theorem R.bind_ok_right (t : R α) : (t.bind fun a => .ok a) = t := by cases t <;> rfl
theorem R.bind_assoc (t : R α) (f : α → R β) (g : β → R γ) : (t.bind f).bind g = t.bind fun a => (f a).bind g := by cases t <;> rfl
theorem any_LT (xs : List α) : PyData.tuple (xs.map E) = .tuple ((xs.map E).map eAny) := by simp
theorem any_LL (xs : List α) : PyData.list (xs.map E) = .list ((xs.map E).map eAny) := by simp
theorem chs_L (xs : List Ch) : PyData.list (xs.map eCh) = .list ((xs.map fun c => [c]).map eTx) := by rw [List.map_map]; rfl
theorem chs_T (xs : List Ch) : PyData.tuple (xs.map eCh) = .tuple ((xs.map fun c => [c]).map eTx) := by rw [List.map_map]; rfl
end
end Ty

set_option Elab.async false
set_option linter.all false
set_option maxRecDepth 100000
set_option maxHeartbeats 4000000
namespace K10
open PySem PySem.Spec Ev Ty
theorem cs_0 : eTx ([97, 98, 99, 100, 101, 102, 103, 104, 105, 106, 107, 108, 109, 110, 111, 112, 113, 114, 115, 116, 117, 118, 119, 120, 121, 122] : Tx) = PyData.str ("abcdefghijklmnopqrstuvwxyz" : Str) := by kernel_rfl
theorem cs_1 : eTx ([] : Tx) = PyData.str ("" : Str) := by kernel_rfl
theorem cs_2 : eTx ([108, 101, 120, 105, 99, 111, 110] : Tx) = PyData.str ("lexicon" : Str) := by kernel_rfl
theorem cs_3 : eTx ([108, 101, 110, 103, 116, 104] : Tx) = PyData.str ("length" : Str) := by kernel_rfl
theorem cs_4 : eTx ([97, 98] : Tx) = PyData.str ("ab" : Str) := by kernel_rfl
theorem cs_5 : eTx ([98] : Tx) = PyData.str ("b" : Str) := by kernel_rfl
theorem cs_6 : eTx ([97, 97] : Tx) = PyData.str ("aa" : Str) := by kernel_rfl
theorem cs_7 : eTx ([65, 98] : Tx) = PyData.str ("Ab" : Str) := by kernel_rfl
theorem cs_8 : eTx ([97, 98, 99, 100, 101, 102, 103, 104, 105, 106] : Tx) = PyData.str ("abcdefghij" : Str) := by kernel_rfl
theorem cs_9 : eTx ([97, 98, 99] : Tx) = PyData.str ("abc" : Str) := by kernel_rfl
theorem cs_10 : eTx ([97, 98, 99, 100] : Tx) = PyData.str ("abcd" : Str) := by kernel_rfl
theorem cs_11 : eTx ([98, 97] : Tx) = PyData.str ("ba" : Str) := by kernel_rfl
theorem cs_12 : eTx ([98, 99] : Tx) = PyData.str ("bc" : Str) := by kernel_rfl
theorem cs_13 : eTx ([97, 99] : Tx) = PyData.str ("ac" : Str) := by kernel_rfl
theorem cs_14 : eTx ([98, 100] : Tx) = PyData.str ("bd" : Str) := by kernel_rfl
theorem cs_15 : eTx ([99, 100] : Tx) = PyData.str ("cd" : Str) := by kernel_rfl
def T_is_in (a_value : PyData) (a_low : Int) (a_high : Int) : R (Bool) := (R.bind (R.bind (R.bind (R.ok a_value) fun (x1 : PyData) => (R.ok (isA "int" x1))) fun x => cond x (R.bind (R.bind (R.bind (R.ok a_value) fun (x2 : PyData) => (R.ok (isA "bool" x2))) fun x => R.ok (!x)) fun x => cond x (R.bind (R.ok a_low) fun x3 => R.bind (R.bind (R.ok a_value) fun d => R.ofOpt (dInt d)) fun x4 => R.bind (R.ok (decide (x3 ≤ x4))) fun r6 => cond r6 (R.bind (R.ok a_high) fun x5 => (R.ok (decide (x4 ≤ x5)))) (R.ok false)) (R.ok false)) (R.ok false)) fun (v : Bool) => R.ok v)
theorem sim_is_in (a_value : PyData) (a_low : Int) (a_high : Int) : SFn .o (f_is_in [.sh (eAny a_value), .sh (PyData.int a_low), .sh (PyData.int a_high)]) (T_is_in a_value a_low a_high) PyData.bool (fun _ => []) := by
  unfold T_is_in
  have h : Fit [kSh (eAny a_value), kSh (PyData.int a_low), kSh (PyData.int a_high)] [.sh (eAny a_value), .sh (PyData.int a_low), .sh (PyData.int a_high)] := ⟨rfl, ⟨rfl, ⟨rfl, trivial⟩⟩⟩
  exact SFn_of (n := 3) (brf := [false, false, false]) (r := m_is_in [.sh (eAny a_value), .sh (PyData.int a_low), .sh (PyData.int a_high)]) (SG_ret (v := fun (v : Bool) => v) (SR_and (SR_u (SR_pv (E := eAny) (a := a_value) h (pk_s rfl)) (fun (x1 : PyData) g h => (SR_ofB h (lb_isA isi_int _)))) fun g h => (SR_and (SR_not (SR_u (SR_pv (E := eAny) (a := a_value) h (pk_s rfl)) (fun (x2 : PyData) g h => (SR_ofB h (lb_isA isi_bool _))))) fun g h => (SR_chn (SR_var (E := PyData.int) (a := a_low) h rfl) (fun g h => (SR.dec (SR_var (E := eAny) (a := a_value) h rfl) dec_int)) (fun g h => (SR_pv (E := PyData.int) (a := a_high) h (pk_s rfl))) (fun _ _ => lc_le _ _) (fun _ _ => lc_le _ _)))) (fun (x7 : Bool) g r h hr => qt_ret h (lent_f (lent_f (lent_f lent_n))) hr)) rfl (Nat.le_of_ble_eq_true rfl)

def T_is_tuple (a_value : PyData) (a_least : Int) (a_most : Int) : R (Bool) := (R.bind (R.bind (R.bind (R.ok a_value) fun (x1 : PyData) => (R.ok (isA "tuple" x1))) fun x => cond x (R.bind (R.ok a_least) fun x3 => R.bind (R.bind (R.ok a_value) fun (x2 : PyData) => (lenA x2)) fun x4 => R.bind (R.ok (decide (x3 ≤ x4))) fun r6 => cond r6 (R.bind (R.ok a_most) fun x5 => (R.ok (decide (x4 ≤ x5)))) (R.ok false)) (R.ok false)) fun (v : Bool) => R.ok v)
theorem sim_is_tuple (a_value : PyData) (a_least : Int) (a_most : Int) : SFn .o (f_is_tuple [.sh (eAny a_value), .sh (PyData.int a_least), .sh (PyData.int a_most)]) (T_is_tuple a_value a_least a_most) PyData.bool (fun _ => []) := by
  unfold T_is_tuple
  have h : Fit [kSh (eAny a_value), kSh (PyData.int a_least), kSh (PyData.int a_most)] [.sh (eAny a_value), .sh (PyData.int a_least), .sh (PyData.int a_most)] := ⟨rfl, ⟨rfl, ⟨rfl, trivial⟩⟩⟩
  exact SFn_of (n := 3) (brf := [false, false, false]) (r := m_is_tuple [.sh (eAny a_value), .sh (PyData.int a_least), .sh (PyData.int a_most)]) (SG_ret (v := fun (v : Bool) => v) (SR_and (SR_u (SR_pv (E := eAny) (a := a_value) h (pk_s rfl)) (fun (x1 : PyData) g h => (SR_ofB h (lb_isA isi_tuple _)))) fun g h => (SR_chn (SR_var (E := PyData.int) (a := a_least) h rfl) (fun g h => (SR_u (SR_pv (E := eAny) (a := a_value) h (pk_s rfl)) (fun (x2 : PyData) g h => (SR_ofB h (lb_lenA _))))) (fun g h => (SR_pv (E := PyData.int) (a := a_most) h (pk_s rfl))) (fun _ _ => lc_le _ _) (fun _ _ => lc_le _ _))) (fun (x7 : Bool) g r h hr => qt_ret h (lent_f (lent_f (lent_f lent_n))) hr)) rfl (Nat.le_of_ble_eq_true rfl)

def T_is_text (a_value : PyData) (a_least : Int) (a_most : Int) (a_signs : Tx) : R (Bool) := (R.bind (R.bind (R.bind (R.ok a_value) fun (x1 : PyData) => (R.ok (isA "str" x1))) fun x => cond x (R.bind (R.bind (R.ok a_least) fun x3 => R.bind (R.bind (R.ok a_value) fun (x2 : PyData) => (lenA x2)) fun x4 => R.bind (R.ok (decide (x3 ≤ x4))) fun r6 => cond r6 (R.bind (R.ok a_most) fun x5 => (R.ok (decide (x4 ≤ x5)))) (R.ok false)) fun x => cond x (R.bind (R.bind (R.bind (R.ok a_value) itA) fun (b7 : List PyData) => compR b7 (fun (y8 : PyData) => (R.ok true)) (fun (y8 : PyData) => (R.bind (R.bind (R.ok a_signs) fun v => R.ok (eTx v)) fun (x10 : PyData) => (R.ofOpt (cmpD .isIn y8 x10))))) fun (x11 : (List Bool)) => (R.ok (List.all x11 id))) (R.ok false)) (R.ok false)) fun (v : Bool) => R.ok v)
theorem sim_is_text (a_value : PyData) (a_least : Int) (a_most : Int) (a_signs : Tx) : SFn .o (f_is_text [.sh (eAny a_value), .sh (PyData.int a_least), .sh (PyData.int a_most), .sh (eTx a_signs)]) (T_is_text a_value a_least a_most a_signs) PyData.bool (fun _ => []) := by
  unfold T_is_text
  have h : Fit [kSh (eAny a_value), kSh (PyData.int a_least), kSh (PyData.int a_most), kSh (eTx a_signs), kFr] [.sh (eAny a_value), .sh (PyData.int a_least), .sh (PyData.int a_most), .sh (eTx a_signs), .un] := ⟨rfl, ⟨rfl, ⟨rfl, ⟨rfl, ⟨.inl rfl, trivial⟩⟩⟩⟩⟩
  exact SFn_of (n := 5) (brf := [false, false, false, false]) (r := m_is_text [.sh (eAny a_value), .sh (PyData.int a_least), .sh (PyData.int a_most), .sh (eTx a_signs), .un]) (SG_ret (v := fun (v : Bool) => v) (SR_and (SR_u (SR_pv (E := eAny) (a := a_value) h (pk_s rfl)) (fun (x1 : PyData) g h => (SR_ofB h (lb_isA isi_str _)))) fun g h => (SR_and (SR_chn (SR_var (E := PyData.int) (a := a_least) h rfl) (fun g h => (SR_u (SR_pv (E := eAny) (a := a_value) h (pk_s rfl)) (fun (x2 : PyData) g h => (SR_ofB h (lb_lenA _))))) (fun g h => (SR_pv (E := PyData.int) (a := a_most) h (pk_s rfl))) (fun _ _ => lc_le _ _) (fun _ _ => lc_le _ _)) fun g h => (SR_u (SR_comp (X := fun (b : List PyData) => b) (κ₁ := fun _ => [kSh (eAny a_value), kSh (PyData.int a_least), kSh (PyData.int a_most), kSh (eTx a_signs), kFr]) (κr := fun _ => [kSh (eAny a_value), kSh (PyData.int a_least), kSh (PyData.int a_most), kSh (eTx a_signs), kFr]) (κt := fun _ (y8 : PyData) => [kSh (eAny a_value), kSh (PyData.int a_least), kSh (PyData.int a_most), kSh (eTx a_signs), kSh (eAny y8)]) (SI_any (SR_var (E := eAny) (a := a_value) h rfl)) (fun _ => (fre_c rfl fr_f fre_n)) (fun _ (y8 : PyData) => (tg_nm rfl nb_f)) (fun _ (y8 : PyData) g h => (SR_cst (E := PyData.bool) (a := true) h rfl)) (fun _ (y8 : PyData) g h => (SR_bindV h (pk_s rfl) (SR.conv (E' := eAny) (f := fun (v : Tx) => (eTx v : PyData)) (SR_pv (E := eTx) (a := a_signs) h (pk_s rfl)) (fun _ => rfl) (fun _ _ h => h)) (fun _ => pk_s rfl) (fun (x10 : PyData) g h => (SR_kCmp h (lc_any .isIn y8 _))))) (fun _ _ => imp_top rfl) (fun _ _ _ h => h)) (fun (x11 : (List Bool)) g h => (SR_ofB h (lb_all _)))))) (fun (x12 : Bool) g r h hr => qt_ret h (lent_f (lent_f (lent_f (lent_f lent_n)))) hr)) rfl (Nat.le_of_ble_eq_true rfl)

def T_is_ascending (a_values : (List Tx)) : R (Bool) := (R.bind (R.bind (R.bind (R.bind (R.ok a_values) fun a => R.bind (R.bind (R.ok a_values) fun x1 => R.bind (R.bind (R.noex (R.ok (1))) fun i => R.ok (some i)) fun l2 => R.bind (R.ok none) fun u3 => (R.ok (cutD x1 l2 u3))) fun b => R.ok (List.zip a b)) fun (b4 : List (Tx × Tx)) => compR b4 (fun (y5 : (Tx × Tx)) => (R.ok true)) (fun (y5 : (Tx × Tx)) => (R.bind (R.ok y5.2) fun (x7 : Tx) => (R.ok (ltTx y5.1 x7))))) fun (x8 : (List Bool)) => (R.ok (List.all x8 id))) fun (v : Bool) => R.ok v)
theorem sim_is_ascending (a_values : (List Tx)) : SFn .o (f_is_ascending [.sh ((eT eTx) a_values)]) (T_is_ascending a_values) PyData.bool (fun _ => []) := by
  unfold T_is_ascending
  have h : Fit [kSh ((eT eTx) a_values), kFr, kFr] [.sh ((eT eTx) a_values), .un, .un] := ⟨rfl, ⟨.inl rfl, ⟨.inl rfl, trivial⟩⟩⟩
  exact SFn_of (n := 3) (brf := [false]) (r := m_is_ascending [.sh ((eT eTx) a_values), .un, .un]) (SG_ret (v := fun (v : Bool) => v) (SR_u (SR_comp (X := fun (b : List (Tx × Tx)) => b) (κ₁ := fun _ => [kSh ((eT eTx) a_values), kFr, kFr]) (κr := fun _ => [kSh ((eT eTx) a_values), kFr, kFr]) (κt := fun _ (y5 : (Tx × Tx)) => [kSh ((eT eTx) a_values), kSh (eTx y5.1), kSh (eTx y5.2)]) (SI_zip (SR_var (E := (eT eTx)) (a := a_values) h rfl) (fun g h => (SR_slc (SR_var (E := (eT eTx)) (a := a_values) h rfl) (fun g h => SO_some (SR_cst (E := PyData.int) (a := (1)) h rfl)) (fun g h => SO_none h) (fun l2 u3 x1 g h => SR_ofB h (lb_slcT _ _ _)))) (fun _ _ => rfl)) (fun _ => (fre_c rfl fr_f (fre_c rfl fr_f fre_n))) (fun _ (y5 : (Tx × Tx)) => (tg_tp (tgl_c (tg_nm rfl nb_f) (tgl_c (tg_nm rfl nb_f) tgl_n)))) (fun _ (y5 : (Tx × Tx)) g h => (SR_cst (E := PyData.bool) (a := true) h rfl)) (fun _ (y5 : (Tx × Tx)) g h => (SR_bindV h (pk_s rfl) (SR_pv (E := eTx) (a := y5.2) h (pk_s rfl)) (fun _ => pk_s rfl) (fun (x7 : Tx) g h => (SR_kCmp h (lc_ltTx y5.1 _))))) (fun _ _ => imp_top rfl) (fun _ _ _ h => h)) (fun (x8 : (List Bool)) g h => (SR_ofB h (lb_all _)))) (fun (x9 : Bool) g r h hr => qt_ret h (lent_f lent_n) hr)) rfl (Nat.le_of_ble_eq_true rfl)

def T_demand (a_is_good : Bool) (a_name : Tx) : R (Unit) := R.bind (R.bind (R.bind (R.ok a_is_good) fun x => R.ok (!x)) fun x1 => cond x1 (R.bind (R.ok a_name) fun v => R.ex ⟨"BadArgument", eTx v⟩) (R.ok ())) fun _ => R.ok ()
theorem sim_demand (a_is_good : Bool) (a_name : Tx) : SFn .o (f_demand [.sh (PyData.bool a_is_good), .sh (eTx a_name)]) (T_demand a_is_good a_name) eN (fun _ => []) := by
  unfold T_demand
  have h : Fit [kSh (PyData.bool a_is_good), kSh (eTx a_name)] [.sh (PyData.bool a_is_good), .sh (eTx a_name)] := ⟨rfl, ⟨rfl, trivial⟩⟩
  exact SFn_ofN (P := fun _ => [kSh (PyData.bool a_is_good), kSh (eTx a_name)]) (n := 2) (brf := [false, false]) (r := m_demand [.sh (PyData.bool a_is_good), .sh (eTx a_name)]) (SG_last (SG_ifr (SR_not (SR_var (E := PyData.bool) (a := a_is_good) h rfl)) (fun x1 g h => (SG_raise (SR_var (E := eTx) (a := a_name) h rfl) rfl)) (fun x1 g h => (SG_nops (SG_end (h.imp (imp_c i_id (imp_c i_id imp_n)))))))) rfl (Nat.le_of_ble_eq_true rfl) (fun _ => rfl)

def T_is_word (a_value : PyData) : R (Bool) := (R.bind (R.bind (R.ok a_value) fun (x1 : PyData) => (R.bind (R.ok (2)) fun (x2 : Int) => (R.bind (R.ok (9)) fun (x3 : Int) => (R.bind (R.ok ([97, 98, 99, 100, 101, 102, 103, 104, 105, 106, 107, 108, 109, 110, 111, 112, 113, 114, 115, 116, 117, 118, 119, 120, 121, 122] : Tx)) fun (x4 : Tx) => (T_is_text x1 x2 x3 x4))))) fun (v : Bool) => R.ok v)
theorem sim_is_word (a_value : PyData) : SFn .o (f_is_word [.sh (eAny a_value)]) (T_is_word a_value) PyData.bool (fun _ => []) := by
  unfold T_is_word
  have h : Fit [kSh (eAny a_value)] [.sh (eAny a_value)] := ⟨rfl, trivial⟩
  exact SFn_of (n := 1) (brf := [false]) (r := m_is_word [.sh (eAny a_value)]) (SG_ret (v := fun (v : Bool) => v) (SR_call (SR_aSh (SR_var (E := eAny) (a := a_value) h rfl) (fun (x1 : PyData) g h => (SR_aSh (SR_cst (E := PyData.int) (a := (2)) h rfl) (fun (x2 : Int) g h => (SR_aSh (SR_cst (E := PyData.int) (a := (9)) h rfl) (fun (x3 : Int) g h => (SR_aSh (SR_cst (E := eTx) (a := ([97, 98, 99, 100, 101, 102, 103, 104, 105, 106, 107, 108, 109, 110, 111, 112, 113, 114, 115, 116, 117, 118, 119, 120, 121, 122] : Tx)) h cs_0) (fun (x4 : Tx) g h => (SR_aNil (SR_endS (ks := [kSh (eAny a_value)]) (ds := [eAny x1, PyData.int x2, PyData.int x3, eTx x4]) h rfl rfl (sim_is_text x1 x2 x3 x4)))))))))))) (fun (x5 : Bool) g r h hr => qt_ret h (lent_f lent_n) hr)) rfl (Nat.le_of_ble_eq_true rfl)

def T_is_lexicon (a_value : PyData) : R (Bool) := (R.bind (R.bind (R.bind (R.ok a_value) fun (x1 : PyData) => (R.bind (R.ok (1)) fun (x2 : Int) => (R.bind (R.ok (60)) fun (x3 : Int) => (T_is_tuple x1 x2 x3)))) fun x => cond x (R.bind (R.bind (R.bind (R.bind (R.ok a_value) itA) fun (b4 : List PyData) => compR b4 (fun (y5 : PyData) => (R.ok true)) (fun (y5 : PyData) => (R.bind (R.ok y5) fun (x7 : PyData) => (T_is_word x7)))) fun (x8 : (List Bool)) => (R.ok (List.all x8 id))) fun x => cond x (R.bind (R.bind (R.ok a_value) fun d => R.ofOpt ((dT dTx) d)) fun (x9 : (List Tx)) => (T_is_ascending x9)) (R.ok false)) (R.ok false)) fun (v : Bool) => R.ok v)
theorem sim_is_lexicon (a_value : PyData) : SFn .o (f_is_lexicon [.sh (eAny a_value)]) (T_is_lexicon a_value) PyData.bool (fun _ => []) := by
  unfold T_is_lexicon
  have h : Fit [kSh (eAny a_value), kFr] [.sh (eAny a_value), .un] := ⟨rfl, ⟨.inl rfl, trivial⟩⟩
  exact SFn_of (n := 2) (brf := [false]) (r := m_is_lexicon [.sh (eAny a_value), .un]) (SG_ret (v := fun (v : Bool) => v) (SR_and (SR_call (SR_aSh (SR_var (E := eAny) (a := a_value) h rfl) (fun (x1 : PyData) g h => (SR_aSh (SR_cst (E := PyData.int) (a := (1)) h rfl) (fun (x2 : Int) g h => (SR_aSh (SR_cst (E := PyData.int) (a := (60)) h rfl) (fun (x3 : Int) g h => (SR_aNil (SR_endS (ks := [kSh (eAny a_value), kFr]) (ds := [eAny x1, PyData.int x2, PyData.int x3]) h rfl rfl (sim_is_tuple x1 x2 x3)))))))))) fun g h => (SR_and (SR_u (SR_comp (X := fun (b : List PyData) => b) (κ₁ := fun _ => [kSh (eAny a_value), kFr]) (κr := fun _ => [kSh (eAny a_value), kFr]) (κt := fun _ (y5 : PyData) => [kSh (eAny a_value), kSh (eAny y5)]) (SI_any (SR_var (E := eAny) (a := a_value) h rfl)) (fun _ => (fre_c rfl fr_f fre_n)) (fun _ (y5 : PyData) => (tg_nm rfl nb_f)) (fun _ (y5 : PyData) g h => (SR_cst (E := PyData.bool) (a := true) h rfl)) (fun _ (y5 : PyData) g h => (SR_call (SR_aSh (SR_var (E := eAny) (a := y5) h rfl) (fun (x7 : PyData) g h => (SR_aNil (SR_endS (ks := [kSh (eAny a_value), kSh (eAny y5)]) (ds := [eAny x7]) h rfl rfl (sim_is_word x7))))))) (fun _ _ => imp_top rfl) (fun _ _ _ h => h)) (fun (x8 : (List Bool)) g h => (SR_ofB h (lb_all _)))) fun g h => (SR_call (SR_aSh (SR.dec (SR_var (E := eAny) (a := a_value) h rfl) (dec_T dec_tx)) (fun (x9 : (List Tx)) g h => (SR_aNil (SR_endS (ks := [kSh (eAny a_value), kFr]) (ds := [(eT eTx) x9]) h rfl rfl (sim_is_ascending x9)))))))) (fun (x10 : Bool) g r h hr => qt_ret h (lent_f lent_n) hr)) rfl (Nat.le_of_ble_eq_true rfl)

def T_columns_of (a_rows : (List Tx)) : R ((List Tx)) := (R.bind (R.bind (R.bind (R.bind (R.bind (idxR a_rows (0)) fun (x1 : Tx) => (lenTx x1)) fun b => rngR 0 b) fun (b2 : List Int) => compR b2 (fun (y3 : Int) => (R.ok true)) (fun (y3 : Int) => (R.bind (R.ok ([] : Tx)) fun (x5 : Tx) => R.bind (R.bind (R.ok a_rows) fun (b6 : List Tx) => compR b6 (fun (y7 : Tx) => (R.ok true)) (fun (y7 : Tx) => (R.bind (R.ok y3) fun (x9 : Int) => (idxTx y7 x9)))) fun (x10 : (List Ch)) => (joinC x5 x10)))) fun (x11 : (List Tx)) => (R.ok x11)) fun (v : (List Tx)) => R.ok v)
theorem sim_columns_of (a_rows : (List Tx)) : SFn .o (f_columns_of [.sh ((eT eTx) a_rows)]) (T_columns_of a_rows) (eT eTx) (fun _ => []) := by
  unfold T_columns_of
  have h : Fit [kSh ((eT eTx) a_rows), kFr, kFr] [.sh ((eT eTx) a_rows), .un, .un] := ⟨rfl, ⟨.inl rfl, ⟨.inl rfl, trivial⟩⟩⟩
  exact SFn_of (n := 3) (brf := [false]) (r := m_columns_of [.sh ((eT eTx) a_rows), .un, .un]) (SG_ret (v := fun (v : (List Tx)) => v) (SR_u (SR_comp (X := fun (b : List Int) => b) (κ₁ := fun _ => [kSh ((eT eTx) a_rows), kFr, kFr]) (κr := fun _ => [kSh ((eT eTx) a_rows), kFr, kFr]) (κt := fun _ (y3 : Int) => [kSh ((eT eTx) a_rows), kSh (PyData.int y3), kFr]) (SI_rng (SR_u (SR_idxVc (E := eTx) h (pk_s rfl) (lo_idxT a_rows (0))) (fun (x1 : Tx) g h => (SR_ofB h (lb_lenTx _))))) (fun _ => (fre_c rfl fr_f fre_n)) (fun _ (y3 : Int) => (tg_nm rfl nb_f)) (fun _ (y3 : Int) g h => (SR_cst (E := PyData.bool) (a := true) h rfl)) (fun _ (y3 : Int) g h => (SR_m2 (z := toS) (SR_cst (E := eTx) (a := ([] : Tx)) h cs_1) (fun (x5 : Tx) g h => (SR_comp (X := fun (b : List Tx) => b) (κ₁ := fun _ => [kSh ((eT eTx) a_rows), kSh (PyData.int y3), kFr]) (κr := fun _ => [kSh ((eT eTx) a_rows), kSh (PyData.int y3), kFr]) (κt := fun _ (y7 : Tx) => [kSh ((eT eTx) a_rows), kSh (PyData.int y3), kSh (eTx y7)]) (SI_seq (F := fun xs => xs.map eTx) (SR_var (E := (eT eTx)) (a := a_rows) h rfl) (fun _ => rfl)) (fun _ => (fre_c rfl fr_f fre_n)) (fun _ (y7 : Tx) => (tg_nm rfl nb_f)) (fun _ (y7 : Tx) g h => (SR_cst (E := PyData.bool) (a := true) h rfl)) (fun _ (y7 : Tx) g h => (SR_bindV h (pk_s rfl) (SR_var (E := PyData.int) (a := y3) h rfl) (fun _ => pk_s rfl) (fun (x9 : Int) g h => (SR_ofO (E := eCh) h (lo_idxTx y7 x9))))) (fun _ _ => imp_top rfl) (fun _ _ _ h => h))) (fun (x5 : Tx) (x10 : (List Ch)) g h => (SR_ofO h (lo_joinC _ _))))) (fun _ _ => imp_top rfl) (fun _ _ _ h => h)) (fun (x11 : (List Tx)) g h => (SR_ofB h (lb_tupL _)))) (fun (x12 : (List Tx)) g r h hr => qt_ret h (lent_f lent_n) hr)) rfl (Nat.le_of_ble_eq_true rfl)

def T_begun_squares (a_words : (List Tx)) (a_length : Int) : R ((List (List Tx))) := (R.bind (R.bind (R.ok ([] : (List Tx))) fun (x1 : (List Tx)) => (R.ok ([x1] : (List (List Tx))))) fun (x2 : (List (List Tx))) => (R.bind (R.bind (R.bind (R.ok a_length) fun b => rngR 0 b) fun (b3 : (List Int)) => forR b3 (x2) (fun (y5 : Int) (s4 : ((List (List Tx)))) => (R.bind (R.ok ([] : (List (List Tx)))) fun (x83 : (List (List Tx))) => (R.bind (R.bind (R.ok s4) fun (b84 : (List (List Tx))) => forR b84 (x83) (fun (y86 : (List Tx)) (s85 : ((List (List Tx)))) => (R.bind (R.bind (R.ok ([] : Tx)) fun (x104 : Tx) => R.bind (R.bind (R.ok y86) fun (b105 : List Tx) => compR b105 (fun (y106 : Tx) => (R.ok true)) (fun (y106 : Tx) => (R.bind (R.ok y5) fun (x108 : Int) => (idxTx y106 x108)))) fun (x109 : (List Ch)) => (joinC x104 x109)) fun (x110 : Tx) => (R.bind (R.bind (R.ok a_words) fun (b111 : List Tx) => compR b111 (fun (y112 : Tx) => (R.bind (R.ok y112) fun (x114 : Tx) => R.bind (R.ok x110) fun (x115 : Tx) => (R.ok (eqT (List.take (List.length x115) x114) x115)))) (fun (y112 : Tx) => (R.bind (R.ok y86) fun (x116 : (List Tx)) => (R.bind (R.ok y112) fun (x117 : Tx) => (szR (x116 ++ [x117])))))) fun (x118 : (List (List Tx))) => R.bind (szR (s85 ++ x118)) fun (l119 : (List (List Tx))) => (R.ok (l119)))))) fun (s103 : ((List (List Tx)))) => (R.bind (R.ok s103) fun (x120 : (List (List Tx))) => (R.ok (x120))))))) fun (s82 : ((List (List Tx)))) => (R.bind (R.ok s82) fun (v : (List (List Tx))) => R.ok v)))
theorem sim_begun_squares (a_words : (List Tx)) (a_length : Int) : SFn .o (f_begun_squares [.sh ((eL eTx) a_words), .sh (PyData.int a_length)]) (T_begun_squares a_words a_length) (eL (eT eTx)) (fun _ => []) := by
  unfold T_begun_squares
  have h : Fit [kSh ((eL eTx) a_words), kSh (PyData.int a_length), kFr, kFr, kFr, kFr, kFr, kFr] [.sh ((eL eTx) a_words), .sh (PyData.int a_length), .un, .un, .un, .un, .un, .un] := ⟨rfl, ⟨rfl, ⟨.inl rfl, ⟨.inl rfl, ⟨.inl rfl, ⟨.inl rfl, ⟨.inl rfl, ⟨.inl rfl, trivial⟩⟩⟩⟩⟩⟩⟩⟩
  exact SFn_of (n := 8) (brf := [false, false]) (r := m_begun_squares [.sh ((eL eTx) a_words), .sh (PyData.int a_length), .un, .un, .un, .un, .un, .un]) (SG_asgf (X := fun (x2 : (List (List Tx))) => (x2).map (eT eTx)) (SR_lst (SR_cons (SR_tup (SR_nil (SR_endT (E := (eT eTx)) (κ := fun (_ : (List Tx)) => [kSh ((eL eTx) a_words), kSh (PyData.int a_length), kFr, kFr, kFr, kFr, kFr, kFr]) (a := ([] : (List Tx))) h rfl (Nat.le_of_ble_eq_true rfl)))) (fun (x1 : (List Tx)) g h => (SR_nil (SR_endL (E := (eL (eT eTx))) (κ := fun (_ : (List (List Tx))) => [kSh ((eL eTx) a_words), kSh (PyData.int a_length), kFr, kFr, kFr, kFr, kFr, kFr]) (a := ([x1] : (List (List Tx)))) h rfl (Nat.le_of_ble_eq_true rfl)))))) (fun _ => ⟨_, rfl, nb_f⟩) (fun (x2 : (List (List Tx))) g (h : Fit [kSh ((eL eTx) a_words), kSh (PyData.int a_length), kOw ((x2).map (eT eTx)), kFr, kFr, kFr, kFr, kFr] g) => (SG_seq (P := fun (s : ((List (List Tx)))) => [kSh ((eL eTx) a_words), kSh (PyData.int a_length), kAn ((eL (eT eTx)) s), kFr, kFr, kFr, kFr, kFr]) (SG_for (X := fun (b3 : (List Int)) => b3) (s0 := fun (b3 : (List Int)) => (x2)) (P := fun (s : ((List (List Tx)))) => [kSh ((eL eTx) a_words), kSh (PyData.int a_length), kAn ((eL (eT eTx)) s), kFr, kFr, kFr, kFr, kFr]) (P1 := fun (y5 : Int) (s4 : ((List (List Tx)))) => [kSh ((eL eTx) a_words), kSh (PyData.int a_length), kAn ((eL (eT eTx)) s4), kSh (PyData.int y5), kFr, kFr, kFr, kFr]) (SI_rng (SR_var (E := PyData.int) (a := a_length) h rfl)) (fun (b3 : (List Int)) g h => h.imp (imp_c i_id (imp_c i_id (imp_c i_oa (imp_c i_id (imp_c i_id (imp_c i_id (imp_c i_id (imp_c i_id imp_n))))))))) (fun (y5 : Int) (s4 : ((List (List Tx)))) => (tg_nm rfl nb_f)) (fun (y5 : Int) (s4 : ((List (List Tx)))) g (h : Fit [kSh ((eL eTx) a_words), kSh (PyData.int a_length), kAn ((eL (eT eTx)) s4), kSh (PyData.int y5), kFr, kFr, kFr, kFr] g) => (SG_asgf (X := fun (x83 : (List (List Tx))) => (x83).map (eT eTx)) (SR_lst (SR_nil (SR_endL (E := (eL (eT eTx))) (κ := fun (_ : (List (List Tx))) => [kSh ((eL eTx) a_words), kSh (PyData.int a_length), kAn ((eL (eT eTx)) s4), kSh (PyData.int y5), kFr, kFr, kFr, kFr]) (a := ([] : (List (List Tx)))) h rfl (Nat.le_of_ble_eq_true rfl)))) (fun _ => ⟨_, rfl, nb_f⟩) (fun (x83 : (List (List Tx))) g (h : Fit [kSh ((eL eTx) a_words), kSh (PyData.int a_length), kAn ((eL (eT eTx)) s4), kSh (PyData.int y5), kOw ((x83).map (eT eTx)), kFr, kFr, kFr] g) => (SG_frzs h (frz_c (fz_a rfl) frz_n) (fun g (h : Fit [kSh ((eL eTx) a_words), kSh (PyData.int a_length), kSh ((eL (eT eTx)) s4), kSh (PyData.int y5), kOw ((x83).map (eT eTx)), kFr, kFr, kFr] g) => (SG_seq (P := fun (s : ((List (List Tx)))) => [kSh ((eL eTx) a_words), kSh (PyData.int a_length), kSh ((eL (eT eTx)) s4), kSh (PyData.int y5), kOw ((s).map (eT eTx)), kFr, kFr, kFr]) (SG_for (X := fun (b84 : (List (List Tx))) => b84) (s0 := fun (b84 : (List (List Tx))) => (x83)) (P := fun (s : ((List (List Tx)))) => [kSh ((eL eTx) a_words), kSh (PyData.int a_length), kSh ((eL (eT eTx)) s4), kSh (PyData.int y5), kOw ((s).map (eT eTx)), kFr, kFr, kFr]) (P1 := fun (y86 : (List Tx)) (s85 : ((List (List Tx)))) => [kSh ((eL eTx) a_words), kSh (PyData.int a_length), kSh ((eL (eT eTx)) s4), kSh (PyData.int y5), kOw ((s85).map (eT eTx)), kSh ((eT eTx) y86), kFr, kFr]) (SI_seq (F := fun xs => xs.map (eT eTx)) (SR_var (E := (eL (eT eTx))) (a := s4) h rfl) (fun _ => rfl)) (fun (b84 : (List (List Tx))) g h => h.imp (imp_c i_id (imp_c i_id (imp_c i_id (imp_c i_id (imp_c i_id (imp_c i_id (imp_c i_id (imp_c i_id imp_n))))))))) (fun (y86 : (List Tx)) (s85 : ((List (List Tx)))) => (tg_nm rfl nb_f)) (fun (y86 : (List Tx)) (s85 : ((List (List Tx)))) g (h : Fit [kSh ((eL eTx) a_words), kSh (PyData.int a_length), kSh ((eL (eT eTx)) s4), kSh (PyData.int y5), kOw ((s85).map (eT eTx)), kSh ((eT eTx) y86), kFr, kFr] g) => (SG_asg (SR_m2 (z := toS) (SR_cst (E := eTx) (a := ([] : Tx)) h cs_1) (fun (x104 : Tx) g h => (SR_comp (X := fun (b : List Tx) => b) (κ₁ := fun _ => [kSh ((eL eTx) a_words), kSh (PyData.int a_length), kSh ((eL (eT eTx)) s4), kSh (PyData.int y5), kOw ((s85).map (eT eTx)), kSh ((eT eTx) y86), kFr, kFr]) (κr := fun _ => [kSh ((eL eTx) a_words), kSh (PyData.int a_length), kSh ((eL (eT eTx)) s4), kSh (PyData.int y5), kOw ((s85).map (eT eTx)), kSh ((eT eTx) y86), kFr, kFr]) (κt := fun _ (y106 : Tx) => [kSh ((eL eTx) a_words), kSh (PyData.int a_length), kSh ((eL (eT eTx)) s4), kSh (PyData.int y5), kOw ((s85).map (eT eTx)), kSh ((eT eTx) y86), kFr, kSh (eTx y106)]) (SI_seq (F := fun xs => xs.map eTx) (SR_var (E := (eT eTx)) (a := y86) h rfl) (fun _ => rfl)) (fun _ => (fre_c rfl fr_f fre_n)) (fun _ (y106 : Tx) => (tg_nm rfl nb_f)) (fun _ (y106 : Tx) g h => (SR_cst (E := PyData.bool) (a := true) h rfl)) (fun _ (y106 : Tx) g h => (SR_bindV h (pk_s rfl) (SR_var (E := PyData.int) (a := y5) h rfl) (fun _ => pk_s rfl) (fun (x108 : Int) g h => (SR_ofO (E := eCh) h (lo_idxTx y106 x108))))) (fun _ _ => imp_top rfl) (fun _ _ _ h => h))) (fun (x104 : Tx) (x109 : (List Ch)) g h => (SR_ofO h (lo_joinC _ _)))) (fun _ => ⟨_, rfl, nb_f⟩) (fun (x110 : Tx) g (h : Fit [kSh ((eL eTx) a_words), kSh (PyData.int a_length), kSh ((eL (eT eTx)) s4), kSh (PyData.int y5), kOw ((s85).map (eT eTx)), kSh ((eT eTx) y86), kSh (eTx x110), kFr] g) => (SG_last (SG_ext (F := (eT eTx)) (xs := s85) (vf := fun (x118 : (List (List Tx))) => x118) (κ₂ := fun (x118 : (List (List Tx))) (l119 : (List (List Tx))) => [kSh ((eL eTx) a_words), kSh (PyData.int a_length), kSh ((eL (eT eTx)) s4), kSh (PyData.int y5), kOw ((l119).map (eT eTx)), kSh ((eT eTx) y86), kSh (eTx x110), kFr]) h (ln_o rfl) (SR_comp (X := fun (b : List Tx) => b) (κ₁ := fun _ => [kSh ((eL eTx) a_words), kSh (PyData.int a_length), kSh ((eL (eT eTx)) s4), kSh (PyData.int y5), kOw ((s85).map (eT eTx)), kSh ((eT eTx) y86), kSh (eTx x110), kFr]) (κr := fun _ => [kSh ((eL eTx) a_words), kSh (PyData.int a_length), kSh ((eL (eT eTx)) s4), kSh (PyData.int y5), kOw ((s85).map (eT eTx)), kSh ((eT eTx) y86), kSh (eTx x110), kFr]) (κt := fun _ (y112 : Tx) => [kSh ((eL eTx) a_words), kSh (PyData.int a_length), kSh ((eL (eT eTx)) s4), kSh (PyData.int y5), kOw ((s85).map (eT eTx)), kSh ((eT eTx) y86), kSh (eTx x110), kSh (eTx y112)]) (SI_seq (F := fun xs => xs.map eTx) (SR_var (E := (eL eTx)) (a := a_words) h rfl) (fun _ => rfl)) (fun _ => (fre_c rfl fr_f fre_n)) (fun _ (y112 : Tx) => (tg_nm rfl nb_f)) (fun _ (y112 : Tx) g h => (SR_m2 (z := toS) (SR_var (E := eTx) (a := y112) h rfl) (fun (x114 : Tx) g h => (SR_pv (E := eTx) (a := x110) h (pk_s rfl))) (fun (x114 : Tx) (x115 : Tx) g h => (SR_ofO h (lo_sw _ _))))) (fun _ (y112 : Tx) g h => (SR_tup (SR_star (SR_var (E := (eT eTx)) (a := y86) h rfl) (fun _ => rfl) (fun (x116 : (List Tx)) g h => (SR_cons (SR_var (E := eTx) (a := y112) h rfl) (fun (x117 : Tx) g h => (SR_nil (SR_endTs (xs := x116 ++ [x117]) (F := eTx) h (by simp))))))))) (fun _ _ => imp_top rfl) (fun _ _ _ h => h)) (fun _ => ln_o rfl) (fun _ _ => tk_o rfl) (fun (x118 : (List (List Tx))) (l119 : (List (List Tx))) g (h : Fit [kSh ((eL eTx) a_words), kSh (PyData.int a_length), kSh ((eL (eT eTx)) s4), kSh (PyData.int y5), kOw ((l119).map (eT eTx)), kSh ((eT eTx) y86), kSh (eTx x110), kFr] g) => (SG_end (h.imp (imp_c i_id (imp_c i_id (imp_c i_id (imp_c i_id (imp_c i_id (imp_c i_sf (imp_c i_sf (imp_c i_id imp_n))))))))))))))))) (fun (s103 : ((List (List Tx)))) g (h : Fit [kSh ((eL eTx) a_words), kSh (PyData.int a_length), kSh ((eL (eT eTx)) s4), kSh (PyData.int y5), kOw ((s103).map (eT eTx)), kFr, kFr, kFr] g) => (SG_last (SG_frzs h (frz_c (fz_o rfl) frz_n) (fun g (h : Fit [kSh ((eL eTx) a_words), kSh (PyData.int a_length), kSh ((eL (eT eTx)) s4), kSh (PyData.int y5), kSh ((eL (eT eTx)) s103), kFr, kFr, kFr] g) => (SG_asg (SR_var (E := (eL (eT eTx))) (a := s103) h rfl) (fun _ => ⟨_, rfl, nb_s⟩) (fun (x120 : (List (List Tx))) g (h : Fit [kSh ((eL eTx) a_words), kSh (PyData.int a_length), kSh ((eL (eT eTx)) x120), kSh (PyData.int y5), kSh ((eL (eT eTx)) s103), kFr, kFr, kFr] g) => (SG_end (h.imp (imp_c i_id (imp_c i_id (imp_c i_sa (imp_c i_sf (imp_c i_sf (imp_c i_id (imp_c i_id (imp_c i_id imp_n))))))))))))))))))))))) (fun (s82 : ((List (List Tx)))) g (h : Fit [kSh ((eL eTx) a_words), kSh (PyData.int a_length), kAn ((eL (eT eTx)) s82), kFr, kFr, kFr, kFr, kFr] g) => (SG_frz h (frz_c (fz_a rfl) frz_n) (fun g (h : Fit [kSh ((eL eTx) a_words), kSh (PyData.int a_length), kSh ((eL (eT eTx)) s82), kFr, kFr, kFr, kFr, kFr] g) => (SG_ret (v := fun (v : (List (List Tx))) => v) (SR_var (E := (eL (eT eTx))) (a := s82) h rfl) (fun (x121 : (List (List Tx))) g r h hr => qt_ret h (lent_f (lent_f lent_n)) hr)))))))) rfl (Nat.le_of_ble_eq_true rfl)

def T_demand_length (a_lexicon : PyData) (a_length : PyData) : R (Unit) := R.bind (R.bind (R.bind (R.bind (R.ok a_lexicon) fun (x1 : PyData) => (T_is_lexicon x1)) fun (x2 : Bool) => (R.bind (R.ok ([108, 101, 120, 105, 99, 111, 110] : Tx)) fun (x3 : Tx) => (T_demand x2 x3))) fun (x4 : Unit) => (R.bind (R.bind (R.bind (R.ok a_length) fun (x5 : PyData) => (R.bind (R.ok (2)) fun (x6 : Int) => (R.bind (R.ok (5)) fun (x7 : Int) => (T_is_in x5 x6 x7)))) fun (x8 : Bool) => (R.bind (R.ok ([108, 101, 110, 103, 116, 104] : Tx)) fun (x9 : Tx) => (T_demand x8 x9))) fun (x10 : Unit) => (R.ok ()))) fun _ => R.ok ()
theorem sim_demand_length (a_lexicon : PyData) (a_length : PyData) : SFn .o (f_demand_length [.sh (eAny a_lexicon), .sh (eAny a_length)]) (T_demand_length a_lexicon a_length) eN (fun _ => []) := by
  unfold T_demand_length
  have h : Fit [kSh (eAny a_lexicon), kSh (eAny a_length)] [.sh (eAny a_lexicon), .sh (eAny a_length)] := ⟨rfl, ⟨rfl, trivial⟩⟩
  exact SFn_ofN (P := fun _ => [kSh (eAny a_lexicon), kSh (eAny a_length)]) (n := 2) (brf := [false, false]) (r := m_demand_length [.sh (eAny a_lexicon), .sh (eAny a_length)]) (SG_expr (SR_call (SR_aSh (SR_call (SR_aSh (SR_var (E := eAny) (a := a_lexicon) h rfl) (fun (x1 : PyData) g h => (SR_aNil (SR_endS (ks := [kSh (eAny a_lexicon), kSh (eAny a_length)]) (ds := [eAny x1]) h rfl rfl (sim_is_lexicon x1)))))) (fun (x2 : Bool) g h => (SR_aSh (SR_cst (E := eTx) (a := ([108, 101, 120, 105, 99, 111, 110] : Tx)) h cs_2) (fun (x3 : Tx) g h => (SR_aNil (SR_endS (ks := [kSh (eAny a_lexicon), kSh (eAny a_length)]) (ds := [PyData.bool x2, eTx x3]) h rfl rfl (sim_demand x2 x3)))))))) (fun (x4 : Unit) g (h : Fit [kSh (eAny a_lexicon), kSh (eAny a_length)] g) => (SG_last (SG_expr (SR_call (SR_aSh (SR_call (SR_aSh (SR_var (E := eAny) (a := a_length) h rfl) (fun (x5 : PyData) g h => (SR_aSh (SR_cst (E := PyData.int) (a := (2)) h rfl) (fun (x6 : Int) g h => (SR_aSh (SR_cst (E := PyData.int) (a := (5)) h rfl) (fun (x7 : Int) g h => (SR_aNil (SR_endS (ks := [kSh (eAny a_lexicon), kSh (eAny a_length)]) (ds := [eAny x5, PyData.int x6, PyData.int x7]) h rfl rfl (sim_is_in x5 x6 x7)))))))))) (fun (x8 : Bool) g h => (SR_aSh (SR_cst (E := eTx) (a := ([108, 101, 110, 103, 116, 104] : Tx)) h cs_3) (fun (x9 : Tx) g h => (SR_aNil (SR_endS (ks := [kSh (eAny a_lexicon), kSh (eAny a_length)]) (ds := [PyData.bool x8, eTx x9]) h rfl rfl (sim_demand x8 x9)))))))) (fun (x10 : Unit) g (h : Fit [kSh (eAny a_lexicon), kSh (eAny a_length)] g) => (SG_end (h.imp (imp_c i_id (imp_c i_id imp_n))))))))) rfl (Nat.le_of_ble_eq_true rfl) (fun _ => rfl)

def T_word_squares (a_lexicon : (List Tx)) (a_length : Int) : R ((List (List Tx))) := (R.bind (R.bind (R.bind (R.ok a_lexicon) fun v => R.ok ((eT eTx) v)) fun (x1 : PyData) => (R.bind (R.bind (R.ok a_length) fun v => R.ok (PyData.int v)) fun (x2 : PyData) => (T_demand_length x1 x2))) fun (x3 : Unit) => (R.bind (R.bind (R.bind (R.bind (R.bind (R.ok a_lexicon) fun (b4 : List Tx) => compR b4 (fun (y5 : Tx) => (R.bind (R.bind (R.ok y5) fun (x7 : Tx) => (lenTx x7)) fun (x8 : Int) => R.bind (R.ok a_length) fun (x9 : Int) => (R.ok (eqT x8 x9)))) (fun (y5 : Tx) => (R.ok y5))) fun (x10 : (List Tx)) => (R.bind (R.ok a_length) fun (x11 : Int) => (T_begun_squares x10 x11))) fun (x12 : (List (List Tx))) => (sortR (ltLex ltTx) (fun t => !t.isEmpty) x12)) fun (x13 : (List (List Tx))) => (R.ok x13)) fun (v : (List (List Tx))) => R.ok v))
theorem sim_word_squares (a_lexicon : (List Tx)) (a_length : Int) : SFn .o (f_word_squares [.sh ((eT eTx) a_lexicon), .sh (PyData.int a_length)]) (T_word_squares a_lexicon a_length) (eT (eT eTx)) (fun _ => []) := by
  unfold T_word_squares
  have h : Fit [kSh ((eT eTx) a_lexicon), kSh (PyData.int a_length), kFr] [.sh ((eT eTx) a_lexicon), .sh (PyData.int a_length), .un] := ⟨rfl, ⟨rfl, ⟨.inl rfl, trivial⟩⟩⟩
  exact SFn_of (n := 3) (brf := [false, false]) (r := m_word_squares [.sh ((eT eTx) a_lexicon), .sh (PyData.int a_length), .un]) (SG_expr (SR_call (SR_aSh (SR.conv (E' := eAny) (f := fun (v : (List Tx)) => ((eT eTx) v : PyData)) (SR_var (E := (eT eTx)) (a := a_lexicon) h rfl) (fun _ => rfl) (fun _ _ h => h)) (fun (x1 : PyData) g h => (SR_aSh (SR.conv (E' := eAny) (f := fun (v : Int) => (PyData.int v : PyData)) (SR_var (E := PyData.int) (a := a_length) h rfl) (fun _ => rfl) (fun _ _ h => h)) (fun (x2 : PyData) g h => (SR_aNil (SR_endS (ks := [kSh ((eT eTx) a_lexicon), kSh (PyData.int a_length), kFr]) (ds := [eAny x1, eAny x2]) h rfl rfl (sim_demand_length x1 x2)))))))) (fun (x3 : Unit) g (h : Fit [kSh ((eT eTx) a_lexicon), kSh (PyData.int a_length), kFr] g) => (SG_ret (v := fun (v : (List (List Tx))) => v) (SR_u (SR_u (SR_call (SR_aSh (SR_comp (X := fun (b : List Tx) => b) (κ₁ := fun _ => [kSh ((eT eTx) a_lexicon), kSh (PyData.int a_length), kFr]) (κr := fun _ => [kSh ((eT eTx) a_lexicon), kSh (PyData.int a_length), kFr]) (κt := fun _ (y5 : Tx) => [kSh ((eT eTx) a_lexicon), kSh (PyData.int a_length), kSh (eTx y5)]) (SI_seq (F := fun xs => xs.map eTx) (SR_var (E := (eT eTx)) (a := a_lexicon) h rfl) (fun _ => rfl)) (fun _ => (fre_c rfl fr_f fre_n)) (fun _ (y5 : Tx) => (tg_nm rfl nb_f)) (fun _ (y5 : Tx) g h => (SR_cmp (SR_u (SR_pv (E := eTx) (a := y5) h (pk_s rfl)) (fun (x7 : Tx) g h => (SR_ofB h (lb_lenTx _)))) (fun (x8 : Int) g h => (SR_pv (E := PyData.int) (a := a_length) h (pk_s rfl))) (fun (x8 : Int) (x9 : Int) g h => (SR_kCmp h (lc_eq qInt (by decide) _ _))))) (fun _ (y5 : Tx) g h => (SR_var (E := eTx) (a := y5) h rfl)) (fun _ _ => imp_top rfl) (fun _ _ _ h => h)) (fun (x10 : (List Tx)) g h => (SR_aSh (SR_var (E := PyData.int) (a := a_length) h rfl) (fun (x11 : Int) g h => (SR_aNil (SR_endS (ks := [kSh ((eT eTx) a_lexicon), kSh (PyData.int a_length), kFr]) (ds := [(eL eTx) x10, PyData.int x11]) h rfl rfl (sim_begun_squares x10 x11)))))))) (fun (x12 : (List (List Tx))) g h => (SR_ofBf h (lb_srt sTTx _)))) (fun (x13 : (List (List Tx))) g h => (SR_ofB h (lb_tupL _)))) (fun (x14 : (List (List Tx))) g r h hr => qt_ret h (lent_f (lent_f lent_n)) hr)))) rfl (Nat.le_of_ble_eq_true rfl)

def T_word_squares_2 (a_lexicon : PyData) (a_length : PyData) : R ((List (List Tx))) := (R.bind (R.bind (R.ok a_lexicon) fun (x1 : PyData) => (R.bind (R.ok a_length) fun (x2 : PyData) => (T_demand_length x1 x2))) fun (x3 : Unit) => (R.bind (R.bind (R.bind (R.bind (R.bind (R.bind (R.bind (R.bind (R.ok a_lexicon) itA) fun (b4 : List PyData) => compR b4 (fun (y5 : PyData) => (R.bind (R.bind (R.bind (R.ok y5) fun (x7 : PyData) => (lenA x7)) fun v => R.ok (PyData.int v)) fun (x8 : PyData) => R.bind (R.ok a_length) fun (x9 : PyData) => (R.ofOpt (cmpD .eq x8 x9)))) (fun (y5 : PyData) => (R.ok y5))) fun v => R.ok ((eL eAny) v)) fun d => R.ofOpt ((dL dTx) d)) fun (x10 : (List Tx)) => (R.bind (R.bind (R.ok a_length) fun d => R.ofOpt (dInt d)) fun (x11 : Int) => (T_begun_squares x10 x11))) fun (x12 : (List (List Tx))) => (sortR (ltLex ltTx) (fun t => !t.isEmpty) x12)) fun (x13 : (List (List Tx))) => (R.ok x13)) fun (v : (List (List Tx))) => R.ok v))
theorem sim_word_squares_2 (a_lexicon : PyData) (a_length : PyData) : SFn .o (f_word_squares [.sh (eAny a_lexicon), .sh (eAny a_length)]) (T_word_squares_2 a_lexicon a_length) (eT (eT eTx)) (fun _ => []) := by
  unfold T_word_squares_2
  have h : Fit [kSh (eAny a_lexicon), kSh (eAny a_length), kFr] [.sh (eAny a_lexicon), .sh (eAny a_length), .un] := ⟨rfl, ⟨rfl, ⟨.inl rfl, trivial⟩⟩⟩
  exact SFn_of (n := 3) (brf := [false, false]) (r := m_word_squares [.sh (eAny a_lexicon), .sh (eAny a_length), .un]) (SG_expr (SR_call (SR_aSh (SR_var (E := eAny) (a := a_lexicon) h rfl) (fun (x1 : PyData) g h => (SR_aSh (SR_var (E := eAny) (a := a_length) h rfl) (fun (x2 : PyData) g h => (SR_aNil (SR_endS (ks := [kSh (eAny a_lexicon), kSh (eAny a_length), kFr]) (ds := [eAny x1, eAny x2]) h rfl rfl (sim_demand_length x1 x2)))))))) (fun (x3 : Unit) g (h : Fit [kSh (eAny a_lexicon), kSh (eAny a_length), kFr] g) => (SG_ret (v := fun (v : (List (List Tx))) => v) (SR_u (SR_u (SR_call (SR_aSh (SR.dec (SR.conv (E' := eAny) (f := fun (v : (List PyData)) => ((eL eAny) v : PyData)) (SR_comp (X := fun (b : List PyData) => b) (κ₁ := fun _ => [kSh (eAny a_lexicon), kSh (eAny a_length), kFr]) (κr := fun _ => [kSh (eAny a_lexicon), kSh (eAny a_length), kFr]) (κt := fun _ (y5 : PyData) => [kSh (eAny a_lexicon), kSh (eAny a_length), kSh (eAny y5)]) (SI_any (SR_var (E := eAny) (a := a_lexicon) h rfl)) (fun _ => (fre_c rfl fr_f fre_n)) (fun _ (y5 : PyData) => (tg_nm rfl nb_f)) (fun _ (y5 : PyData) g h => (SR_cmp (SR.conv (E' := eAny) (f := fun (v : Int) => (PyData.int v : PyData)) (SR_u (SR_pv (E := eAny) (a := y5) h (pk_s rfl)) (fun (x7 : PyData) g h => (SR_ofB h (lb_lenA _)))) (fun _ => rfl) (fun _ _ h => h)) (fun (x8 : PyData) g h => (SR_pv (E := eAny) (a := a_length) h (pk_s rfl))) (fun (x8 : PyData) (x9 : PyData) g h => (SR_kCmp h (lc_any .eq _ _))))) (fun _ (y5 : PyData) g h => (SR_var (E := eAny) (a := y5) h rfl)) (fun _ _ => imp_top rfl) (fun _ _ _ h => h)) (fun _ => rfl) (fun _ _ h => h)) (dec_L dec_tx)) (fun (x10 : (List Tx)) g h => (SR_aSh (SR.dec (SR_var (E := eAny) (a := a_length) h rfl) dec_int) (fun (x11 : Int) g h => (SR_aNil (SR_endS (ks := [kSh (eAny a_lexicon), kSh (eAny a_length), kFr]) (ds := [(eL eTx) x10, PyData.int x11]) h rfl rfl (sim_begun_squares x10 x11)))))))) (fun (x12 : (List (List Tx))) g h => (SR_ofBf h (lb_srt sTTx _)))) (fun (x13 : (List (List Tx))) g h => (SR_ofB h (lb_tupL _)))) (fun (x14 : (List (List Tx))) g r h hr => qt_ret h (lent_f (lent_f lent_n)) hr)))) rfl (Nat.le_of_ble_eq_true rfl)

def T_can_go_on (a_rows : (List Tx)) (a_words : (List Tx)) : R (Bool) := (R.bind (R.bind (R.bind (R.bind (R.ok a_rows) fun (x1 : (List Tx)) => (T_columns_of x1)) fun (b2 : List Tx) => compR b2 (fun (y3 : Tx) => (R.ok true)) (fun (y3 : Tx) => (R.bind (R.bind (R.ok a_words) fun (b5 : List Tx) => compR b5 (fun (y6 : Tx) => (R.ok true)) (fun (y6 : Tx) => (R.bind (R.ok y6) fun (x8 : Tx) => R.bind (R.ok y3) fun (x9 : Tx) => (R.ok (eqT (List.take (List.length x9) x8) x9))))) fun (x10 : (List Bool)) => (R.ok (List.any x10 id))))) fun (x11 : (List Bool)) => (R.ok (List.all x11 id))) fun (v : Bool) => R.ok v)
theorem sim_can_go_on (a_rows : (List Tx)) (a_words : (List Tx)) : SFn .o (f_can_go_on [.sh ((eT eTx) a_rows), .sh ((eL eTx) a_words)]) (T_can_go_on a_rows a_words) PyData.bool (fun _ => []) := by
  unfold T_can_go_on
  have h : Fit [kSh ((eT eTx) a_rows), kSh ((eL eTx) a_words), kFr, kFr] [.sh ((eT eTx) a_rows), .sh ((eL eTx) a_words), .un, .un] := ⟨rfl, ⟨rfl, ⟨.inl rfl, ⟨.inl rfl, trivial⟩⟩⟩⟩
  exact SFn_of (n := 4) (brf := [false, false]) (r := m_can_go_on [.sh ((eT eTx) a_rows), .sh ((eL eTx) a_words), .un, .un]) (SG_ret (v := fun (v : Bool) => v) (SR_u (SR_comp (X := fun (b : List Tx) => b) (κ₁ := fun _ => [kSh ((eT eTx) a_rows), kSh ((eL eTx) a_words), kFr, kFr]) (κr := fun _ => [kSh ((eT eTx) a_rows), kSh ((eL eTx) a_words), kFr, kFr]) (κt := fun _ (y3 : Tx) => [kSh ((eT eTx) a_rows), kSh ((eL eTx) a_words), kSh (eTx y3), kFr]) (SI_seq (F := fun xs => xs.map eTx) (SR_call (SR_aSh (SR_var (E := (eT eTx)) (a := a_rows) h rfl) (fun (x1 : (List Tx)) g h => (SR_aNil (SR_endS (ks := [kSh ((eT eTx) a_rows), kSh ((eL eTx) a_words), kFr, kFr]) (ds := [(eT eTx) x1]) h rfl rfl (sim_columns_of x1)))))) (fun _ => rfl)) (fun _ => (fre_c rfl fr_f fre_n)) (fun _ (y3 : Tx) => (tg_nm rfl nb_f)) (fun _ (y3 : Tx) g h => (SR_cst (E := PyData.bool) (a := true) h rfl)) (fun _ (y3 : Tx) g h => (SR_u (SR_comp (X := fun (b : List Tx) => b) (κ₁ := fun _ => [kSh ((eT eTx) a_rows), kSh ((eL eTx) a_words), kSh (eTx y3), kFr]) (κr := fun _ => [kSh ((eT eTx) a_rows), kSh ((eL eTx) a_words), kSh (eTx y3), kFr]) (κt := fun _ (y6 : Tx) => [kSh ((eT eTx) a_rows), kSh ((eL eTx) a_words), kSh (eTx y3), kSh (eTx y6)]) (SI_seq (F := fun xs => xs.map eTx) (SR_var (E := (eL eTx)) (a := a_words) h rfl) (fun _ => rfl)) (fun _ => (fre_c rfl fr_f fre_n)) (fun _ (y6 : Tx) => (tg_nm rfl nb_f)) (fun _ (y6 : Tx) g h => (SR_cst (E := PyData.bool) (a := true) h rfl)) (fun _ (y6 : Tx) g h => (SR_m2 (z := toS) (SR_var (E := eTx) (a := y6) h rfl) (fun (x8 : Tx) g h => (SR_pv (E := eTx) (a := y3) h (pk_s rfl))) (fun (x8 : Tx) (x9 : Tx) g h => (SR_ofO h (lo_sw _ _))))) (fun _ _ => imp_top rfl) (fun _ _ _ h => h)) (fun (x10 : (List Bool)) g h => (SR_ofB h (lb_anyB _))))) (fun _ _ => imp_top rfl) (fun _ _ _ h => h)) (fun (x11 : (List Bool)) g h => (SR_ofB h (lb_all _)))) (fun (x12 : Bool) g r h hr => qt_ret h (lent_f (lent_f lent_n)) hr)) rfl (Nat.le_of_ble_eq_true rfl)

def T_is_double (a_lexicon : (List Tx)) (a_rows : (List Tx)) : R (Bool) := (R.bind (R.bind (R.ok a_rows) fun (x1 : (List Tx)) => R.bind (R.bind (R.ok a_rows) fun (x2 : (List Tx)) => (T_columns_of x2)) fun (x3 : (List Tx)) => (szR (x1 ++ x3))) fun (x4 : (List Tx)) => (R.bind (R.bind (R.bind (R.bind (R.ok x4) fun (b5 : List Tx) => compR b5 (fun (y6 : Tx) => (R.ok true)) (fun (y6 : Tx) => (R.bind (R.ok a_lexicon) fun (x8 : (List Tx)) => (R.ok (memT y6 x8))))) fun (x9 : (List Bool)) => (R.ok (List.all x9 id))) fun x => cond x (R.bind (R.bind (R.ok x4) fun (x10 : (List Tx)) => (setLenR x10)) fun (x11 : Int) => R.bind (R.bind (R.ok x4) fun (x12 : (List Tx)) => (R.ok (Int.ofNat (List.length x12)))) fun (x13 : Int) => (R.ok (eqT x11 x13))) (R.ok false)) fun (v : Bool) => R.ok v))
theorem sim_is_double (a_lexicon : (List Tx)) (a_rows : (List Tx)) : SFn .o (f_is_double [.sh ((eT eTx) a_lexicon), .sh ((eT eTx) a_rows)]) (T_is_double a_lexicon a_rows) PyData.bool (fun _ => []) := by
  unfold T_is_double
  have h : Fit [kSh ((eT eTx) a_lexicon), kSh ((eT eTx) a_rows), kFr, kFr] [.sh ((eT eTx) a_lexicon), .sh ((eT eTx) a_rows), .un, .un] := ⟨rfl, ⟨rfl, ⟨.inl rfl, ⟨.inl rfl, trivial⟩⟩⟩⟩
  exact SFn_of (n := 4) (brf := [false, false]) (r := m_is_double [.sh ((eT eTx) a_lexicon), .sh ((eT eTx) a_rows), .un, .un]) (SG_asg (SR_bin (SR_var (E := (eT eTx)) (a := a_rows) h rfl) (fun (x1 : (List Tx)) g h => (SR_call (SR_aSh (SR_var (E := (eT eTx)) (a := a_rows) h rfl) (fun (x2 : (List Tx)) g h => (SR_aNil (SR_endS (ks := [kSh ((eT eTx) a_lexicon), kSh ((eT eTx) a_rows), kFr, kFr]) (ds := [(eT eTx) x2]) h rfl rfl (sim_columns_of x2))))))) (fun (x1 : (List Tx)) (x3 : (List Tx)) g h => (SR_ofB h (lb_addT _ _)))) (fun _ => ⟨_, rfl, nb_f⟩) (fun (x4 : (List Tx)) g (h : Fit [kSh ((eT eTx) a_lexicon), kSh ((eT eTx) a_rows), kSh ((eT eTx) x4), kFr] g) => (SG_frz h (frz_c (fz_k rfl no_s) frz_n) (fun g (h : Fit [kSh ((eT eTx) a_lexicon), kSh ((eT eTx) a_rows), kSh ((eT eTx) x4), kFr] g) => (SG_ret (v := fun (v : Bool) => v) (SR_and (SR_u (SR_comp (X := fun (b : List Tx) => b) (κ₁ := fun _ => [kSh ((eT eTx) a_lexicon), kSh ((eT eTx) a_rows), kSh ((eT eTx) x4), kFr]) (κr := fun _ => [kSh ((eT eTx) a_lexicon), kSh ((eT eTx) a_rows), kSh ((eT eTx) x4), kFr]) (κt := fun _ (y6 : Tx) => [kSh ((eT eTx) a_lexicon), kSh ((eT eTx) a_rows), kSh ((eT eTx) x4), kSh (eTx y6)]) (SI_seq (F := fun xs => xs.map eTx) (SR_var (E := (eT eTx)) (a := x4) h rfl) (fun _ => rfl)) (fun _ => (fre_c rfl fr_f fre_n)) (fun _ (y6 : Tx) => (tg_nm rfl nb_f)) (fun _ (y6 : Tx) g h => (SR_cst (E := PyData.bool) (a := true) h rfl)) (fun _ (y6 : Tx) g h => (SR_bindV h (pk_s rfl) (SR_pv (E := (eT eTx)) (a := a_lexicon) h (pk_s rfl)) (fun _ => pk_s rfl) (fun (x8 : (List Tx)) g h => (SR_kCmp h (lc_inT qTx (by decide) y6 _))))) (fun _ _ => imp_top rfl) (fun _ _ _ h => h)) (fun (x9 : (List Bool)) g h => (SR_ofB h (lb_all _)))) fun g h => (SR_cmp (SR_u (SR_pv (E := (eT eTx)) (a := x4) h (pk_s rfl)) (fun (x10 : (List Tx)) g h => (SR_ofB h (lb_setLenT qTx fTx _)))) (fun (x11 : Int) g h => (SR_u (SR_pv (E := (eT eTx)) (a := x4) h (pk_s rfl)) (fun (x12 : (List Tx)) g h => (SR_ofB h (lb_lenT _))))) (fun (x11 : Int) (x13 : Int) g h => (SR_kCmp h (lc_eq qInt (by decide) _ _))))) (fun (x14 : Bool) g r h hr => qt_ret h (lent_f (lent_f lent_n)) hr)))))) rfl (Nat.le_of_ble_eq_true rfl)

def T_is_double_2 (a_lexicon : (List Tx)) (a_rows : (List Tx)) : R (Bool) := (R.bind (R.bind (R.ok a_rows) fun (x1 : (List Tx)) => R.bind (R.bind (R.ok a_rows) fun (x2 : (List Tx)) => (T_columns_of x2)) fun (x3 : (List Tx)) => (szR (x1 ++ x3))) fun (x4 : (List Tx)) => (R.bind (R.bind (R.bind (R.bind (R.ok x4) fun (b5 : List Tx) => compR b5 (fun (y6 : Tx) => (R.ok true)) (fun (y6 : Tx) => (R.bind (R.ok a_lexicon) fun (x8 : (List Tx)) => (R.ok (memT y6 x8))))) fun (x9 : (List Bool)) => (R.ok (List.all x9 id))) fun x => cond x (R.bind (R.bind (R.ok x4) fun (x10 : (List Tx)) => (setLenR x10)) fun (x11 : Int) => R.bind (R.bind (R.ok x4) fun (x12 : (List Tx)) => (R.ok (Int.ofNat (List.length x12)))) fun (x13 : Int) => (R.ok (eqT x11 x13))) (R.ok false)) fun (v : Bool) => R.ok v))
theorem sim_is_double_2 (a_lexicon : (List Tx)) (a_rows : (List Tx)) : SFn .o (f_is_double [.sh ((eL eTx) a_lexicon), .sh ((eT eTx) a_rows)]) (T_is_double_2 a_lexicon a_rows) PyData.bool (fun _ => []) := by
  unfold T_is_double_2
  have h : Fit [kSh ((eL eTx) a_lexicon), kSh ((eT eTx) a_rows), kFr, kFr] [.sh ((eL eTx) a_lexicon), .sh ((eT eTx) a_rows), .un, .un] := ⟨rfl, ⟨rfl, ⟨.inl rfl, ⟨.inl rfl, trivial⟩⟩⟩⟩
  exact SFn_of (n := 4) (brf := [false, false]) (r := m_is_double [.sh ((eL eTx) a_lexicon), .sh ((eT eTx) a_rows), .un, .un]) (SG_asg (SR_bin (SR_var (E := (eT eTx)) (a := a_rows) h rfl) (fun (x1 : (List Tx)) g h => (SR_call (SR_aSh (SR_var (E := (eT eTx)) (a := a_rows) h rfl) (fun (x2 : (List Tx)) g h => (SR_aNil (SR_endS (ks := [kSh ((eL eTx) a_lexicon), kSh ((eT eTx) a_rows), kFr, kFr]) (ds := [(eT eTx) x2]) h rfl rfl (sim_columns_of x2))))))) (fun (x1 : (List Tx)) (x3 : (List Tx)) g h => (SR_ofB h (lb_addT _ _)))) (fun _ => ⟨_, rfl, nb_f⟩) (fun (x4 : (List Tx)) g (h : Fit [kSh ((eL eTx) a_lexicon), kSh ((eT eTx) a_rows), kSh ((eT eTx) x4), kFr] g) => (SG_frz h (frz_c (fz_k rfl no_s) frz_n) (fun g (h : Fit [kSh ((eL eTx) a_lexicon), kSh ((eT eTx) a_rows), kSh ((eT eTx) x4), kFr] g) => (SG_ret (v := fun (v : Bool) => v) (SR_and (SR_u (SR_comp (X := fun (b : List Tx) => b) (κ₁ := fun _ => [kSh ((eL eTx) a_lexicon), kSh ((eT eTx) a_rows), kSh ((eT eTx) x4), kFr]) (κr := fun _ => [kSh ((eL eTx) a_lexicon), kSh ((eT eTx) a_rows), kSh ((eT eTx) x4), kFr]) (κt := fun _ (y6 : Tx) => [kSh ((eL eTx) a_lexicon), kSh ((eT eTx) a_rows), kSh ((eT eTx) x4), kSh (eTx y6)]) (SI_seq (F := fun xs => xs.map eTx) (SR_var (E := (eT eTx)) (a := x4) h rfl) (fun _ => rfl)) (fun _ => (fre_c rfl fr_f fre_n)) (fun _ (y6 : Tx) => (tg_nm rfl nb_f)) (fun _ (y6 : Tx) g h => (SR_cst (E := PyData.bool) (a := true) h rfl)) (fun _ (y6 : Tx) g h => (SR_bindV h (pk_s rfl) (SR_pv (E := (eL eTx)) (a := a_lexicon) h (pk_s rfl)) (fun _ => pk_s rfl) (fun (x8 : (List Tx)) g h => (SR_kCmp h (lc_inL qTx (by decide) y6 _))))) (fun _ _ => imp_top rfl) (fun _ _ _ h => h)) (fun (x9 : (List Bool)) g h => (SR_ofB h (lb_all _)))) fun g h => (SR_cmp (SR_u (SR_pv (E := (eT eTx)) (a := x4) h (pk_s rfl)) (fun (x10 : (List Tx)) g h => (SR_ofB h (lb_setLenT qTx fTx _)))) (fun (x11 : Int) g h => (SR_u (SR_pv (E := (eT eTx)) (a := x4) h (pk_s rfl)) (fun (x12 : (List Tx)) g h => (SR_ofB h (lb_lenT _))))) (fun (x11 : Int) (x13 : Int) g h => (SR_kCmp h (lc_eq qInt (by decide) _ _))))) (fun (x14 : Bool) g r h hr => qt_ret h (lent_f (lent_f lent_n)) hr)))))) rfl (Nat.le_of_ble_eq_true rfl)

def T_all_doubles (a_words : (List Tx)) (a_length : Int) : R ((List (List Tx))) := (R.bind (R.bind (R.ok ([] : (List Tx))) fun (x1 : (List Tx)) => (R.ok ([x1] : (List (List Tx))))) fun (x2 : (List (List Tx))) => (R.bind (R.bind (R.bind (R.ok a_length) fun b => rngR 0 b) fun (b3 : (List Int)) => forR b3 (x2) (fun (y5 : Int) (s4 : ((List (List Tx)))) => (R.bind (R.ok ([] : (List (List Tx)))) fun (x67 : (List (List Tx))) => (R.bind (R.bind (R.ok s4) fun (b68 : (List (List Tx))) => forR b68 (x67) (fun (y70 : (List Tx)) (s69 : ((List (List Tx)))) => (R.bind (R.bind (R.ok a_words) fun (b84 : List Tx) => compR b84 (fun (y85 : Tx) => (R.bind (R.bind (R.ok y70) fun (x87 : (List Tx)) => (R.ok (!memT y85 x87))) fun x => cond x (R.bind (R.bind (R.ok y70) fun (x88 : (List Tx)) => (R.bind (R.ok y85) fun (x89 : Tx) => (szR (x88 ++ [x89])))) fun (x90 : (List Tx)) => (R.bind (R.ok a_words) fun (x91 : (List Tx)) => (T_can_go_on x90 x91))) (R.ok false))) (fun (y85 : Tx) => (R.bind (R.ok y70) fun (x92 : (List Tx)) => (R.bind (R.ok y85) fun (x93 : Tx) => (szR (x92 ++ [x93])))))) fun (x94 : (List (List Tx))) => R.bind (szR (s69 ++ x94)) fun (l95 : (List (List Tx))) => (R.ok (l95))))) fun (s83 : ((List (List Tx)))) => (R.bind (R.ok s83) fun (x96 : (List (List Tx))) => (R.ok (x96))))))) fun (s66 : ((List (List Tx)))) => (R.bind (R.bind (R.ok s66) fun (b97 : List (List Tx)) => compR b97 (fun (y98 : (List Tx)) => (R.bind (R.ok a_words) fun (x100 : (List Tx)) => (R.bind (R.ok y98) fun (x101 : (List Tx)) => (T_is_double_2 x100 x101)))) (fun (y98 : (List Tx)) => (R.ok y98))) fun (v : (List (List Tx))) => R.ok v)))
theorem sim_all_doubles (a_words : (List Tx)) (a_length : Int) : SFn .f (f_all_doubles [.sh ((eL eTx) a_words), .sh (PyData.int a_length)]) (T_all_doubles a_words a_length) (eL (eT eTx)) (fun _ => []) := by
  unfold T_all_doubles
  have h : Fit [kSh ((eL eTx) a_words), kSh (PyData.int a_length), kFr, kFr, kFr, kFr, kFr] [.sh ((eL eTx) a_words), .sh (PyData.int a_length), .un, .un, .un, .un, .un] := ⟨rfl, ⟨rfl, ⟨.inl rfl, ⟨.inl rfl, ⟨.inl rfl, ⟨.inl rfl, ⟨.inl rfl, trivial⟩⟩⟩⟩⟩⟩⟩
  exact SFn_of (n := 7) (brf := [false, false]) (r := m_all_doubles [.sh ((eL eTx) a_words), .sh (PyData.int a_length), .un, .un, .un, .un, .un]) (SG_asgf (X := fun (x2 : (List (List Tx))) => (x2).map (eT eTx)) (SR_lst (SR_cons (SR_tup (SR_nil (SR_endT (E := (eT eTx)) (κ := fun (_ : (List Tx)) => [kSh ((eL eTx) a_words), kSh (PyData.int a_length), kFr, kFr, kFr, kFr, kFr]) (a := ([] : (List Tx))) h rfl (Nat.le_of_ble_eq_true rfl)))) (fun (x1 : (List Tx)) g h => (SR_nil (SR_endL (E := (eL (eT eTx))) (κ := fun (_ : (List (List Tx))) => [kSh ((eL eTx) a_words), kSh (PyData.int a_length), kFr, kFr, kFr, kFr, kFr]) (a := ([x1] : (List (List Tx)))) h rfl (Nat.le_of_ble_eq_true rfl)))))) (fun _ => ⟨_, rfl, nb_f⟩) (fun (x2 : (List (List Tx))) g (h : Fit [kSh ((eL eTx) a_words), kSh (PyData.int a_length), kOw ((x2).map (eT eTx)), kFr, kFr, kFr, kFr] g) => (SG_seq (P := fun (s : ((List (List Tx)))) => [kSh ((eL eTx) a_words), kSh (PyData.int a_length), kAn ((eL (eT eTx)) s), kFr, kFr, kFr, kFr]) (SG_for (X := fun (b3 : (List Int)) => b3) (s0 := fun (b3 : (List Int)) => (x2)) (P := fun (s : ((List (List Tx)))) => [kSh ((eL eTx) a_words), kSh (PyData.int a_length), kAn ((eL (eT eTx)) s), kFr, kFr, kFr, kFr]) (P1 := fun (y5 : Int) (s4 : ((List (List Tx)))) => [kSh ((eL eTx) a_words), kSh (PyData.int a_length), kAn ((eL (eT eTx)) s4), kSh (PyData.int y5), kFr, kFr, kFr]) (SI_rng (SR_var (E := PyData.int) (a := a_length) h rfl)) (fun (b3 : (List Int)) g h => h.imp (imp_c i_id (imp_c i_id (imp_c i_oa (imp_c i_id (imp_c i_id (imp_c i_id (imp_c i_id imp_n)))))))) (fun (y5 : Int) (s4 : ((List (List Tx)))) => (tg_nm rfl nb_f)) (fun (y5 : Int) (s4 : ((List (List Tx)))) g (h : Fit [kSh ((eL eTx) a_words), kSh (PyData.int a_length), kAn ((eL (eT eTx)) s4), kSh (PyData.int y5), kFr, kFr, kFr] g) => (SG_asgf (X := fun (x67 : (List (List Tx))) => (x67).map (eT eTx)) (SR_lst (SR_nil (SR_endL (E := (eL (eT eTx))) (κ := fun (_ : (List (List Tx))) => [kSh ((eL eTx) a_words), kSh (PyData.int a_length), kAn ((eL (eT eTx)) s4), kSh (PyData.int y5), kFr, kFr, kFr]) (a := ([] : (List (List Tx)))) h rfl (Nat.le_of_ble_eq_true rfl)))) (fun _ => ⟨_, rfl, nb_f⟩) (fun (x67 : (List (List Tx))) g (h : Fit [kSh ((eL eTx) a_words), kSh (PyData.int a_length), kAn ((eL (eT eTx)) s4), kSh (PyData.int y5), kOw ((x67).map (eT eTx)), kFr, kFr] g) => (SG_frzs h (frz_c (fz_a rfl) frz_n) (fun g (h : Fit [kSh ((eL eTx) a_words), kSh (PyData.int a_length), kSh ((eL (eT eTx)) s4), kSh (PyData.int y5), kOw ((x67).map (eT eTx)), kFr, kFr] g) => (SG_seq (P := fun (s : ((List (List Tx)))) => [kSh ((eL eTx) a_words), kSh (PyData.int a_length), kSh ((eL (eT eTx)) s4), kSh (PyData.int y5), kOw ((s).map (eT eTx)), kFr, kFr]) (SG_for (X := fun (b68 : (List (List Tx))) => b68) (s0 := fun (b68 : (List (List Tx))) => (x67)) (P := fun (s : ((List (List Tx)))) => [kSh ((eL eTx) a_words), kSh (PyData.int a_length), kSh ((eL (eT eTx)) s4), kSh (PyData.int y5), kOw ((s).map (eT eTx)), kFr, kFr]) (P1 := fun (y70 : (List Tx)) (s69 : ((List (List Tx)))) => [kSh ((eL eTx) a_words), kSh (PyData.int a_length), kSh ((eL (eT eTx)) s4), kSh (PyData.int y5), kOw ((s69).map (eT eTx)), kSh ((eT eTx) y70), kFr]) (SI_seq (F := fun xs => xs.map (eT eTx)) (SR_var (E := (eL (eT eTx))) (a := s4) h rfl) (fun _ => rfl)) (fun (b68 : (List (List Tx))) g h => h.imp (imp_c i_id (imp_c i_id (imp_c i_id (imp_c i_id (imp_c i_id (imp_c i_id (imp_c i_id imp_n)))))))) (fun (y70 : (List Tx)) (s69 : ((List (List Tx)))) => (tg_nm rfl nb_f)) (fun (y70 : (List Tx)) (s69 : ((List (List Tx)))) g (h : Fit [kSh ((eL eTx) a_words), kSh (PyData.int a_length), kSh ((eL (eT eTx)) s4), kSh (PyData.int y5), kOw ((s69).map (eT eTx)), kSh ((eT eTx) y70), kFr] g) => (SG_last (SG_ext (F := (eT eTx)) (xs := s69) (vf := fun (x94 : (List (List Tx))) => x94) (κ₂ := fun (x94 : (List (List Tx))) (l95 : (List (List Tx))) => [kSh ((eL eTx) a_words), kSh (PyData.int a_length), kSh ((eL (eT eTx)) s4), kSh (PyData.int y5), kOw ((l95).map (eT eTx)), kSh ((eT eTx) y70), kFr]) h (ln_o rfl) (SR_comp (X := fun (b : List Tx) => b) (κ₁ := fun _ => [kSh ((eL eTx) a_words), kSh (PyData.int a_length), kSh ((eL (eT eTx)) s4), kSh (PyData.int y5), kOw ((s69).map (eT eTx)), kSh ((eT eTx) y70), kFr]) (κr := fun _ => [kSh ((eL eTx) a_words), kSh (PyData.int a_length), kSh ((eL (eT eTx)) s4), kSh (PyData.int y5), kOw ((s69).map (eT eTx)), kSh ((eT eTx) y70), kFr]) (κt := fun _ (y85 : Tx) => [kSh ((eL eTx) a_words), kSh (PyData.int a_length), kSh ((eL (eT eTx)) s4), kSh (PyData.int y5), kOw ((s69).map (eT eTx)), kSh ((eT eTx) y70), kSh (eTx y85)]) (SI_seq (F := fun xs => xs.map eTx) (SR_var (E := (eL eTx)) (a := a_words) h rfl) (fun _ => rfl)) (fun _ => (fre_c rfl fr_f fre_n)) (fun _ (y85 : Tx) => (tg_nm rfl nb_f)) (fun _ (y85 : Tx) g h => (SR_and (SR_bindV h (pk_s rfl) (SR_pv (E := (eT eTx)) (a := y70) h (pk_s rfl)) (fun _ => pk_s rfl) (fun (x87 : (List Tx)) g h => (SR_kCmp h (lc_ninT qTx (by decide) y85 _)))) fun g h => (SR_call (SR_aSh (SR_tup (SR_star (SR_var (E := (eT eTx)) (a := y70) h rfl) (fun _ => rfl) (fun (x88 : (List Tx)) g h => (SR_cons (SR_var (E := eTx) (a := y85) h rfl) (fun (x89 : Tx) g h => (SR_nil (SR_endTs (xs := x88 ++ [x89]) (F := eTx) h (by simp)))))))) (fun (x90 : (List Tx)) g h => (SR_aSh (SR_var (E := (eL eTx)) (a := a_words) h rfl) (fun (x91 : (List Tx)) g h => (SR_aNil (SR_endS (ks := [kSh ((eL eTx) a_words), kSh (PyData.int a_length), kSh ((eL (eT eTx)) s4), kSh (PyData.int y5), kOw ((s69).map (eT eTx)), kSh ((eT eTx) y70), kSh (eTx y85)]) (ds := [(eT eTx) x90, (eL eTx) x91]) h rfl rfl (sim_can_go_on x90 x91)))))))))) (fun _ (y85 : Tx) g h => (SR_tup (SR_star (SR_var (E := (eT eTx)) (a := y70) h rfl) (fun _ => rfl) (fun (x92 : (List Tx)) g h => (SR_cons (SR_var (E := eTx) (a := y85) h rfl) (fun (x93 : Tx) g h => (SR_nil (SR_endTs (xs := x92 ++ [x93]) (F := eTx) h (by simp))))))))) (fun _ _ => imp_top rfl) (fun _ _ _ h => h)) (fun _ => ln_o rfl) (fun _ _ => tk_o rfl) (fun (x94 : (List (List Tx))) (l95 : (List (List Tx))) g (h : Fit [kSh ((eL eTx) a_words), kSh (PyData.int a_length), kSh ((eL (eT eTx)) s4), kSh (PyData.int y5), kOw ((l95).map (eT eTx)), kSh ((eT eTx) y70), kFr] g) => (SG_end (h.imp (imp_c i_id (imp_c i_id (imp_c i_id (imp_c i_id (imp_c i_id (imp_c i_sf (imp_c i_id imp_n)))))))))))))) (fun (s83 : ((List (List Tx)))) g (h : Fit [kSh ((eL eTx) a_words), kSh (PyData.int a_length), kSh ((eL (eT eTx)) s4), kSh (PyData.int y5), kOw ((s83).map (eT eTx)), kFr, kFr] g) => (SG_last (SG_frzs h (frz_c (fz_o rfl) frz_n) (fun g (h : Fit [kSh ((eL eTx) a_words), kSh (PyData.int a_length), kSh ((eL (eT eTx)) s4), kSh (PyData.int y5), kSh ((eL (eT eTx)) s83), kFr, kFr] g) => (SG_asg (SR_var (E := (eL (eT eTx))) (a := s83) h rfl) (fun _ => ⟨_, rfl, nb_s⟩) (fun (x96 : (List (List Tx))) g (h : Fit [kSh ((eL eTx) a_words), kSh (PyData.int a_length), kSh ((eL (eT eTx)) x96), kSh (PyData.int y5), kSh ((eL (eT eTx)) s83), kFr, kFr] g) => (SG_end (h.imp (imp_c i_id (imp_c i_id (imp_c i_sa (imp_c i_sf (imp_c i_sf (imp_c i_id (imp_c i_id imp_n)))))))))))))))))))))) (fun (s66 : ((List (List Tx)))) g (h : Fit [kSh ((eL eTx) a_words), kSh (PyData.int a_length), kAn ((eL (eT eTx)) s66), kFr, kFr, kFr, kFr] g) => (SG_frz h (frz_c (fz_a rfl) frz_n) (fun g (h : Fit [kSh ((eL eTx) a_words), kSh (PyData.int a_length), kSh ((eL (eT eTx)) s66), kFr, kFr, kFr, kFr] g) => (SG_ret (v := fun (v : (List (List Tx))) => v) (SR_comp (X := fun (b : List (List Tx)) => b) (κ₁ := fun _ => [kSh ((eL eTx) a_words), kSh (PyData.int a_length), kSh ((eL (eT eTx)) s66), kFr, kFr, kFr, kFr]) (κr := fun _ => [kSh ((eL eTx) a_words), kSh (PyData.int a_length), kSh ((eL (eT eTx)) s66), kFr, kFr, kFr, kFr]) (κt := fun _ (y98 : (List Tx)) => [kSh ((eL eTx) a_words), kSh (PyData.int a_length), kSh ((eL (eT eTx)) s66), kFr, kFr, kSh ((eT eTx) y98), kFr]) (SI_seq (F := fun xs => xs.map (eT eTx)) (SR_var (E := (eL (eT eTx))) (a := s66) h rfl) (fun _ => rfl)) (fun _ => (fre_c rfl fr_f fre_n)) (fun _ (y98 : (List Tx)) => (tg_nm rfl nb_f)) (fun _ (y98 : (List Tx)) g h => (SR_call (SR_aSh (SR_var (E := (eL eTx)) (a := a_words) h rfl) (fun (x100 : (List Tx)) g h => (SR_aSh (SR_var (E := (eT eTx)) (a := y98) h rfl) (fun (x101 : (List Tx)) g h => (SR_aNil (SR_endS (ks := [kSh ((eL eTx) a_words), kSh (PyData.int a_length), kSh ((eL (eT eTx)) s66), kFr, kFr, kSh ((eT eTx) y98), kFr]) (ds := [(eL eTx) x100, (eT eTx) x101]) h rfl rfl (sim_is_double_2 x100 x101))))))))) (fun _ (y98 : (List Tx)) g h => (SR_var (E := (eT eTx)) (a := y98) h rfl)) (fun _ _ => imp_top rfl) (fun _ _ _ h => h)) (fun (x102 : (List (List Tx))) g r h hr => qt_ret h (lent_f (lent_f lent_n)) hr)))))))) rfl (Nat.le_of_ble_eq_true rfl)

def T_double_squares (a_lexicon : (List Tx)) (a_length : Int) : R ((List (List Tx))) := (R.bind (R.bind (R.bind (R.ok a_lexicon) fun v => R.ok ((eT eTx) v)) fun (x1 : PyData) => (R.bind (R.bind (R.ok a_length) fun v => R.ok (PyData.int v)) fun (x2 : PyData) => (T_demand_length x1 x2))) fun (x3 : Unit) => (R.bind (R.bind (R.bind (R.ok a_lexicon) fun (b4 : List Tx) => compR b4 (fun (y5 : Tx) => (R.bind (R.bind (R.ok y5) fun (x7 : Tx) => (lenTx x7)) fun (x8 : Int) => R.bind (R.ok a_length) fun (x9 : Int) => (R.ok (eqT x8 x9)))) (fun (y5 : Tx) => (R.ok y5))) fun (x10 : (List Tx)) => (R.bind (R.ok a_length) fun (x11 : Int) => (T_all_doubles x10 x11))) fun (x12 : (List (List Tx))) => (R.bind (R.bind (R.bind (R.bind (R.ok x12) fun (b13 : List (List Tx)) => compR b13 (fun (y14 : (List Tx)) => (R.bind (R.bind (R.ok y14) fun (x16 : (List Tx)) => (T_columns_of x16)) fun (x17 : (List Tx)) => (R.ok (ltLex ltTx y14 x17)))) (fun (y14 : (List Tx)) => (R.ok y14))) fun (x18 : (List (List Tx))) => (sortR (ltLex ltTx) (fun t => !t.isEmpty) x18)) fun (x19 : (List (List Tx))) => (R.ok x19)) fun (v : (List (List Tx))) => R.ok v)))
theorem sim_double_squares (a_lexicon : (List Tx)) (a_length : Int) : SFn .o (f_double_squares [.sh ((eT eTx) a_lexicon), .sh (PyData.int a_length)]) (T_double_squares a_lexicon a_length) (eT (eT eTx)) (fun _ => []) := by
  unfold T_double_squares
  have h : Fit [kSh ((eT eTx) a_lexicon), kSh (PyData.int a_length), kFr, kFr, kFr] [.sh ((eT eTx) a_lexicon), .sh (PyData.int a_length), .un, .un, .un] := ⟨rfl, ⟨rfl, ⟨.inl rfl, ⟨.inl rfl, ⟨.inl rfl, trivial⟩⟩⟩⟩⟩
  exact SFn_of (n := 5) (brf := [false, false]) (r := m_double_squares [.sh ((eT eTx) a_lexicon), .sh (PyData.int a_length), .un, .un, .un]) (SG_expr (SR_call (SR_aSh (SR.conv (E' := eAny) (f := fun (v : (List Tx)) => ((eT eTx) v : PyData)) (SR_var (E := (eT eTx)) (a := a_lexicon) h rfl) (fun _ => rfl) (fun _ _ h => h)) (fun (x1 : PyData) g h => (SR_aSh (SR.conv (E' := eAny) (f := fun (v : Int) => (PyData.int v : PyData)) (SR_var (E := PyData.int) (a := a_length) h rfl) (fun _ => rfl) (fun _ _ h => h)) (fun (x2 : PyData) g h => (SR_aNil (SR_endS (ks := [kSh ((eT eTx) a_lexicon), kSh (PyData.int a_length), kFr, kFr, kFr]) (ds := [eAny x1, eAny x2]) h rfl rfl (sim_demand_length x1 x2)))))))) (fun (x3 : Unit) g (h : Fit [kSh ((eT eTx) a_lexicon), kSh (PyData.int a_length), kFr, kFr, kFr] g) => (SG_asgf (X := fun (x12 : (List (List Tx))) => (x12).map (eT eTx)) (SR_call (SR_aSh (SR_comp (X := fun (b : List Tx) => b) (κ₁ := fun _ => [kSh ((eT eTx) a_lexicon), kSh (PyData.int a_length), kFr, kFr, kFr]) (κr := fun _ => [kSh ((eT eTx) a_lexicon), kSh (PyData.int a_length), kFr, kFr, kFr]) (κt := fun _ (y5 : Tx) => [kSh ((eT eTx) a_lexicon), kSh (PyData.int a_length), kFr, kSh (eTx y5), kFr]) (SI_seq (F := fun xs => xs.map eTx) (SR_var (E := (eT eTx)) (a := a_lexicon) h rfl) (fun _ => rfl)) (fun _ => (fre_c rfl fr_f fre_n)) (fun _ (y5 : Tx) => (tg_nm rfl nb_f)) (fun _ (y5 : Tx) g h => (SR_cmp (SR_u (SR_pv (E := eTx) (a := y5) h (pk_s rfl)) (fun (x7 : Tx) g h => (SR_ofB h (lb_lenTx _)))) (fun (x8 : Int) g h => (SR_pv (E := PyData.int) (a := a_length) h (pk_s rfl))) (fun (x8 : Int) (x9 : Int) g h => (SR_kCmp h (lc_eq qInt (by decide) _ _))))) (fun _ (y5 : Tx) g h => (SR_var (E := eTx) (a := y5) h rfl)) (fun _ _ => imp_top rfl) (fun _ _ _ h => h)) (fun (x10 : (List Tx)) g h => (SR_aSh (SR_var (E := PyData.int) (a := a_length) h rfl) (fun (x11 : Int) g h => (SR_aNil (SR_endS (ks := [kSh ((eT eTx) a_lexicon), kSh (PyData.int a_length), kFr, kFr, kFr]) (ds := [(eL eTx) x10, PyData.int x11]) h rfl rfl (sim_all_doubles x10 x11)))))))) (fun _ => ⟨_, rfl, nb_f⟩) (fun (x12 : (List (List Tx))) g (h : Fit [kSh ((eT eTx) a_lexicon), kSh (PyData.int a_length), kOw ((x12).map (eT eTx)), kFr, kFr] g) => (SG_frz h (frz_c (fz_o rfl) frz_n) (fun g (h : Fit [kSh ((eT eTx) a_lexicon), kSh (PyData.int a_length), kSh ((eL (eT eTx)) x12), kFr, kFr] g) => (SG_ret (v := fun (v : (List (List Tx))) => v) (SR_u (SR_u (SR_comp (X := fun (b : List (List Tx)) => b) (κ₁ := fun _ => [kSh ((eT eTx) a_lexicon), kSh (PyData.int a_length), kSh ((eL (eT eTx)) x12), kFr, kFr]) (κr := fun _ => [kSh ((eT eTx) a_lexicon), kSh (PyData.int a_length), kSh ((eL (eT eTx)) x12), kFr, kFr]) (κt := fun _ (y14 : (List Tx)) => [kSh ((eT eTx) a_lexicon), kSh (PyData.int a_length), kSh ((eL (eT eTx)) x12), kFr, kSh ((eT eTx) y14)]) (SI_seq (F := fun xs => xs.map (eT eTx)) (SR_var (E := (eL (eT eTx))) (a := x12) h rfl) (fun _ => rfl)) (fun _ => (fre_c rfl fr_f fre_n)) (fun _ (y14 : (List Tx)) => (tg_nm rfl nb_f)) (fun _ (y14 : (List Tx)) g h => (SR_bindV h (pk_s rfl) (SR_call (SR_aSh (SR_var (E := (eT eTx)) (a := y14) h rfl) (fun (x16 : (List Tx)) g h => (SR_aNil (SR_endS (ks := [kSh ((eT eTx) a_lexicon), kSh (PyData.int a_length), kSh ((eL (eT eTx)) x12), kFr, kSh ((eT eTx) y14)]) (ds := [(eT eTx) x16]) h rfl rfl (sim_columns_of x16)))))) (fun _ => pk_s rfl) (fun (x17 : (List Tx)) g h => (SR_kCmp h (lc_ltTTx y14 _))))) (fun _ (y14 : (List Tx)) g h => (SR_var (E := (eT eTx)) (a := y14) h rfl)) (fun _ _ => imp_top rfl) (fun _ _ _ h => h)) (fun (x18 : (List (List Tx))) g h => (SR_ofBf h (lb_srt sTTx _)))) (fun (x19 : (List (List Tx))) g h => (SR_ofB h (lb_tupL _)))) (fun (x20 : (List (List Tx))) g r h hr => qt_ret h (lent_f (lent_f lent_n)) hr)))))))) rfl (Nat.le_of_ble_eq_true rfl)

def T_double_squares_2 (a_lexicon : PyData) (a_length : PyData) : R ((List (List Tx))) := (R.bind (R.bind (R.ok a_lexicon) fun (x1 : PyData) => (R.bind (R.ok a_length) fun (x2 : PyData) => (T_demand_length x1 x2))) fun (x3 : Unit) => (R.bind (R.bind (R.bind (R.bind (R.bind (R.bind (R.ok a_lexicon) itA) fun (b4 : List PyData) => compR b4 (fun (y5 : PyData) => (R.bind (R.bind (R.bind (R.ok y5) fun (x7 : PyData) => (lenA x7)) fun v => R.ok (PyData.int v)) fun (x8 : PyData) => R.bind (R.ok a_length) fun (x9 : PyData) => (R.ofOpt (cmpD .eq x8 x9)))) (fun (y5 : PyData) => (R.ok y5))) fun v => R.ok ((eL eAny) v)) fun d => R.ofOpt ((dL dTx) d)) fun (x10 : (List Tx)) => (R.bind (R.bind (R.ok a_length) fun d => R.ofOpt (dInt d)) fun (x11 : Int) => (T_all_doubles x10 x11))) fun (x12 : (List (List Tx))) => (R.bind (R.bind (R.bind (R.bind (R.ok x12) fun (b13 : List (List Tx)) => compR b13 (fun (y14 : (List Tx)) => (R.bind (R.bind (R.ok y14) fun (x16 : (List Tx)) => (T_columns_of x16)) fun (x17 : (List Tx)) => (R.ok (ltLex ltTx y14 x17)))) (fun (y14 : (List Tx)) => (R.ok y14))) fun (x18 : (List (List Tx))) => (sortR (ltLex ltTx) (fun t => !t.isEmpty) x18)) fun (x19 : (List (List Tx))) => (R.ok x19)) fun (v : (List (List Tx))) => R.ok v)))
theorem sim_double_squares_2 (a_lexicon : PyData) (a_length : PyData) : SFn .o (f_double_squares [.sh (eAny a_lexicon), .sh (eAny a_length)]) (T_double_squares_2 a_lexicon a_length) (eT (eT eTx)) (fun _ => []) := by
  unfold T_double_squares_2
  have h : Fit [kSh (eAny a_lexicon), kSh (eAny a_length), kFr, kFr, kFr] [.sh (eAny a_lexicon), .sh (eAny a_length), .un, .un, .un] := ⟨rfl, ⟨rfl, ⟨.inl rfl, ⟨.inl rfl, ⟨.inl rfl, trivial⟩⟩⟩⟩⟩
  exact SFn_of (n := 5) (brf := [false, false]) (r := m_double_squares [.sh (eAny a_lexicon), .sh (eAny a_length), .un, .un, .un]) (SG_expr (SR_call (SR_aSh (SR_var (E := eAny) (a := a_lexicon) h rfl) (fun (x1 : PyData) g h => (SR_aSh (SR_var (E := eAny) (a := a_length) h rfl) (fun (x2 : PyData) g h => (SR_aNil (SR_endS (ks := [kSh (eAny a_lexicon), kSh (eAny a_length), kFr, kFr, kFr]) (ds := [eAny x1, eAny x2]) h rfl rfl (sim_demand_length x1 x2)))))))) (fun (x3 : Unit) g (h : Fit [kSh (eAny a_lexicon), kSh (eAny a_length), kFr, kFr, kFr] g) => (SG_asgf (X := fun (x12 : (List (List Tx))) => (x12).map (eT eTx)) (SR_call (SR_aSh (SR.dec (SR.conv (E' := eAny) (f := fun (v : (List PyData)) => ((eL eAny) v : PyData)) (SR_comp (X := fun (b : List PyData) => b) (κ₁ := fun _ => [kSh (eAny a_lexicon), kSh (eAny a_length), kFr, kFr, kFr]) (κr := fun _ => [kSh (eAny a_lexicon), kSh (eAny a_length), kFr, kFr, kFr]) (κt := fun _ (y5 : PyData) => [kSh (eAny a_lexicon), kSh (eAny a_length), kFr, kSh (eAny y5), kFr]) (SI_any (SR_var (E := eAny) (a := a_lexicon) h rfl)) (fun _ => (fre_c rfl fr_f fre_n)) (fun _ (y5 : PyData) => (tg_nm rfl nb_f)) (fun _ (y5 : PyData) g h => (SR_cmp (SR.conv (E' := eAny) (f := fun (v : Int) => (PyData.int v : PyData)) (SR_u (SR_pv (E := eAny) (a := y5) h (pk_s rfl)) (fun (x7 : PyData) g h => (SR_ofB h (lb_lenA _)))) (fun _ => rfl) (fun _ _ h => h)) (fun (x8 : PyData) g h => (SR_pv (E := eAny) (a := a_length) h (pk_s rfl))) (fun (x8 : PyData) (x9 : PyData) g h => (SR_kCmp h (lc_any .eq _ _))))) (fun _ (y5 : PyData) g h => (SR_var (E := eAny) (a := y5) h rfl)) (fun _ _ => imp_top rfl) (fun _ _ _ h => h)) (fun _ => rfl) (fun _ _ h => h)) (dec_L dec_tx)) (fun (x10 : (List Tx)) g h => (SR_aSh (SR.dec (SR_var (E := eAny) (a := a_length) h rfl) dec_int) (fun (x11 : Int) g h => (SR_aNil (SR_endS (ks := [kSh (eAny a_lexicon), kSh (eAny a_length), kFr, kFr, kFr]) (ds := [(eL eTx) x10, PyData.int x11]) h rfl rfl (sim_all_doubles x10 x11)))))))) (fun _ => ⟨_, rfl, nb_f⟩) (fun (x12 : (List (List Tx))) g (h : Fit [kSh (eAny a_lexicon), kSh (eAny a_length), kOw ((x12).map (eT eTx)), kFr, kFr] g) => (SG_frz h (frz_c (fz_o rfl) frz_n) (fun g (h : Fit [kSh (eAny a_lexicon), kSh (eAny a_length), kSh ((eL (eT eTx)) x12), kFr, kFr] g) => (SG_ret (v := fun (v : (List (List Tx))) => v) (SR_u (SR_u (SR_comp (X := fun (b : List (List Tx)) => b) (κ₁ := fun _ => [kSh (eAny a_lexicon), kSh (eAny a_length), kSh ((eL (eT eTx)) x12), kFr, kFr]) (κr := fun _ => [kSh (eAny a_lexicon), kSh (eAny a_length), kSh ((eL (eT eTx)) x12), kFr, kFr]) (κt := fun _ (y14 : (List Tx)) => [kSh (eAny a_lexicon), kSh (eAny a_length), kSh ((eL (eT eTx)) x12), kFr, kSh ((eT eTx) y14)]) (SI_seq (F := fun xs => xs.map (eT eTx)) (SR_var (E := (eL (eT eTx))) (a := x12) h rfl) (fun _ => rfl)) (fun _ => (fre_c rfl fr_f fre_n)) (fun _ (y14 : (List Tx)) => (tg_nm rfl nb_f)) (fun _ (y14 : (List Tx)) g h => (SR_bindV h (pk_s rfl) (SR_call (SR_aSh (SR_var (E := (eT eTx)) (a := y14) h rfl) (fun (x16 : (List Tx)) g h => (SR_aNil (SR_endS (ks := [kSh (eAny a_lexicon), kSh (eAny a_length), kSh ((eL (eT eTx)) x12), kFr, kSh ((eT eTx) y14)]) (ds := [(eT eTx) x16]) h rfl rfl (sim_columns_of x16)))))) (fun _ => pk_s rfl) (fun (x17 : (List Tx)) g h => (SR_kCmp h (lc_ltTTx y14 _))))) (fun _ (y14 : (List Tx)) g h => (SR_var (E := (eT eTx)) (a := y14) h rfl)) (fun _ _ => imp_top rfl) (fun _ _ _ h => h)) (fun (x18 : (List (List Tx))) g h => (SR_ofBf h (lb_srt sTTx _)))) (fun (x19 : (List (List Tx))) g h => (SR_ofB h (lb_tupL _)))) (fun (x20 : (List (List Tx))) g r h hr => qt_ret h (lent_f (lent_f lent_n)) hr)))))))) rfl (Nat.le_of_ble_eq_true rfl)

def T_are_rows (a_value : PyData) : R (Bool) := (R.bind (R.bind (R.bind (R.bind (R.ok a_value) fun (x1 : PyData) => (R.bind (R.ok (2)) fun (x2 : Int) => (R.bind (R.ok (5)) fun (x3 : Int) => (T_is_tuple x1 x2 x3)))) fun x => R.ok (!x)) fun x => cond x (R.ok true) (R.bind (R.bind (R.bind (R.bind (R.ok a_value) itA) fun (b4 : List PyData) => compR b4 (fun (y5 : PyData) => (R.ok true)) (fun (y5 : PyData) => (R.bind (R.ok y5) fun (x7 : PyData) => (T_is_word x7)))) fun (x8 : (List Bool)) => (R.ok (List.all x8 id))) fun x => R.ok (!x))) fun x9 => cond x9 (R.bind (R.ok false) fun (v : Bool) => R.ok v) (R.bind (R.bind (R.bind (R.bind (R.ok a_value) itA) fun (b11 : List PyData) => compR b11 (fun (y12 : PyData) => (R.ok true)) (fun (y12 : PyData) => (R.bind (R.bind (R.ok y12) fun (x14 : PyData) => (lenA x14)) fun (x15 : Int) => R.bind (R.bind (R.ok a_value) fun (x16 : PyData) => (lenA x16)) fun (x17 : Int) => (R.ok (eqT x15 x17))))) fun (x18 : (List Bool)) => (R.ok (List.all x18 id))) fun (v : Bool) => R.ok v))
theorem sim_are_rows (a_value : PyData) : SFn .o (f_are_rows [.sh (eAny a_value)]) (T_are_rows a_value) PyData.bool (fun _ => []) := by
  unfold T_are_rows
  have h : Fit [kSh (eAny a_value), kFr] [.sh (eAny a_value), .un] := ⟨rfl, ⟨.inl rfl, trivial⟩⟩
  exact SFn_of (n := 2) (brf := [false]) (r := m_are_rows [.sh (eAny a_value), .un]) (SG_ifr (SR_or (SR_not (SR_call (SR_aSh (SR_var (E := eAny) (a := a_value) h rfl) (fun (x1 : PyData) g h => (SR_aSh (SR_cst (E := PyData.int) (a := (2)) h rfl) (fun (x2 : Int) g h => (SR_aSh (SR_cst (E := PyData.int) (a := (5)) h rfl) (fun (x3 : Int) g h => (SR_aNil (SR_endS (ks := [kSh (eAny a_value), kFr]) (ds := [eAny x1, PyData.int x2, PyData.int x3]) h rfl rfl (sim_is_tuple x1 x2 x3))))))))))) fun g h => (SR_not (SR_u (SR_comp (X := fun (b : List PyData) => b) (κ₁ := fun _ => [kSh (eAny a_value), kFr]) (κr := fun _ => [kSh (eAny a_value), kFr]) (κt := fun _ (y5 : PyData) => [kSh (eAny a_value), kSh (eAny y5)]) (SI_any (SR_var (E := eAny) (a := a_value) h rfl)) (fun _ => (fre_c rfl fr_f fre_n)) (fun _ (y5 : PyData) => (tg_nm rfl nb_f)) (fun _ (y5 : PyData) g h => (SR_cst (E := PyData.bool) (a := true) h rfl)) (fun _ (y5 : PyData) g h => (SR_call (SR_aSh (SR_var (E := eAny) (a := y5) h rfl) (fun (x7 : PyData) g h => (SR_aNil (SR_endS (ks := [kSh (eAny a_value), kSh (eAny y5)]) (ds := [eAny x7]) h rfl rfl (sim_is_word x7))))))) (fun _ _ => imp_top rfl) (fun _ _ _ h => h)) (fun (x8 : (List Bool)) g h => (SR_ofB h (lb_all _)))))) (fun x9 g h => (SG.tn (SG_ret (v := fun (v : Bool) => v) (SR_cst (E := PyData.bool) (a := false) h rfl) (fun (x10 : Bool) g r h hr => qt_ret h (lent_f lent_n) hr)))) (fun x9 g h => (SG_nops (SG_ret (v := fun (v : Bool) => v) (SR_u (SR_comp (X := fun (b : List PyData) => b) (κ₁ := fun _ => [kSh (eAny a_value), kFr]) (κr := fun _ => [kSh (eAny a_value), kFr]) (κt := fun _ (y12 : PyData) => [kSh (eAny a_value), kSh (eAny y12)]) (SI_any (SR_var (E := eAny) (a := a_value) h rfl)) (fun _ => (fre_c rfl fr_f fre_n)) (fun _ (y12 : PyData) => (tg_nm rfl nb_f)) (fun _ (y12 : PyData) g h => (SR_cst (E := PyData.bool) (a := true) h rfl)) (fun _ (y12 : PyData) g h => (SR_cmp (SR_u (SR_pv (E := eAny) (a := y12) h (pk_s rfl)) (fun (x14 : PyData) g h => (SR_ofB h (lb_lenA _)))) (fun (x15 : Int) g h => (SR_u (SR_pv (E := eAny) (a := a_value) h (pk_s rfl)) (fun (x16 : PyData) g h => (SR_ofB h (lb_lenA _))))) (fun (x15 : Int) (x17 : Int) g h => (SR_kCmp h (lc_eq qInt (by decide) _ _))))) (fun _ _ => imp_top rfl) (fun _ _ _ h => h)) (fun (x18 : (List Bool)) g h => (SR_ofB h (lb_all _)))) (fun (x19 : Bool) g r h hr => qt_ret h (lent_f lent_n) hr))))) rfl (Nat.le_of_ble_eq_true rfl)

def T_is_word_square (a_lexicon : PyData) (a_value : PyData) : R (Bool) := (R.bind (R.bind (R.bind (R.ok a_lexicon) fun (x1 : PyData) => (T_is_lexicon x1)) fun (x2 : Bool) => (R.bind (R.ok ([108, 101, 120, 105, 99, 111, 110] : Tx)) fun (x3 : Tx) => (T_demand x2 x3))) fun (x4 : Unit) => (R.bind (R.bind (R.bind (R.ok a_value) fun (x5 : PyData) => (T_are_rows x5)) fun x => cond x (R.bind (R.bind (R.bind (R.bind (R.ok a_value) itA) fun (b6 : List PyData) => compR b6 (fun (y7 : PyData) => (R.ok true)) (fun (y7 : PyData) => (R.bind (R.ok a_lexicon) fun (x9 : PyData) => (R.ofOpt (cmpD .isIn y7 x9))))) fun (x10 : (List Bool)) => (R.ok (List.all x10 id))) fun x => cond x (R.bind (R.bind (R.bind (R.bind (R.ok a_value) fun d => R.ofOpt ((dT dTx) d)) fun (x11 : (List Tx)) => (T_columns_of x11)) fun v => R.ok ((eT eTx) v)) fun (x12 : PyData) => R.bind (R.ok a_value) fun (x13 : PyData) => (R.ofOpt (cmpD .eq x12 x13))) (R.ok false)) (R.ok false)) fun (v : Bool) => R.ok v))
theorem sim_is_word_square (a_lexicon : PyData) (a_value : PyData) : SFn .o (f_is_word_square [.sh (eAny a_lexicon), .sh (eAny a_value)]) (T_is_word_square a_lexicon a_value) PyData.bool (fun _ => []) := by
  unfold T_is_word_square
  have h : Fit [kSh (eAny a_lexicon), kSh (eAny a_value), kFr] [.sh (eAny a_lexicon), .sh (eAny a_value), .un] := ⟨rfl, ⟨rfl, ⟨.inl rfl, trivial⟩⟩⟩
  exact SFn_of (n := 3) (brf := [false, false]) (r := m_is_word_square [.sh (eAny a_lexicon), .sh (eAny a_value), .un]) (SG_expr (SR_call (SR_aSh (SR_call (SR_aSh (SR_var (E := eAny) (a := a_lexicon) h rfl) (fun (x1 : PyData) g h => (SR_aNil (SR_endS (ks := [kSh (eAny a_lexicon), kSh (eAny a_value), kFr]) (ds := [eAny x1]) h rfl rfl (sim_is_lexicon x1)))))) (fun (x2 : Bool) g h => (SR_aSh (SR_cst (E := eTx) (a := ([108, 101, 120, 105, 99, 111, 110] : Tx)) h cs_2) (fun (x3 : Tx) g h => (SR_aNil (SR_endS (ks := [kSh (eAny a_lexicon), kSh (eAny a_value), kFr]) (ds := [PyData.bool x2, eTx x3]) h rfl rfl (sim_demand x2 x3)))))))) (fun (x4 : Unit) g (h : Fit [kSh (eAny a_lexicon), kSh (eAny a_value), kFr] g) => (SG_ret (v := fun (v : Bool) => v) (SR_and (SR_call (SR_aSh (SR_var (E := eAny) (a := a_value) h rfl) (fun (x5 : PyData) g h => (SR_aNil (SR_endS (ks := [kSh (eAny a_lexicon), kSh (eAny a_value), kFr]) (ds := [eAny x5]) h rfl rfl (sim_are_rows x5)))))) fun g h => (SR_and (SR_u (SR_comp (X := fun (b : List PyData) => b) (κ₁ := fun _ => [kSh (eAny a_lexicon), kSh (eAny a_value), kFr]) (κr := fun _ => [kSh (eAny a_lexicon), kSh (eAny a_value), kFr]) (κt := fun _ (y7 : PyData) => [kSh (eAny a_lexicon), kSh (eAny a_value), kSh (eAny y7)]) (SI_any (SR_var (E := eAny) (a := a_value) h rfl)) (fun _ => (fre_c rfl fr_f fre_n)) (fun _ (y7 : PyData) => (tg_nm rfl nb_f)) (fun _ (y7 : PyData) g h => (SR_cst (E := PyData.bool) (a := true) h rfl)) (fun _ (y7 : PyData) g h => (SR_bindV h (pk_s rfl) (SR_pv (E := eAny) (a := a_lexicon) h (pk_s rfl)) (fun _ => pk_s rfl) (fun (x9 : PyData) g h => (SR_kCmp h (lc_any .isIn y7 _))))) (fun _ _ => imp_top rfl) (fun _ _ _ h => h)) (fun (x10 : (List Bool)) g h => (SR_ofB h (lb_all _)))) fun g h => (SR_cmp (SR.conv (E' := eAny) (f := fun (v : (List Tx)) => ((eT eTx) v : PyData)) (SR_call (SR_aSh (SR.dec (SR_var (E := eAny) (a := a_value) h rfl) (dec_T dec_tx)) (fun (x11 : (List Tx)) g h => (SR_aNil (SR_endS (ks := [kSh (eAny a_lexicon), kSh (eAny a_value), kFr]) (ds := [(eT eTx) x11]) h rfl rfl (sim_columns_of x11)))))) (fun _ => rfl) (fun _ _ h => h)) (fun (x12 : PyData) g h => (SR_pv (E := eAny) (a := a_value) h (pk_s rfl))) (fun (x12 : PyData) (x13 : PyData) g h => (SR_kCmp h (lc_any .eq _ _)))))) (fun (x14 : Bool) g r h hr => qt_ret h (lent_f (lent_f lent_n)) hr)))) rfl (Nat.le_of_ble_eq_true rfl)

def T_is_double_square (a_lexicon : PyData) (a_value : PyData) : R (Bool) := (R.bind (R.bind (R.bind (R.ok a_lexicon) fun (x1 : PyData) => (T_is_lexicon x1)) fun (x2 : Bool) => (R.bind (R.ok ([108, 101, 120, 105, 99, 111, 110] : Tx)) fun (x3 : Tx) => (T_demand x2 x3))) fun (x4 : Unit) => (R.bind (R.bind (R.bind (R.ok a_value) fun (x5 : PyData) => (T_are_rows x5)) fun x => cond x (R.bind (R.bind (R.ok a_lexicon) fun d => R.ofOpt ((dT dTx) d)) fun (x6 : (List Tx)) => (R.bind (R.bind (R.ok a_value) fun d => R.ofOpt ((dT dTx) d)) fun (x7 : (List Tx)) => (T_is_double x6 x7))) (R.ok false)) fun (v : Bool) => R.ok v))
theorem sim_is_double_square (a_lexicon : PyData) (a_value : PyData) : SFn .o (f_is_double_square [.sh (eAny a_lexicon), .sh (eAny a_value)]) (T_is_double_square a_lexicon a_value) PyData.bool (fun _ => []) := by
  unfold T_is_double_square
  have h : Fit [kSh (eAny a_lexicon), kSh (eAny a_value)] [.sh (eAny a_lexicon), .sh (eAny a_value)] := ⟨rfl, ⟨rfl, trivial⟩⟩
  exact SFn_of (n := 2) (brf := [false, false]) (r := m_is_double_square [.sh (eAny a_lexicon), .sh (eAny a_value)]) (SG_expr (SR_call (SR_aSh (SR_call (SR_aSh (SR_var (E := eAny) (a := a_lexicon) h rfl) (fun (x1 : PyData) g h => (SR_aNil (SR_endS (ks := [kSh (eAny a_lexicon), kSh (eAny a_value)]) (ds := [eAny x1]) h rfl rfl (sim_is_lexicon x1)))))) (fun (x2 : Bool) g h => (SR_aSh (SR_cst (E := eTx) (a := ([108, 101, 120, 105, 99, 111, 110] : Tx)) h cs_2) (fun (x3 : Tx) g h => (SR_aNil (SR_endS (ks := [kSh (eAny a_lexicon), kSh (eAny a_value)]) (ds := [PyData.bool x2, eTx x3]) h rfl rfl (sim_demand x2 x3)))))))) (fun (x4 : Unit) g (h : Fit [kSh (eAny a_lexicon), kSh (eAny a_value)] g) => (SG_ret (v := fun (v : Bool) => v) (SR_and (SR_call (SR_aSh (SR_var (E := eAny) (a := a_value) h rfl) (fun (x5 : PyData) g h => (SR_aNil (SR_endS (ks := [kSh (eAny a_lexicon), kSh (eAny a_value)]) (ds := [eAny x5]) h rfl rfl (sim_are_rows x5)))))) fun g h => (SR_call (SR_aSh (SR.dec (SR_var (E := eAny) (a := a_lexicon) h rfl) (dec_T dec_tx)) (fun (x6 : (List Tx)) g h => (SR_aSh (SR.dec (SR_var (E := eAny) (a := a_value) h rfl) (dec_T dec_tx)) (fun (x7 : (List Tx)) g h => (SR_aNil (SR_endS (ks := [kSh (eAny a_lexicon), kSh (eAny a_value)]) (ds := [(eT eTx) x6, (eT eTx) x7]) h rfl rfl (sim_is_double x6 x7))))))))) (fun (x8 : Bool) g r h hr => qt_ret h (lent_f (lent_f lent_n)) hr)))) rfl (Nat.le_of_ble_eq_true rfl)

def T_law_dice (a_script : (List Int)) (a_spot : Int) : R ((List Int)) := (R.bind (R.bind (R.bind (R.bind (R.ok a_script) fun (x1 : (List Int)) => (R.ok (Int.ofNat (List.length x1)))) fun (x2 : Int) => (R.ok (decide (a_spot < x2)))) fun (x3 : Bool) => cond x3 (R.bind (R.ok a_spot) fun (x4 : Int) => (idxR a_script x4)) (R.bind (R.bind (R.ok (733)) fun (x5 : Int) => R.bind (R.ok a_spot) fun (x6 : Int) => (mulR x5 x6)) fun (x7 : Int) => R.bind (R.ok (29)) fun (x8 : Int) => (R.ok (x7 + x8)))) fun (x9 : Int) => (R.bind (R.bind (R.ok (910003)) fun (x10 : Int) => R.bind (R.bind (R.ok (7907)) fun (x11 : Int) => R.bind (R.ok a_spot) fun (x12 : Int) => (mulR x11 x12)) fun (x13 : Int) => (R.ok (x10 + x13))) fun (x14 : Int) => (R.bind (R.bind (R.bind (R.bind (R.ok a_script) fun x15 => R.bind (R.ok none) fun l16 => R.bind (R.bind (R.noex (R.ok (6))) fun i => R.ok (some i)) fun u17 => (R.ok (cutD x15 l16 u17))) fun (x18 : (List Int)) => R.bind (R.bind (R.ok x9) fun (x19 : Int) => (R.ok ([x19] : (List Int)))) fun (x20 : (List Int)) => (szR (x18 ++ x20))) fun (b21 : (List Int)) => forR b21 (x14) (fun (y23 : Int) (s22 : (Int)) => (R.bind (R.bind (R.bind (R.bind (R.bind (R.ok s22) fun (x36 : Int) => R.bind (R.ok (48271)) fun (x37 : Int) => (mulR x36 x37)) fun (x38 : Int) => R.bind (R.bind (R.bind (R.ok y23) fun (x39 : Int) => (R.ok x39)) fun (x40 : Int) => R.bind (R.ok (2147480009)) fun (x41 : Int) => (modR x40 x41)) fun (x42 : Int) => (R.ok (x38 + x42))) fun (x43 : Int) => (R.ok x43)) fun (x44 : Int) => R.bind (R.ok (2147480009)) fun (x45 : Int) => (modR x44 x45)) fun (x46 : Int) => (R.ok (x46))))) fun (s35 : (Int)) => (R.bind (R.bind (R.bind (R.bind (R.bind (R.ok (0)) fun (x47 : Int) => (R.ok (decide (x9 < x47)))) fun x => cond x (R.ok true) (R.bind (R.bind (R.ok (10)) fun (x48 : Int) => R.bind (R.ok (16)) fun (x49 : Int) => (powR x48 x49)) fun (x50 : Int) => (R.ok (decide (x50 ≤ x9))))) fun (x51 : Bool) => cond x51 (R.bind (R.ok x9) fun (x52 : Int) => (R.ok (if x52 < 0 then -x52 else x52))) (R.ok (0))) fun (x53 : Int) => (R.bind (R.ok s35) fun (x54 : Int) => (R.bind (R.ok (0)) fun (x55 : Int) => (R.ok ([x53, x54, x55] : (List Int)))))) fun (v : (List Int)) => R.ok v))))
theorem sim_law_dice (a_script : (List Int)) (a_spot : Int) : SFn .f (f_law_dice [.sh ((eL PyData.int) a_script), .sh (PyData.int a_spot)]) (T_law_dice a_script a_spot) (eL PyData.int) (fun _ => []) := by
  unfold T_law_dice
  have h : Fit [kSh ((eL PyData.int) a_script), kSh (PyData.int a_spot), kFr, kFr, kFr] [.sh ((eL PyData.int) a_script), .sh (PyData.int a_spot), .un, .un, .un] := ⟨rfl, ⟨rfl, ⟨.inl rfl, ⟨.inl rfl, ⟨.inl rfl, trivial⟩⟩⟩⟩⟩
  exact SFn_of (n := 5) (brf := [false, false]) (r := m_law_dice [.sh ((eL PyData.int) a_script), .sh (PyData.int a_spot), .un, .un, .un]) (SG_asg (SR_if (SR_bindV h (pk_s rfl) (SR_u (SR_pv (E := (eL PyData.int)) (a := a_script) h (pk_s rfl)) (fun (x1 : (List Int)) g h => (SR_ofB h (lb_lenL _)))) (fun _ => pk_s rfl) (fun (x2 : Int) g h => (SR_kCmp h (lc_lt a_spot _)))) (fun (x3 : Bool) g h => (SR_bindV h (pk_s rfl) (SR_var (E := PyData.int) (a := a_spot) h rfl) (fun _ => pk_s rfl) (fun (x4 : Int) g h => (SR_ofO (E := PyData.int) h (lo_idxL a_script x4))))) (fun (x3 : Bool) g h => (SR_bin (SR_bin (SR_cst (E := PyData.int) (a := (733)) h rfl) (fun (x5 : Int) g h => (SR_pv (E := PyData.int) (a := a_spot) h (pk_s rfl))) (fun (x5 : Int) (x6 : Int) g h => (SR_ofB h (lb_mul _ _)))) (fun (x7 : Int) g h => (SR_cst (E := PyData.int) (a := (29)) h rfl)) (fun (x7 : Int) (x8 : Int) g h => (SR_ofB h (lb_add _ _)))))) (fun _ => ⟨_, rfl, nb_f⟩) (fun (x9 : Int) g (h : Fit [kSh ((eL PyData.int) a_script), kSh (PyData.int a_spot), kSh (PyData.int x9), kFr, kFr] g) => (SG_asg (SR_bin (SR_cst (E := PyData.int) (a := (910003)) h rfl) (fun (x10 : Int) g h => (SR_bin (SR_cst (E := PyData.int) (a := (7907)) h rfl) (fun (x11 : Int) g h => (SR_pv (E := PyData.int) (a := a_spot) h (pk_s rfl))) (fun (x11 : Int) (x12 : Int) g h => (SR_ofB h (lb_mul _ _))))) (fun (x10 : Int) (x13 : Int) g h => (SR_ofB h (lb_add _ _)))) (fun _ => ⟨_, rfl, nb_f⟩) (fun (x14 : Int) g (h : Fit [kSh ((eL PyData.int) a_script), kSh (PyData.int a_spot), kSh (PyData.int x9), kSh (PyData.int x14), kFr] g) => (SG_frzs h (frz_c (fz_k rfl no_s) frz_n) (fun g (h : Fit [kSh ((eL PyData.int) a_script), kSh (PyData.int a_spot), kSh (PyData.int x9), kSh (PyData.int x14), kFr] g) => (SG_seq (P := fun (s : (Int)) => [kSh ((eL PyData.int) a_script), kSh (PyData.int a_spot), kSh (PyData.int x9), kSh (PyData.int s), kFr]) (SG_for (X := fun (b21 : (List Int)) => b21) (s0 := fun (b21 : (List Int)) => (x14)) (P := fun (s : (Int)) => [kSh ((eL PyData.int) a_script), kSh (PyData.int a_spot), kSh (PyData.int x9), kSh (PyData.int s), kFr]) (P1 := fun (y23 : Int) (s22 : (Int)) => [kSh ((eL PyData.int) a_script), kSh (PyData.int a_spot), kSh (PyData.int x9), kSh (PyData.int s22), kSh (PyData.int y23)]) (SI_seq (F := fun xs => xs.map PyData.int) (SR_bin (SR_slc (SR_var (E := (eL PyData.int)) (a := a_script) h rfl) (fun g h => SO_none h) (fun g h => SO_some (SR_cst (E := PyData.int) (a := (6)) h rfl)) (fun l16 u17 x15 g h => SR_ofBf h (lb_slcL _ _ _))) (fun (x18 : (List Int)) g h => (SR_lst (SR_cons (SR_var (E := PyData.int) (a := x9) h rfl) (fun (x19 : Int) g h => (SR_nil (SR_endL (E := (eL PyData.int)) (κ := fun (_ : (List Int)) => [kSh ((eL PyData.int) a_script), kSh (PyData.int a_spot), kSh (PyData.int x9), kSh (PyData.int x14), kFr]) (a := ([x19] : (List Int))) h rfl (Nat.le_of_ble_eq_true rfl))))))) (fun (x18 : (List Int)) (x20 : (List Int)) g h => (SR_ofBf h (lb_addL _ _)))) (fun _ => rfl)) (fun (b21 : (List Int)) g h => h.imp (imp_c i_id (imp_c i_id (imp_c i_id (imp_c i_id (imp_c i_id imp_n)))))) (fun (y23 : Int) (s22 : (Int)) => (tg_nm rfl nb_f)) (fun (y23 : Int) (s22 : (Int)) g (h : Fit [kSh ((eL PyData.int) a_script), kSh (PyData.int a_spot), kSh (PyData.int x9), kSh (PyData.int s22), kSh (PyData.int y23)] g) => (SG_last (SG_frzs h (frz_c (fz_k rfl no_s) frz_n) (fun g (h : Fit [kSh ((eL PyData.int) a_script), kSh (PyData.int a_spot), kSh (PyData.int x9), kSh (PyData.int s22), kSh (PyData.int y23)] g) => (SG_asg (SR_bin (SR_u (SR_bin (SR_bin (SR_var (E := PyData.int) (a := s22) h rfl) (fun (x36 : Int) g h => (SR_cst (E := PyData.int) (a := (48271)) h rfl)) (fun (x36 : Int) (x37 : Int) g h => (SR_ofB h (lb_mul _ _)))) (fun (x38 : Int) g h => (SR_bin (SR_u (SR_pv (E := PyData.int) (a := y23) h (pk_s rfl)) (fun (x39 : Int) g h => (SR_ofB h (lb_int _)))) (fun (x40 : Int) g h => (SR_cst (E := PyData.int) (a := (2147480009)) h rfl)) (fun (x40 : Int) (x41 : Int) g h => (SR_ofB h (lb_mod _ _))))) (fun (x38 : Int) (x42 : Int) g h => (SR_ofB h (lb_add _ _)))) (fun (x43 : Int) g h => (SR_ofB h (lb_int _)))) (fun (x44 : Int) g h => (SR_cst (E := PyData.int) (a := (2147480009)) h rfl)) (fun (x44 : Int) (x45 : Int) g h => (SR_ofB h (lb_mod _ _)))) (fun _ => ⟨_, rfl, nb_s⟩) (fun (x46 : Int) g (h : Fit [kSh ((eL PyData.int) a_script), kSh (PyData.int a_spot), kSh (PyData.int x9), kSh (PyData.int x46), kSh (PyData.int y23)] g) => (SG_end (h.imp (imp_c i_id (imp_c i_id (imp_c i_id (imp_c i_id (imp_c i_sf imp_n)))))))))))))) (fun (s35 : (Int)) g (h : Fit [kSh ((eL PyData.int) a_script), kSh (PyData.int a_spot), kSh (PyData.int x9), kSh (PyData.int s35), kFr] g) => (SG_frz h (frz_c (fz_k rfl no_s) frz_n) (fun g (h : Fit [kSh ((eL PyData.int) a_script), kSh (PyData.int a_spot), kSh (PyData.int x9), kSh (PyData.int s35), kFr] g) => (SG_ret (v := fun (v : (List Int)) => v) (SR_lst (SR_cons (SR_if (SR_or (SR_bindV h (pk_s rfl) (SR_cst (E := PyData.int) (a := (0)) h rfl) (fun _ => pk_s rfl) (fun (x47 : Int) g h => (SR_kCmp h (lc_lt x9 _)))) fun g h => (SR_bindV h (pk_s rfl) (SR_bin (SR_cst (E := PyData.int) (a := (10)) h rfl) (fun (x48 : Int) g h => (SR_cst (E := PyData.int) (a := (16)) h rfl)) (fun (x48 : Int) (x49 : Int) g h => (SR_ofB h (lb_pow _ _)))) (fun _ => pk_s rfl) (fun (x50 : Int) g h => (SR_kCmp h (lc_ge x9 _))))) (fun (x51 : Bool) g h => (SR_u (SR_pv (E := PyData.int) (a := x9) h (pk_s rfl)) (fun (x52 : Int) g h => (SR_ofB h (lb_abs _))))) (fun (x51 : Bool) g h => (SR_cst (E := PyData.int) (a := (0)) h rfl))) (fun (x53 : Int) g h => (SR_cons (SR_var (E := PyData.int) (a := s35) h rfl) (fun (x54 : Int) g h => (SR_cons (SR_cst (E := PyData.int) (a := (0)) h rfl) (fun (x55 : Int) g h => (SR_nil (SR_endL (E := (eL PyData.int)) (κ := fun (_ : (List Int)) => [kSh ((eL PyData.int) a_script), kSh (PyData.int a_spot), kSh (PyData.int x9), kSh (PyData.int s35), kFr]) (a := ([x53, x54, x55] : (List Int))) h rfl (Nat.le_of_ble_eq_true rfl)))))))))) (fun (x56 : (List Int)) g r h hr => qt_ret h (lent_f (lent_f lent_n)) hr)))))))))))) rfl (Nat.le_of_ble_eq_true rfl)

def T_law_roll (a_dice : (List Int)) (a_total : Int) : R (Int × (List Int)) := R.noex (R.bind (R.bind (idxR a_dice (0)) fun (x1 : Int) => R.bind (R.ok (0)) fun (x2 : Int) => (R.ok (decide (x2 < x1)))) fun x3 => cond x3 (R.bind (R.bind (R.bind (idxR a_dice (0)) fun (x4 : Int) => (R.ok x4)) fun (x5 : Int) => R.bind (R.ok a_total) fun (x6 : Int) => (modR x5 x6)) fun (x7 : Int) => (R.bind (R.bind (idxR a_dice (0)) fun (x8 : Int) => R.bind (R.ok a_total) fun (x9 : Int) => (fdivR x8 x9)) fun (x10 : Int) => R.bind (R.ok (0)) fun j11 => R.bind (setR a_dice j11 x10) fun (l12 : (List Int)) => (R.bind (R.bind (R.ok x7) fun v => R.ok (v, l12)) fun (v : (Int × (List Int))) => R.ok v))) (R.bind (R.bind (idxR a_dice (2)) fun (x14 : Int) => R.bind (R.ok (1)) fun (x15 : Int) => (R.ok (x14 + x15))) fun (x16 : Int) => R.bind (R.ok (2)) fun j17 => R.bind (setR a_dice j17 x16) fun (l18 : (List Int)) => (R.bind (R.bind (R.bind (R.bind (R.bind (R.bind (idxR l18 (1)) fun (x19 : Int) => R.bind (R.ok (52501)) fun (x20 : Int) => (mulR x19 x20)) fun (x21 : Int) => R.bind (R.bind (R.bind (idxR l18 (2)) fun (x22 : Int) => R.bind (idxR l18 (2)) fun (x23 : Int) => (mulR x22 x23)) fun (x24 : Int) => R.bind (R.ok (1009)) fun (x25 : Int) => (mulR x24 x25)) fun (x26 : Int) => (R.ok (x21 + x26))) fun (x27 : Int) => R.bind (R.ok (77)) fun (x28 : Int) => (R.ok (x27 + x28))) fun (x29 : Int) => (R.ok x29)) fun (x30 : Int) => R.bind (R.ok (2147480009)) fun (x31 : Int) => (modR x30 x31)) fun (x32 : Int) => R.bind (R.ok (1)) fun j33 => R.bind (setR l18 j33 x32) fun (l34 : (List Int)) => (R.bind (R.bind (R.bind (R.bind (R.bind (idxR l34 (1)) fun (x35 : Int) => R.bind (R.ok (211)) fun (x36 : Int) => (fdivR x35 x36)) fun (x37 : Int) => (R.ok x37)) fun (x38 : Int) => R.bind (R.ok a_total) fun (x39 : Int) => (modR x38 x39)) fun v => R.ok (v, l34)) fun (v : (Int × (List Int))) => R.ok v))))
theorem sim_law_roll (a_dice : (List Int)) (a_total : Int) : SFn .o (f_law_roll [.by (.lst (a_dice.map PyData.int)), .sh (PyData.int a_total)]) (T_law_roll a_dice a_total) (fun (p : (Int × (List Int))) => PyData.int p.1) (fun (p : (Int × (List Int))) => [.lst (p.2.map PyData.int)]) := by
  unfold T_law_roll
  have h : Fit [kBr ((a_dice).map PyData.int), kSh (PyData.int a_total), kFr] [.br (.lst (a_dice.map PyData.int)), .sh (PyData.int a_total), .un] := ⟨rfl, ⟨rfl, ⟨.inl rfl, trivial⟩⟩⟩
  exact SFn_ofL (n := 3) (brf := [true, false]) (r := m_law_roll [.br (.lst (a_dice.map PyData.int)), .sh (PyData.int a_total), .un]) (SG_ifr (SR_cmp (SR_idxVc (E := PyData.int) h (pk_b rfl) (lo_idxL a_dice (0))) (fun (x1 : Int) g h => (SR_cst (E := PyData.int) (a := (0)) h rfl)) (fun (x1 : Int) (x2 : Int) g h => (SR_kCmp h (lc_gt _ _)))) (fun x3 g h => (SG_asg (SR_bin (SR_u (SR_idxVc (E := PyData.int) h (pk_b rfl) (lo_idxL a_dice (0))) (fun (x4 : Int) g h => (SR_ofB h (lb_int _)))) (fun (x5 : Int) g h => (SR_pv (E := PyData.int) (a := a_total) h (pk_s rfl))) (fun (x5 : Int) (x6 : Int) g h => (SR_ofB h (lb_mod _ _)))) (fun _ => ⟨_, rfl, nb_f⟩) (fun (x7 : Int) g (h : Fit [kBr ((a_dice).map PyData.int), kSh (PyData.int a_total), kSh (PyData.int x7)] g) => (SG_setI (F := PyData.int) (xs := a_dice) (vf := fun (x10 : Int) => x10) (κ₂ := fun (x10 : Int) (l12 : (List Int)) => [kBr ((l12).map PyData.int), kSh (PyData.int a_total), kSh (PyData.int x7)]) (SR_bin (SR_idxVc (E := PyData.int) h (pk_b rfl) (lo_idxL a_dice (0))) (fun (x8 : Int) g h => (SR_pv (E := PyData.int) (a := a_total) h (pk_s rfl))) (fun (x8 : Int) (x9 : Int) g h => (SR_ofB h (lb_fdiv _ _)))) (fun (x10 : Int) g h => (SR_cst (E := PyData.int) (a := (0)) h rfl)) (fun _ => ln_b rfl) (fun _ _ => tk_b rfl) (fun (x10 : Int) (l12 : (List Int)) g (h : Fit [kBr ((l12).map PyData.int), kSh (PyData.int a_total), kSh (PyData.int x7)] g) => (SG.tn (SG_ret (v := fun (v : (Int × (List Int))) => v) (SR.conv (E' := fun (p : (Int × (List Int))) => PyData.int p.1) (κ' := (fun (p : (Int × (List Int))) => [kBr ((p.2).map PyData.int), kSh (PyData.int a_total), kSh (PyData.int x7)])) (f := fun (v : Int) => (v, l12)) (SR_var (E := PyData.int) (a := x7) h rfl) (fun _ => rfl) (fun _ _ h => h)) (fun (x13 : (Int × (List Int))) g r h hr => qt_ret h (lent_t (lent_f lent_n)) hr)))))))) (fun x3 g h => (SG_nops (SG_setI (F := PyData.int) (xs := a_dice) (vf := fun (x16 : Int) => x16) (κ₂ := fun (x16 : Int) (l18 : (List Int)) => [kBr ((l18).map PyData.int), kSh (PyData.int a_total), kFr]) (SR_bin (SR_idxVc (E := PyData.int) h (pk_b rfl) (lo_idxL a_dice (2))) (fun (x14 : Int) g h => (SR_cst (E := PyData.int) (a := (1)) h rfl)) (fun (x14 : Int) (x15 : Int) g h => (SR_ofB h (lb_add _ _)))) (fun (x16 : Int) g h => (SR_cst (E := PyData.int) (a := (2)) h rfl)) (fun _ => ln_b rfl) (fun _ _ => tk_b rfl) (fun (x16 : Int) (l18 : (List Int)) g (h : Fit [kBr ((l18).map PyData.int), kSh (PyData.int a_total), kFr] g) => (SG_setI (F := PyData.int) (xs := l18) (vf := fun (x32 : Int) => x32) (κ₂ := fun (x32 : Int) (l34 : (List Int)) => [kBr ((l34).map PyData.int), kSh (PyData.int a_total), kFr]) (SR_bin (SR_u (SR_bin (SR_bin (SR_bin (SR_idxVc (E := PyData.int) h (pk_b rfl) (lo_idxL l18 (1))) (fun (x19 : Int) g h => (SR_cst (E := PyData.int) (a := (52501)) h rfl)) (fun (x19 : Int) (x20 : Int) g h => (SR_ofB h (lb_mul _ _)))) (fun (x21 : Int) g h => (SR_bin (SR_bin (SR_idxVc (E := PyData.int) h (pk_b rfl) (lo_idxL l18 (2))) (fun (x22 : Int) g h => (SR_idxVc (E := PyData.int) h (pk_b rfl) (lo_idxL l18 (2)))) (fun (x22 : Int) (x23 : Int) g h => (SR_ofB h (lb_mul _ _)))) (fun (x24 : Int) g h => (SR_cst (E := PyData.int) (a := (1009)) h rfl)) (fun (x24 : Int) (x25 : Int) g h => (SR_ofB h (lb_mul _ _))))) (fun (x21 : Int) (x26 : Int) g h => (SR_ofB h (lb_add _ _)))) (fun (x27 : Int) g h => (SR_cst (E := PyData.int) (a := (77)) h rfl)) (fun (x27 : Int) (x28 : Int) g h => (SR_ofB h (lb_add _ _)))) (fun (x29 : Int) g h => (SR_ofB h (lb_int _)))) (fun (x30 : Int) g h => (SR_cst (E := PyData.int) (a := (2147480009)) h rfl)) (fun (x30 : Int) (x31 : Int) g h => (SR_ofB h (lb_mod _ _)))) (fun (x32 : Int) g h => (SR_cst (E := PyData.int) (a := (1)) h rfl)) (fun _ => ln_b rfl) (fun _ _ => tk_b rfl) (fun (x32 : Int) (l34 : (List Int)) g (h : Fit [kBr ((l34).map PyData.int), kSh (PyData.int a_total), kFr] g) => (SG_ret (v := fun (v : (Int × (List Int))) => v) (SR.conv (E' := fun (p : (Int × (List Int))) => PyData.int p.1) (κ' := (fun (p : (Int × (List Int))) => [kBr ((p.2).map PyData.int), kSh (PyData.int a_total), kFr])) (f := fun (v : Int) => (v, l34)) (SR_bin (SR_u (SR_bin (SR_idxVc (E := PyData.int) h (pk_b rfl) (lo_idxL l34 (1))) (fun (x35 : Int) g h => (SR_cst (E := PyData.int) (a := (211)) h rfl)) (fun (x35 : Int) (x36 : Int) g h => (SR_ofB h (lb_fdiv _ _)))) (fun (x37 : Int) g h => (SR_ofB h (lb_int _)))) (fun (x38 : Int) g h => (SR_pv (E := PyData.int) (a := a_total) h (pk_s rfl))) (fun (x38 : Int) (x39 : Int) g h => (SR_ofB h (lb_mod _ _)))) (fun _ => rfl) (fun _ _ h => h)) (fun (x40 : (Int × (List Int))) g r h hr => qt_ret h (lent_t (lent_f lent_n)) hr)))))))))

def T_law_pick {α : Type} (a_dice : (List Int)) (a_things : (List α)) : R (α × (List Int)) := R.noex (R.bind (R.bind (R.bind (R.bind (R.ok a_things) fun (x1 : (List α)) => (R.ok (Int.ofNat (List.length x1)))) fun (x2 : Int) => (R.noex (T_law_roll a_dice x2))) fun (x3 : (Int × (List Int))) => (R.bind (idxR a_things x3.1) fun v => R.ok (v, x3.2))) fun (v : (α × (List Int))) => R.ok v)
theorem sim_law_pick {α : Type} (Eα : α → PyData) (a_dice : (List Int)) (a_things : (List α)) : SFn .o (f_law_pick [.by (.lst (a_dice.map PyData.int)), .sh ((eL Eα) a_things)]) (T_law_pick a_dice a_things) (fun (p : (α × (List Int))) => Eα p.1) (fun (p : (α × (List Int))) => [.lst (p.2.map PyData.int)]) := by
  unfold T_law_pick
  have h : Fit [kBr ((a_dice).map PyData.int), kSh ((eL Eα) a_things)] [.br (.lst (a_dice.map PyData.int)), .sh ((eL Eα) a_things)] := ⟨rfl, ⟨rfl, trivial⟩⟩
  exact SFn_ofL (n := 2) (brf := [true, false]) (r := m_law_pick [.br (.lst (a_dice.map PyData.int)), .sh ((eL Eα) a_things)]) (SG_ret (v := fun (v : (α × (List Int))) => v) (SR_bindV h (pk_s rfl) (SR_call (SR_aByr h (ln_b rfl) (SR_aSh (SR_u (SR_pv (E := (eL Eα)) (a := a_things) h (pk_s rfl)) (fun (x1 : (List α)) g h => (SR_ofB h (lb_lenL _)))) (fun (x2 : Int) g h => (SR_aNil (SR_endB (κ := (fun (p : (Int × (List Int))) => [kBr ((p.2).map PyData.int), kSh ((eL Eα) a_things)])) (ds := [PyData.int x2]) (B := fun (p : (Int × (List Int))) => p.2.map PyData.int) h (ln_b rfl) rfl (sim_law_roll a_dice x2) (fun _ => tk_b rfl))))))) (fun _ => pk_s rfl) (fun (x3 : (Int × (List Int))) g h => (SR.conv (E' := fun (p : (α × (List Int))) => Eα p.1) (κ' := (fun (p : (α × (List Int))) => [kBr ((p.2).map PyData.int), kSh ((eL Eα) a_things)])) (f := fun (v : α) => (v, x3.2)) (SR_ofO (E := Eα) h (lo_idxL a_things x3.1)) (fun _ => rfl) (fun _ _ h => h)))) (fun (x4 : (α × (List Int))) g r h hr => qt_ret h (lent_t (lent_f lent_n)) hr))

def T_law_g_word (a_dice : (List Int)) (a_letters : Tx) (a_least : Int) (a_most : Int) : R (Tx × (List Int)) := R.noex (R.bind (R.bind (R.ok ([] : Tx)) fun (x1 : Tx) => R.bind (R.bind (R.bind (R.bind (R.ok a_least) fun (x2 : Int) => R.bind (R.bind (R.bind (R.bind (R.ok a_most) fun (x3 : Int) => R.bind (R.ok a_least) fun (x4 : Int) => (R.ok (x3 - x4))) fun (x5 : Int) => R.bind (R.ok (1)) fun (x6 : Int) => (R.ok (x5 + x6))) fun (x7 : Int) => (R.noex (T_law_roll a_dice x7))) fun (x8 : (Int × (List Int))) => (R.bind (R.ok (x2 + x8.1)) fun v => R.ok (v, x8.2))) fun (b : (Int × (List Int))) => R.bind (rngR 0 b.1) fun xs => R.ok (xs, b.2)) fun (b9 : (List Int) × (List Int)) => compM b9.1 b9.2 (fun (y10 : Int) (s11 : (List Int)) => (R.bind (R.bind (R.ok a_letters) fun (x12 : Tx) => (szR x12)) fun (x13 : (List Ch)) => (R.noex (T_law_pick s11 x13))))) fun (x14 : ((List Ch) × (List Int))) => (R.bind (joinC x1 x14.1) fun v => R.ok (v, x14.2))) fun (v : (Tx × (List Int))) => R.ok v)
theorem sim_law_g_word (a_dice : (List Int)) (a_letters : Tx) (a_least : Int) (a_most : Int) : SFn .o (f_law_g_word [.by (.lst (a_dice.map PyData.int)), .sh (eTx a_letters), .sh (PyData.int a_least), .sh (PyData.int a_most)]) (T_law_g_word a_dice a_letters a_least a_most) (fun (p : (Tx × (List Int))) => eTx p.1) (fun (p : (Tx × (List Int))) => [.lst (p.2.map PyData.int)]) := by
  unfold T_law_g_word
  have h : Fit [kBr ((a_dice).map PyData.int), kSh (eTx a_letters), kSh (PyData.int a_least), kSh (PyData.int a_most), kFr] [.br (.lst (a_dice.map PyData.int)), .sh (eTx a_letters), .sh (PyData.int a_least), .sh (PyData.int a_most), .un] := ⟨rfl, ⟨rfl, ⟨rfl, ⟨rfl, ⟨.inl rfl, trivial⟩⟩⟩⟩⟩
  exact SFn_ofL (n := 5) (brf := [true, false, false, false]) (r := m_law_g_word [.br (.lst (a_dice.map PyData.int)), .sh (eTx a_letters), .sh (PyData.int a_least), .sh (PyData.int a_most), .un]) (SG_ret (v := fun (v : (Tx × (List Int))) => v) (SR_m2 (z := toS) (SR_cst (E := eTx) (a := ([] : Tx)) h cs_1) (fun (x1 : Tx) g h => (SR_compM (E' := eCh) (X := fun (b9 : (List Int) × (List Int)) => b9.1) (S := fun (b9 : (List Int) × (List Int)) => b9.2) (κ₁ := fun (s11 : (List Int)) => [kBr ((s11).map PyData.int), kSh (eTx a_letters), kSh (PyData.int a_least), kSh (PyData.int a_most), kFr]) (κr := (fun (r : (List Ch) × (List Int)) => [kBr ((r.2).map PyData.int), kSh (eTx a_letters), kSh (PyData.int a_least), kSh (PyData.int a_most), kFr])) (κt := fun (s11 : (List Int)) (y10 : Int) => [kBr ((s11).map PyData.int), kSh (eTx a_letters), kSh (PyData.int a_least), kSh (PyData.int a_most), kSh (PyData.int y10)]) (SI_rngM (κ := (fun (d : (List Int)) => [kBr ((d).map PyData.int), kSh (eTx a_letters), kSh (PyData.int a_least), kSh (PyData.int a_most), kFr])) (SR_bin (SR_var (E := PyData.int) (a := a_least) h rfl) (fun (x2 : Int) g h => (SR_call (SR_aByr h (ln_b rfl) (SR_aSh (SR_bin (SR_bin (SR_var (E := PyData.int) (a := a_most) h rfl) (fun (x3 : Int) g h => (SR_pv (E := PyData.int) (a := a_least) h (pk_s rfl))) (fun (x3 : Int) (x4 : Int) g h => (SR_ofB h (lb_sub _ _)))) (fun (x5 : Int) g h => (SR_cst (E := PyData.int) (a := (1)) h rfl)) (fun (x5 : Int) (x6 : Int) g h => (SR_ofB h (lb_add _ _)))) (fun (x7 : Int) g h => (SR_aNil (SR_endB (κ := (fun (p : (Int × (List Int))) => [kBr ((p.2).map PyData.int), kSh (eTx a_letters), kSh (PyData.int a_least), kSh (PyData.int a_most), kFr])) (ds := [PyData.int x7]) (B := fun (p : (Int × (List Int))) => p.2.map PyData.int) h (ln_b rfl) rfl (sim_law_roll a_dice x7) (fun _ => tk_b rfl)))))))) (fun (x2 : Int) (x8 : (Int × (List Int))) g h => (SR.conv (E' := fun (p : (Int × (List Int))) => PyData.int p.1) (κ' := (fun (p : (Int × (List Int))) => [kBr ((p.2).map PyData.int), kSh (eTx a_letters), kSh (PyData.int a_least), kSh (PyData.int a_most), kFr])) (f := fun (v : Int) => (v, x8.2)) (SR_ofB h (lb_add _ _)) (fun _ => rfl) (fun _ _ h => h))))) (fun _ => (fre_c rfl fr_f fre_n)) (fun (s11 : (List Int)) (y10 : Int) => (tg_nm rfl nb_f)) (fun (s11 : (List Int)) (y10 : Int) g h => (SR_call (SR_aByr h (ln_b rfl) (SR_aSh (SR_u (SR_pv (E := eTx) (a := a_letters) h (pk_s rfl)) (fun (x12 : Tx) g h => (SR_ofBf h (lb_lstTx _)))) (fun (x13 : (List Ch)) g h => (SR_aNil (SR_endB (κ := (fun (p : (Ch × (List Int))) => [kBr ((p.2).map PyData.int), kSh (eTx a_letters), kSh (PyData.int a_least), kSh (PyData.int a_most), kSh (PyData.int y10)])) (ds := [(eL eCh) x13]) (B := fun (p : (Ch × (List Int))) => p.2.map PyData.int) h (ln_b rfl) rfl (sim_law_pick eCh s11 x13) (fun _ => tk_b rfl)))))))) (fun _ _ => imp_top rfl) (fun _ _ _ _ h h2 => backM_fit h h2 rfl (own_c rfl own_n)) (fun _ _ h => h))) (fun (x1 : Tx) (x14 : ((List Ch) × (List Int))) g h => (SR.conv (E' := fun (p : (Tx × (List Int))) => eTx p.1) (κ' := (fun (p : (Tx × (List Int))) => [kBr ((p.2).map PyData.int), kSh (eTx a_letters), kSh (PyData.int a_least), kSh (PyData.int a_most), kFr])) (f := fun (v : Tx) => (v, x14.2)) (SR_ofO h (lo_joinC _ _)) (fun _ => rfl) (fun _ _ h => h)))) (fun (x15 : (Tx × (List Int))) g r h hr => qt_ret h (lent_t (lent_f (lent_f (lent_f lent_n)))) hr))

def T_law_g_lexicon (a_dice : (List Int)) (a_letters : Tx) (a_least : Int) (a_most : Int) (a_many : Int) : R ((List Tx) × (List Int)) := R.noex (R.bind (R.bind (R.bind (R.bind (R.bind (R.bind (R.ok (1)) fun (x1 : Int) => R.bind (R.bind (R.ok a_many) fun (x2 : Int) => (R.noex (T_law_roll a_dice x2))) fun (x3 : (Int × (List Int))) => (R.bind (R.ok (x1 + x3.1)) fun v => R.ok (v, x3.2))) fun (b : (Int × (List Int))) => R.bind (rngR 0 b.1) fun xs => R.ok (xs, b.2)) fun (b4 : (List Int) × (List Int)) => compM b4.1 b4.2 (fun (y5 : Int) (s6 : (List Int)) => (R.bind (R.ok a_letters) fun (x7 : Tx) => (R.bind (R.ok a_least) fun (x8 : Int) => (R.bind (R.ok a_most) fun (x9 : Int) => (R.noex (T_law_g_word s6 x7 x8 x9))))))) fun (x10 : ((List Tx) × (List Int))) => (R.bind (setSortR ltTx x10.1) fun v => R.ok (v, x10.2))) fun (x11 : ((List Tx) × (List Int))) => (R.bind (R.ok x11.1) fun v => R.ok (v, x11.2))) fun (v : ((List Tx) × (List Int))) => R.ok v)
theorem sim_law_g_lexicon (a_dice : (List Int)) (a_letters : Tx) (a_least : Int) (a_most : Int) (a_many : Int) : SFn .o (f_law_g_lexicon [.by (.lst (a_dice.map PyData.int)), .sh (eTx a_letters), .sh (PyData.int a_least), .sh (PyData.int a_most), .sh (PyData.int a_many)]) (T_law_g_lexicon a_dice a_letters a_least a_most a_many) (fun (p : ((List Tx) × (List Int))) => (eT eTx) p.1) (fun (p : ((List Tx) × (List Int))) => [.lst (p.2.map PyData.int)]) := by
  unfold T_law_g_lexicon
  have h : Fit [kBr ((a_dice).map PyData.int), kSh (eTx a_letters), kSh (PyData.int a_least), kSh (PyData.int a_most), kSh (PyData.int a_many), kFr] [.br (.lst (a_dice.map PyData.int)), .sh (eTx a_letters), .sh (PyData.int a_least), .sh (PyData.int a_most), .sh (PyData.int a_many), .un] := ⟨rfl, ⟨rfl, ⟨rfl, ⟨rfl, ⟨rfl, ⟨.inl rfl, trivial⟩⟩⟩⟩⟩⟩
  exact SFn_ofL (n := 6) (brf := [true, false, false, false, false]) (r := m_law_g_lexicon [.br (.lst (a_dice.map PyData.int)), .sh (eTx a_letters), .sh (PyData.int a_least), .sh (PyData.int a_most), .sh (PyData.int a_many), .un]) (SG_ret (v := fun (v : ((List Tx) × (List Int))) => v) (SR_u (SR_u (SR_compM (E' := eTx) (X := fun (b4 : (List Int) × (List Int)) => b4.1) (S := fun (b4 : (List Int) × (List Int)) => b4.2) (κ₁ := fun (s6 : (List Int)) => [kBr ((s6).map PyData.int), kSh (eTx a_letters), kSh (PyData.int a_least), kSh (PyData.int a_most), kSh (PyData.int a_many), kFr]) (κr := (fun (r : (List Tx) × (List Int)) => [kBr ((r.2).map PyData.int), kSh (eTx a_letters), kSh (PyData.int a_least), kSh (PyData.int a_most), kSh (PyData.int a_many), kFr])) (κt := fun (s6 : (List Int)) (y5 : Int) => [kBr ((s6).map PyData.int), kSh (eTx a_letters), kSh (PyData.int a_least), kSh (PyData.int a_most), kSh (PyData.int a_many), kSh (PyData.int y5)]) (SI_rngM (κ := (fun (d : (List Int)) => [kBr ((d).map PyData.int), kSh (eTx a_letters), kSh (PyData.int a_least), kSh (PyData.int a_most), kSh (PyData.int a_many), kFr])) (SR_bin (SR_cst (E := PyData.int) (a := (1)) h rfl) (fun (x1 : Int) g h => (SR_call (SR_aByr h (ln_b rfl) (SR_aSh (SR_var (E := PyData.int) (a := a_many) h rfl) (fun (x2 : Int) g h => (SR_aNil (SR_endB (κ := (fun (p : (Int × (List Int))) => [kBr ((p.2).map PyData.int), kSh (eTx a_letters), kSh (PyData.int a_least), kSh (PyData.int a_most), kSh (PyData.int a_many), kFr])) (ds := [PyData.int x2]) (B := fun (p : (Int × (List Int))) => p.2.map PyData.int) h (ln_b rfl) rfl (sim_law_roll a_dice x2) (fun _ => tk_b rfl)))))))) (fun (x1 : Int) (x3 : (Int × (List Int))) g h => (SR.conv (E' := fun (p : (Int × (List Int))) => PyData.int p.1) (κ' := (fun (p : (Int × (List Int))) => [kBr ((p.2).map PyData.int), kSh (eTx a_letters), kSh (PyData.int a_least), kSh (PyData.int a_most), kSh (PyData.int a_many), kFr])) (f := fun (v : Int) => (v, x3.2)) (SR_ofB h (lb_add _ _)) (fun _ => rfl) (fun _ _ h => h))))) (fun _ => (fre_c rfl fr_f fre_n)) (fun (s6 : (List Int)) (y5 : Int) => (tg_nm rfl nb_f)) (fun (s6 : (List Int)) (y5 : Int) g h => (SR_call (SR_aByr h (ln_b rfl) (SR_aSh (SR_var (E := eTx) (a := a_letters) h rfl) (fun (x7 : Tx) g h => (SR_aSh (SR_var (E := PyData.int) (a := a_least) h rfl) (fun (x8 : Int) g h => (SR_aSh (SR_var (E := PyData.int) (a := a_most) h rfl) (fun (x9 : Int) g h => (SR_aNil (SR_endB (κ := (fun (p : (Tx × (List Int))) => [kBr ((p.2).map PyData.int), kSh (eTx a_letters), kSh (PyData.int a_least), kSh (PyData.int a_most), kSh (PyData.int a_many), kSh (PyData.int y5)])) (ds := [eTx x7, PyData.int x8, PyData.int x9]) (B := fun (p : (Tx × (List Int))) => p.2.map PyData.int) h (ln_b rfl) rfl (sim_law_g_word s6 x7 x8 x9) (fun _ => tk_b rfl)))))))))))) (fun _ _ => imp_top rfl) (fun _ _ _ _ h h2 => backM_fit h h2 rfl (own_c rfl own_n)) (fun _ _ h => h)) (fun (x10 : ((List Tx) × (List Int))) g h => (SR.conv (E' := fun (p : ((List Tx) × (List Int))) => (eL eTx) p.1) (κ' := (fun (p : ((List Tx) × (List Int))) => [kBr ((p.2).map PyData.int), kSh (eTx a_letters), kSh (PyData.int a_least), kSh (PyData.int a_most), kSh (PyData.int a_many), kFr])) (f := fun (v : (List Tx)) => (v, x10.2)) (SR_ofBf h (lb_setSort qTx sTx fTx _)) (fun _ => rfl) (fun _ _ h => h)))) (fun (x11 : ((List Tx) × (List Int))) g h => (SR.conv (E' := fun (p : ((List Tx) × (List Int))) => (eT eTx) p.1) (κ' := (fun (p : ((List Tx) × (List Int))) => [kBr ((p.2).map PyData.int), kSh (eTx a_letters), kSh (PyData.int a_least), kSh (PyData.int a_most), kSh (PyData.int a_many), kFr])) (f := fun (v : (List Tx)) => (v, x11.2)) (SR_ofB h (lb_tupL _)) (fun _ => rfl) (fun _ _ h => h)))) (fun (x12 : ((List Tx) × (List Int))) g r h hr => qt_ret h (lent_t (lent_f (lent_f (lent_f (lent_f lent_n))))) hr))

def T_law_g_wrong (a_dice : (List Int)) : R (PyData × (List Int)) := R.noex (R.bind (R.bind (R.bind (R.bind (R.ok ()) fun v => R.ok (eN v)) fun (x1 : PyData) => (R.bind (R.bind (R.ok ([] : (List PyData))) fun v => R.ok ((eT eAny) v)) fun (x2 : PyData) => (R.bind (R.bind (R.bind (R.ok ([97, 98] : Tx)) fun (x3 : Tx) => (R.ok ([x3] : (List Tx)))) fun v => R.ok ((eL eTx) v)) fun (x4 : PyData) => (R.bind (R.bind (R.bind (R.ok ([98] : Tx)) fun (x5 : Tx) => (R.ok ([x5] : (List Tx)))) fun v => R.ok ((eT eTx) v)) fun (x6 : PyData) => (R.bind (R.bind (R.bind (R.ok ([97, 98] : Tx)) fun (x7 : Tx) => (R.bind (R.ok ([97, 97] : Tx)) fun (x8 : Tx) => (R.ok (x7, x8)))) fun v => R.ok ((eP2 eTx eTx) v)) fun (x9 : PyData) => (R.bind (R.bind (R.bind (R.ok ([97, 98] : Tx)) fun (x10 : Tx) => (R.bind (R.ok ([97, 98] : Tx)) fun (x11 : Tx) => (R.ok (x10, x11)))) fun v => R.ok ((eP2 eTx eTx) v)) fun (x12 : PyData) => (R.bind (R.bind (R.bind (R.ok ([65, 98] : Tx)) fun (x13 : Tx) => (R.ok ([x13] : (List Tx)))) fun v => R.ok ((eT eTx) v)) fun (x14 : PyData) => (R.bind (R.bind (R.bind (R.ok ([97, 98, 99, 100, 101, 102, 103, 104, 105, 106] : Tx)) fun (x15 : Tx) => (R.ok ([x15] : (List Tx)))) fun v => R.ok ((eT eTx) v)) fun (x16 : PyData) => (R.bind (R.bind (R.bind (R.ok (1)) fun (x17 : Int) => (R.ok ([x17] : (List Int)))) fun v => R.ok ((eT PyData.int) v)) fun (x18 : PyData) => (R.bind (R.bind (R.ok ([97, 98] : Tx)) fun v => R.ok (eTx v)) fun (x19 : PyData) => (R.ok ([x1, x2, x4, x6, x9, x12, x14, x16, x18, x19] : (List PyData))))))))))))) fun (x20 : (List PyData)) => (R.noex (T_law_pick a_dice x20))) fun (v : (PyData × (List Int))) => R.ok v)
theorem sim_law_g_wrong (a_dice : (List Int)) : SFn .o (f_law_g_wrong [.by (.lst (a_dice.map PyData.int))]) (T_law_g_wrong a_dice) (fun (p : (PyData × (List Int))) => eAny p.1) (fun (p : (PyData × (List Int))) => [.lst (p.2.map PyData.int)]) := by
  unfold T_law_g_wrong
  have h : Fit [kBr ((a_dice).map PyData.int)] [.br (.lst (a_dice.map PyData.int))] := ⟨rfl, trivial⟩
  exact SFn_ofL (n := 1) (brf := [true]) (r := m_law_g_wrong [.br (.lst (a_dice.map PyData.int))]) (SG_ret (v := fun (v : (PyData × (List Int))) => v) (SR_call (SR_aByr h (ln_b rfl) (SR_aSh (SR_lst (SR_cons (SR.conv (E' := eAny) (f := fun (v : Unit) => (eN v : PyData)) (SR_cst (E := eN) (a := ()) h rfl) (fun _ => rfl) (fun _ _ h => h)) (fun (x1 : PyData) g h => (SR_cons (SR.conv (E' := eAny) (f := fun (v : (List PyData)) => ((eT eAny) v : PyData)) (SR_tup (SR_nil (SR_endT (E := (eT eAny)) (κ := fun (_ : (List PyData)) => [kBr ((a_dice).map PyData.int)]) (a := ([] : (List PyData))) h rfl (Nat.le_of_ble_eq_true rfl)))) (fun _ => rfl) (fun _ _ h => h)) (fun (x2 : PyData) g h => (SR_cons (SR.conv (E' := eAny) (f := fun (v : (List Tx)) => ((eL eTx) v : PyData)) (SR_lst (SR_cons (SR_cst (E := eTx) (a := ([97, 98] : Tx)) h cs_4) (fun (x3 : Tx) g h => (SR_nil (SR_endL (E := (eL eTx)) (κ := fun (_ : (List Tx)) => [kBr ((a_dice).map PyData.int)]) (a := ([x3] : (List Tx))) h rfl (Nat.le_of_ble_eq_true rfl)))))) (fun _ => rfl) (fun _ _ h => h)) (fun (x4 : PyData) g h => (SR_cons (SR.conv (E' := eAny) (f := fun (v : (List Tx)) => ((eT eTx) v : PyData)) (SR_tup (SR_cons (SR_cst (E := eTx) (a := ([98] : Tx)) h cs_5) (fun (x5 : Tx) g h => (SR_nil (SR_endT (E := (eT eTx)) (κ := fun (_ : (List Tx)) => [kBr ((a_dice).map PyData.int)]) (a := ([x5] : (List Tx))) h rfl (Nat.le_of_ble_eq_true rfl)))))) (fun _ => rfl) (fun _ _ h => h)) (fun (x6 : PyData) g h => (SR_cons (SR.conv (E' := eAny) (f := fun (v : (Tx × Tx)) => ((eP2 eTx eTx) v : PyData)) (SR_tup (SR_cons (SR_cst (E := eTx) (a := ([97, 98] : Tx)) h cs_4) (fun (x7 : Tx) g h => (SR_cons (SR_cst (E := eTx) (a := ([97, 97] : Tx)) h cs_6) (fun (x8 : Tx) g h => (SR_nil (SR_endT (E := (eP2 eTx eTx)) (κ := fun (_ : (Tx × Tx)) => [kBr ((a_dice).map PyData.int)]) (a := (x7, x8)) h rfl (Nat.le_of_ble_eq_true rfl)))))))) (fun _ => rfl) (fun _ _ h => h)) (fun (x9 : PyData) g h => (SR_cons (SR.conv (E' := eAny) (f := fun (v : (Tx × Tx)) => ((eP2 eTx eTx) v : PyData)) (SR_tup (SR_cons (SR_cst (E := eTx) (a := ([97, 98] : Tx)) h cs_4) (fun (x10 : Tx) g h => (SR_cons (SR_cst (E := eTx) (a := ([97, 98] : Tx)) h cs_4) (fun (x11 : Tx) g h => (SR_nil (SR_endT (E := (eP2 eTx eTx)) (κ := fun (_ : (Tx × Tx)) => [kBr ((a_dice).map PyData.int)]) (a := (x10, x11)) h rfl (Nat.le_of_ble_eq_true rfl)))))))) (fun _ => rfl) (fun _ _ h => h)) (fun (x12 : PyData) g h => (SR_cons (SR.conv (E' := eAny) (f := fun (v : (List Tx)) => ((eT eTx) v : PyData)) (SR_tup (SR_cons (SR_cst (E := eTx) (a := ([65, 98] : Tx)) h cs_7) (fun (x13 : Tx) g h => (SR_nil (SR_endT (E := (eT eTx)) (κ := fun (_ : (List Tx)) => [kBr ((a_dice).map PyData.int)]) (a := ([x13] : (List Tx))) h rfl (Nat.le_of_ble_eq_true rfl)))))) (fun _ => rfl) (fun _ _ h => h)) (fun (x14 : PyData) g h => (SR_cons (SR.conv (E' := eAny) (f := fun (v : (List Tx)) => ((eT eTx) v : PyData)) (SR_tup (SR_cons (SR_cst (E := eTx) (a := ([97, 98, 99, 100, 101, 102, 103, 104, 105, 106] : Tx)) h cs_8) (fun (x15 : Tx) g h => (SR_nil (SR_endT (E := (eT eTx)) (κ := fun (_ : (List Tx)) => [kBr ((a_dice).map PyData.int)]) (a := ([x15] : (List Tx))) h rfl (Nat.le_of_ble_eq_true rfl)))))) (fun _ => rfl) (fun _ _ h => h)) (fun (x16 : PyData) g h => (SR_cons (SR.conv (E' := eAny) (f := fun (v : (List Int)) => ((eT PyData.int) v : PyData)) (SR_tup (SR_cons (SR_cst (E := PyData.int) (a := (1)) h rfl) (fun (x17 : Int) g h => (SR_nil (SR_endT (E := (eT PyData.int)) (κ := fun (_ : (List Int)) => [kBr ((a_dice).map PyData.int)]) (a := ([x17] : (List Int))) h rfl (Nat.le_of_ble_eq_true rfl)))))) (fun _ => rfl) (fun _ _ h => h)) (fun (x18 : PyData) g h => (SR_cons (SR.conv (E' := eAny) (f := fun (v : Tx) => (eTx v : PyData)) (SR_cst (E := eTx) (a := ([97, 98] : Tx)) h cs_4) (fun _ => rfl) (fun _ _ h => h)) (fun (x19 : PyData) g h => (SR_nil (SR_endL (E := (eL eAny)) (κ := fun (_ : (List PyData)) => [kBr ((a_dice).map PyData.int)]) (a := ([x1, x2, x4, x6, x9, x12, x14, x16, x18, x19] : (List PyData))) h rfl (Nat.le_of_ble_eq_true rfl)))))))))))))))))))))))) (fun (x20 : (List PyData)) g h => (SR_aNil (SR_endB (κ := (fun (p : (PyData × (List Int))) => [kBr ((p.2).map PyData.int)])) (ds := [(eL eAny) x20]) (B := fun (p : (PyData × (List Int))) => p.2.map PyData.int) h (ln_b rfl) rfl (sim_law_pick eAny a_dice x20) (fun _ => tk_b rfl))))))) (fun (x21 : (PyData × (List Int))) g r h hr => qt_ret h (lent_t lent_n) hr))

def T_law_columns (a_rows : (List Tx)) : R ((List Tx)) := (R.bind (R.bind (R.bind (R.bind (R.bind (idxR a_rows (0)) fun (x1 : Tx) => (lenTx x1)) fun b => rngR 0 b) fun (b2 : List Int) => compR b2 (fun (y3 : Int) => (R.ok true)) (fun (y3 : Int) => (R.bind (R.ok ([] : Tx)) fun (x5 : Tx) => R.bind (R.bind (R.ok a_rows) fun (b6 : List Tx) => compR b6 (fun (y7 : Tx) => (R.ok true)) (fun (y7 : Tx) => (R.bind (R.ok y3) fun (x9 : Int) => (idxTx y7 x9)))) fun (x10 : (List Ch)) => (joinC x5 x10)))) fun (x11 : (List Tx)) => (R.ok x11)) fun (v : (List Tx)) => R.ok v)
theorem sim_law_columns (a_rows : (List Tx)) : SFn .o (f_law_columns [.sh ((eT eTx) a_rows)]) (T_law_columns a_rows) (eT eTx) (fun _ => []) := by
  unfold T_law_columns
  have h : Fit [kSh ((eT eTx) a_rows), kFr, kFr] [.sh ((eT eTx) a_rows), .un, .un] := ⟨rfl, ⟨.inl rfl, ⟨.inl rfl, trivial⟩⟩⟩
  exact SFn_of (n := 3) (brf := [false]) (r := m_law_columns [.sh ((eT eTx) a_rows), .un, .un]) (SG_ret (v := fun (v : (List Tx)) => v) (SR_u (SR_comp (X := fun (b : List Int) => b) (κ₁ := fun _ => [kSh ((eT eTx) a_rows), kFr, kFr]) (κr := fun _ => [kSh ((eT eTx) a_rows), kFr, kFr]) (κt := fun _ (y3 : Int) => [kSh ((eT eTx) a_rows), kSh (PyData.int y3), kFr]) (SI_rng (SR_u (SR_idxVc (E := eTx) h (pk_s rfl) (lo_idxT a_rows (0))) (fun (x1 : Tx) g h => (SR_ofB h (lb_lenTx _))))) (fun _ => (fre_c rfl fr_f fre_n)) (fun _ (y3 : Int) => (tg_nm rfl nb_f)) (fun _ (y3 : Int) g h => (SR_cst (E := PyData.bool) (a := true) h rfl)) (fun _ (y3 : Int) g h => (SR_m2 (z := toS) (SR_cst (E := eTx) (a := ([] : Tx)) h cs_1) (fun (x5 : Tx) g h => (SR_comp (X := fun (b : List Tx) => b) (κ₁ := fun _ => [kSh ((eT eTx) a_rows), kSh (PyData.int y3), kFr]) (κr := fun _ => [kSh ((eT eTx) a_rows), kSh (PyData.int y3), kFr]) (κt := fun _ (y7 : Tx) => [kSh ((eT eTx) a_rows), kSh (PyData.int y3), kSh (eTx y7)]) (SI_seq (F := fun xs => xs.map eTx) (SR_var (E := (eT eTx)) (a := a_rows) h rfl) (fun _ => rfl)) (fun _ => (fre_c rfl fr_f fre_n)) (fun _ (y7 : Tx) => (tg_nm rfl nb_f)) (fun _ (y7 : Tx) g h => (SR_cst (E := PyData.bool) (a := true) h rfl)) (fun _ (y7 : Tx) g h => (SR_bindV h (pk_s rfl) (SR_var (E := PyData.int) (a := y3) h rfl) (fun _ => pk_s rfl) (fun (x9 : Int) g h => (SR_ofO (E := eCh) h (lo_idxTx y7 x9))))) (fun _ _ => imp_top rfl) (fun _ _ _ h => h))) (fun (x5 : Tx) (x10 : (List Ch)) g h => (SR_ofO h (lo_joinC _ _))))) (fun _ _ => imp_top rfl) (fun _ _ _ h => h)) (fun (x11 : (List Tx)) g h => (SR_ofB h (lb_tupL _)))) (fun (x12 : (List Tx)) g r h hr => qt_ret h (lent_f lent_n) hr)) rfl (Nat.le_of_ble_eq_true rfl)

def T_law_tuples (a_words : (List Tx)) (a_length : Int) : R ((List (List Tx))) := (R.bind (R.bind (R.ok ([] : (List Tx))) fun (x1 : (List Tx)) => (R.ok ([x1] : (List (List Tx))))) fun (x2 : (List (List Tx))) => (R.bind (R.bind (R.bind (R.ok a_length) fun b => rngR 0 b) fun (b3 : (List Int)) => forR b3 (x2) (fun (y5 : Int) (s4 : ((List (List Tx)))) => (R.bind (R.ok ([] : (List (List Tx)))) fun (x55 : (List (List Tx))) => (R.bind (R.bind (R.ok s4) fun (b56 : (List (List Tx))) => forR b56 (x55) (fun (y58 : (List Tx)) (s57 : ((List (List Tx)))) => (R.bind (R.bind (R.ok s57) fun (x69 : (List (List Tx))) => R.bind (R.bind (R.ok a_words) fun (b70 : List Tx) => compR b70 (fun (y71 : Tx) => (R.ok true)) (fun (y71 : Tx) => (R.bind (R.ok y58) fun (x73 : (List Tx)) => R.bind (R.bind (R.ok y71) fun (x74 : Tx) => (R.ok ([x74] : (List Tx)))) fun (x75 : (List Tx)) => (szR (x73 ++ x75))))) fun (x76 : (List (List Tx))) => (szR (x69 ++ x76))) fun (x77 : (List (List Tx))) => (R.ok (x77))))) fun (s68 : ((List (List Tx)))) => (R.bind (R.ok s68) fun (x78 : (List (List Tx))) => (R.ok (x78))))))) fun (s54 : ((List (List Tx)))) => (R.bind (R.ok s54) fun (v : (List (List Tx))) => R.ok v)))
theorem sim_law_tuples (a_words : (List Tx)) (a_length : Int) : SFn .o (f_law_tuples [.sh ((eL eTx) a_words), .sh (PyData.int a_length)]) (T_law_tuples a_words a_length) (eL (eT eTx)) (fun _ => []) := by
  unfold T_law_tuples
  have h : Fit [kSh ((eL eTx) a_words), kSh (PyData.int a_length), kFr, kFr, kFr, kFr, kFr] [.sh ((eL eTx) a_words), .sh (PyData.int a_length), .un, .un, .un, .un, .un] := ⟨rfl, ⟨rfl, ⟨.inl rfl, ⟨.inl rfl, ⟨.inl rfl, ⟨.inl rfl, ⟨.inl rfl, trivial⟩⟩⟩⟩⟩⟩⟩
  exact SFn_of (n := 7) (brf := [false, false]) (r := m_law_tuples [.sh ((eL eTx) a_words), .sh (PyData.int a_length), .un, .un, .un, .un, .un]) (SG_asgf (X := fun (x2 : (List (List Tx))) => (x2).map (eT eTx)) (SR_lst (SR_cons (SR_tup (SR_nil (SR_endT (E := (eT eTx)) (κ := fun (_ : (List Tx)) => [kSh ((eL eTx) a_words), kSh (PyData.int a_length), kFr, kFr, kFr, kFr, kFr]) (a := ([] : (List Tx))) h rfl (Nat.le_of_ble_eq_true rfl)))) (fun (x1 : (List Tx)) g h => (SR_nil (SR_endL (E := (eL (eT eTx))) (κ := fun (_ : (List (List Tx))) => [kSh ((eL eTx) a_words), kSh (PyData.int a_length), kFr, kFr, kFr, kFr, kFr]) (a := ([x1] : (List (List Tx)))) h rfl (Nat.le_of_ble_eq_true rfl)))))) (fun _ => ⟨_, rfl, nb_f⟩) (fun (x2 : (List (List Tx))) g (h : Fit [kSh ((eL eTx) a_words), kSh (PyData.int a_length), kOw ((x2).map (eT eTx)), kFr, kFr, kFr, kFr] g) => (SG_seq (P := fun (s : ((List (List Tx)))) => [kSh ((eL eTx) a_words), kSh (PyData.int a_length), kAn ((eL (eT eTx)) s), kFr, kFr, kFr, kFr]) (SG_for (X := fun (b3 : (List Int)) => b3) (s0 := fun (b3 : (List Int)) => (x2)) (P := fun (s : ((List (List Tx)))) => [kSh ((eL eTx) a_words), kSh (PyData.int a_length), kAn ((eL (eT eTx)) s), kFr, kFr, kFr, kFr]) (P1 := fun (y5 : Int) (s4 : ((List (List Tx)))) => [kSh ((eL eTx) a_words), kSh (PyData.int a_length), kAn ((eL (eT eTx)) s4), kSh (PyData.int y5), kFr, kFr, kFr]) (SI_rng (SR_var (E := PyData.int) (a := a_length) h rfl)) (fun (b3 : (List Int)) g h => h.imp (imp_c i_id (imp_c i_id (imp_c i_oa (imp_c i_id (imp_c i_id (imp_c i_id (imp_c i_id imp_n)))))))) (fun (y5 : Int) (s4 : ((List (List Tx)))) => (tg_nm rfl nb_f)) (fun (y5 : Int) (s4 : ((List (List Tx)))) g (h : Fit [kSh ((eL eTx) a_words), kSh (PyData.int a_length), kAn ((eL (eT eTx)) s4), kSh (PyData.int y5), kFr, kFr, kFr] g) => (SG_asgf (X := fun (x55 : (List (List Tx))) => (x55).map (eT eTx)) (SR_lst (SR_nil (SR_endL (E := (eL (eT eTx))) (κ := fun (_ : (List (List Tx))) => [kSh ((eL eTx) a_words), kSh (PyData.int a_length), kAn ((eL (eT eTx)) s4), kSh (PyData.int y5), kFr, kFr, kFr]) (a := ([] : (List (List Tx)))) h rfl (Nat.le_of_ble_eq_true rfl)))) (fun _ => ⟨_, rfl, nb_f⟩) (fun (x55 : (List (List Tx))) g (h : Fit [kSh ((eL eTx) a_words), kSh (PyData.int a_length), kAn ((eL (eT eTx)) s4), kSh (PyData.int y5), kOw ((x55).map (eT eTx)), kFr, kFr] g) => (SG_frzs h (frz_c (fz_a rfl) frz_n) (fun g (h : Fit [kSh ((eL eTx) a_words), kSh (PyData.int a_length), kSh ((eL (eT eTx)) s4), kSh (PyData.int y5), kOw ((x55).map (eT eTx)), kFr, kFr] g) => (SG_seq (P := fun (s : ((List (List Tx)))) => [kSh ((eL eTx) a_words), kSh (PyData.int a_length), kSh ((eL (eT eTx)) s4), kSh (PyData.int y5), kOw ((s).map (eT eTx)), kFr, kFr]) (SG_for (X := fun (b56 : (List (List Tx))) => b56) (s0 := fun (b56 : (List (List Tx))) => (x55)) (P := fun (s : ((List (List Tx)))) => [kSh ((eL eTx) a_words), kSh (PyData.int a_length), kSh ((eL (eT eTx)) s4), kSh (PyData.int y5), kOw ((s).map (eT eTx)), kFr, kFr]) (P1 := fun (y58 : (List Tx)) (s57 : ((List (List Tx)))) => [kSh ((eL eTx) a_words), kSh (PyData.int a_length), kSh ((eL (eT eTx)) s4), kSh (PyData.int y5), kOw ((s57).map (eT eTx)), kSh ((eT eTx) y58), kFr]) (SI_seq (F := fun xs => xs.map (eT eTx)) (SR_var (E := (eL (eT eTx))) (a := s4) h rfl) (fun _ => rfl)) (fun (b56 : (List (List Tx))) g h => h.imp (imp_c i_id (imp_c i_id (imp_c i_id (imp_c i_id (imp_c i_id (imp_c i_id (imp_c i_id imp_n)))))))) (fun (y58 : (List Tx)) (s57 : ((List (List Tx)))) => (tg_nm rfl nb_f)) (fun (y58 : (List Tx)) (s57 : ((List (List Tx)))) g (h : Fit [kSh ((eL eTx) a_words), kSh (PyData.int a_length), kSh ((eL (eT eTx)) s4), kSh (PyData.int y5), kOw ((s57).map (eT eTx)), kSh ((eT eTx) y58), kFr] g) => (SG_last (SG_frzs h (frz_c (fz_o rfl) frz_n) (fun g (h : Fit [kSh ((eL eTx) a_words), kSh (PyData.int a_length), kSh ((eL (eT eTx)) s4), kSh (PyData.int y5), kSh ((eL (eT eTx)) s57), kSh ((eT eTx) y58), kFr] g) => (SG_asgf (X := fun (x77 : (List (List Tx))) => (x77).map (eT eTx)) (SR_bin (SR_var (E := (eL (eT eTx))) (a := s57) h rfl) (fun (x69 : (List (List Tx))) g h => (SR_comp (X := fun (b : List Tx) => b) (κ₁ := fun _ => [kSh ((eL eTx) a_words), kSh (PyData.int a_length), kSh ((eL (eT eTx)) s4), kSh (PyData.int y5), kSh ((eL (eT eTx)) s57), kSh ((eT eTx) y58), kFr]) (κr := fun _ => [kSh ((eL eTx) a_words), kSh (PyData.int a_length), kSh ((eL (eT eTx)) s4), kSh (PyData.int y5), kSh ((eL (eT eTx)) s57), kSh ((eT eTx) y58), kFr]) (κt := fun _ (y71 : Tx) => [kSh ((eL eTx) a_words), kSh (PyData.int a_length), kSh ((eL (eT eTx)) s4), kSh (PyData.int y5), kSh ((eL (eT eTx)) s57), kSh ((eT eTx) y58), kSh (eTx y71)]) (SI_seq (F := fun xs => xs.map eTx) (SR_var (E := (eL eTx)) (a := a_words) h rfl) (fun _ => rfl)) (fun _ => (fre_c rfl fr_f fre_n)) (fun _ (y71 : Tx) => (tg_nm rfl nb_f)) (fun _ (y71 : Tx) g h => (SR_cst (E := PyData.bool) (a := true) h rfl)) (fun _ (y71 : Tx) g h => (SR_bin (SR_var (E := (eT eTx)) (a := y58) h rfl) (fun (x73 : (List Tx)) g h => (SR_tup (SR_cons (SR_var (E := eTx) (a := y71) h rfl) (fun (x74 : Tx) g h => (SR_nil (SR_endT (E := (eT eTx)) (κ := fun (_ : (List Tx)) => [kSh ((eL eTx) a_words), kSh (PyData.int a_length), kSh ((eL (eT eTx)) s4), kSh (PyData.int y5), kSh ((eL (eT eTx)) s57), kSh ((eT eTx) y58), kSh (eTx y71)]) (a := ([x74] : (List Tx))) h rfl (Nat.le_of_ble_eq_true rfl))))))) (fun (x73 : (List Tx)) (x75 : (List Tx)) g h => (SR_ofB h (lb_addT _ _))))) (fun _ _ => imp_top rfl) (fun _ _ _ h => h))) (fun (x69 : (List (List Tx))) (x76 : (List (List Tx))) g h => (SR_ofBf h (lb_addL _ _)))) (fun _ => ⟨_, rfl, nb_s⟩) (fun (x77 : (List (List Tx))) g (h : Fit [kSh ((eL eTx) a_words), kSh (PyData.int a_length), kSh ((eL (eT eTx)) s4), kSh (PyData.int y5), kOw ((x77).map (eT eTx)), kSh ((eT eTx) y58), kFr] g) => (SG_end (h.imp (imp_c i_id (imp_c i_id (imp_c i_id (imp_c i_id (imp_c i_id (imp_c i_sf (imp_c i_id imp_n)))))))))))))))) (fun (s68 : ((List (List Tx)))) g (h : Fit [kSh ((eL eTx) a_words), kSh (PyData.int a_length), kSh ((eL (eT eTx)) s4), kSh (PyData.int y5), kOw ((s68).map (eT eTx)), kFr, kFr] g) => (SG_last (SG_frzs h (frz_c (fz_o rfl) frz_n) (fun g (h : Fit [kSh ((eL eTx) a_words), kSh (PyData.int a_length), kSh ((eL (eT eTx)) s4), kSh (PyData.int y5), kSh ((eL (eT eTx)) s68), kFr, kFr] g) => (SG_asg (SR_var (E := (eL (eT eTx))) (a := s68) h rfl) (fun _ => ⟨_, rfl, nb_s⟩) (fun (x78 : (List (List Tx))) g (h : Fit [kSh ((eL eTx) a_words), kSh (PyData.int a_length), kSh ((eL (eT eTx)) x78), kSh (PyData.int y5), kSh ((eL (eT eTx)) s68), kFr, kFr] g) => (SG_end (h.imp (imp_c i_id (imp_c i_id (imp_c i_sa (imp_c i_sf (imp_c i_sf (imp_c i_id (imp_c i_id imp_n)))))))))))))))))))))) (fun (s54 : ((List (List Tx)))) g (h : Fit [kSh ((eL eTx) a_words), kSh (PyData.int a_length), kAn ((eL (eT eTx)) s54), kFr, kFr, kFr, kFr] g) => (SG_frz h (frz_c (fz_a rfl) frz_n) (fun g (h : Fit [kSh ((eL eTx) a_words), kSh (PyData.int a_length), kSh ((eL (eT eTx)) s54), kFr, kFr, kFr, kFr] g) => (SG_ret (v := fun (v : (List (List Tx))) => v) (SR_var (E := (eL (eT eTx))) (a := s54) h rfl) (fun (x79 : (List (List Tx))) g r h hr => qt_ret h (lent_f (lent_f lent_n)) hr)))))))) rfl (Nat.le_of_ble_eq_true rfl)

def T_law_is_square (a_lexicon : (List Tx)) (a_value : PyData) (a_is_double_v : Bool) : R (Bool) := (R.bind (R.bind (R.bind (R.bind (R.ok a_value) fun (x1 : PyData) => (R.ok (isA "tuple" x1))) fun x => R.ok (!x)) fun x => cond x (R.ok true) (R.bind (R.bind (R.bind (R.ok (2)) fun x3 => R.bind (R.bind (R.ok a_value) fun (x2 : PyData) => (lenA x2)) fun x4 => R.bind (R.ok (decide (x3 ≤ x4))) fun r6 => cond r6 (R.bind (R.ok (5)) fun x5 => (R.ok (decide (x4 ≤ x5)))) (R.ok false)) fun x => R.ok (!x)) fun x => cond x (R.ok true) (R.bind (R.bind (R.bind (R.bind (R.ok a_value) itA) fun (b7 : List PyData) => compR b7 (fun (y8 : PyData) => (R.bind (R.bind (R.bind (R.ok y8) fun (x10 : PyData) => (R.ok (isA "str" x10))) fun x => R.ok (!x)) fun x => cond x (R.ok true) (R.bind (R.bind (R.ok y8) fun (x11 : PyData) => (lenA x11)) fun (x12 : Int) => R.bind (R.bind (R.ok a_value) fun (x13 : PyData) => (lenA x13)) fun (x14 : Int) => (R.ok (!eqT x12 x14))))) (fun (y8 : PyData) => (R.ok y8))) fun v => R.ok ((eL eAny) v)) fun (x15 : PyData) => R.bind (R.bind (R.ok ([] : (List PyData))) fun v => R.ok ((eL eAny) v)) fun (x16 : PyData) => (R.ofOpt (cmpD .ne x15 x16))))) fun x17 => cond x17 (R.bind (R.ok false) fun (v : Bool) => R.ok v) (R.bind (R.bind (R.bind (R.ok a_value) fun d => R.ofOpt ((dT dTx) d)) fun (x19 : (List Tx)) => R.bind (R.bind (R.bind (R.ok a_value) fun d => R.ofOpt ((dT dTx) d)) fun (x20 : (List Tx)) => (T_law_columns x20)) fun (x21 : (List Tx)) => (szR (x19 ++ x21))) fun (x22 : (List Tx)) => (R.bind (R.bind (R.bind (R.ok x22) fun (b23 : List Tx) => compR b23 (fun (y24 : Tx) => (R.bind (R.ok a_lexicon) fun (x26 : (List Tx)) => (R.ok (!memT y24 x26)))) (fun (y24 : Tx) => (R.ok y24))) fun (x27 : (List Tx)) => R.bind (R.ok ([] : (List Tx))) fun (x28 : (List Tx)) => (R.ok (!eqT x27 x28))) fun x29 => cond x29 (R.bind (R.ok false) fun (v : Bool) => R.ok v) (R.bind (R.bind (R.ok a_is_double_v) fun (x31 : Bool) => cond x31 (R.bind (R.bind (R.ok x22) fun (x32 : (List Tx)) => (setLenR x32)) fun (x33 : Int) => R.bind (R.bind (R.ok x22) fun (x34 : (List Tx)) => (R.ok (Int.ofNat (List.length x34)))) fun (x35 : Int) => (R.ok (eqT x33 x35))) (R.bind (R.bind (R.bind (R.bind (R.ok a_value) fun d => R.ofOpt ((dT dTx) d)) fun (x36 : (List Tx)) => (T_law_columns x36)) fun v => R.ok ((eT eTx) v)) fun (x37 : PyData) => R.bind (R.ok a_value) fun (x38 : PyData) => (R.ofOpt (cmpD .eq x37 x38)))) fun (v : Bool) => R.ok v))))
theorem sim_law_is_square (a_lexicon : (List Tx)) (a_value : PyData) (a_is_double_v : Bool) : SFn .o (f_law_is_square [.sh ((eT eTx) a_lexicon), .sh (eAny a_value), .sh (PyData.bool a_is_double_v)]) (T_law_is_square a_lexicon a_value a_is_double_v) PyData.bool (fun _ => []) := by
  unfold T_law_is_square
  have h : Fit [kSh ((eT eTx) a_lexicon), kSh (eAny a_value), kSh (PyData.bool a_is_double_v), kFr, kFr] [.sh ((eT eTx) a_lexicon), .sh (eAny a_value), .sh (PyData.bool a_is_double_v), .un, .un] := ⟨rfl, ⟨rfl, ⟨rfl, ⟨.inl rfl, ⟨.inl rfl, trivial⟩⟩⟩⟩⟩
  exact SFn_of (n := 5) (brf := [false, false, false]) (r := m_law_is_square [.sh ((eT eTx) a_lexicon), .sh (eAny a_value), .sh (PyData.bool a_is_double_v), .un, .un]) (SG_ifr (SR_or (SR_not (SR_u (SR_pv (E := eAny) (a := a_value) h (pk_s rfl)) (fun (x1 : PyData) g h => (SR_ofB h (lb_isA isi_tuple _))))) fun g h => (SR_or (SR_not (SR_chn (SR_cst (E := PyData.int) (a := (2)) h rfl) (fun g h => (SR_u (SR_pv (E := eAny) (a := a_value) h (pk_s rfl)) (fun (x2 : PyData) g h => (SR_ofB h (lb_lenA _))))) (fun g h => (SR_cst (E := PyData.int) (a := (5)) h rfl)) (fun _ _ => lc_le _ _) (fun _ _ => lc_le _ _))) fun g h => (SR_cmp (SR.conv (E' := eAny) (f := fun (v : (List PyData)) => ((eL eAny) v : PyData)) (SR_comp (X := fun (b : List PyData) => b) (κ₁ := fun _ => [kSh ((eT eTx) a_lexicon), kSh (eAny a_value), kSh (PyData.bool a_is_double_v), kFr, kFr]) (κr := fun _ => [kSh ((eT eTx) a_lexicon), kSh (eAny a_value), kSh (PyData.bool a_is_double_v), kFr, kFr]) (κt := fun _ (y8 : PyData) => [kSh ((eT eTx) a_lexicon), kSh (eAny a_value), kSh (PyData.bool a_is_double_v), kFr, kSh (eAny y8)]) (SI_any (SR_var (E := eAny) (a := a_value) h rfl)) (fun _ => (fre_c rfl fr_f fre_n)) (fun _ (y8 : PyData) => (tg_nm rfl nb_f)) (fun _ (y8 : PyData) g h => (SR_or (SR_not (SR_u (SR_pv (E := eAny) (a := y8) h (pk_s rfl)) (fun (x10 : PyData) g h => (SR_ofB h (lb_isA isi_str _))))) fun g h => (SR_cmp (SR_u (SR_pv (E := eAny) (a := y8) h (pk_s rfl)) (fun (x11 : PyData) g h => (SR_ofB h (lb_lenA _)))) (fun (x12 : Int) g h => (SR_u (SR_pv (E := eAny) (a := a_value) h (pk_s rfl)) (fun (x13 : PyData) g h => (SR_ofB h (lb_lenA _))))) (fun (x12 : Int) (x14 : Int) g h => (SR_kCmp h (lc_ne qInt (by decide) _ _)))))) (fun _ (y8 : PyData) g h => (SR_var (E := eAny) (a := y8) h rfl)) (fun _ _ => imp_top rfl) (fun _ _ _ h => h)) (fun _ => rfl) (fun _ _ h => h)) (fun (x15 : PyData) g h => (SR.conv (E' := eAny) (f := fun (v : (List PyData)) => ((eL eAny) v : PyData)) (SR_lst (SR_nil (SR_endL (E := (eL eAny)) (κ := fun (_ : (List PyData)) => [kSh ((eT eTx) a_lexicon), kSh (eAny a_value), kSh (PyData.bool a_is_double_v), kFr, kFr]) (a := ([] : (List PyData))) h rfl (Nat.le_of_ble_eq_true rfl)))) (fun _ => rfl) (fun _ _ h => h))) (fun (x15 : PyData) (x16 : PyData) g h => (SR_kCmp h (lc_any .ne _ _)))))) (fun x17 g h => (SG.tn (SG_ret (v := fun (v : Bool) => v) (SR_cst (E := PyData.bool) (a := false) h rfl) (fun (x18 : Bool) g r h hr => qt_ret h (lent_f (lent_f (lent_f lent_n))) hr)))) (fun x17 g h => (SG_nops (SG_asg (SR_bin (SR.dec (SR_var (E := eAny) (a := a_value) h rfl) (dec_T dec_tx)) (fun (x19 : (List Tx)) g h => (SR_call (SR_aSh (SR.dec (SR_var (E := eAny) (a := a_value) h rfl) (dec_T dec_tx)) (fun (x20 : (List Tx)) g h => (SR_aNil (SR_endS (ks := [kSh ((eT eTx) a_lexicon), kSh (eAny a_value), kSh (PyData.bool a_is_double_v), kFr, kFr]) (ds := [(eT eTx) x20]) h rfl rfl (sim_law_columns x20))))))) (fun (x19 : (List Tx)) (x21 : (List Tx)) g h => (SR_ofB h (lb_addT _ _)))) (fun _ => ⟨_, rfl, nb_f⟩) (fun (x22 : (List Tx)) g (h : Fit [kSh ((eT eTx) a_lexicon), kSh (eAny a_value), kSh (PyData.bool a_is_double_v), kSh ((eT eTx) x22), kFr] g) => (SG_frzs h (frz_c (fz_k rfl no_s) frz_n) (fun g (h : Fit [kSh ((eT eTx) a_lexicon), kSh (eAny a_value), kSh (PyData.bool a_is_double_v), kSh ((eT eTx) x22), kFr] g) => (SG_ifr (SR_cmp (SR_comp (X := fun (b : List Tx) => b) (κ₁ := fun _ => [kSh ((eT eTx) a_lexicon), kSh (eAny a_value), kSh (PyData.bool a_is_double_v), kSh ((eT eTx) x22), kFr]) (κr := fun _ => [kSh ((eT eTx) a_lexicon), kSh (eAny a_value), kSh (PyData.bool a_is_double_v), kSh ((eT eTx) x22), kFr]) (κt := fun _ (y24 : Tx) => [kSh ((eT eTx) a_lexicon), kSh (eAny a_value), kSh (PyData.bool a_is_double_v), kSh ((eT eTx) x22), kSh (eTx y24)]) (SI_seq (F := fun xs => xs.map eTx) (SR_var (E := (eT eTx)) (a := x22) h rfl) (fun _ => rfl)) (fun _ => (fre_c rfl fr_f fre_n)) (fun _ (y24 : Tx) => (tg_nm rfl nb_f)) (fun _ (y24 : Tx) g h => (SR_bindV h (pk_s rfl) (SR_pv (E := (eT eTx)) (a := a_lexicon) h (pk_s rfl)) (fun _ => pk_s rfl) (fun (x26 : (List Tx)) g h => (SR_kCmp h (lc_ninT qTx (by decide) y24 _))))) (fun _ (y24 : Tx) g h => (SR_var (E := eTx) (a := y24) h rfl)) (fun _ _ => imp_top rfl) (fun _ _ _ h => h)) (fun (x27 : (List Tx)) g h => (SR_lst (SR_nil (SR_endL (E := (eL eTx)) (κ := fun (_ : (List Tx)) => [kSh ((eT eTx) a_lexicon), kSh (eAny a_value), kSh (PyData.bool a_is_double_v), kSh ((eT eTx) x22), kFr]) (a := ([] : (List Tx))) h rfl (Nat.le_of_ble_eq_true rfl))))) (fun (x27 : (List Tx)) (x28 : (List Tx)) g h => (SR_kCmp h (lc_ne (qL qTx) (by decide) _ _)))) (fun x29 g h => (SG.tn (SG_ret (v := fun (v : Bool) => v) (SR_cst (E := PyData.bool) (a := false) h rfl) (fun (x30 : Bool) g r h hr => qt_ret h (lent_f (lent_f (lent_f lent_n))) hr)))) (fun x29 g h => (SG_nops (SG_ret (v := fun (v : Bool) => v) (SR_if (SR_var (E := PyData.bool) (a := a_is_double_v) h rfl) (fun (x31 : Bool) g h => (SR_cmp (SR_u (SR_pv (E := (eT eTx)) (a := x22) h (pk_s rfl)) (fun (x32 : (List Tx)) g h => (SR_ofB h (lb_setLenT qTx fTx _)))) (fun (x33 : Int) g h => (SR_u (SR_pv (E := (eT eTx)) (a := x22) h (pk_s rfl)) (fun (x34 : (List Tx)) g h => (SR_ofB h (lb_lenT _))))) (fun (x33 : Int) (x35 : Int) g h => (SR_kCmp h (lc_eq qInt (by decide) _ _))))) (fun (x31 : Bool) g h => (SR_cmp (SR.conv (E' := eAny) (f := fun (v : (List Tx)) => ((eT eTx) v : PyData)) (SR_call (SR_aSh (SR.dec (SR_var (E := eAny) (a := a_value) h rfl) (dec_T dec_tx)) (fun (x36 : (List Tx)) g h => (SR_aNil (SR_endS (ks := [kSh ((eT eTx) a_lexicon), kSh (eAny a_value), kSh (PyData.bool a_is_double_v), kSh ((eT eTx) x22), kFr]) (ds := [(eT eTx) x36]) h rfl rfl (sim_law_columns x36)))))) (fun _ => rfl) (fun _ _ h => h)) (fun (x37 : PyData) g h => (SR_pv (E := eAny) (a := a_value) h (pk_s rfl))) (fun (x37 : PyData) (x38 : PyData) g h => (SR_kCmp h (lc_any .eq _ _)))))) (fun (x39 : Bool) g r h hr => qt_ret h (lent_f (lent_f (lent_f lent_n))) hr)))))))))))) rfl (Nat.le_of_ble_eq_true rfl)

def T_law_right (a_dice : (List Int)) : R (Bool × (List Int)) := R.noex (R.bind (R.bind (R.bind (R.ok (2)) fun (x1 : Int) => (R.bind (R.ok (2)) fun (x2 : Int) => (R.bind (R.ok (3)) fun (x3 : Int) => (R.bind (R.ok (3)) fun (x4 : Int) => (R.ok ([x1, x2, x3, x4] : (List Int))))))) fun (x5 : (List Int)) => (R.noex (T_law_pick a_dice x5))) fun (x6 : (Int × (List Int))) => (R.bind (R.bind (R.bind (R.ok ([97, 98] : Tx)) fun (x7 : Tx) => (R.bind (R.ok ([97, 98, 99] : Tx)) fun (x8 : Tx) => (R.bind (R.ok ([97, 98, 99, 100] : Tx)) fun (x9 : Tx) => (R.ok ([x7, x8, x9] : (List Tx)))))) fun (x10 : (List Tx)) => (R.noex (T_law_pick x6.2 x10))) fun (x11 : (Tx × (List Int))) => (R.bind (R.bind (R.ok x11.1) fun (x12 : Tx) => (R.bind (R.ok (2)) fun (x13 : Int) => (R.bind (R.ok (3)) fun (x14 : Int) => (R.bind (R.ok (11)) fun (x15 : Int) => (R.noex (T_law_g_lexicon x11.2 x12 x13 x14 x15)))))) fun (x16 : ((List Tx) × (List Int))) => (R.bind (R.bind (R.bind (R.ok x16.1) fun (b17 : List Tx) => compR b17 (fun (y18 : Tx) => (R.bind (R.bind (R.ok y18) fun (x20 : Tx) => (lenTx x20)) fun (x21 : Int) => R.bind (R.ok x6.1) fun (x22 : Int) => (R.ok (eqT x21 x22)))) (fun (y18 : Tx) => (R.ok y18))) fun (x23 : (List Tx)) => (R.bind (R.ok x6.1) fun (x24 : Int) => (T_law_tuples x23 x24))) fun (x25 : (List (List Tx))) => (R.bind (R.bind (R.ok x25) fun (b26 : List (List Tx)) => compR b26 (fun (y27 : (List Tx)) => (R.bind (R.ok x16.1) fun (x29 : (List Tx)) => (R.bind (R.bind (R.ok y27) fun v => R.ok ((eT eTx) v)) fun (x30 : PyData) => (R.bind (R.ok false) fun (x31 : Bool) => (T_law_is_square x29 x30 x31))))) (fun (y27 : (List Tx)) => (R.ok y27))) fun (x32 : (List (List Tx))) => R.bind (R.bind (R.ok x25) fun (b33 : List (List Tx)) => compR b33 (fun (y34 : (List Tx)) => (R.bind (R.ok x16.1) fun (x36 : (List Tx)) => (R.bind (R.bind (R.ok y34) fun v => R.ok ((eT eTx) v)) fun (x37 : PyData) => (R.bind (R.ok true) fun (x38 : Bool) => (T_law_is_square x36 x37 x38))))) (fun (y34 : (List Tx)) => (R.ok y34))) fun (x39 : (List (List Tx))) => (R.bind (R.bind (R.bind (R.bind (R.ok x16.1) fun (x40 : (List Tx)) => (R.bind (R.ok x6.1) fun (x41 : Int) => (T_word_squares x40 x41))) fun (x42 : (List (List Tx))) => R.bind (R.bind (R.bind (R.ok x32) fun (x43 : (List (List Tx))) => (sortR (ltLex ltTx) (fun t => !t.isEmpty) x43)) fun (x44 : (List (List Tx))) => (R.ok x44)) fun (x45 : (List (List Tx))) => (R.ok (!eqT x42 x45))) fun x => cond x (R.ok true) (R.bind (R.bind (R.ok x6.1) fun (x46 : Int) => (R.bind (R.ok x16.1) fun (x47 : (List Tx)) => (T_word_squares x47 x46))) fun (x48 : (List (List Tx))) => R.bind (R.bind (R.bind (R.ok x32) fun (x49 : (List (List Tx))) => (sortR (ltLex ltTx) (fun t => !t.isEmpty) x49)) fun (x50 : (List (List Tx))) => (R.ok x50)) fun (x51 : (List (List Tx))) => (R.ok (!eqT x48 x51)))) fun x52 => cond x52 (R.bind (R.bind (R.ok false) fun v => R.ok (v, x16.2)) fun (v : (Bool × (List Int))) => R.ok v) (R.bind (R.bind (R.bind (R.bind (R.ok x16.1) fun (x54 : (List Tx)) => (R.bind (R.ok x6.1) fun (x55 : Int) => (T_double_squares x54 x55))) fun (x56 : (List (List Tx))) => R.bind (R.bind (R.bind (R.bind (R.ok x39) fun (b57 : List (List Tx)) => compR b57 (fun (y58 : (List Tx)) => (R.bind (R.bind (R.ok y58) fun (x60 : (List Tx)) => (T_law_columns x60)) fun (x61 : (List Tx)) => (R.ok (ltLex ltTx y58 x61)))) (fun (y58 : (List Tx)) => (R.ok y58))) fun (x62 : (List (List Tx))) => (sortR (ltLex ltTx) (fun t => !t.isEmpty) x62)) fun (x63 : (List (List Tx))) => (R.ok x63)) fun (x64 : (List (List Tx))) => (R.ok (!eqT x56 x64))) fun x => cond x (R.ok true) (R.bind (R.bind (R.ok x6.1) fun (x65 : Int) => (R.bind (R.ok x16.1) fun (x66 : (List Tx)) => (T_double_squares x66 x65))) fun (x67 : (List (List Tx))) => R.bind (R.bind (R.ok x16.1) fun (x68 : (List Tx)) => (R.bind (R.ok x6.1) fun (x69 : Int) => (T_double_squares x68 x69))) fun (x70 : (List (List Tx))) => (R.ok (!eqT x67 x70)))) fun x71 => cond x71 (R.bind (R.bind (R.ok false) fun v => R.ok (v, x16.2)) fun (v : (Bool × (List Int))) => R.ok v) (onO (R.bind (R.bind (R.ok (6)) fun b => rngR 0 b) fun (b73 : (List Int)) => forO b73 (x16.2) (fun (y75 : Int) (s74 : ((List Int))) => (R.bind (R.bind (R.bind (R.bind (R.bind (R.ok x32) fun (x137 : (List (List Tx))) => R.bind (R.ok x39) fun (x138 : (List (List Tx))) => (szR (x137 ++ x138))) fun (x139 : (List (List Tx))) => R.bind (R.bind (R.ok x25) fun x140 => R.bind (R.ok none) fun l141 => R.bind (R.bind (R.noex (R.ok (5))) fun i => R.ok (some i)) fun u142 => (R.ok (cutD x140 l141 u142))) fun (x143 : (List (List Tx))) => (szR (x139 ++ x143))) fun (x144 : (List (List Tx))) => R.bind (R.bind (R.bind (R.ok ([97, 98] : Tx)) fun (x145 : Tx) => (R.bind (R.ok ([98, 97] : Tx)) fun (x146 : Tx) => (R.ok ([x145, x146] : (List Tx))))) fun (x147 : (List Tx)) => (R.ok ([x147] : (List (List Tx))))) fun (x148 : (List (List Tx))) => (szR (x144 ++ x148))) fun (x149 : (List (List Tx))) => (R.noex (T_law_pick s74 x149))) fun (x150 : ((List Tx) × (List Int))) => (R.bind (R.bind (R.bind (R.bind (R.ok x150.1) fun v => R.ok ((eT eTx) v)) fun (x151 : PyData) => (R.bind (R.bind (R.ok x150.1) fun v => R.ok ((eT eTx) v)) fun (x152 : PyData) => (R.bind (R.bind (R.bind (R.ok x150.1) fun x153 => R.ok (List.reverse x153)) fun v => R.ok ((eT eTx) v)) fun (x154 : PyData) => (R.bind (R.bind (R.bind (R.ok x150.1) fun (x155 : (List Tx)) => (T_law_columns x155)) fun v => R.ok ((eT eTx) v)) fun (x156 : PyData) => (R.bind (R.bind (R.bind (R.ok x150.1) fun (x157 : (List Tx)) => (R.ok x157)) fun v => R.ok ((eL eTx) v)) fun (x158 : PyData) => (R.bind (R.bind (R.ok ()) fun v => R.ok (eN v)) fun (x159 : PyData) => (R.bind (R.bind (R.bind (R.ok x150.1) fun x160 => R.bind (R.bind (R.noex (R.ok (1))) fun i => R.ok (some i)) fun l161 => R.bind (R.ok none) fun u162 => (R.ok (cutD x160 l161 u162))) fun v => R.ok ((eT eTx) v)) fun (x163 : PyData) => (R.bind (R.bind (R.bind (R.ok x150.1) fun (x164 : (List Tx)) => R.bind (R.bind (R.ok x150.1) fun x165 => R.bind (R.ok none) fun l166 => R.bind (R.bind (R.noex (R.ok (1))) fun i => R.ok (some i)) fun u167 => (R.ok (cutD x165 l166 u167))) fun (x168 : (List Tx)) => (szR (x164 ++ x168))) fun v => R.ok ((eT eTx) v)) fun (x169 : PyData) => (R.bind (R.bind (R.bind (idxR x150.1 (0)) fun (x170 : Tx) => (R.ok ([x170] : (List Tx)))) fun v => R.ok ((eT eTx) v)) fun (x171 : PyData) => (R.bind (R.bind (R.bind (R.bind (R.bind (R.ok x150.1) fun x172 => R.bind (R.ok none) fun l173 => R.bind (R.bind (R.noex (R.bind (R.ok (1)) fun x => R.ok (-x))) fun i => R.ok (some i)) fun u174 => (R.ok (cutD x172 l173 u174))) fun v => R.ok (List.map eTx v)) fun (x175 : (List PyData)) => R.bind (R.bind (R.bind (R.ok ()) fun (x176 : Unit) => (R.ok ([x176] : (List Unit)))) fun v => R.ok (List.map eN v)) fun (x177 : (List PyData)) => (szR (x175 ++ x177))) fun v => R.ok ((eT eAny) v)) fun (x178 : PyData) => (R.ok ([x151, x152, x154, x156, x158, x159, x163, x169, x171, x178] : (List PyData))))))))))))) fun (x179 : (List PyData)) => (R.noex (T_law_pick x150.2 x179))) fun (x180 : (PyData × (List Int))) => (R.bind (R.bind (R.bind (R.bind (R.bind (R.ok x16.1) fun v => R.ok ((eT eTx) v)) fun (x181 : PyData) => (R.bind (R.ok x180.1) fun (x182 : PyData) => (T_is_word_square x181 x182))) fun (x183 : Bool) => R.bind (R.bind (R.ok x16.1) fun (x184 : (List Tx)) => (R.bind (R.ok x180.1) fun (x185 : PyData) => (R.bind (R.ok false) fun (x186 : Bool) => (T_law_is_square x184 x185 x186)))) fun (x187 : Bool) => (R.ok (!eqT x183 x187))) fun x => cond x (R.ok true) (R.bind (R.bind (R.bind (R.ok x16.1) fun v => R.ok ((eT eTx) v)) fun (x188 : PyData) => (R.bind (R.ok x180.1) fun (x189 : PyData) => (T_is_double_square x188 x189))) fun (x190 : Bool) => R.bind (R.bind (R.ok x16.1) fun (x191 : (List Tx)) => (R.bind (R.ok x180.1) fun (x192 : PyData) => (R.bind (R.ok true) fun (x193 : Bool) => (T_law_is_square x191 x192 x193)))) fun (x194 : Bool) => (R.ok (!eqT x190 x194)))) fun x195 => cond x195 (R.bind (R.bind (R.bind (R.ok false) fun v => R.ok (v, x180.2)) fun (v : (Bool × (List Int))) => R.ok v) fun v => R.ok (Out.rt v)) (R.ok (Out.nx (x180.2)))))))) (fun v => v) fun (s136 : ((List Int))) => (R.bind (R.bind (R.noex (T_law_g_wrong s136)) fun (x197 : (PyData × (List Int))) => (R.bind (R.bind (R.bind (R.bind (R.ok (1)) fun v => R.ok (PyData.int v)) fun (x198 : PyData) => (R.bind (R.bind (R.ok (6)) fun v => R.ok (PyData.int v)) fun (x199 : PyData) => (R.bind (R.bind (R.ok ()) fun v => R.ok (eN v)) fun (x200 : PyData) => (R.bind (R.bind (R.ok true) fun v => R.ok (PyData.bool v)) fun (x201 : PyData) => (R.ok ([x198, x199, x200, x201] : (List PyData))))))) fun (x202 : (List PyData)) => (R.noex (T_law_pick x197.2 x202))) fun (x203 : (PyData × (List Int))) => (R.ok ((x197.1, x203.1), x203.2)))) fun (x204 : ((PyData × PyData) × (List Int))) => (R.bind (R.bind (R.bind (R.noex (R.ok x204.1.1)) fun (x205 : PyData) => (R.bind (R.noex (R.ok x204.1.2)) fun (x206 : PyData) => (refR "BadArgument" (T_word_squares_2 x205 x206)))) fun (x207 : Tx) => (R.bind (R.bind (R.noex (R.bind (R.ok x16.1) fun v => R.ok ((eT eTx) v))) fun (x208 : PyData) => (R.bind (R.noex (R.ok x204.1.2)) fun (x209 : PyData) => (refR "BadArgument" (T_word_squares_2 x208 x209)))) fun (x210 : Tx) => (R.bind (R.bind (R.noex (R.bind (R.ok x16.1) fun v => R.ok ((eT eTx) v))) fun (x211 : PyData) => (R.bind (R.noex (R.ok x204.1.2)) fun (x212 : PyData) => (refR "BadArgument" (T_double_squares_2 x211 x212)))) fun (x213 : Tx) => (R.bind (R.bind (R.noex (R.ok x204.1.1)) fun (x214 : PyData) => (R.bind (R.noex (R.bind (R.ok ([] : (List PyData))) fun v => R.ok ((eT eAny) v))) fun (x215 : PyData) => (refR "BadArgument" (T_is_word_square x214 x215)))) fun (x216 : Tx) => (R.bind (R.bind (R.noex (R.ok x204.1.1)) fun (x217 : PyData) => (R.bind (R.noex (R.bind (R.ok ([] : (List PyData))) fun v => R.ok ((eT eAny) v))) fun (x218 : PyData) => (refR "BadArgument" (T_is_double_square x217 x218)))) fun (x219 : Tx) => (R.ok ([x207, x210, x213, x216, x219] : (List Tx)))))))) fun (x220 : (List Tx)) => (R.bind (R.bind (R.bind (R.bind (R.ok ([108, 101, 120, 105, 99, 111, 110] : Tx)) fun (x221 : Tx) => (R.bind (R.ok ([108, 101, 110, 103, 116, 104] : Tx)) fun (x222 : Tx) => (R.bind (R.ok ([108, 101, 110, 103, 116, 104] : Tx)) fun (x223 : Tx) => (R.bind (R.ok ([108, 101, 120, 105, 99, 111, 110] : Tx)) fun (x224 : Tx) => (R.bind (R.ok ([108, 101, 120, 105, 99, 111, 110] : Tx)) fun (x225 : Tx) => (R.ok ([x221, x222, x223, x224, x225] : (List Tx)))))))) fun (x226 : (List Tx)) => (R.ok (eqT x220 x226))) fun v => R.ok (v, x204.2)) fun (v : (Bool × (List Int))) => R.ok v)))))))))))
theorem sim_law_right (a_dice : (List Int)) : SFn .o (f_law_right [.by (.lst (a_dice.map PyData.int))]) (T_law_right a_dice) (fun (p : (Bool × (List Int))) => PyData.bool p.1) (fun (p : (Bool × (List Int))) => [.lst (p.2.map PyData.int)]) := by
  unfold T_law_right
  have h : Fit [kBr ((a_dice).map PyData.int), kFr, kFr, kFr, kFr, kFr, kFr, kFr, kFr, kFr, kFr, kFr, kFr, kFr, kFr] [.br (.lst (a_dice.map PyData.int)), .un, .un, .un, .un, .un, .un, .un, .un, .un, .un, .un, .un, .un, .un] := ⟨rfl, ⟨.inl rfl, ⟨.inl rfl, ⟨.inl rfl, ⟨.inl rfl, ⟨.inl rfl, ⟨.inl rfl, ⟨.inl rfl, ⟨.inl rfl, ⟨.inl rfl, ⟨.inl rfl, ⟨.inl rfl, ⟨.inl rfl, ⟨.inl rfl, ⟨.inl rfl, trivial⟩⟩⟩⟩⟩⟩⟩⟩⟩⟩⟩⟩⟩⟩⟩
  exact SFn_ofL (n := 15) (brf := [true]) (r := m_law_right [.br (.lst (a_dice.map PyData.int)), .un, .un, .un, .un, .un, .un, .un, .un, .un, .un, .un, .un, .un, .un]) (SG_asg (SR_call (SR_aByr h (ln_b rfl) (SR_aSh (SR_lst (SR_cons (SR_cst (E := PyData.int) (a := (2)) h rfl) (fun (x1 : Int) g h => (SR_cons (SR_cst (E := PyData.int) (a := (2)) h rfl) (fun (x2 : Int) g h => (SR_cons (SR_cst (E := PyData.int) (a := (3)) h rfl) (fun (x3 : Int) g h => (SR_cons (SR_cst (E := PyData.int) (a := (3)) h rfl) (fun (x4 : Int) g h => (SR_nil (SR_endL (E := (eL PyData.int)) (κ := fun (_ : (List Int)) => [kBr ((a_dice).map PyData.int), kFr, kFr, kFr, kFr, kFr, kFr, kFr, kFr, kFr, kFr, kFr, kFr, kFr, kFr]) (a := ([x1, x2, x3, x4] : (List Int))) h rfl (Nat.le_of_ble_eq_true rfl)))))))))))) (fun (x5 : (List Int)) g h => (SR_aNil (SR_endB (κ := (fun (p : (Int × (List Int))) => [kBr ((p.2).map PyData.int), kFr, kFr, kFr, kFr, kFr, kFr, kFr, kFr, kFr, kFr, kFr, kFr, kFr, kFr])) (ds := [(eL PyData.int) x5]) (B := fun (p : (Int × (List Int))) => p.2.map PyData.int) h (ln_b rfl) rfl (sim_law_pick PyData.int a_dice x5) (fun _ => tk_b rfl))))))) (fun _ => ⟨_, rfl, nb_f⟩) (fun (x6 : (Int × (List Int))) g (h : Fit [kBr ((x6.2).map PyData.int), kSh (PyData.int x6.1), kFr, kFr, kFr, kFr, kFr, kFr, kFr, kFr, kFr, kFr, kFr, kFr, kFr] g) => (SG_asg (SR_call (SR_aByr h (ln_b rfl) (SR_aSh (SR_lst (SR_cons (SR_cst (E := eTx) (a := ([97, 98] : Tx)) h cs_4) (fun (x7 : Tx) g h => (SR_cons (SR_cst (E := eTx) (a := ([97, 98, 99] : Tx)) h cs_9) (fun (x8 : Tx) g h => (SR_cons (SR_cst (E := eTx) (a := ([97, 98, 99, 100] : Tx)) h cs_10) (fun (x9 : Tx) g h => (SR_nil (SR_endL (E := (eL eTx)) (κ := fun (_ : (List Tx)) => [kBr ((x6.2).map PyData.int), kSh (PyData.int x6.1), kFr, kFr, kFr, kFr, kFr, kFr, kFr, kFr, kFr, kFr, kFr, kFr, kFr]) (a := ([x7, x8, x9] : (List Tx))) h rfl (Nat.le_of_ble_eq_true rfl)))))))))) (fun (x10 : (List Tx)) g h => (SR_aNil (SR_endB (κ := (fun (p : (Tx × (List Int))) => [kBr ((p.2).map PyData.int), kSh (PyData.int x6.1), kFr, kFr, kFr, kFr, kFr, kFr, kFr, kFr, kFr, kFr, kFr, kFr, kFr])) (ds := [(eL eTx) x10]) (B := fun (p : (Tx × (List Int))) => p.2.map PyData.int) h (ln_b rfl) rfl (sim_law_pick eTx x6.2 x10) (fun _ => tk_b rfl))))))) (fun _ => ⟨_, rfl, nb_f⟩) (fun (x11 : (Tx × (List Int))) g (h : Fit [kBr ((x11.2).map PyData.int), kSh (PyData.int x6.1), kSh (eTx x11.1), kFr, kFr, kFr, kFr, kFr, kFr, kFr, kFr, kFr, kFr, kFr, kFr] g) => (SG_frzs h (frz_c (fz_k rfl no_s) frz_n) (fun g (h : Fit [kBr ((x11.2).map PyData.int), kSh (PyData.int x6.1), kSh (eTx x11.1), kFr, kFr, kFr, kFr, kFr, kFr, kFr, kFr, kFr, kFr, kFr, kFr] g) => (SG_asg (SR_call (SR_aByr h (ln_b rfl) (SR_aSh (SR_var (E := eTx) (a := x11.1) h rfl) (fun (x12 : Tx) g h => (SR_aSh (SR_cst (E := PyData.int) (a := (2)) h rfl) (fun (x13 : Int) g h => (SR_aSh (SR_cst (E := PyData.int) (a := (3)) h rfl) (fun (x14 : Int) g h => (SR_aSh (SR_cst (E := PyData.int) (a := (11)) h rfl) (fun (x15 : Int) g h => (SR_aNil (SR_endB (κ := (fun (p : ((List Tx) × (List Int))) => [kBr ((p.2).map PyData.int), kSh (PyData.int x6.1), kSh (eTx x11.1), kFr, kFr, kFr, kFr, kFr, kFr, kFr, kFr, kFr, kFr, kFr, kFr])) (ds := [eTx x12, PyData.int x13, PyData.int x14, PyData.int x15]) (B := fun (p : ((List Tx) × (List Int))) => p.2.map PyData.int) h (ln_b rfl) rfl (sim_law_g_lexicon x11.2 x12 x13 x14 x15) (fun _ => tk_b rfl))))))))))))) (fun _ => ⟨_, rfl, nb_f⟩) (fun (x16 : ((List Tx) × (List Int))) g (h : Fit [kBr ((x16.2).map PyData.int), kSh (PyData.int x6.1), kSh (eTx x11.1), kSh ((eT eTx) x16.1), kFr, kFr, kFr, kFr, kFr, kFr, kFr, kFr, kFr, kFr, kFr] g) => (SG_frzs h (frz_c (fz_k rfl no_s) (frz_c (fz_k rfl no_s) frz_n)) (fun g (h : Fit [kBr ((x16.2).map PyData.int), kSh (PyData.int x6.1), kSh (eTx x11.1), kSh ((eT eTx) x16.1), kFr, kFr, kFr, kFr, kFr, kFr, kFr, kFr, kFr, kFr, kFr] g) => (SG_asg (SR_call (SR_aSh (SR_comp (X := fun (b : List Tx) => b) (κ₁ := fun _ => [kBr ((x16.2).map PyData.int), kSh (PyData.int x6.1), kSh (eTx x11.1), kSh ((eT eTx) x16.1), kFr, kFr, kFr, kFr, kFr, kFr, kFr, kFr, kFr, kFr, kFr]) (κr := fun _ => [kBr ((x16.2).map PyData.int), kSh (PyData.int x6.1), kSh (eTx x11.1), kSh ((eT eTx) x16.1), kFr, kFr, kFr, kFr, kFr, kFr, kFr, kFr, kFr, kFr, kFr]) (κt := fun _ (y18 : Tx) => [kBr ((x16.2).map PyData.int), kSh (PyData.int x6.1), kSh (eTx x11.1), kSh ((eT eTx) x16.1), kFr, kFr, kFr, kFr, kFr, kFr, kFr, kFr, kFr, kSh (eTx y18), kFr]) (SI_seq (F := fun xs => xs.map eTx) (SR_var (E := (eT eTx)) (a := x16.1) h rfl) (fun _ => rfl)) (fun _ => (fre_c rfl fr_f fre_n)) (fun _ (y18 : Tx) => (tg_nm rfl nb_f)) (fun _ (y18 : Tx) g h => (SR_cmp (SR_u (SR_pv (E := eTx) (a := y18) h (pk_s rfl)) (fun (x20 : Tx) g h => (SR_ofB h (lb_lenTx _)))) (fun (x21 : Int) g h => (SR_pv (E := PyData.int) (a := x6.1) h (pk_s rfl))) (fun (x21 : Int) (x22 : Int) g h => (SR_kCmp h (lc_eq qInt (by decide) _ _))))) (fun _ (y18 : Tx) g h => (SR_var (E := eTx) (a := y18) h rfl)) (fun _ _ => imp_top rfl) (fun _ _ _ h => h)) (fun (x23 : (List Tx)) g h => (SR_aSh (SR_var (E := PyData.int) (a := x6.1) h rfl) (fun (x24 : Int) g h => (SR_aNil (SR_endS (ks := [kBr ((x16.2).map PyData.int), kSh (PyData.int x6.1), kSh (eTx x11.1), kSh ((eT eTx) x16.1), kFr, kFr, kFr, kFr, kFr, kFr, kFr, kFr, kFr, kFr, kFr]) (ds := [(eL eTx) x23, PyData.int x24]) h rfl rfl (sim_law_tuples x23 x24)))))))) (fun _ => ⟨_, rfl, nb_f⟩) (fun (x25 : (List (List Tx))) g (h : Fit [kBr ((x16.2).map PyData.int), kSh (PyData.int x6.1), kSh (eTx x11.1), kSh ((eT eTx) x16.1), kSh ((eL (eT eTx)) x25), kFr, kFr, kFr, kFr, kFr, kFr, kFr, kFr, kFr, kFr] g) => (SG_frzs h (frz_c (fz_k rfl no_s) (frz_c (fz_k rfl no_s) frz_n)) (fun g (h : Fit [kBr ((x16.2).map PyData.int), kSh (PyData.int x6.1), kSh (eTx x11.1), kSh ((eT eTx) x16.1), kSh ((eL (eT eTx)) x25), kFr, kFr, kFr, kFr, kFr, kFr, kFr, kFr, kFr, kFr] g) => (SG_par (SR_comp (X := fun (b : List (List Tx)) => b) (κ₁ := fun _ => [kBr ((x16.2).map PyData.int), kSh (PyData.int x6.1), kSh (eTx x11.1), kSh ((eT eTx) x16.1), kSh ((eL (eT eTx)) x25), kFr, kFr, kFr, kFr, kFr, kFr, kFr, kFr, kFr, kFr]) (κr := fun _ => [kBr ((x16.2).map PyData.int), kSh (PyData.int x6.1), kSh (eTx x11.1), kSh ((eT eTx) x16.1), kSh ((eL (eT eTx)) x25), kFr, kFr, kFr, kFr, kFr, kFr, kFr, kFr, kFr, kFr]) (κt := fun _ (y27 : (List Tx)) => [kBr ((x16.2).map PyData.int), kSh (PyData.int x6.1), kSh (eTx x11.1), kSh ((eT eTx) x16.1), kSh ((eL (eT eTx)) x25), kFr, kFr, kFr, kFr, kFr, kFr, kFr, kFr, kFr, kSh ((eT eTx) y27)]) (SI_seq (F := fun xs => xs.map (eT eTx)) (SR_var (E := (eL (eT eTx))) (a := x25) h rfl) (fun _ => rfl)) (fun _ => (fre_c rfl fr_f fre_n)) (fun _ (y27 : (List Tx)) => (tg_nm rfl nb_f)) (fun _ (y27 : (List Tx)) g h => (SR_call (SR_aSh (SR_var (E := (eT eTx)) (a := x16.1) h rfl) (fun (x29 : (List Tx)) g h => (SR_aSh (SR.conv (E' := eAny) (f := fun (v : (List Tx)) => ((eT eTx) v : PyData)) (SR_var (E := (eT eTx)) (a := y27) h rfl) (fun _ => rfl) (fun _ _ h => h)) (fun (x30 : PyData) g h => (SR_aSh (SR_cst (E := PyData.bool) (a := false) h rfl) (fun (x31 : Bool) g h => (SR_aNil (SR_endS (ks := [kBr ((x16.2).map PyData.int), kSh (PyData.int x6.1), kSh (eTx x11.1), kSh ((eT eTx) x16.1), kSh ((eL (eT eTx)) x25), kFr, kFr, kFr, kFr, kFr, kFr, kFr, kFr, kFr, kSh ((eT eTx) y27)]) (ds := [(eT eTx) x29, eAny x30, PyData.bool x31]) h rfl rfl (sim_law_is_square x29 x30 x31))))))))))) (fun _ (y27 : (List Tx)) g h => (SR_var (E := (eT eTx)) (a := y27) h rfl)) (fun _ _ => imp_top rfl) (fun _ _ _ h => h)) (fun (x32 : (List (List Tx))) g h => (SR_comp (X := fun (b : List (List Tx)) => b) (κ₁ := fun _ => [kBr ((x16.2).map PyData.int), kSh (PyData.int x6.1), kSh (eTx x11.1), kSh ((eT eTx) x16.1), kSh ((eL (eT eTx)) x25), kFr, kFr, kFr, kFr, kFr, kFr, kFr, kFr, kFr, kFr]) (κr := fun _ => [kBr ((x16.2).map PyData.int), kSh (PyData.int x6.1), kSh (eTx x11.1), kSh ((eT eTx) x16.1), kSh ((eL (eT eTx)) x25), kFr, kFr, kFr, kFr, kFr, kFr, kFr, kFr, kFr, kFr]) (κt := fun _ (y34 : (List Tx)) => [kBr ((x16.2).map PyData.int), kSh (PyData.int x6.1), kSh (eTx x11.1), kSh ((eT eTx) x16.1), kSh ((eL (eT eTx)) x25), kFr, kFr, kFr, kFr, kFr, kFr, kFr, kFr, kFr, kSh ((eT eTx) y34)]) (SI_seq (F := fun xs => xs.map (eT eTx)) (SR_var (E := (eL (eT eTx))) (a := x25) h rfl) (fun _ => rfl)) (fun _ => (fre_c rfl fr_f fre_n)) (fun _ (y34 : (List Tx)) => (tg_nm rfl nb_f)) (fun _ (y34 : (List Tx)) g h => (SR_call (SR_aSh (SR_var (E := (eT eTx)) (a := x16.1) h rfl) (fun (x36 : (List Tx)) g h => (SR_aSh (SR.conv (E' := eAny) (f := fun (v : (List Tx)) => ((eT eTx) v : PyData)) (SR_var (E := (eT eTx)) (a := y34) h rfl) (fun _ => rfl) (fun _ _ h => h)) (fun (x37 : PyData) g h => (SR_aSh (SR_cst (E := PyData.bool) (a := true) h rfl) (fun (x38 : Bool) g h => (SR_aNil (SR_endS (ks := [kBr ((x16.2).map PyData.int), kSh (PyData.int x6.1), kSh (eTx x11.1), kSh ((eT eTx) x16.1), kSh ((eL (eT eTx)) x25), kFr, kFr, kFr, kFr, kFr, kFr, kFr, kFr, kFr, kSh ((eT eTx) y34)]) (ds := [(eT eTx) x36, eAny x37, PyData.bool x38]) h rfl rfl (sim_law_is_square x36 x37 x38))))))))))) (fun _ (y34 : (List Tx)) g h => (SR_var (E := (eT eTx)) (a := y34) h rfl)) (fun _ _ => imp_top rfl) (fun _ _ _ h => h))) (fun _ _ => ⟨_, rfl, nb_f⟩) (fun _ _ => ⟨_, rfl, nb_f⟩) (fun (x32 : (List (List Tx))) (x39 : (List (List Tx))) g (h : Fit [kBr ((x16.2).map PyData.int), kSh (PyData.int x6.1), kSh (eTx x11.1), kSh ((eT eTx) x16.1), kSh ((eL (eT eTx)) x25), kFr, kFr, kSh ((eL (eT eTx)) x32), kSh ((eL (eT eTx)) x39), kFr, kFr, kFr, kFr, kFr, kFr] g) => (SG_frzs h (frz_c (fz_k rfl no_s) (frz_c (fz_k rfl no_s) frz_n)) (fun g (h : Fit [kBr ((x16.2).map PyData.int), kSh (PyData.int x6.1), kSh (eTx x11.1), kSh ((eT eTx) x16.1), kSh ((eL (eT eTx)) x25), kFr, kFr, kSh ((eL (eT eTx)) x32), kSh ((eL (eT eTx)) x39), kFr, kFr, kFr, kFr, kFr, kFr] g) => (SG_ifr (SR_or (SR_cmp (SR_call (SR_aSh (SR_var (E := (eT eTx)) (a := x16.1) h rfl) (fun (x40 : (List Tx)) g h => (SR_aSh (SR_var (E := PyData.int) (a := x6.1) h rfl) (fun (x41 : Int) g h => (SR_aNil (SR_endS (ks := [kBr ((x16.2).map PyData.int), kSh (PyData.int x6.1), kSh (eTx x11.1), kSh ((eT eTx) x16.1), kSh ((eL (eT eTx)) x25), kFr, kFr, kSh ((eL (eT eTx)) x32), kSh ((eL (eT eTx)) x39), kFr, kFr, kFr, kFr, kFr, kFr]) (ds := [(eT eTx) x40, PyData.int x41]) h rfl rfl (sim_word_squares x40 x41)))))))) (fun (x42 : (List (List Tx))) g h => (SR_u (SR_u (SR_pv (E := (eL (eT eTx))) (a := x32) h (pk_s rfl)) (fun (x43 : (List (List Tx))) g h => (SR_ofBf h (lb_srt sTTx _)))) (fun (x44 : (List (List Tx))) g h => (SR_ofB h (lb_tupL _))))) (fun (x42 : (List (List Tx))) (x45 : (List (List Tx))) g h => (SR_kCmp h (lc_ne (qT (qT qTx)) (by decide) _ _)))) fun g h => (SR_cmp (SR_callK (SR_nil (SR_cons (SR_var (E := PyData.int) (a := x6.1) h rfl) (fun (x46 : Int) g h => (SR_cons (SR_var (E := (eT eTx)) (a := x16.1) h rfl) (fun (x47 : (List Tx)) g h => (SR_nil (SR_endK (ks := [kBr ((x16.2).map PyData.int), kSh (PyData.int x6.1), kSh (eTx x11.1), kSh ((eT eTx) x16.1), kSh ((eL (eT eTx)) x25), kFr, kFr, kSh ((eL (eT eTx)) x32), kSh ((eL (eT eTx)) x39), kFr, kFr, kFr, kFr, kFr, kFr]) (ds := []) (es := [PyData.int x46, (eT eTx) x47]) (fs := [(eT eTx) x47, PyData.int x46]) h rfl rfl rfl rfl rfl (sim_word_squares x47 x46))))))))) (fun (x48 : (List (List Tx))) g h => (SR_u (SR_u (SR_pv (E := (eL (eT eTx))) (a := x32) h (pk_s rfl)) (fun (x49 : (List (List Tx))) g h => (SR_ofBf h (lb_srt sTTx _)))) (fun (x50 : (List (List Tx))) g h => (SR_ofB h (lb_tupL _))))) (fun (x48 : (List (List Tx))) (x51 : (List (List Tx))) g h => (SR_kCmp h (lc_ne (qT (qT qTx)) (by decide) _ _))))) (fun x52 g h => (SG.tn (SG_ret (v := fun (v : (Bool × (List Int))) => v) (SR.conv (E' := fun (p : (Bool × (List Int))) => PyData.bool p.1) (κ' := (fun (p : (Bool × (List Int))) => [kBr ((p.2).map PyData.int), kSh (PyData.int x6.1), kSh (eTx x11.1), kSh ((eT eTx) x16.1), kSh ((eL (eT eTx)) x25), kFr, kFr, kSh ((eL (eT eTx)) x32), kSh ((eL (eT eTx)) x39), kFr, kFr, kFr, kFr, kFr, kFr])) (f := fun (v : Bool) => (v, x16.2)) (SR_cst (E := PyData.bool) (a := false) h rfl) (fun _ => rfl) (fun _ _ h => h)) (fun (x53 : (Bool × (List Int))) g r h hr => qt_ret h (lent_t lent_n) hr)))) (fun x52 g h => (SG_nops (SG_frzs h (frz_c (fz_k rfl no_s) (frz_c (fz_k rfl no_s) frz_n)) (fun g (h : Fit [kBr ((x16.2).map PyData.int), kSh (PyData.int x6.1), kSh (eTx x11.1), kSh ((eT eTx) x16.1), kSh ((eL (eT eTx)) x25), kFr, kFr, kSh ((eL (eT eTx)) x32), kSh ((eL (eT eTx)) x39), kFr, kFr, kFr, kFr, kFr, kFr] g) => (SG_ifr (SR_or (SR_cmp (SR_call (SR_aSh (SR_var (E := (eT eTx)) (a := x16.1) h rfl) (fun (x54 : (List Tx)) g h => (SR_aSh (SR_var (E := PyData.int) (a := x6.1) h rfl) (fun (x55 : Int) g h => (SR_aNil (SR_endS (ks := [kBr ((x16.2).map PyData.int), kSh (PyData.int x6.1), kSh (eTx x11.1), kSh ((eT eTx) x16.1), kSh ((eL (eT eTx)) x25), kFr, kFr, kSh ((eL (eT eTx)) x32), kSh ((eL (eT eTx)) x39), kFr, kFr, kFr, kFr, kFr, kFr]) (ds := [(eT eTx) x54, PyData.int x55]) h rfl rfl (sim_double_squares x54 x55)))))))) (fun (x56 : (List (List Tx))) g h => (SR_u (SR_u (SR_comp (X := fun (b : List (List Tx)) => b) (κ₁ := fun _ => [kBr ((x16.2).map PyData.int), kSh (PyData.int x6.1), kSh (eTx x11.1), kSh ((eT eTx) x16.1), kSh ((eL (eT eTx)) x25), kFr, kFr, kSh ((eL (eT eTx)) x32), kSh ((eL (eT eTx)) x39), kFr, kFr, kFr, kFr, kFr, kFr]) (κr := fun _ => [kBr ((x16.2).map PyData.int), kSh (PyData.int x6.1), kSh (eTx x11.1), kSh ((eT eTx) x16.1), kSh ((eL (eT eTx)) x25), kFr, kFr, kSh ((eL (eT eTx)) x32), kSh ((eL (eT eTx)) x39), kFr, kFr, kFr, kFr, kFr, kFr]) (κt := fun _ (y58 : (List Tx)) => [kBr ((x16.2).map PyData.int), kSh (PyData.int x6.1), kSh (eTx x11.1), kSh ((eT eTx) x16.1), kSh ((eL (eT eTx)) x25), kFr, kFr, kSh ((eL (eT eTx)) x32), kSh ((eL (eT eTx)) x39), kFr, kFr, kFr, kFr, kFr, kSh ((eT eTx) y58)]) (SI_seq (F := fun xs => xs.map (eT eTx)) (SR_var (E := (eL (eT eTx))) (a := x39) h rfl) (fun _ => rfl)) (fun _ => (fre_c rfl fr_f fre_n)) (fun _ (y58 : (List Tx)) => (tg_nm rfl nb_f)) (fun _ (y58 : (List Tx)) g h => (SR_bindV h (pk_s rfl) (SR_call (SR_aSh (SR_var (E := (eT eTx)) (a := y58) h rfl) (fun (x60 : (List Tx)) g h => (SR_aNil (SR_endS (ks := [kBr ((x16.2).map PyData.int), kSh (PyData.int x6.1), kSh (eTx x11.1), kSh ((eT eTx) x16.1), kSh ((eL (eT eTx)) x25), kFr, kFr, kSh ((eL (eT eTx)) x32), kSh ((eL (eT eTx)) x39), kFr, kFr, kFr, kFr, kFr, kSh ((eT eTx) y58)]) (ds := [(eT eTx) x60]) h rfl rfl (sim_law_columns x60)))))) (fun _ => pk_s rfl) (fun (x61 : (List Tx)) g h => (SR_kCmp h (lc_ltTTx y58 _))))) (fun _ (y58 : (List Tx)) g h => (SR_var (E := (eT eTx)) (a := y58) h rfl)) (fun _ _ => imp_top rfl) (fun _ _ _ h => h)) (fun (x62 : (List (List Tx))) g h => (SR_ofBf h (lb_srt sTTx _)))) (fun (x63 : (List (List Tx))) g h => (SR_ofB h (lb_tupL _))))) (fun (x56 : (List (List Tx))) (x64 : (List (List Tx))) g h => (SR_kCmp h (lc_ne (qT (qT qTx)) (by decide) _ _)))) fun g h => (SR_cmp (SR_callK (SR_nil (SR_cons (SR_var (E := PyData.int) (a := x6.1) h rfl) (fun (x65 : Int) g h => (SR_cons (SR_var (E := (eT eTx)) (a := x16.1) h rfl) (fun (x66 : (List Tx)) g h => (SR_nil (SR_endK (ks := [kBr ((x16.2).map PyData.int), kSh (PyData.int x6.1), kSh (eTx x11.1), kSh ((eT eTx) x16.1), kSh ((eL (eT eTx)) x25), kFr, kFr, kSh ((eL (eT eTx)) x32), kSh ((eL (eT eTx)) x39), kFr, kFr, kFr, kFr, kFr, kFr]) (ds := []) (es := [PyData.int x65, (eT eTx) x66]) (fs := [(eT eTx) x66, PyData.int x65]) h rfl rfl rfl rfl rfl (sim_double_squares x66 x65))))))))) (fun (x67 : (List (List Tx))) g h => (SR_call (SR_aSh (SR_var (E := (eT eTx)) (a := x16.1) h rfl) (fun (x68 : (List Tx)) g h => (SR_aSh (SR_var (E := PyData.int) (a := x6.1) h rfl) (fun (x69 : Int) g h => (SR_aNil (SR_endS (ks := [kBr ((x16.2).map PyData.int), kSh (PyData.int x6.1), kSh (eTx x11.1), kSh ((eT eTx) x16.1), kSh ((eL (eT eTx)) x25), kFr, kFr, kSh ((eL (eT eTx)) x32), kSh ((eL (eT eTx)) x39), kFr, kFr, kFr, kFr, kFr, kFr]) (ds := [(eT eTx) x68, PyData.int x69]) h rfl rfl (sim_double_squares x68 x69))))))))) (fun (x67 : (List (List Tx))) (x70 : (List (List Tx))) g h => (SR_kCmp h (lc_ne (qT (qT qTx)) (by decide) _ _))))) (fun x71 g h => (SG.tn (SG_ret (v := fun (v : (Bool × (List Int))) => v) (SR.conv (E' := fun (p : (Bool × (List Int))) => PyData.bool p.1) (κ' := (fun (p : (Bool × (List Int))) => [kBr ((p.2).map PyData.int), kSh (PyData.int x6.1), kSh (eTx x11.1), kSh ((eT eTx) x16.1), kSh ((eL (eT eTx)) x25), kFr, kFr, kSh ((eL (eT eTx)) x32), kSh ((eL (eT eTx)) x39), kFr, kFr, kFr, kFr, kFr, kFr])) (f := fun (v : Bool) => (v, x16.2)) (SR_cst (E := PyData.bool) (a := false) h rfl) (fun _ => rfl) (fun _ _ h => h)) (fun (x72 : (Bool × (List Int))) g r h hr => qt_ret h (lent_t lent_n) hr)))) (fun x71 g h => (SG_nops (SG_seqO (P := fun (s : ((List Int))) => [kBr ((s).map PyData.int), kSh (PyData.int x6.1), kSh (eTx x11.1), kSh ((eT eTx) x16.1), kSh ((eL (eT eTx)) x25), kFr, kFr, kSh ((eL (eT eTx)) x32), kSh ((eL (eT eTx)) x39), kFr, kFr, kFr, kFr, kFr, kFr]) (L := fun (s : ((List Int))) => [kBr ((s).map PyData.int), kSh (PyData.int x6.1), kSh (eTx x11.1), kSh ((eT eTx) x16.1), kSh ((eL (eT eTx)) x25), kFr, kFr, kSh ((eL (eT eTx)) x32), kSh ((eL (eT eTx)) x39), kFr, kFr, kFr, kFr, kFr, kFr]) (hf := (fun v => v)) (SG_forO qt_rt (X := fun (b73 : (List Int)) => b73) (s0 := fun (b73 : (List Int)) => (x16.2)) (P := fun (s : ((List Int))) => [kBr ((s).map PyData.int), kSh (PyData.int x6.1), kSh (eTx x11.1), kSh ((eT eTx) x16.1), kSh ((eL (eT eTx)) x25), kFr, kFr, kSh ((eL (eT eTx)) x32), kSh ((eL (eT eTx)) x39), kFr, kFr, kFr, kFr, kFr, kFr]) (P1 := fun (y75 : Int) (s74 : ((List Int))) => [kBr ((s74).map PyData.int), kSh (PyData.int x6.1), kSh (eTx x11.1), kSh ((eT eTx) x16.1), kSh ((eL (eT eTx)) x25), kSh (PyData.int y75), kFr, kSh ((eL (eT eTx)) x32), kSh ((eL (eT eTx)) x39), kFr, kFr, kFr, kFr, kFr, kFr]) (SI_rng (SR_cst (E := PyData.int) (a := (6)) h rfl)) (fun (b73 : (List Int)) g h => h.imp (imp_c i_id (imp_c i_id (imp_c i_id (imp_c i_id (imp_c i_id (imp_c i_id (imp_c i_id (imp_c i_id (imp_c i_id (imp_c i_id (imp_c i_id (imp_c i_id (imp_c i_id (imp_c i_id (imp_c i_id imp_n)))))))))))))))) (fun (y75 : Int) (s74 : ((List Int))) => (tg_nm rfl nb_f)) (fun (y75 : Int) (s74 : ((List Int))) g (h : Fit [kBr ((s74).map PyData.int), kSh (PyData.int x6.1), kSh (eTx x11.1), kSh ((eT eTx) x16.1), kSh ((eL (eT eTx)) x25), kSh (PyData.int y75), kFr, kSh ((eL (eT eTx)) x32), kSh ((eL (eT eTx)) x39), kFr, kFr, kFr, kFr, kFr, kFr] g) => (SG_frzs h (frz_c (fz_k rfl no_s) frz_n) (fun g (h : Fit [kBr ((s74).map PyData.int), kSh (PyData.int x6.1), kSh (eTx x11.1), kSh ((eT eTx) x16.1), kSh ((eL (eT eTx)) x25), kSh (PyData.int y75), kFr, kSh ((eL (eT eTx)) x32), kSh ((eL (eT eTx)) x39), kFr, kFr, kFr, kFr, kFr, kFr] g) => (SG_asg (SR_call (SR_aByr h (ln_b rfl) (SR_aSh (SR_bin (SR_bin (SR_bin (SR_var (E := (eL (eT eTx))) (a := x32) h rfl) (fun (x137 : (List (List Tx))) g h => (SR_pv (E := (eL (eT eTx))) (a := x39) h (pk_s rfl))) (fun (x137 : (List (List Tx))) (x138 : (List (List Tx))) g h => (SR_ofBf h (lb_addL _ _)))) (fun (x139 : (List (List Tx))) g h => (SR_slc (SR_var (E := (eL (eT eTx))) (a := x25) h rfl) (fun g h => SO_none h) (fun g h => SO_some (SR_cst (E := PyData.int) (a := (5)) h rfl)) (fun l141 u142 x140 g h => SR_ofBf h (lb_slcL _ _ _)))) (fun (x139 : (List (List Tx))) (x143 : (List (List Tx))) g h => (SR_ofBf h (lb_addL _ _)))) (fun (x144 : (List (List Tx))) g h => (SR_lst (SR_cons (SR_tup (SR_cons (SR_cst (E := eTx) (a := ([97, 98] : Tx)) h cs_4) (fun (x145 : Tx) g h => (SR_cons (SR_cst (E := eTx) (a := ([98, 97] : Tx)) h cs_11) (fun (x146 : Tx) g h => (SR_nil (SR_endT (E := (eT eTx)) (κ := fun (_ : (List Tx)) => [kBr ((s74).map PyData.int), kSh (PyData.int x6.1), kSh (eTx x11.1), kSh ((eT eTx) x16.1), kSh ((eL (eT eTx)) x25), kSh (PyData.int y75), kFr, kSh ((eL (eT eTx)) x32), kSh ((eL (eT eTx)) x39), kFr, kFr, kFr, kFr, kFr, kFr]) (a := ([x145, x146] : (List Tx))) h rfl (Nat.le_of_ble_eq_true rfl)))))))) (fun (x147 : (List Tx)) g h => (SR_nil (SR_endL (E := (eL (eT eTx))) (κ := fun (_ : (List (List Tx))) => [kBr ((s74).map PyData.int), kSh (PyData.int x6.1), kSh (eTx x11.1), kSh ((eT eTx) x16.1), kSh ((eL (eT eTx)) x25), kSh (PyData.int y75), kFr, kSh ((eL (eT eTx)) x32), kSh ((eL (eT eTx)) x39), kFr, kFr, kFr, kFr, kFr, kFr]) (a := ([x147] : (List (List Tx)))) h rfl (Nat.le_of_ble_eq_true rfl))))))) (fun (x144 : (List (List Tx))) (x148 : (List (List Tx))) g h => (SR_ofBf h (lb_addL _ _)))) (fun (x149 : (List (List Tx))) g h => (SR_aNil (SR_endB (κ := (fun (p : ((List Tx) × (List Int))) => [kBr ((p.2).map PyData.int), kSh (PyData.int x6.1), kSh (eTx x11.1), kSh ((eT eTx) x16.1), kSh ((eL (eT eTx)) x25), kSh (PyData.int y75), kFr, kSh ((eL (eT eTx)) x32), kSh ((eL (eT eTx)) x39), kFr, kFr, kFr, kFr, kFr, kFr])) (ds := [(eL (eT eTx)) x149]) (B := fun (p : ((List Tx) × (List Int))) => p.2.map PyData.int) h (ln_b rfl) rfl (sim_law_pick (eT eTx) s74 x149) (fun _ => tk_b rfl))))))) (fun _ => ⟨_, rfl, nb_f⟩) (fun (x150 : ((List Tx) × (List Int))) g (h : Fit [kBr ((x150.2).map PyData.int), kSh (PyData.int x6.1), kSh (eTx x11.1), kSh ((eT eTx) x16.1), kSh ((eL (eT eTx)) x25), kSh (PyData.int y75), kFr, kSh ((eL (eT eTx)) x32), kSh ((eL (eT eTx)) x39), kSh ((eT eTx) x150.1), kFr, kFr, kFr, kFr, kFr] g) => (SG_frzs h (frz_c (fz_k rfl no_s) frz_n) (fun g (h : Fit [kBr ((x150.2).map PyData.int), kSh (PyData.int x6.1), kSh (eTx x11.1), kSh ((eT eTx) x16.1), kSh ((eL (eT eTx)) x25), kSh (PyData.int y75), kFr, kSh ((eL (eT eTx)) x32), kSh ((eL (eT eTx)) x39), kSh ((eT eTx) x150.1), kFr, kFr, kFr, kFr, kFr] g) => (SG_asg (SR_call (SR_aByr h (ln_b rfl) (SR_aSh (SR_lst (SR_cons (SR.conv (E' := eAny) (f := fun (v : (List Tx)) => ((eT eTx) v : PyData)) (SR_var (E := (eT eTx)) (a := x150.1) h rfl) (fun _ => rfl) (fun _ _ h => h)) (fun (x151 : PyData) g h => (SR_cons (SR.conv (E' := eAny) (f := fun (v : (List Tx)) => ((eT eTx) v : PyData)) (SR_var (E := (eT eTx)) (a := x150.1) h rfl) (fun _ => rfl) (fun _ _ h => h)) (fun (x152 : PyData) g h => (SR_cons (SR.conv (E' := eAny) (f := fun (v : (List Tx)) => ((eT eTx) v : PyData)) (SR_rev (SR_var (E := (eT eTx)) (a := x150.1) h rfl) (fun x153 g h => SR_ofB h (lb_revT _))) (fun _ => rfl) (fun _ _ h => h)) (fun (x154 : PyData) g h => (SR_cons (SR.conv (E' := eAny) (f := fun (v : (List Tx)) => ((eT eTx) v : PyData)) (SR_call (SR_aSh (SR_var (E := (eT eTx)) (a := x150.1) h rfl) (fun (x155 : (List Tx)) g h => (SR_aNil (SR_endS (ks := [kBr ((x150.2).map PyData.int), kSh (PyData.int x6.1), kSh (eTx x11.1), kSh ((eT eTx) x16.1), kSh ((eL (eT eTx)) x25), kSh (PyData.int y75), kFr, kSh ((eL (eT eTx)) x32), kSh ((eL (eT eTx)) x39), kSh ((eT eTx) x150.1), kFr, kFr, kFr, kFr, kFr]) (ds := [(eT eTx) x155]) h rfl rfl (sim_law_columns x155)))))) (fun _ => rfl) (fun _ _ h => h)) (fun (x156 : PyData) g h => (SR_cons (SR.conv (E' := eAny) (f := fun (v : (List Tx)) => ((eL eTx) v : PyData)) (SR_u (SR_pv (E := (eT eTx)) (a := x150.1) h (pk_s rfl)) (fun (x157 : (List Tx)) g h => (SR_ofBf h (lb_lstT _)))) (fun _ => rfl) (fun _ _ h => h)) (fun (x158 : PyData) g h => (SR_cons (SR.conv (E' := eAny) (f := fun (v : Unit) => (eN v : PyData)) (SR_cst (E := eN) (a := ()) h rfl) (fun _ => rfl) (fun _ _ h => h)) (fun (x159 : PyData) g h => (SR_cons (SR.conv (E' := eAny) (f := fun (v : (List Tx)) => ((eT eTx) v : PyData)) (SR_slc (SR_var (E := (eT eTx)) (a := x150.1) h rfl) (fun g h => SO_some (SR_cst (E := PyData.int) (a := (1)) h rfl)) (fun g h => SO_none h) (fun l161 u162 x160 g h => SR_ofB h (lb_slcT _ _ _))) (fun _ => rfl) (fun _ _ h => h)) (fun (x163 : PyData) g h => (SR_cons (SR.conv (E' := eAny) (f := fun (v : (List Tx)) => ((eT eTx) v : PyData)) (SR_bin (SR_var (E := (eT eTx)) (a := x150.1) h rfl) (fun (x164 : (List Tx)) g h => (SR_slc (SR_var (E := (eT eTx)) (a := x150.1) h rfl) (fun g h => SO_none h) (fun g h => SO_some (SR_cst (E := PyData.int) (a := (1)) h rfl)) (fun l166 u167 x165 g h => SR_ofB h (lb_slcT _ _ _)))) (fun (x164 : (List Tx)) (x168 : (List Tx)) g h => (SR_ofB h (lb_addT _ _)))) (fun _ => rfl) (fun _ _ h => h)) (fun (x169 : PyData) g h => (SR_cons (SR.conv (E' := eAny) (f := fun (v : (List Tx)) => ((eT eTx) v : PyData)) (SR_tup (SR_cons (SR_idxVc (E := eTx) h (pk_s rfl) (lo_idxT x150.1 (0))) (fun (x170 : Tx) g h => (SR_nil (SR_endT (E := (eT eTx)) (κ := fun (_ : (List Tx)) => [kBr ((x150.2).map PyData.int), kSh (PyData.int x6.1), kSh (eTx x11.1), kSh ((eT eTx) x16.1), kSh ((eL (eT eTx)) x25), kSh (PyData.int y75), kFr, kSh ((eL (eT eTx)) x32), kSh ((eL (eT eTx)) x39), kSh ((eT eTx) x150.1), kFr, kFr, kFr, kFr, kFr]) (a := ([x170] : (List Tx))) h rfl (Nat.le_of_ble_eq_true rfl)))))) (fun _ => rfl) (fun _ _ h => h)) (fun (x171 : PyData) g h => (SR_cons (SR.conv (E' := eAny) (f := fun (v : (List PyData)) => ((eT eAny) v : PyData)) (SR_bin (SR.conv (E' := (eT eAny)) (f := fun (v : (List Tx)) => (List.map eTx v : (List PyData))) (SR_slc (SR_var (E := (eT eTx)) (a := x150.1) h rfl) (fun g h => SO_none h) (fun g h => SO_some (SR_neg (SR_cst (E := PyData.int) (a := (1)) h rfl))) (fun l173 u174 x172 g h => SR_ofB h (lb_slcT _ _ _))) (fun _ => any_LT _) (fun _ _ h => h)) (fun (x175 : (List PyData)) g h => (SR.conv (E' := (eT eAny)) (f := fun (v : (List Unit)) => (List.map eN v : (List PyData))) (SR_tup (SR_cons (SR_cst (E := eN) (a := ()) h rfl) (fun (x176 : Unit) g h => (SR_nil (SR_endT (E := (eT eN)) (κ := fun (_ : (List Unit)) => [kBr ((x150.2).map PyData.int), kSh (PyData.int x6.1), kSh (eTx x11.1), kSh ((eT eTx) x16.1), kSh ((eL (eT eTx)) x25), kSh (PyData.int y75), kFr, kSh ((eL (eT eTx)) x32), kSh ((eL (eT eTx)) x39), kSh ((eT eTx) x150.1), kFr, kFr, kFr, kFr, kFr]) (a := ([x176] : (List Unit))) h rfl (Nat.le_of_ble_eq_true rfl)))))) (fun _ => any_LT _) (fun _ _ h => h))) (fun (x175 : (List PyData)) (x177 : (List PyData)) g h => (SR_ofB h (lb_addT _ _)))) (fun _ => rfl) (fun _ _ h => h)) (fun (x178 : PyData) g h => (SR_nil (SR_endL (E := (eL eAny)) (κ := fun (_ : (List PyData)) => [kBr ((x150.2).map PyData.int), kSh (PyData.int x6.1), kSh (eTx x11.1), kSh ((eT eTx) x16.1), kSh ((eL (eT eTx)) x25), kSh (PyData.int y75), kFr, kSh ((eL (eT eTx)) x32), kSh ((eL (eT eTx)) x39), kSh ((eT eTx) x150.1), kFr, kFr, kFr, kFr, kFr]) (a := ([x151, x152, x154, x156, x158, x159, x163, x169, x171, x178] : (List PyData))) h rfl (Nat.le_of_ble_eq_true rfl)))))))))))))))))))))))) (fun (x179 : (List PyData)) g h => (SR_aNil (SR_endB (κ := (fun (p : (PyData × (List Int))) => [kBr ((p.2).map PyData.int), kSh (PyData.int x6.1), kSh (eTx x11.1), kSh ((eT eTx) x16.1), kSh ((eL (eT eTx)) x25), kSh (PyData.int y75), kFr, kSh ((eL (eT eTx)) x32), kSh ((eL (eT eTx)) x39), kSh ((eT eTx) x150.1), kFr, kFr, kFr, kFr, kFr])) (ds := [(eL eAny) x179]) (B := fun (p : (PyData × (List Int))) => p.2.map PyData.int) h (ln_b rfl) rfl (sim_law_pick eAny x150.2 x179) (fun _ => tk_b rfl))))))) (fun _ => ⟨_, rfl, nb_f⟩) (fun (x180 : (PyData × (List Int))) g (h : Fit [kBr ((x180.2).map PyData.int), kSh (PyData.int x6.1), kSh (eTx x11.1), kSh ((eT eTx) x16.1), kSh ((eL (eT eTx)) x25), kSh (PyData.int y75), kFr, kSh ((eL (eT eTx)) x32), kSh ((eL (eT eTx)) x39), kSh ((eT eTx) x150.1), kSh (eAny x180.1), kFr, kFr, kFr, kFr] g) => (SG_last (SG_frzs h (frz_c (fz_k rfl no_s) (frz_c (fz_k rfl no_s) frz_n)) (fun g (h : Fit [kBr ((x180.2).map PyData.int), kSh (PyData.int x6.1), kSh (eTx x11.1), kSh ((eT eTx) x16.1), kSh ((eL (eT eTx)) x25), kSh (PyData.int y75), kFr, kSh ((eL (eT eTx)) x32), kSh ((eL (eT eTx)) x39), kSh ((eT eTx) x150.1), kSh (eAny x180.1), kFr, kFr, kFr, kFr] g) => (SG_ifr (SR_or (SR_cmp (SR_callK (SR_cons (SR.conv (E' := eAny) (f := fun (v : (List Tx)) => ((eT eTx) v : PyData)) (SR_var (E := (eT eTx)) (a := x16.1) h rfl) (fun _ => rfl) (fun _ _ h => h)) (fun (x181 : PyData) g h => (SR_nil (SR_cons (SR_var (E := eAny) (a := x180.1) h rfl) (fun (x182 : PyData) g h => (SR_nil (SR_endK (ks := [kBr ((x180.2).map PyData.int), kSh (PyData.int x6.1), kSh (eTx x11.1), kSh ((eT eTx) x16.1), kSh ((eL (eT eTx)) x25), kSh (PyData.int y75), kFr, kSh ((eL (eT eTx)) x32), kSh ((eL (eT eTx)) x39), kSh ((eT eTx) x150.1), kSh (eAny x180.1), kFr, kFr, kFr, kFr]) (ds := [eAny x181]) (es := [eAny x182]) (fs := [eAny x181, eAny x182]) h rfl rfl rfl rfl rfl (sim_is_word_square x181 x182))))))))) (fun (x183 : Bool) g h => (SR_call (SR_aSh (SR_var (E := (eT eTx)) (a := x16.1) h rfl) (fun (x184 : (List Tx)) g h => (SR_aSh (SR_var (E := eAny) (a := x180.1) h rfl) (fun (x185 : PyData) g h => (SR_aSh (SR_cst (E := PyData.bool) (a := false) h rfl) (fun (x186 : Bool) g h => (SR_aNil (SR_endS (ks := [kBr ((x180.2).map PyData.int), kSh (PyData.int x6.1), kSh (eTx x11.1), kSh ((eT eTx) x16.1), kSh ((eL (eT eTx)) x25), kSh (PyData.int y75), kFr, kSh ((eL (eT eTx)) x32), kSh ((eL (eT eTx)) x39), kSh ((eT eTx) x150.1), kSh (eAny x180.1), kFr, kFr, kFr, kFr]) (ds := [(eT eTx) x184, eAny x185, PyData.bool x186]) h rfl rfl (sim_law_is_square x184 x185 x186))))))))))) (fun (x183 : Bool) (x187 : Bool) g h => (SR_kCmp h (lc_ne qBool (by decide) _ _)))) fun g h => (SR_cmp (SR_callK (SR_cons (SR.conv (E' := eAny) (f := fun (v : (List Tx)) => ((eT eTx) v : PyData)) (SR_var (E := (eT eTx)) (a := x16.1) h rfl) (fun _ => rfl) (fun _ _ h => h)) (fun (x188 : PyData) g h => (SR_nil (SR_cons (SR_var (E := eAny) (a := x180.1) h rfl) (fun (x189 : PyData) g h => (SR_nil (SR_endK (ks := [kBr ((x180.2).map PyData.int), kSh (PyData.int x6.1), kSh (eTx x11.1), kSh ((eT eTx) x16.1), kSh ((eL (eT eTx)) x25), kSh (PyData.int y75), kFr, kSh ((eL (eT eTx)) x32), kSh ((eL (eT eTx)) x39), kSh ((eT eTx) x150.1), kSh (eAny x180.1), kFr, kFr, kFr, kFr]) (ds := [eAny x188]) (es := [eAny x189]) (fs := [eAny x188, eAny x189]) h rfl rfl rfl rfl rfl (sim_is_double_square x188 x189))))))))) (fun (x190 : Bool) g h => (SR_call (SR_aSh (SR_var (E := (eT eTx)) (a := x16.1) h rfl) (fun (x191 : (List Tx)) g h => (SR_aSh (SR_var (E := eAny) (a := x180.1) h rfl) (fun (x192 : PyData) g h => (SR_aSh (SR_cst (E := PyData.bool) (a := true) h rfl) (fun (x193 : Bool) g h => (SR_aNil (SR_endS (ks := [kBr ((x180.2).map PyData.int), kSh (PyData.int x6.1), kSh (eTx x11.1), kSh ((eT eTx) x16.1), kSh ((eL (eT eTx)) x25), kSh (PyData.int y75), kFr, kSh ((eL (eT eTx)) x32), kSh ((eL (eT eTx)) x39), kSh ((eT eTx) x150.1), kSh (eAny x180.1), kFr, kFr, kFr, kFr]) (ds := [(eT eTx) x191, eAny x192, PyData.bool x193]) h rfl rfl (sim_law_is_square x191 x192 x193))))))))))) (fun (x190 : Bool) (x194 : Bool) g h => (SR_kCmp h (lc_ne qBool (by decide) _ _))))) (fun x195 g h => (SG_retON (SG.tn (SG_ret (v := fun (v : (Bool × (List Int))) => v) (SR.conv (E' := fun (p : (Bool × (List Int))) => PyData.bool p.1) (κ' := (fun (p : (Bool × (List Int))) => [kBr ((p.2).map PyData.int), kSh (PyData.int x6.1), kSh (eTx x11.1), kSh ((eT eTx) x16.1), kSh ((eL (eT eTx)) x25), kSh (PyData.int y75), kFr, kSh ((eL (eT eTx)) x32), kSh ((eL (eT eTx)) x39), kSh ((eT eTx) x150.1), kSh (eAny x180.1), kFr, kFr, kFr, kFr])) (f := fun (v : Bool) => (v, x180.2)) (SR_cst (E := PyData.bool) (a := false) h rfl) (fun _ => rfl) (fun _ _ h => h)) (fun (x196 : (Bool × (List Int))) g r h hr => qt_ret h (lent_t lent_n) hr))))) (fun x195 g h => (SG_nops (SG_endO (h.imp (imp_c i_id (imp_c i_id (imp_c i_id (imp_c i_id (imp_c i_id (imp_c i_sf (imp_c i_id (imp_c i_id (imp_c i_id (imp_c i_sf (imp_c i_sf (imp_c i_id (imp_c i_id (imp_c i_id (imp_c i_id imp_n))))))))))))))))))))))))))))))))) (fun _ _ q => q) (fun (s136 : ((List Int))) g (h : Fit [kBr ((s136).map PyData.int), kSh (PyData.int x6.1), kSh (eTx x11.1), kSh ((eT eTx) x16.1), kSh ((eL (eT eTx)) x25), kFr, kFr, kSh ((eL (eT eTx)) x32), kSh ((eL (eT eTx)) x39), kFr, kFr, kFr, kFr, kFr, kFr] g) => (SG_asgT (κt := fun (x204 : ((PyData × PyData) × (List Int))) => [kBr ((x204.2).map PyData.int), kSh (PyData.int x6.1), kSh (eTx x11.1), kSh ((eT eTx) x16.1), kSh ((eL (eT eTx)) x25), kFr, kFr, kSh ((eL (eT eTx)) x32), kSh ((eL (eT eTx)) x39), kFr, kFr, kSh (eAny x204.1.1), kSh (eAny x204.1.2), kFr, kFr]) (SR_tup (SR_cons (SR_call (SR_aByr h (ln_b rfl) (SR_aNil (SR_endB (κ := (fun (p : (PyData × (List Int))) => [kBr ((p.2).map PyData.int), kSh (PyData.int x6.1), kSh (eTx x11.1), kSh ((eT eTx) x16.1), kSh ((eL (eT eTx)) x25), kFr, kFr, kSh ((eL (eT eTx)) x32), kSh ((eL (eT eTx)) x39), kFr, kFr, kFr, kFr, kFr, kFr])) (ds := []) (B := fun (p : (PyData × (List Int))) => p.2.map PyData.int) h (ln_b rfl) rfl (sim_law_g_wrong s136) (fun _ => tk_b rfl))))) (fun (x197 : (PyData × (List Int))) g h => (SR_cons (SR_call (SR_aByr h (ln_b rfl) (SR_aSh (SR_lst (SR_cons (SR.conv (E' := eAny) (f := fun (v : Int) => (PyData.int v : PyData)) (SR_cst (E := PyData.int) (a := (1)) h rfl) (fun _ => rfl) (fun _ _ h => h)) (fun (x198 : PyData) g h => (SR_cons (SR.conv (E' := eAny) (f := fun (v : Int) => (PyData.int v : PyData)) (SR_cst (E := PyData.int) (a := (6)) h rfl) (fun _ => rfl) (fun _ _ h => h)) (fun (x199 : PyData) g h => (SR_cons (SR.conv (E' := eAny) (f := fun (v : Unit) => (eN v : PyData)) (SR_cst (E := eN) (a := ()) h rfl) (fun _ => rfl) (fun _ _ h => h)) (fun (x200 : PyData) g h => (SR_cons (SR.conv (E' := eAny) (f := fun (v : Bool) => (PyData.bool v : PyData)) (SR_cst (E := PyData.bool) (a := true) h rfl) (fun _ => rfl) (fun _ _ h => h)) (fun (x201 : PyData) g h => (SR_nil (SR_endL (E := (eL eAny)) (κ := fun (_ : (List PyData)) => [kBr ((x197.2).map PyData.int), kSh (PyData.int x6.1), kSh (eTx x11.1), kSh ((eT eTx) x16.1), kSh ((eL (eT eTx)) x25), kFr, kFr, kSh ((eL (eT eTx)) x32), kSh ((eL (eT eTx)) x39), kFr, kFr, kFr, kFr, kFr, kFr]) (a := ([x198, x199, x200, x201] : (List PyData))) h rfl (Nat.le_of_ble_eq_true rfl)))))))))))) (fun (x202 : (List PyData)) g h => (SR_aNil (SR_endB (κ := (fun (p : (PyData × (List Int))) => [kBr ((p.2).map PyData.int), kSh (PyData.int x6.1), kSh (eTx x11.1), kSh ((eT eTx) x16.1), kSh ((eL (eT eTx)) x25), kFr, kFr, kSh ((eL (eT eTx)) x32), kSh ((eL (eT eTx)) x39), kFr, kFr, kFr, kFr, kFr, kFr])) (ds := [(eL eAny) x202]) (B := fun (p : (PyData × (List Int))) => p.2.map PyData.int) h (ln_b rfl) rfl (sim_law_pick eAny x197.2 x202) (fun _ => tk_b rfl))))))) (fun (x203 : (PyData × (List Int))) g h => (SR_nil (SR_endT (E := fun (p : ((PyData × PyData) × (List Int))) => (eP2 eAny eAny) p.1) (κ := (fun (p : ((PyData × PyData) × (List Int))) => [kBr ((p.2).map PyData.int), kSh (PyData.int x6.1), kSh (eTx x11.1), kSh ((eT eTx) x16.1), kSh ((eL (eT eTx)) x25), kFr, kFr, kSh ((eL (eT eTx)) x32), kSh ((eL (eT eTx)) x39), kFr, kFr, kFr, kFr, kFr, kFr])) (a := ((x197.1, x203.1), x203.2)) h rfl (Nat.le_of_ble_eq_true rfl)))))))) (fun (x204 : ((PyData × PyData) × (List Int))) => (tg_tp (tgl_c (tg_nm rfl nb_f) (tgl_c (tg_nm rfl nb_f) tgl_n)))) (fun (x204 : ((PyData × PyData) × (List Int))) g (h : Fit [kBr ((x204.2).map PyData.int), kSh (PyData.int x6.1), kSh (eTx x11.1), kSh ((eT eTx) x16.1), kSh ((eL (eT eTx)) x25), kFr, kFr, kSh ((eL (eT eTx)) x32), kSh ((eL (eT eTx)) x39), kFr, kFr, kSh (eAny x204.1.1), kSh (eAny x204.1.2), kFr, kFr] g) => (SG_frzs h (frz_c (fz_k rfl no_s) frz_n) (fun g (h : Fit [kBr ((x204.2).map PyData.int), kSh (PyData.int x6.1), kSh (eTx x11.1), kSh ((eT eTx) x16.1), kSh ((eL (eT eTx)) x25), kFr, kFr, kSh ((eL (eT eTx)) x32), kSh ((eL (eT eTx)) x39), kFr, kFr, kSh (eAny x204.1.1), kSh (eAny x204.1.2), kFr, kFr] g) => (SG_asgf (X := fun (x220 : (List Tx)) => (x220).map eTx) (SR_lst (SR_cons (SR_ref (SR_rCall (SR_rSh (SR_var (E := eAny) (a := x204.1.1) h rfl) (fun (x205 : PyData) g h => (SR_rSh (SR_var (E := eAny) (a := x204.1.2) h rfl) (fun (x206 : PyData) g h => (SR_rNil (SR_rEndS (ks := [kBr ((x204.2).map PyData.int), kSh (PyData.int x6.1), kSh (eTx x11.1), kSh ((eT eTx) x16.1), kSh ((eL (eT eTx)) x25), kFr, kFr, kSh ((eL (eT eTx)) x32), kSh ((eL (eT eTx)) x39), kFr, kFr, kSh (eAny x204.1.1), kSh (eAny x204.1.2), kFr, kFr]) (ds := [eAny x205, eAny x206]) h rfl rfl (sim_word_squares_2 x205 x206))))))))) (fun (x207 : Tx) g h => (SR_cons (SR_ref (SR_rCall (SR_rSh (SR.conv (E' := eAny) (f := fun (v : (List Tx)) => ((eT eTx) v : PyData)) (SR_var (E := (eT eTx)) (a := x16.1) h rfl) (fun _ => rfl) (fun _ _ h => h)) (fun (x208 : PyData) g h => (SR_rSh (SR_var (E := eAny) (a := x204.1.2) h rfl) (fun (x209 : PyData) g h => (SR_rNil (SR_rEndS (ks := [kBr ((x204.2).map PyData.int), kSh (PyData.int x6.1), kSh (eTx x11.1), kSh ((eT eTx) x16.1), kSh ((eL (eT eTx)) x25), kFr, kFr, kSh ((eL (eT eTx)) x32), kSh ((eL (eT eTx)) x39), kFr, kFr, kSh (eAny x204.1.1), kSh (eAny x204.1.2), kFr, kFr]) (ds := [eAny x208, eAny x209]) h rfl rfl (sim_word_squares_2 x208 x209))))))))) (fun (x210 : Tx) g h => (SR_cons (SR_ref (SR_rCall (SR_rSh (SR.conv (E' := eAny) (f := fun (v : (List Tx)) => ((eT eTx) v : PyData)) (SR_var (E := (eT eTx)) (a := x16.1) h rfl) (fun _ => rfl) (fun _ _ h => h)) (fun (x211 : PyData) g h => (SR_rSh (SR_var (E := eAny) (a := x204.1.2) h rfl) (fun (x212 : PyData) g h => (SR_rNil (SR_rEndS (ks := [kBr ((x204.2).map PyData.int), kSh (PyData.int x6.1), kSh (eTx x11.1), kSh ((eT eTx) x16.1), kSh ((eL (eT eTx)) x25), kFr, kFr, kSh ((eL (eT eTx)) x32), kSh ((eL (eT eTx)) x39), kFr, kFr, kSh (eAny x204.1.1), kSh (eAny x204.1.2), kFr, kFr]) (ds := [eAny x211, eAny x212]) h rfl rfl (sim_double_squares_2 x211 x212))))))))) (fun (x213 : Tx) g h => (SR_cons (SR_ref (SR_rCall (SR_rSh (SR_var (E := eAny) (a := x204.1.1) h rfl) (fun (x214 : PyData) g h => (SR_rSh (SR.conv (E' := eAny) (f := fun (v : (List PyData)) => ((eT eAny) v : PyData)) (SR_tup (SR_nil (SR_endT (E := (eT eAny)) (κ := fun (_ : (List PyData)) => [kBr ((x204.2).map PyData.int), kSh (PyData.int x6.1), kSh (eTx x11.1), kSh ((eT eTx) x16.1), kSh ((eL (eT eTx)) x25), kFr, kFr, kSh ((eL (eT eTx)) x32), kSh ((eL (eT eTx)) x39), kFr, kFr, kSh (eAny x204.1.1), kSh (eAny x204.1.2), kFr, kFr]) (a := ([] : (List PyData))) h rfl (Nat.le_of_ble_eq_true rfl)))) (fun _ => rfl) (fun _ _ h => h)) (fun (x215 : PyData) g h => (SR_rNil (SR_rEndS (ks := [kBr ((x204.2).map PyData.int), kSh (PyData.int x6.1), kSh (eTx x11.1), kSh ((eT eTx) x16.1), kSh ((eL (eT eTx)) x25), kFr, kFr, kSh ((eL (eT eTx)) x32), kSh ((eL (eT eTx)) x39), kFr, kFr, kSh (eAny x204.1.1), kSh (eAny x204.1.2), kFr, kFr]) (ds := [eAny x214, eAny x215]) h rfl rfl (sim_is_word_square x214 x215))))))))) (fun (x216 : Tx) g h => (SR_cons (SR_ref (SR_rCall (SR_rSh (SR_var (E := eAny) (a := x204.1.1) h rfl) (fun (x217 : PyData) g h => (SR_rSh (SR.conv (E' := eAny) (f := fun (v : (List PyData)) => ((eT eAny) v : PyData)) (SR_tup (SR_nil (SR_endT (E := (eT eAny)) (κ := fun (_ : (List PyData)) => [kBr ((x204.2).map PyData.int), kSh (PyData.int x6.1), kSh (eTx x11.1), kSh ((eT eTx) x16.1), kSh ((eL (eT eTx)) x25), kFr, kFr, kSh ((eL (eT eTx)) x32), kSh ((eL (eT eTx)) x39), kFr, kFr, kSh (eAny x204.1.1), kSh (eAny x204.1.2), kFr, kFr]) (a := ([] : (List PyData))) h rfl (Nat.le_of_ble_eq_true rfl)))) (fun _ => rfl) (fun _ _ h => h)) (fun (x218 : PyData) g h => (SR_rNil (SR_rEndS (ks := [kBr ((x204.2).map PyData.int), kSh (PyData.int x6.1), kSh (eTx x11.1), kSh ((eT eTx) x16.1), kSh ((eL (eT eTx)) x25), kFr, kFr, kSh ((eL (eT eTx)) x32), kSh ((eL (eT eTx)) x39), kFr, kFr, kSh (eAny x204.1.1), kSh (eAny x204.1.2), kFr, kFr]) (ds := [eAny x217, eAny x218]) h rfl rfl (sim_is_double_square x217 x218))))))))) (fun (x219 : Tx) g h => (SR_nil (SR_endL (E := (eL eTx)) (κ := fun (_ : (List Tx)) => [kBr ((x204.2).map PyData.int), kSh (PyData.int x6.1), kSh (eTx x11.1), kSh ((eT eTx) x16.1), kSh ((eL (eT eTx)) x25), kFr, kFr, kSh ((eL (eT eTx)) x32), kSh ((eL (eT eTx)) x39), kFr, kFr, kSh (eAny x204.1.1), kSh (eAny x204.1.2), kFr, kFr]) (a := ([x207, x210, x213, x216, x219] : (List Tx))) h rfl (Nat.le_of_ble_eq_true rfl)))))))))))))) (fun _ => ⟨_, rfl, nb_f⟩) (fun (x220 : (List Tx)) g (h : Fit [kBr ((x204.2).map PyData.int), kSh (PyData.int x6.1), kSh (eTx x11.1), kSh ((eT eTx) x16.1), kSh ((eL (eT eTx)) x25), kFr, kOw ((x220).map eTx), kSh ((eL (eT eTx)) x32), kSh ((eL (eT eTx)) x39), kFr, kFr, kSh (eAny x204.1.1), kSh (eAny x204.1.2), kFr, kFr] g) => (SG_ret (v := fun (v : (Bool × (List Int))) => v) (SR.conv (E' := fun (p : (Bool × (List Int))) => PyData.bool p.1) (κ' := (fun (p : (Bool × (List Int))) => [kBr ((p.2).map PyData.int), kSh (PyData.int x6.1), kSh (eTx x11.1), kSh ((eT eTx) x16.1), kSh ((eL (eT eTx)) x25), kFr, kOw ((x220).map eTx), kSh ((eL (eT eTx)) x32), kSh ((eL (eT eTx)) x39), kFr, kFr, kSh (eAny x204.1.1), kSh (eAny x204.1.2), kFr, kFr])) (f := fun (v : Bool) => (v, x204.2)) (SR_bindV h (pk_o rfl) (SR_lst (SR_cons (SR_cst (E := eTx) (a := ([108, 101, 120, 105, 99, 111, 110] : Tx)) h cs_2) (fun (x221 : Tx) g h => (SR_cons (SR_cst (E := eTx) (a := ([108, 101, 110, 103, 116, 104] : Tx)) h cs_3) (fun (x222 : Tx) g h => (SR_cons (SR_cst (E := eTx) (a := ([108, 101, 110, 103, 116, 104] : Tx)) h cs_3) (fun (x223 : Tx) g h => (SR_cons (SR_cst (E := eTx) (a := ([108, 101, 120, 105, 99, 111, 110] : Tx)) h cs_2) (fun (x224 : Tx) g h => (SR_cons (SR_cst (E := eTx) (a := ([108, 101, 120, 105, 99, 111, 110] : Tx)) h cs_2) (fun (x225 : Tx) g h => (SR_nil (SR_endL (E := (eL eTx)) (κ := fun (_ : (List Tx)) => [kBr ((x204.2).map PyData.int), kSh (PyData.int x6.1), kSh (eTx x11.1), kSh ((eT eTx) x16.1), kSh ((eL (eT eTx)) x25), kFr, kOw ((x220).map eTx), kSh ((eL (eT eTx)) x32), kSh ((eL (eT eTx)) x39), kFr, kFr, kSh (eAny x204.1.1), kSh (eAny x204.1.2), kFr, kFr]) (a := ([x221, x222, x223, x224, x225] : (List Tx))) h rfl (Nat.le_of_ble_eq_true rfl)))))))))))))) (fun _ => pk_o rfl) (fun (x226 : (List Tx)) g h => (SR_kCmp h (lc_eq (qL qTx) (by decide) x220 _)))) (fun _ => rfl) (fun _ _ h => h)) (fun (x227 : (Bool × (List Int))) g r h hr => qt_ret h (lent_t lent_n) hr))))))))))))))))))))))))))))))))))))

def T_law (a_script : (List Int)) : R (Bool) := (onO (R.bind (R.bind (R.bind (R.ok (1)) fun (x1 : Int) => R.bind (R.bind (R.ok (5)) fun (x2 : Int) => R.bind (R.bind (R.ok a_script) fun (x3 : (List Int)) => (R.ok (Int.ofNat (List.length x3)))) fun (x4 : Int) => (R.ok (if x4 < x2 then x4 else x2))) fun (x5 : Int) => (R.ok (if x5 > x1 then x5 else x1))) fun b => rngR 0 b) fun (b6 : (List Int)) => forO b6 () (fun (y8 : Int) (s7 : Unit) => (R.bind (R.bind (R.bind (R.bind (R.ok a_script) fun (x15 : (List Int)) => (R.bind (R.ok y8) fun (x16 : Int) => (T_law_dice x15 x16))) fun (x17 : (List Int)) => (R.bind (R.noex (T_law_right x17)) fun v => R.ok v.1)) fun x => R.ok (!x)) fun x18 => cond x18 (R.bind (R.bind (R.ok false) fun (v : Bool) => R.ok v) fun v => R.ok (Out.rt v)) (R.ok (Out.nx ()))))) (fun v => v) fun (s14 : Unit) => (R.bind (R.bind (R.bind (R.bind (R.bind (R.ok ([97, 98] : Tx)) fun (x20 : Tx) => (R.bind (R.ok ([98, 97] : Tx)) fun (x21 : Tx) => (R.bind (R.ok ([98, 99] : Tx)) fun (x22 : Tx) => (R.ok ([x20, x21, x22] : (List Tx)))))) fun (x23 : (List Tx)) => (R.bind (R.ok (2)) fun (x24 : Int) => (T_word_squares x23 x24))) fun (x25 : (List (List Tx))) => R.bind (R.bind (R.bind (R.ok ([97, 98] : Tx)) fun (x26 : Tx) => (R.bind (R.ok ([98, 97] : Tx)) fun (x27 : Tx) => (R.ok ([x26, x27] : (List Tx))))) fun (x28 : (List Tx)) => (R.bind (R.bind (R.ok ([97, 98] : Tx)) fun (x29 : Tx) => (R.bind (R.ok ([98, 99] : Tx)) fun (x30 : Tx) => (R.ok ([x29, x30] : (List Tx))))) fun (x31 : (List Tx)) => (R.bind (R.bind (R.ok ([98, 97] : Tx)) fun (x32 : Tx) => (R.bind (R.ok ([97, 98] : Tx)) fun (x33 : Tx) => (R.ok ([x32, x33] : (List Tx))))) fun (x34 : (List Tx)) => (R.ok ([x28, x31, x34] : (List (List Tx))))))) fun (x35 : (List (List Tx))) => (R.ok (eqT x25 x35))) fun x => cond x (R.bind (R.bind (R.bind (R.ok ([97, 98] : Tx)) fun (x36 : Tx) => (R.bind (R.ok ([97, 99] : Tx)) fun (x37 : Tx) => (R.bind (R.ok ([98, 100] : Tx)) fun (x38 : Tx) => (R.bind (R.ok ([99, 100] : Tx)) fun (x39 : Tx) => (R.ok ([x36, x37, x38, x39] : (List Tx))))))) fun (x40 : (List Tx)) => (R.bind (R.ok (2)) fun (x41 : Int) => (T_double_squares x40 x41))) fun (x42 : (List (List Tx))) => R.bind (R.bind (R.bind (R.ok ([97, 98] : Tx)) fun (x43 : Tx) => (R.bind (R.ok ([99, 100] : Tx)) fun (x44 : Tx) => (R.ok ([x43, x44] : (List Tx))))) fun (x45 : (List Tx)) => (R.ok ([x45] : (List (List Tx))))) fun (x46 : (List (List Tx))) => (R.ok (eqT x42 x46))) (R.ok false)) fun (v : Bool) => R.ok v))
theorem sim_law (a_script : (List Int)) : SFn .o (f_law [.sh ((eL PyData.int) a_script)]) (T_law a_script) PyData.bool (fun _ => []) := by
  unfold T_law
  have h : Fit [kSh ((eL PyData.int) a_script), kFr] [.sh ((eL PyData.int) a_script), .un] := ⟨rfl, ⟨.inl rfl, trivial⟩⟩
  exact SFn_of (n := 2) (brf := [false]) (r := m_law [.sh ((eL PyData.int) a_script), .un]) (SG_seqO (P := fun (s : Unit) => [kSh ((eL PyData.int) a_script), kFr]) (L := fun (s : Unit) => [kSh ((eL PyData.int) a_script), kFr]) (hf := (fun v => v)) (SG_forO qt_rt (X := fun (b6 : (List Int)) => b6) (s0 := fun (b6 : (List Int)) => ()) (P := fun (s : Unit) => [kSh ((eL PyData.int) a_script), kFr]) (P1 := fun (y8 : Int) (s7 : Unit) => [kSh ((eL PyData.int) a_script), kSh (PyData.int y8)]) (SI_rng (SR_b2 (SR_cst (E := PyData.int) (a := (1)) h rfl) (fun (x1 : Int) g h => (SR_b2 (SR_cst (E := PyData.int) (a := (5)) h rfl) (fun (x2 : Int) g h => (SR_u (SR_pv (E := (eL PyData.int)) (a := a_script) h (pk_s rfl)) (fun (x3 : (List Int)) g h => (SR_ofB h (lb_lenL _))))) (fun (x2 : Int) (x4 : Int) g h => (SR_ofB h (lb_min _ _))))) (fun (x1 : Int) (x5 : Int) g h => (SR_ofB h (lb_max _ _))))) (fun (b6 : (List Int)) g h => h.imp (imp_c i_id (imp_c i_id imp_n))) (fun (y8 : Int) (s7 : Unit) => (tg_nm rfl nb_f)) (fun (y8 : Int) (s7 : Unit) g (h : Fit [kSh ((eL PyData.int) a_script), kSh (PyData.int y8)] g) => (SG_last (SG_ifr (SR_not (SR_call (SR_aByt (F := fun (c : (List Int)) => c.map PyData.int) (SR_call (SR_aSh (SR_var (E := (eL PyData.int)) (a := a_script) h rfl) (fun (x15 : (List Int)) g h => (SR_aSh (SR_var (E := PyData.int) (a := y8) h rfl) (fun (x16 : Int) g h => (SR_aNil (SR_endS (ks := [kSh ((eL PyData.int) a_script), kSh (PyData.int y8)]) (ds := [(eL PyData.int) x15, PyData.int x16]) h rfl rfl (sim_law_dice x15 x16)))))))) (fun (x17 : (List Int)) g h => (SR_aNil (SR.conv (E' := PyData.bool) (f := fun (v : (Bool × (List Int))) => v.1) (SR_endG (E := fun (p : (Bool × (List Int))) => PyData.bool p.1) (ds := []) (B := fun (p : (Bool × (List Int))) => p.2.map PyData.int) h rfl (sim_law_right x17)) (fun _ => rfl) (fun _ _ h => h))))))) (fun x18 g h => (SG_retON (SG.tn (SG_ret (v := fun (v : Bool) => v) (SR_cst (E := PyData.bool) (a := false) h rfl) (fun (x19 : Bool) g r h hr => qt_ret h (lent_f lent_n) hr))))) (fun x18 g h => (SG_nops (SG_endO (h.imp (imp_c i_id (imp_c i_sf imp_n)))))))))) (fun _ _ q => q) (fun (s14 : Unit) g (h : Fit [kSh ((eL PyData.int) a_script), kFr] g) => (SG_ret (v := fun (v : Bool) => v) (SR_and (SR_cmp (SR_call (SR_aSh (SR_tup (SR_cons (SR_cst (E := eTx) (a := ([97, 98] : Tx)) h cs_4) (fun (x20 : Tx) g h => (SR_cons (SR_cst (E := eTx) (a := ([98, 97] : Tx)) h cs_11) (fun (x21 : Tx) g h => (SR_cons (SR_cst (E := eTx) (a := ([98, 99] : Tx)) h cs_12) (fun (x22 : Tx) g h => (SR_nil (SR_endT (E := (eT eTx)) (κ := fun (_ : (List Tx)) => [kSh ((eL PyData.int) a_script), kFr]) (a := ([x20, x21, x22] : (List Tx))) h rfl (Nat.le_of_ble_eq_true rfl)))))))))) (fun (x23 : (List Tx)) g h => (SR_aSh (SR_cst (E := PyData.int) (a := (2)) h rfl) (fun (x24 : Int) g h => (SR_aNil (SR_endS (ks := [kSh ((eL PyData.int) a_script), kFr]) (ds := [(eT eTx) x23, PyData.int x24]) h rfl rfl (sim_word_squares x23 x24)))))))) (fun (x25 : (List (List Tx))) g h => (SR_tup (SR_cons (SR_tup (SR_cons (SR_cst (E := eTx) (a := ([97, 98] : Tx)) h cs_4) (fun (x26 : Tx) g h => (SR_cons (SR_cst (E := eTx) (a := ([98, 97] : Tx)) h cs_11) (fun (x27 : Tx) g h => (SR_nil (SR_endT (E := (eT eTx)) (κ := fun (_ : (List Tx)) => [kSh ((eL PyData.int) a_script), kFr]) (a := ([x26, x27] : (List Tx))) h rfl (Nat.le_of_ble_eq_true rfl)))))))) (fun (x28 : (List Tx)) g h => (SR_cons (SR_tup (SR_cons (SR_cst (E := eTx) (a := ([97, 98] : Tx)) h cs_4) (fun (x29 : Tx) g h => (SR_cons (SR_cst (E := eTx) (a := ([98, 99] : Tx)) h cs_12) (fun (x30 : Tx) g h => (SR_nil (SR_endT (E := (eT eTx)) (κ := fun (_ : (List Tx)) => [kSh ((eL PyData.int) a_script), kFr]) (a := ([x29, x30] : (List Tx))) h rfl (Nat.le_of_ble_eq_true rfl)))))))) (fun (x31 : (List Tx)) g h => (SR_cons (SR_tup (SR_cons (SR_cst (E := eTx) (a := ([98, 97] : Tx)) h cs_11) (fun (x32 : Tx) g h => (SR_cons (SR_cst (E := eTx) (a := ([97, 98] : Tx)) h cs_4) (fun (x33 : Tx) g h => (SR_nil (SR_endT (E := (eT eTx)) (κ := fun (_ : (List Tx)) => [kSh ((eL PyData.int) a_script), kFr]) (a := ([x32, x33] : (List Tx))) h rfl (Nat.le_of_ble_eq_true rfl)))))))) (fun (x34 : (List Tx)) g h => (SR_nil (SR_endT (E := (eT (eT eTx))) (κ := fun (_ : (List (List Tx))) => [kSh ((eL PyData.int) a_script), kFr]) (a := ([x28, x31, x34] : (List (List Tx)))) h rfl (Nat.le_of_ble_eq_true rfl))))))))))) (fun (x25 : (List (List Tx))) (x35 : (List (List Tx))) g h => (SR_kCmp h (lc_eq (qT (qT qTx)) (by decide) _ _)))) fun g h => (SR_cmp (SR_call (SR_aSh (SR_tup (SR_cons (SR_cst (E := eTx) (a := ([97, 98] : Tx)) h cs_4) (fun (x36 : Tx) g h => (SR_cons (SR_cst (E := eTx) (a := ([97, 99] : Tx)) h cs_13) (fun (x37 : Tx) g h => (SR_cons (SR_cst (E := eTx) (a := ([98, 100] : Tx)) h cs_14) (fun (x38 : Tx) g h => (SR_cons (SR_cst (E := eTx) (a := ([99, 100] : Tx)) h cs_15) (fun (x39 : Tx) g h => (SR_nil (SR_endT (E := (eT eTx)) (κ := fun (_ : (List Tx)) => [kSh ((eL PyData.int) a_script), kFr]) (a := ([x36, x37, x38, x39] : (List Tx))) h rfl (Nat.le_of_ble_eq_true rfl)))))))))))) (fun (x40 : (List Tx)) g h => (SR_aSh (SR_cst (E := PyData.int) (a := (2)) h rfl) (fun (x41 : Int) g h => (SR_aNil (SR_endS (ks := [kSh ((eL PyData.int) a_script), kFr]) (ds := [(eT eTx) x40, PyData.int x41]) h rfl rfl (sim_double_squares x40 x41)))))))) (fun (x42 : (List (List Tx))) g h => (SR_tup (SR_cons (SR_tup (SR_cons (SR_cst (E := eTx) (a := ([97, 98] : Tx)) h cs_4) (fun (x43 : Tx) g h => (SR_cons (SR_cst (E := eTx) (a := ([99, 100] : Tx)) h cs_15) (fun (x44 : Tx) g h => (SR_nil (SR_endT (E := (eT eTx)) (κ := fun (_ : (List Tx)) => [kSh ((eL PyData.int) a_script), kFr]) (a := ([x43, x44] : (List Tx))) h rfl (Nat.le_of_ble_eq_true rfl)))))))) (fun (x45 : (List Tx)) g h => (SR_nil (SR_endT (E := (eT (eT eTx))) (κ := fun (_ : (List (List Tx))) => [kSh ((eL PyData.int) a_script), kFr]) (a := ([x45] : (List (List Tx)))) h rfl (Nat.le_of_ble_eq_true rfl))))))) (fun (x42 : (List (List Tx))) (x46 : (List (List Tx))) g h => (SR_kCmp h (lc_eq (qT (qT qTx)) (by decide) _ _))))) (fun (x47 : Bool) g r h hr => qt_ret h (lent_f lent_n) hr)))) rfl (Nat.le_of_ble_eq_true rfl)

end K10

set_option Elab.async false
set_option linter.all false
set_option maxRecDepth 100000
set_option maxHeartbeats 4000000
/-! TyM: running typed readings. -/
namespace Ty
open PySem Ev
theorem R.and_ok (a b : Bool) : cond a (R.ok b) (R.ok false) = R.ok (a && b) := by cases a <;> rfl
theorem R.or_ok (a b : Bool) : cond a (R.ok true) (R.ok b) = R.ok (a || b) := by cases a <;> rfl
section
variable {α β γ δ σ τ ρ : Type}
theorem szR_ok {xs : List α} (h : xs.length ≤ 16777216) : szR xs = .ok xs := if_pos h
theorem lenTx_ok {z : Tx} (h : z.length ≤ 16777216) : lenTx z = .ok (z.length : Int) := if_pos h
theorem idxR_nat {xs : List α} {i : Nat} : idxR xs (i : Int) = R.ofOpt xs[i]? := by
  unfold idxR L2.atI L2.ixN
  by_cases h : i < xs.length
  · rw [if_pos (by omega), if_pos (by omega), Option.bind_some, Int.toNat_natCast]
  · rw [if_pos (by omega), if_neg (by omega), List.getElem?_eq_none (by omega)]; rfl
theorem idxR_zero {x : α} {r : List α} : idxR (x :: r) 0 = .ok x := idxR_nat (xs := x :: r) (i := 0)
theorem idxR_int {xs : List α} {i : Int} (h0 : 0 ≤ i) : idxR xs i = R.ofOpt xs[i.toNat]? := by
  have e : ((i.toNat : Nat) : Int) = i := Int.toNat_of_nonneg h0
  rw [← idxR_nat, e]
theorem idxR_mem {xs : List α} {r : Int} (h0 : 0 ≤ r) (h1 : r < xs.length) : ∃ x ∈ xs, idxR xs r = .ok x := by
  have hk : r.toNat < xs.length := by omega
  exact ⟨xs[r.toNat], List.getElem_mem hk, by rw [idxR_int h0, List.getElem?_eq_getElem hk]; rfl⟩
theorem idxTx_nat {z : Tx} {i : Nat} (h : z.length ≤ 16777216) : idxTx z (i : Int) = R.ofOpt z[i]? := by
  unfold idxTx
  rw [if_pos h]
  exact idxR_nat
theorem rngR_nat {n : Nat} (h : n < 4611686018427387904) : rngR 0 (n : Int) = .ok ((List.range n).map fun (k : Nat) => (k : Int)) := by
  unfold rngR
  rw [if_pos ⟨by decide, by decide, by omega, by omega⟩]
  simp
theorem rngR_int {n : Int} (h0 : 0 ≤ n) (h : n < 4611686018427387904) : rngR 0 n = .ok ((List.range n.toNat).map fun (k : Nat) => (k : Int)) := by
  have e : ((n.toNat : Nat) : Int) = n := Int.toNat_of_nonneg h0
  rw [← rngR_nat (by omega), e]
theorem rngR_get {n i : Nat} {x : Int} (h : ((List.range n).map fun (k : Nat) => (k : Int))[i]? = some x) : i < n ∧ x = i := by
  rw [List.getElem?_map] at h
  obtain ⟨k, e1, e2⟩ := Option.map_eq_some_iff.mp h
  obtain ⟨h1, h2⟩ := List.getElem?_eq_some_iff.mp e1
  rw [List.length_range] at h1
  rw [List.getElem_range] at h2
  exact ⟨h1, by rw [← e2, ← h2]⟩
theorem joinC_nil {xs : List Ch} (h : xs.length ≤ 16777216) : joinC [] xs = .ok xs := by unfold joinC; rw [if_pos rfl, szR_ok h]
/-! comprehensions -/
theorem compGoR_eq {p : α → R Bool} {f : α → R β} (q : α → Bool) (g : α → β) : ∀ {xs : List α}, (∀ x ∈ xs, p x = .ok (q x)) → (∀ x ∈ xs, q x = true → f x = .ok (g x)) → compGoR xs p f = .ok ((xs.filter q).map g)
  | [], _, _ => rfl
  | x :: xs, hp, hf => by
    unfold compGoR
    rw [hp x List.mem_cons_self, R.noex_ok, R.bind_ok, compGoR_eq q g (fun y m => hp y (List.mem_cons_of_mem _ m)) fun y m => hf y (List.mem_cons_of_mem _ m)]
    cases k : q x with
    | true => rw [List.filter_cons_of_pos k, hf x List.mem_cons_self k]; rfl
    | false => rw [List.filter_cons_of_neg (by rw [k]; decide)]; rfl
theorem compR_eq {xs : List α} {p : α → R Bool} {f : α → R β} (q : α → Bool) (g : α → β) (hp : ∀ x ∈ xs, p x = .ok (q x)) (hf : ∀ x ∈ xs, q x = true → f x = .ok (g x)) (hz : xs.length < 16777216) : compR xs p f = .ok ((xs.filter q).map g) := by
  unfold compR
  rw [compGoR_eq q g hp hf, R.bind_ok, if_pos (by have := List.length_filter_le q xs; rw [List.length_map]; omega)]
theorem compR_map {xs : List α} {f : α → R β} (g : α → β) (hf : ∀ x ∈ xs, f x = .ok (g x)) (hz : xs.length < 16777216) : compR xs (fun _ => .ok true) f = .ok (xs.map g) := by
  rw [compR_eq (fun _ => true) g (fun _ _ => rfl) (fun x m _ => hf x m) hz, List.filter_eq_self.mpr fun _ _ => rfl]
theorem compR_filter {xs : List α} {p : α → R Bool} (q : α → Bool) (hp : ∀ x ∈ xs, p x = .ok (q x)) (hz : xs.length < 16777216) : compR xs p (fun x => .ok x) = .ok (xs.filter q) := by
  rw [compR_eq q (fun x => x) hp (fun x m _ => rfl) hz]
  simp
theorem compGoM_run {J : Nat → δ → Prop} {Y : β → Prop} {f : α → δ → R (β × δ)} : ∀ {xs : List α} {s : δ} (k : Nat), (∀ i x s, xs[i]? = some x → J (k + i) s → ∃ y s', f x s = .ok (y, s') ∧ Y y ∧ J (k + i + 1) s') → J k s →
    ∃ ys s', compGoM xs s f = .ok (ys, s') ∧ ys.length = xs.length ∧ (∀ y ∈ ys, Y y) ∧ J (k + xs.length) s'
  | [], s, k, _, j => ⟨[], s, rfl, rfl, fun _ m => absurd m (by simp), j⟩
  | x :: xs, s, k, h, j => by
    obtain ⟨y, s1, e1, y1, j1⟩ := h 0 x s rfl j
    obtain ⟨ys, s2, e2, l2, y2, j2⟩ := compGoM_run (J := J) (Y := Y) (f := f) (xs := xs) (s := s1) (k + 1) (fun i x s hx hj => by
      obtain ⟨a, b, c, d, e⟩ := h (i + 1) x s (by simpa using hx) (by rw [show k + (i + 1) = k + 1 + i by omega]; exact hj)
      exact ⟨a, b, c, d, by rw [show k + 1 + i + 1 = k + (i + 1) + 1 by omega]; exact e⟩) j1
    refine ⟨y :: ys, s2, ?_, by simp [l2], fun z m => ?_, by rw [List.length_cons, show k + (xs.length + 1) = k + 1 + xs.length by omega]; exact j2⟩
    · unfold compGoM
      rw [e1, R.noex_ok, R.bind_ok]
      show R.bind (compGoM xs s1 f) _ = _
      rw [e2]; rfl
    · rcases List.mem_cons.mp m with rfl | m
      · exact y1
      · exact y2 z m
theorem compM_run {J : Nat → δ → Prop} {Y : β → Prop} {f : α → δ → R (β × δ)} {xs : List α} {s : δ} (h : ∀ i x s, xs[i]? = some x → J i s → ∃ y s', f x s = .ok (y, s') ∧ Y y ∧ J (i + 1) s') (j : J 0 s) (hz : xs.length < 16777216) :
    ∃ ys s', compM xs s f = .ok (ys, s') ∧ ys.length = xs.length ∧ (∀ y ∈ ys, Y y) ∧ J xs.length s' := by
  obtain ⟨ys, s', e, l, y, j'⟩ := compGoM_run (J := J) (Y := Y) (f := f) (xs := xs) (s := s) 0 (fun i x s a b => by
    rw [Nat.zero_add] at b
    obtain ⟨u, v, c1, c2, c3⟩ := h i x s a b
    exact ⟨u, v, c1, c2, by rw [Nat.zero_add]; exact c3⟩) j
  refine ⟨ys, s', ?_, l, y, by rw [Nat.zero_add] at j'; exact j'⟩
  unfold compM
  rw [e, R.bind_ok, if_pos (by rw [l]; exact hz)]
/-! loops -/
theorem forR_run {J : Nat → σ → Prop} {f : α → σ → R σ} : ∀ {xs : List α} {s : σ} (k : Nat), (∀ i x s, xs[i]? = some x → J (k + i) s → ∃ s', f x s = .ok s' ∧ J (k + i + 1) s') → J k s → ∃ s', forR xs s f = .ok s' ∧ J (k + xs.length) s'
  | [], s, k, _, j => ⟨s, rfl, j⟩
  | x :: xs, s, k, h, j => by
    obtain ⟨s1, e1, j1⟩ := h 0 x s rfl j
    obtain ⟨s2, e2, j2⟩ := forR_run (J := J) (f := f) (xs := xs) (s := s1) (k + 1) (fun i x s hx hj => by
      obtain ⟨a, b, c⟩ := h (i + 1) x s (by simpa using hx) (by rw [show k + (i + 1) = k + 1 + i by omega]; exact hj)
      exact ⟨a, b, by rw [show k + 1 + i + 1 = k + (i + 1) + 1 by omega]; exact c⟩) j1
    refine ⟨s2, ?_, by rw [List.length_cons, show k + (xs.length + 1) = k + 1 + xs.length by omega]; exact j2⟩
    unfold forR
    rw [e1, R.bind_ok, e2]
theorem forR_inv {J : Nat → σ → Prop} {f : α → σ → R σ} {xs : List α} {s : σ} (h : ∀ i x s, xs[i]? = some x → J i s → ∃ s', f x s = .ok s' ∧ J (i + 1) s') (j : J 0 s) : ∃ s', forR xs s f = .ok s' ∧ J xs.length s' := by
  obtain ⟨s', e, j'⟩ := forR_run (J := J) (f := f) (xs := xs) (s := s) 0 (fun i x s a b => by
    rw [Nat.zero_add] at b
    obtain ⟨v, c1, c3⟩ := h i x s a b
    exact ⟨v, c1, by rw [Nat.zero_add]; exact c3⟩) j
  exact ⟨s', e, by rw [Nat.zero_add] at j'; exact j'⟩
/-- the state is told by the number of turns -/
theorem forR_eq {f : α → σ → R σ} {xs : List α} {s : σ} (F : Nat → σ) (h0 : F 0 = s) (h : ∀ i x, xs[i]? = some x → f x (F i) = .ok (F (i + 1))) : forR xs s f = .ok (F xs.length) := by
  obtain ⟨s', e, j⟩ := forR_inv (J := fun i s => s = F i) (f := f) (xs := xs) (s := s) (fun i x s hx hj => ⟨F (i + 1), by rw [hj]; exact h i x hx, rfl⟩) h0.symm
  rw [e, j]
/-- laid together turn by turn -/
theorem forR_flat {f : α → List β → R (List β)} (G : α → List β) : ∀ {xs : List α} {s : List β} {N : Nat}, (∀ x ∈ xs, ∀ s : List β, (s ++ G x).length ≤ N → f x s = .ok (s ++ G x)) → (s ++ xs.flatMap G).length ≤ N → forR xs s f = .ok (s ++ xs.flatMap G)
  | [], s, N, _, _ => by simp [forR]
  | x :: xs, s, N, h, l => by
    unfold forR
    rw [List.flatMap_cons, ← List.append_assoc] at l
    rw [h x List.mem_cons_self s (by rw [List.length_append] at l; omega), R.bind_ok, forR_flat G (fun y m => h y (List.mem_cons_of_mem _ m)) l, List.flatMap_cons, List.append_assoc]
theorem forO_run {J : Nat → σ → Prop} {f : α → σ → R (Out σ ρ)} : ∀ {xs : List α} {s : σ} (k : Nat), (∀ i x s, xs[i]? = some x → J (k + i) s → ∃ s', f x s = .ok (.nx s') ∧ J (k + i + 1) s') → J k s → ∃ s', forO xs s f = .ok (.nx s') ∧ J (k + xs.length) s'
  | [], s, k, _, j => ⟨s, rfl, j⟩
  | x :: xs, s, k, h, j => by
    obtain ⟨s1, e1, j1⟩ := h 0 x s rfl j
    obtain ⟨s2, e2, j2⟩ := forO_run (J := J) (f := f) (xs := xs) (s := s1) (k + 1) (fun i x s hx hj => by
      obtain ⟨a, b, c⟩ := h (i + 1) x s (by simpa using hx) (by rw [show k + (i + 1) = k + 1 + i by omega]; exact hj)
      exact ⟨a, b, by rw [show k + 1 + i + 1 = k + (i + 1) + 1 by omega]; exact c⟩) j1
    refine ⟨s2, ?_, by rw [List.length_cons, show k + (xs.length + 1) = k + 1 + xs.length by omega]; exact j2⟩
    unfold forO
    rw [e1, R.bind_ok]
    exact e2
theorem forO_inv {J : Nat → σ → Prop} {f : α → σ → R (Out σ ρ)} {xs : List α} {s : σ} (h : ∀ i x s, xs[i]? = some x → J i s → ∃ s', f x s = .ok (.nx s') ∧ J (i + 1) s') (j : J 0 s) : ∃ s', forO xs s f = .ok (.nx s') ∧ J xs.length s' := by
  obtain ⟨s', e, j'⟩ := forO_run (J := J) (f := f) (xs := xs) (s := s) 0 (fun i x s a b => by
    rw [Nat.zero_add] at b
    obtain ⟨v, c1, c3⟩ := h i x s a b
    exact ⟨v, c1, by rw [Nat.zero_add]; exact c3⟩) j
  exact ⟨s', e, by rw [Nat.zero_add] at j'; exact j'⟩
theorem onO_nx {t : R (Out σ ρ)} {h : ρ → β} {k : σ → R β} {s : σ} (e : t = .ok (.nx s)) : onO t h k = k s := by rw [e]; rfl
/-! tests -/
@[simp] theorem all_id {α : Type} (p : α → Bool) (l : List α) : (l.map p).all id = l.all p := by simp [List.all_map]
@[simp] theorem any_id {α : Type} (p : α → Bool) (l : List α) : (l.map p).any id = l.any p := by simp [List.any_map]
/-! order -/
theorem insT_perm (lt : α → α → Bool) (x : α) : ∀ l : List α, (insT lt x l).Perm (x :: l)
  | [] => List.Perm.refl _
  | y :: r => by
    unfold insT
    by_cases h : lt y x = true
    · rw [if_pos h]; exact ((insT_perm lt x r).cons y).trans (List.Perm.swap x y r)
    · rw [if_neg h]
theorem sortT_perm (lt : α → α → Bool) : ∀ l : List α, (sortT lt l).Perm l
  | [] => List.Perm.refl _
  | x :: r => (insT_perm lt x (sortT lt r)).trans ((sortT_perm lt r).cons x)
theorem insT_srt {lt : α → α → Bool} (tr : ∀ a b c, lt b a = false → lt c b = false → lt c a = false) (asy : ∀ a b, lt a b = true → lt b a = false) (x : α) : ∀ {l : List α}, l.Pairwise (fun a b => lt b a = false) → (insT lt x l).Pairwise fun a b => lt b a = false
  | [], _ => List.pairwise_singleton _ _
  | y :: r, h => by
    obtain ⟨h1, h2⟩ := List.pairwise_cons.mp h
    unfold insT
    cases k : lt y x with
    | true =>
      rw [if_pos rfl]
      refine List.pairwise_cons.mpr ⟨fun z m => ?_, insT_srt tr asy x h2⟩
      rcases List.mem_cons.mp ((insT_perm lt x r).mem_iff.mp m) with rfl | m
      · exact asy _ _ k
      · exact h1 z m
    | false =>
      rw [if_neg (by decide)]
      refine List.pairwise_cons.mpr ⟨fun z m => ?_, h⟩
      rcases List.mem_cons.mp m with rfl | m
      · exact k
      · exact tr _ _ _ k (h1 z m)
theorem sortT_srt {lt : α → α → Bool} (tr : ∀ a b c, lt b a = false → lt c b = false → lt c a = false) (asy : ∀ a b, lt a b = true → lt b a = false) : ∀ l : List α, (sortT lt l).Pairwise fun a b => lt b a = false
  | [] => List.Pairwise.nil
  | x :: r => insT_srt tr asy x (sortT_srt tr asy r)
theorem ltTx_tr (a b c : Tx) (h : ltTx b a = false) (k : ltTx c b = false) : ltTx c a = false := by
  have h := List.not_lt.mp (of_decide_eq_false h)
  have k := List.not_lt.mp (of_decide_eq_false k)
  exact decide_eq_false (List.not_lt.mpr (List.le_trans h k))
theorem dedupT_mem [DecidableEq α] : ∀ {l : List α} {a : α}, a ∈ dedupT l ↔ a ∈ l
  | [], a => Iff.rfl
  | x :: r, a => by
    unfold dedupT
    by_cases h : x ∈ dedupT r
    · rw [if_pos h, dedupT_mem, List.mem_cons]
      exact ⟨.inr, fun k => k.elim (fun e => by rw [e]; exact dedupT_mem.mp h) id⟩
    · rw [if_neg h, List.mem_cons, List.mem_cons, dedupT_mem]
theorem dedupT_nodup [DecidableEq α] : ∀ l : List α, (dedupT l).Nodup
  | [] => List.nodup_nil
  | x :: r => by
    unfold dedupT
    by_cases h : x ∈ dedupT r
    · rw [if_pos h]; exact dedupT_nodup r
    · rw [if_neg h]; exact List.nodup_cons.mpr ⟨h, dedupT_nodup r⟩
theorem dedupT_len [DecidableEq α] : ∀ l : List α, (dedupT l).length ≤ l.length
  | [] => Nat.le_refl _
  | x :: r => by
    unfold dedupT
    have := dedupT_len r
    by_cases h : x ∈ dedupT r
    · rw [if_pos h, List.length_cons]; omega
    · rw [if_neg h, List.length_cons, List.length_cons]; omega
/-- as many as are told: none twice -/
theorem dedupT_full [DecidableEq α] : ∀ {l : List α}, (dedupT l).length = l.length ↔ l.Nodup
  | [] => by simp [dedupT]
  | x :: r => by
    unfold dedupT
    have l := dedupT_len r
    by_cases h : x ∈ dedupT r
    · rw [if_pos h, List.nodup_cons, List.length_cons]
      exact ⟨fun e => by omega, fun k => absurd (dedupT_mem.mp h) k.1⟩
    · rw [if_neg h, List.nodup_cons, List.length_cons, List.length_cons]
      exact ⟨fun e => ⟨fun m => h (dedupT_mem.mpr m), dedupT_full.mp (by omega)⟩, fun k => by rw [dedupT_full.mpr k.2]⟩
end
end Ty

set_option Elab.async false
set_option linter.all false
set_option maxRecDepth 100000
set_option maxHeartbeats 4000000
/-! DI: the defs that stand in many laws, as the generator reads them; what they tell. -/
namespace DI
open PySem Ev Ty
def T_is_in (a_value : PyData) (a_low : Int) (a_high : Int) : R (Bool) := (R.bind (R.bind (R.bind (R.ok a_value) fun (x1 : PyData) => (R.ok (isA "int" x1))) fun x => cond x (R.bind (R.bind (R.bind (R.ok a_value) fun (x2 : PyData) => (R.ok (isA "bool" x2))) fun x => R.ok (!x)) fun x => cond x (R.bind (R.ok a_low) fun x3 => R.bind (R.bind (R.ok a_value) fun d => R.ofOpt (dInt d)) fun x4 => R.bind (R.ok (decide (x3 ≤ x4))) fun r6 => cond r6 (R.bind (R.ok a_high) fun x5 => (R.ok (decide (x4 ≤ x5)))) (R.ok false)) (R.ok false)) (R.ok false)) fun (v : Bool) => R.ok v)
def T_is_tuple (a_value : PyData) (a_least : Int) (a_most : Int) : R (Bool) := (R.bind (R.bind (R.bind (R.ok a_value) fun (x1 : PyData) => (R.ok (isA "tuple" x1))) fun x => cond x (R.bind (R.ok a_least) fun x3 => R.bind (R.bind (R.ok a_value) fun (x2 : PyData) => (lenA x2)) fun x4 => R.bind (R.ok (decide (x3 ≤ x4))) fun r6 => cond r6 (R.bind (R.ok a_most) fun x5 => (R.ok (decide (x4 ≤ x5)))) (R.ok false)) (R.ok false)) fun (v : Bool) => R.ok v)
def T_is_text (a_value : PyData) (a_least : Int) (a_most : Int) (a_signs : Tx) : R (Bool) := (R.bind (R.bind (R.bind (R.ok a_value) fun (x1 : PyData) => (R.ok (isA "str" x1))) fun x => cond x (R.bind (R.bind (R.ok a_least) fun x3 => R.bind (R.bind (R.ok a_value) fun (x2 : PyData) => (lenA x2)) fun x4 => R.bind (R.ok (decide (x3 ≤ x4))) fun r6 => cond r6 (R.bind (R.ok a_most) fun x5 => (R.ok (decide (x4 ≤ x5)))) (R.ok false)) fun x => cond x (R.bind (R.bind (R.bind (R.ok a_value) itA) fun (b7 : List PyData) => compR b7 (fun (y8 : PyData) => (R.ok true)) (fun (y8 : PyData) => (R.bind (R.bind (R.ok a_signs) fun v => R.ok (eTx v)) fun (x10 : PyData) => (R.ofOpt (cmpD .isIn y8 x10))))) fun (x11 : (List Bool)) => (R.ok (List.all x11 id))) (R.ok false)) (R.ok false)) fun (v : Bool) => R.ok v)
def T_demand (a_is_good : Bool) (a_name : Tx) : R (Unit) := R.bind (R.bind (R.bind (R.ok a_is_good) fun x => R.ok (!x)) fun x1 => cond x1 (R.bind (R.ok a_name) fun v => R.ex ⟨"BadArgument", eTx v⟩) (R.ok ())) fun _ => R.ok ()
def T_is_ascending (a_values : (List Tx)) : R (Bool) := (R.bind (R.bind (R.bind (R.bind (R.ok a_values) fun a => R.bind (R.bind (R.ok a_values) fun x1 => R.bind (R.bind (R.noex (R.ok (1))) fun i => R.ok (some i)) fun l2 => R.bind (R.ok none) fun u3 => (R.ok (cutD x1 l2 u3))) fun b => R.ok (List.zip a b)) fun (b4 : List (Tx × Tx)) => compR b4 (fun (y5 : (Tx × Tx)) => (R.ok true)) (fun (y5 : (Tx × Tx)) => (R.bind (R.ok y5.2) fun (x7 : Tx) => (R.ok (ltTx y5.1 x7))))) fun (x8 : (List Bool)) => (R.ok (List.all x8 id))) fun (v : Bool) => R.ok v)
def T_is_word (a_value : PyData) : R (Bool) := (R.bind (R.bind (R.ok a_value) fun (x1 : PyData) => (R.bind (R.ok (2)) fun (x2 : Int) => (R.bind (R.ok (9)) fun (x3 : Int) => (R.bind (R.ok ([97, 98, 99, 100, 101, 102, 103, 104, 105, 106, 107, 108, 109, 110, 111, 112, 113, 114, 115, 116, 117, 118, 119, 120, 121, 122] : Tx)) fun (x4 : Tx) => (T_is_text x1 x2 x3 x4))))) fun (v : Bool) => R.ok v)
def T_is_lexicon (a_value : PyData) : R (Bool) := (R.bind (R.bind (R.bind (R.ok a_value) fun (x1 : PyData) => (R.bind (R.ok (1)) fun (x2 : Int) => (R.bind (R.ok (60)) fun (x3 : Int) => (T_is_tuple x1 x2 x3)))) fun x => cond x (R.bind (R.bind (R.bind (R.bind (R.ok a_value) itA) fun (b4 : List PyData) => compR b4 (fun (y5 : PyData) => (R.ok true)) (fun (y5 : PyData) => (R.bind (R.ok y5) fun (x7 : PyData) => (T_is_word x7)))) fun (x8 : (List Bool)) => (R.ok (List.all x8 id))) fun x => cond x (R.bind (R.bind (R.ok a_value) fun d => R.ofOpt ((dT dTx) d)) fun (x9 : (List Tx)) => (T_is_ascending x9)) (R.ok false)) (R.ok false)) fun (v : Bool) => R.ok v)
def T_law_dice (a_script : (List Int)) (a_spot : Int) : R ((List Int)) := (R.bind (R.bind (R.bind (R.bind (R.ok a_script) fun (x1 : (List Int)) => (R.ok (Int.ofNat (List.length x1)))) fun (x2 : Int) => (R.ok (decide (a_spot < x2)))) fun (x3 : Bool) => cond x3 (R.bind (R.ok a_spot) fun (x4 : Int) => (idxR a_script x4)) (R.bind (R.bind (R.ok (733)) fun (x5 : Int) => R.bind (R.ok a_spot) fun (x6 : Int) => (mulR x5 x6)) fun (x7 : Int) => R.bind (R.ok (29)) fun (x8 : Int) => (R.ok (x7 + x8)))) fun (x9 : Int) => (R.bind (R.bind (R.ok (910003)) fun (x10 : Int) => R.bind (R.bind (R.ok (7907)) fun (x11 : Int) => R.bind (R.ok a_spot) fun (x12 : Int) => (mulR x11 x12)) fun (x13 : Int) => (R.ok (x10 + x13))) fun (x14 : Int) => (R.bind (R.bind (R.bind (R.bind (R.ok a_script) fun x15 => R.bind (R.ok none) fun l16 => R.bind (R.bind (R.noex (R.ok (6))) fun i => R.ok (some i)) fun u17 => (R.ok (cutD x15 l16 u17))) fun (x18 : (List Int)) => R.bind (R.bind (R.ok x9) fun (x19 : Int) => (R.ok ([x19] : (List Int)))) fun (x20 : (List Int)) => (szR (x18 ++ x20))) fun (b21 : (List Int)) => forR b21 (x14) (fun (y23 : Int) (s22 : (Int)) => (R.bind (R.bind (R.bind (R.bind (R.bind (R.ok s22) fun (x36 : Int) => R.bind (R.ok (48271)) fun (x37 : Int) => (mulR x36 x37)) fun (x38 : Int) => R.bind (R.bind (R.bind (R.ok y23) fun (x39 : Int) => (R.ok x39)) fun (x40 : Int) => R.bind (R.ok (2147480009)) fun (x41 : Int) => (modR x40 x41)) fun (x42 : Int) => (R.ok (x38 + x42))) fun (x43 : Int) => (R.ok x43)) fun (x44 : Int) => R.bind (R.ok (2147480009)) fun (x45 : Int) => (modR x44 x45)) fun (x46 : Int) => (R.ok (x46))))) fun (s35 : (Int)) => (R.bind (R.bind (R.bind (R.bind (R.bind (R.ok (0)) fun (x47 : Int) => (R.ok (decide (x9 < x47)))) fun x => cond x (R.ok true) (R.bind (R.bind (R.ok (10)) fun (x48 : Int) => R.bind (R.ok (16)) fun (x49 : Int) => (powR x48 x49)) fun (x50 : Int) => (R.ok (decide (x50 ≤ x9))))) fun (x51 : Bool) => cond x51 (R.bind (R.ok x9) fun (x52 : Int) => (R.ok (if x52 < 0 then -x52 else x52))) (R.ok (0))) fun (x53 : Int) => (R.bind (R.ok s35) fun (x54 : Int) => (R.bind (R.ok (0)) fun (x55 : Int) => (R.ok ([x53, x54, x55] : (List Int)))))) fun (v : (List Int)) => R.ok v))))
def T_law_roll (a_dice : (List Int)) (a_total : Int) : R (Int × (List Int)) := R.noex (R.bind (R.bind (idxR a_dice (0)) fun (x1 : Int) => R.bind (R.ok (0)) fun (x2 : Int) => (R.ok (decide (x2 < x1)))) fun x3 => cond x3 (R.bind (R.bind (R.bind (idxR a_dice (0)) fun (x4 : Int) => (R.ok x4)) fun (x5 : Int) => R.bind (R.ok a_total) fun (x6 : Int) => (modR x5 x6)) fun (x7 : Int) => (R.bind (R.bind (idxR a_dice (0)) fun (x8 : Int) => R.bind (R.ok a_total) fun (x9 : Int) => (fdivR x8 x9)) fun (x10 : Int) => R.bind (R.ok (0)) fun j11 => R.bind (setR a_dice j11 x10) fun (l12 : (List Int)) => (R.bind (R.bind (R.ok x7) fun v => R.ok (v, l12)) fun (v : (Int × (List Int))) => R.ok v))) (R.bind (R.bind (idxR a_dice (2)) fun (x14 : Int) => R.bind (R.ok (1)) fun (x15 : Int) => (R.ok (x14 + x15))) fun (x16 : Int) => R.bind (R.ok (2)) fun j17 => R.bind (setR a_dice j17 x16) fun (l18 : (List Int)) => (R.bind (R.bind (R.bind (R.bind (R.bind (R.bind (idxR l18 (1)) fun (x19 : Int) => R.bind (R.ok (52501)) fun (x20 : Int) => (mulR x19 x20)) fun (x21 : Int) => R.bind (R.bind (R.bind (idxR l18 (2)) fun (x22 : Int) => R.bind (idxR l18 (2)) fun (x23 : Int) => (mulR x22 x23)) fun (x24 : Int) => R.bind (R.ok (1009)) fun (x25 : Int) => (mulR x24 x25)) fun (x26 : Int) => (R.ok (x21 + x26))) fun (x27 : Int) => R.bind (R.ok (77)) fun (x28 : Int) => (R.ok (x27 + x28))) fun (x29 : Int) => (R.ok x29)) fun (x30 : Int) => R.bind (R.ok (2147480009)) fun (x31 : Int) => (modR x30 x31)) fun (x32 : Int) => R.bind (R.ok (1)) fun j33 => R.bind (setR l18 j33 x32) fun (l34 : (List Int)) => (R.bind (R.bind (R.bind (R.bind (R.bind (idxR l34 (1)) fun (x35 : Int) => R.bind (R.ok (211)) fun (x36 : Int) => (fdivR x35 x36)) fun (x37 : Int) => (R.ok x37)) fun (x38 : Int) => R.bind (R.ok a_total) fun (x39 : Int) => (modR x38 x39)) fun v => R.ok (v, l34)) fun (v : (Int × (List Int))) => R.ok v))))
def T_law_pick {α : Type} (a_dice : (List Int)) (a_things : (List α)) : R (α × (List Int)) := R.noex (R.bind (R.bind (R.bind (R.bind (R.ok a_things) fun (x1 : (List α)) => (R.ok (Int.ofNat (List.length x1)))) fun (x2 : Int) => (R.noex (T_law_roll a_dice x2))) fun (x3 : (Int × (List Int))) => (R.bind (idxR a_things x3.1) fun v => R.ok (v, x3.2))) fun (v : (α × (List Int))) => R.ok v)
def T_law_g_word (a_dice : (List Int)) (a_letters : Tx) (a_least : Int) (a_most : Int) : R (Tx × (List Int)) := R.noex (R.bind (R.bind (R.ok ([] : Tx)) fun (x1 : Tx) => R.bind (R.bind (R.bind (R.bind (R.ok a_least) fun (x2 : Int) => R.bind (R.bind (R.bind (R.bind (R.ok a_most) fun (x3 : Int) => R.bind (R.ok a_least) fun (x4 : Int) => (R.ok (x3 - x4))) fun (x5 : Int) => R.bind (R.ok (1)) fun (x6 : Int) => (R.ok (x5 + x6))) fun (x7 : Int) => (R.noex (T_law_roll a_dice x7))) fun (x8 : (Int × (List Int))) => (R.bind (R.ok (x2 + x8.1)) fun v => R.ok (v, x8.2))) fun (b : (Int × (List Int))) => R.bind (rngR 0 b.1) fun xs => R.ok (xs, b.2)) fun (b9 : (List Int) × (List Int)) => compM b9.1 b9.2 (fun (y10 : Int) (s11 : (List Int)) => (R.bind (R.bind (R.ok a_letters) fun (x12 : Tx) => (szR x12)) fun (x13 : (List Ch)) => (R.noex (T_law_pick s11 x13))))) fun (x14 : ((List Ch) × (List Int))) => (R.bind (joinC x1 x14.1) fun v => R.ok (v, x14.2))) fun (v : (Tx × (List Int))) => R.ok v)
def T_law_g_lexicon (a_dice : (List Int)) (a_letters : Tx) (a_least : Int) (a_most : Int) (a_many : Int) : R ((List Tx) × (List Int)) := R.noex (R.bind (R.bind (R.bind (R.bind (R.bind (R.bind (R.ok (1)) fun (x1 : Int) => R.bind (R.bind (R.ok a_many) fun (x2 : Int) => (R.noex (T_law_roll a_dice x2))) fun (x3 : (Int × (List Int))) => (R.bind (R.ok (x1 + x3.1)) fun v => R.ok (v, x3.2))) fun (b : (Int × (List Int))) => R.bind (rngR 0 b.1) fun xs => R.ok (xs, b.2)) fun (b4 : (List Int) × (List Int)) => compM b4.1 b4.2 (fun (y5 : Int) (s6 : (List Int)) => (R.bind (R.ok a_letters) fun (x7 : Tx) => (R.bind (R.ok a_least) fun (x8 : Int) => (R.bind (R.ok a_most) fun (x9 : Int) => (R.noex (T_law_g_word s6 x7 x8 x9))))))) fun (x10 : ((List Tx) × (List Int))) => (R.bind (setSortR ltTx x10.1) fun v => R.ok (v, x10.2))) fun (x11 : ((List Tx) × (List Int))) => (R.bind (R.ok x11.1) fun v => R.ok (v, x11.2))) fun (v : ((List Tx) × (List Int))) => R.ok v)
def Dice (n : Nat) (D : List Int) : Prop := ∃ a m c : Int, D = [a, m, c] ∧ 0 ≤ a ∧ 0 ≤ m ∧ m < 2147480009 ∧ 0 ≤ c ∧ c ≤ n
theorem Dice.mono {n k : Nat} {D : List Int} (h : Dice n D) (l : n ≤ k) : Dice k D := by
  obtain ⟨a, m, c, e, h1, h2, h3, h4, h5⟩ := h
  exact ⟨a, m, c, e, h1, h2, h3, h4, by omega⟩
theorem small_of {i : Int} (h : -18446744073709551616 < i) (k : i < 18446744073709551616) : small i = true := by
  unfold small
  rw [Bool.and_eq_true, decide_eq_true_eq, decide_eq_true_eq]
  exact ⟨by simpa using h, by simpa using k⟩
theorem mul_ok {i j : Int} (h : -18446744073709551616 < i) (k : i < 18446744073709551616) : mulR i j = .ok (i * j) := by unfold mulR; rw [if_pos (small_of h k)]
theorem mod_ok {i j : Int} (h : j ≠ 0) : modR i j = .ok (i.fmod j) := if_pos h
theorem fdiv_ok {i j : Int} (h : j ≠ 0) (k : j.natAbs < 1073741824) : fdivR i j = .ok (i.fdiv j) := if_pos ⟨h, k⟩
theorem roll {n : Nat} {D : List Int} {total : Int} (h : Dice n D) (hn : n < 1000000) (h0 : 0 < total) (h1 : total < 1000000) :
    ∃ r D', T_law_roll D total = .ok (r, D') ∧ 0 ≤ r ∧ r < total ∧ Dice (n + 1) D' := by
  obtain ⟨a, m, c, rfl, ha, hm, hm2, hc, hcn⟩ := h
  have tn : total ≠ 0 := by omega
  have i0 : ∀ x y z : Int, idxR [x, y, z] 0 = .ok x := fun _ _ _ => rfl
  have i1 : ∀ x y z : Int, idxR [x, y, z] 1 = .ok y := fun _ _ _ => rfl
  have i2 : ∀ x y z : Int, idxR [x, y, z] 2 = .ok z := fun _ _ _ => rfl
  have s0 : ∀ x y z v : Int, setR [x, y, z] 0 v = .ok [v, y, z] := fun _ _ _ _ => rfl
  have s1 : ∀ x y z v : Int, setR [x, y, z] 1 v = .ok [x, v, z] := fun _ _ _ _ => rfl
  have s2 : ∀ x y z v : Int, setR [x, y, z] 2 v = .ok [x, y, v] := fun _ _ _ _ => rfl
  have b1 := Int.fmod_nonneg_of_pos (m * 52501 + (c + 1) * (c + 1) * 1009 + 77) (b := 2147480009) (by decide)
  have b2 := Int.fmod_lt_of_pos (m * 52501 + (c + 1) * (c + 1) * 1009 + 77) (b := 2147480009) (by decide)
  have q0 : 0 ≤ (c + 1) * (c + 1) := Int.mul_nonneg (by omega) (by omega)
  have q1 : (c + 1) * (c + 1) ≤ 1000000 * 1000000 := Int.mul_le_mul (by omega) (by omega) (by omega) (by omega)
  have md : ∀ x : Int, modR x total = .ok (x.fmod total) := fun x => mod_ok tn
  have md2 : ∀ x : Int, modR x 2147480009 = .ok (x.fmod 2147480009) := fun x => mod_ok (by decide)
  have fd : ∀ x : Int, fdivR x total = .ok (x.fdiv total) := fun x => fdiv_ok tn (by omega)
  have fd2 : ∀ x : Int, fdivR x 211 = .ok (x.fdiv 211) := fun x => fdiv_ok (by decide) (by decide)
  have m1 : mulR m 52501 = .ok (m * 52501) := mul_ok (by omega) (by omega)
  have m2 : mulR (c + 1) (c + 1) = .ok ((c + 1) * (c + 1)) := mul_ok (by omega) (by omega)
  have m3 : mulR ((c + 1) * (c + 1)) 1009 = .ok ((c + 1) * (c + 1) * 1009) := mul_ok (by omega) (by omega)
  by_cases k : 0 < a
  · refine ⟨a.fmod total, [a.fdiv total, m, c], ?_, Int.fmod_nonneg_of_pos a h0, Int.fmod_lt_of_pos a h0, a.fdiv total, m, c, rfl, Int.fdiv_nonneg ha (by omega), hm, hm2, hc, by omega⟩
    simp -implicitDefEqProofs only [T_law_roll, R.bind_ok, R.noex_ok, i0, s0, k, decide_true, cond_true, md, fd]
  · refine ⟨(((m * 52501 + (c + 1) * (c + 1) * 1009 + 77).fmod 2147480009).fdiv 211).fmod total, [a, (m * 52501 + (c + 1) * (c + 1) * 1009 + 77).fmod 2147480009, c + 1], ?_, Int.fmod_nonneg_of_pos _ h0, Int.fmod_lt_of_pos _ h0, a, _, c + 1, rfl, ha, b1, b2, by omega, by omega⟩
    simp -implicitDefEqProofs only [T_law_roll, R.bind_ok, R.noex_ok, i0, i1, i2, s0, s1, s2, k, decide_false, cond_false, md, md2, fd, fd2, m1, m2, m3]
theorem pick {α : Type} {n : Nat} {D : List Int} {xs : List α} (h : Dice n D) (hn : n < 1000000) (h0 : xs ≠ []) (h1 : xs.length < 1000000) :
    ∃ x ∈ xs, ∃ D', T_law_pick D xs = .ok (x, D') ∧ Dice (n + 1) D' := by
  have hl : 0 < xs.length := List.length_pos_iff.mpr h0
  obtain ⟨r, D', e, r0, r1, d⟩ := roll (total := xs.length) h hn (by omega) (by omega)
  obtain ⟨x, hx, e2⟩ := idxR_mem (xs := xs) r0 r1
  refine ⟨x, hx, D', ?_, d⟩
  have e' : T_law_roll D (Int.ofNat xs.length) = .ok (r, D') := e
  simp -implicitDefEqProofs only [T_law_pick, R.bind_ok, R.noex_ok, e', e2]
theorem dice {ns : List Int} {spot : Int} (hl : ns.length ≤ 63) (h0 : 0 ≤ spot) (h1 : spot < 100) : ∃ D, T_law_dice ns spot = .ok D ∧ Dice 0 D := by
  have key : ∃ own : Int, (cond (decide (spot < Int.ofNat ns.length)) (R.bind (R.ok spot) fun (x4 : Int) => (idxR ns x4)) (R.bind (R.bind (R.ok (733)) fun (x5 : Int) => R.bind (R.ok spot) fun (x6 : Int) => (mulR x5 x6)) fun (x7 : Int) => R.bind (R.ok (29)) fun (x8 : Int) => (R.ok (x7 + x8)))) = .ok own := by
    by_cases k : spot < Int.ofNat ns.length
    · obtain ⟨z, _, e⟩ := idxR_mem (xs := ns) h0 k
      exact ⟨z, by rw [decide_eq_true k]; exact e⟩
    · exact ⟨733 * spot + 29, by
      have e : mulR 733 spot = .ok (733 * spot) := mul_ok (by decide) (by decide)
      simp -implicitDefEqProofs only [decide_eq_false k, cond_false, R.bind_ok, e]⟩
  obtain ⟨own, ek⟩ := key
  have hz : (cutD ns none (some 6) ++ [own]).length ≤ 16777216 := by
    have : (cutD ns none (some 6)).length ≤ ns.length := by unfold cutD; rw [List.length_take, List.length_drop]; omega
    rw [List.length_append, List.length_singleton]; omega
  have m2 : mulR 7907 spot = .ok (7907 * spot) := mul_ok (by decide) (by decide)
  have loop := forR_inv (xs := cutD ns none (some 6) ++ [own]) (s := 910003 + 7907 * spot) (J := fun _ m => 0 ≤ m ∧ m < 2147480009)
    (f := fun (y23 : Int) (s22 : Int) => (R.bind (R.bind (R.bind (R.bind (R.bind (R.ok s22) fun (x36 : Int) => R.bind (R.ok (48271)) fun (x37 : Int) => (mulR x36 x37)) fun (x38 : Int) => R.bind (R.bind (R.bind (R.ok y23) fun (x39 : Int) => (R.ok x39)) fun (x40 : Int) => R.bind (R.ok (2147480009)) fun (x41 : Int) => (modR x40 x41)) fun (x42 : Int) => (R.ok (x38 + x42))) fun (x43 : Int) => (R.ok x43)) fun (x44 : Int) => R.bind (R.ok (2147480009)) fun (x45 : Int) => (modR x44 x45)) fun (x46 : Int) => (R.ok (x46))))
    (fun i x m _ hm => ⟨(m * 48271 + x.fmod 2147480009).fmod 2147480009, by
      have e1 : mulR m 48271 = .ok (m * 48271) := mul_ok (by omega) (by omega)
      have e2 : ∀ x : Int, modR x 2147480009 = .ok (x.fmod 2147480009) := fun x => mod_ok (by decide)
      simp -implicitDefEqProofs only [R.bind_ok, e1, e2], Int.fmod_nonneg_of_pos _ (by decide), Int.fmod_lt_of_pos _ (by decide)⟩) ⟨by omega, by omega⟩
  obtain ⟨m, e2, m0, m1⟩ := loop
  have pw : powR 10 16 = .ok 10000000000000000 := by unfold powR; rw [if_pos ⟨by decide, by decide, by decide⟩]; rfl
  unfold T_law_dice
  simp -implicitDefEqProofs only [R.bind_ok] at ek e2 ⊢
  rw [ek]
  simp -implicitDefEqProofs only [R.bind_ok, m2, R.noex_ok, szR_ok hz, e2, pw]
  by_cases c1 : own < 0
  · exact ⟨[-own, m, 0], by simp [c1], -own, m, 0, rfl, by omega, m0, m1, by omega, by omega⟩
  · by_cases c2 : 10000000000000000 ≤ own
    · exact ⟨[own, m, 0], by simp [c1, c2], own, m, 0, rfl, by omega, m0, m1, by omega, by omega⟩
    · exact ⟨[0, m, 0], by simp [c1, c2], 0, m, 0, rfl, by omega, m0, m1, by omega, by omega⟩
theorem g_word {n : Nat} {D : List Int} {letters : Tx} {least most : Int} (h : Dice n D) (hn : n + 1000 < 1000000) (h0 : letters ≠ []) (h1 : letters.length < 1000) (l0 : 0 ≤ least) (l1 : least ≤ most) (l2 : most < 100) :
    ∃ (w : Tx) (D' : List Int), T_law_g_word D letters least most = .ok (w, D') ∧ least ≤ w.length ∧ (w.length : Int) ≤ most ∧ (∀ c ∈ w, c ∈ letters) ∧ Dice (n + 101) D' := by
  obtain ⟨r, D1, e1, r0, r1, d1⟩ := roll (total := most - least + 1) h (by omega) (by omega) (by omega)
  have hz : szR letters = .ok letters := szR_ok (by omega)
  obtain ⟨cs, D2, e2, lc, mc, d2⟩ := compM_run (xs := (List.range (least + r).toNat).map fun (k : Nat) => (k : Int)) (s := D1) (J := fun k D => Dice (n + 1 + k) D) (Y := fun c => c ∈ letters)
    (f := fun (y7 : Int) (s8 : (List Int)) => R.noex (T_law_pick s8 letters)) (fun i x s hx hj => by
      have hi := (rngR_get hx).1
      obtain ⟨c, hc, D', e, d⟩ := pick (xs := letters) hj (by omega) h0 (by omega)
      exact ⟨c, D', by rw [e]; rfl, hc, d⟩) d1 (by simp; omega)
  rw [List.length_map, List.length_range] at lc d2
  refine ⟨cs, D2, ?_, by omega, by omega, mc, d2.mono (by omega)⟩
  have hr : rngR 0 (least + r) = .ok ((List.range (least + r).toNat).map fun (k : Nat) => (k : Int)) := rngR_int (by omega) (by omega)
  simp -implicitDefEqProofs only [T_law_g_word, R.bind_ok, R.noex_ok, e1, hr, hz, e2, joinC_nil (show cs.length ≤ 16777216 by omega)]
/-- a lexicon: ascending words of these letters, so long -/
structure Lex (letters : Tx) (least most : Int) (many : Nat) (ws : List Tx) : Prop where
  asc : ws.Pairwise fun a b => ltTx a b = true
  word : ∀ w ∈ ws, least ≤ (w.length : Int) ∧ (w.length : Int) ≤ most ∧ ∀ c ∈ w, c ∈ letters
  pos : ws ≠ []
  few : ws.length ≤ many
theorem g_lexicon {n : Nat} {D : List Int} {letters : Tx} {least most many : Int} (h : Dice n D) (hn : n + 20000 < 1000000) (h0 : letters ≠ []) (h1 : letters.length < 1000) (l0 : 0 ≤ least) (l1 : least ≤ most) (l2 : most < 100) (m0 : 0 < many) (m1 : many < 100) :
    ∃ (ws : List Tx) (D' : List Int), T_law_g_lexicon D letters least most many = .ok (ws, D') ∧ Lex letters least most many.toNat ws ∧ Dice (n + 11000) D' := by
  obtain ⟨r, D1, e1, r0, r1, d1⟩ := roll (total := many) h (by omega) (by omega) (by omega)
  obtain ⟨vs, D2, e2, lv, mv, d2⟩ := compM_run (xs := (List.range (1 + r).toNat).map fun (k : Nat) => (k : Int)) (s := D1) (J := fun k D => Dice (n + 1 + 101 * k) D) (Y := fun w => least ≤ (w.length : Int) ∧ (w.length : Int) ≤ most ∧ ∀ c ∈ w, c ∈ letters)
    (f := fun (y7 : Int) (s8 : (List Int)) => R.noex (T_law_g_word s8 letters least most)) (fun i x s hx hj => by
      have hi := (rngR_get hx).1
      obtain ⟨w, D', e, c1, c2, c3, d⟩ := g_word (letters := letters) (least := least) (most := most) hj (by omega) h0 (by omega) l0 l1 l2
      exact ⟨w, D', by rw [e]; rfl, ⟨c1, c2, c3⟩, d.mono (by omega)⟩) d1 (by simp; omega)
  rw [List.length_map, List.length_range] at lv d2
  have hr : rngR 0 (1 + r) = .ok ((List.range (1 + r).toNat).map fun (k : Nat) => (k : Int)) := rngR_int (by omega) (by omega)
  have hs : setSortR ltTx vs = .ok (sortT ltTx (dedupT vs)) := by unfold setSortR; rw [if_pos (by omega)]
  have pm := sortT_perm ltTx (dedupT vs)
  refine ⟨sortT ltTx (dedupT vs), D2, ?_, ⟨?_, ?_, ?_, ?_⟩, d2.mono (by omega)⟩
  · simp -implicitDefEqProofs only [T_law_g_lexicon, R.bind_ok, R.noex_ok, e1, hr, e2, hs]
  · have s1 := sortT_srt ltTx_tr ltTx_asy (dedupT vs)
    have n1 : (sortT ltTx (dedupT vs)).Nodup := pm.nodup_iff.mpr (dedupT_nodup vs)
    refine List.Pairwise.imp (fun {a b} q => ?_) (s1.and n1)
    cases k : ltTx a b with
    | true => rfl
    | false => exact absurd (ltTx_tri a b k q.1) q.2
  · exact fun w hw => mv w (dedupT_mem.mp (pm.mem_iff.mp hw))
  · intro z
    have hv : vs ≠ [] := fun e => by rw [e] at lv; simp at lv; omega
    obtain ⟨v, r, rfl⟩ := List.exists_cons_of_ne_nil hv
    have : v ∈ sortT ltTx (dedupT (v :: r)) := pm.mem_iff.mpr (dedupT_mem.mpr List.mem_cons_self)
    rw [z] at this; exact absurd this (by simp)
  · have := dedupT_len vs
    rw [pm.length_eq]; omega
/-! ### words and lexicons -/
def LET : Tx := ([97, 98, 99, 100, 101, 102, 103, 104, 105, 106, 107, 108, 109, 110, 111, 112, 113, 114, 115, 116, 117, 118, 119, 120, 121, 122] : Tx)
theorem isA_str (t : Tx) : isA "str" (eTx t) = true := rfl
theorem isA_tup (ds : List PyData) : isA "tuple" (.tuple ds) = true := rfl
theorem isA_int (i : Int) : isA "int" (.int i) = true := rfl
theorem isA_bool (i : Int) : isA "bool" (.int i) = false := rfl
theorem lenA_tup (ds : List PyData) : lenA (.tuple ds) = .ok (ds.length : Int) := rfl
theorem lenA_lst (ds : List PyData) : lenA (.list ds) = .ok (ds.length : Int) := rfl
theorem lenA_str (t : Tx) (h : t.length ≤ 16777216) : lenA (eTx t) = .ok (t.length : Int) := by
  unfold lenA
  have q := lb_lenTx t
  rw [lenTx_ok h] at q
  rw [show lenD (eTx t) = _ from q]
theorem itA_tup (ds : List PyData) : itA (.tuple ds) = .ok ds := rfl
theorem itA_lst (ds : List PyData) : itA (.list ds) = .ok ds := rfl
theorem itA_str (t : Tx) : itA (eTx t) = .ok (t.map eCh) := by unfold itA; rw [it_Tx]; rfl
theorem cmpA_inC (c : Ch) (z : Tx) : cmpD .isIn (eCh c) (eTx z) = some (memT c z) := lc_inC c z
/-- a number within bounds -/
theorem is_in_int (v lo hi : Int) : T_is_in (.int v) lo hi = .ok (decide (lo ≤ v) && decide (v ≤ hi)) := by
  simp [R.and_ok, R.or_ok, T_is_in, isA_int, isA_bool]
theorem is_tuple_tup (ds : List PyData) (lo hi : Int) : T_is_tuple (.tuple ds) lo hi = .ok (decide (lo ≤ ds.length) && decide ((ds.length : Int) ≤ hi)) := by
  simp [R.and_ok, R.or_ok, T_is_tuple, isA_tup, lenA_tup]
theorem is_tuple_no (d : PyData) (lo hi : Int) (h : isA "tuple" d = false) : T_is_tuple d lo hi = .ok false := by
  simp [R.and_ok, R.or_ok, T_is_tuple, h]
theorem is_text_str (t sg : Tx) (lo hi : Int) (h : t.length < 16777216) : T_is_text (eTx t) lo hi sg = .ok (decide (lo ≤ t.length) && (decide ((t.length : Int) ≤ hi) && t.all fun c => memT c sg)) := by
  have e : compR (t.map eCh) (fun _ => .ok true) (fun y8 => R.ofOpt (cmpD .isIn y8 (eTx sg))) = .ok (t.map fun c => memT c sg) := by
    rw [compR_map (fun d => match cmpD .isIn d (eTx sg) with | some b => b | none => false)]
    · rw [List.map_map]; congr 1; apply List.map_congr_left; intro c _; show (match cmpD .isIn (eCh c) (eTx sg) with | some b => b | none => false) = _; rw [cmpA_inC]
    · intro x hx
      obtain ⟨c, _, rfl⟩ := List.mem_map.mp hx
      rw [cmpA_inC]; rfl
    · rw [List.length_map]; exact h
  simp -implicitDefEqProofs only [T_is_text, R.bind_ok, isA_str, lenA_str t (by omega), itA_str, e, cond_true, R.and_ok, all_id, Bool.and_assoc, Bool.true_and]
theorem is_text_no (d : PyData) (sg : Tx) (lo hi : Int) (h : isA "str" d = false) : T_is_text d lo hi sg = .ok false := by
  simp [R.and_ok, R.or_ok, T_is_text, h]
def isWord (t : Tx) : Bool := decide ((2 : Int) ≤ t.length) && (decide ((t.length : Int) ≤ 9) && t.all fun c => memT c LET)
theorem is_word_str (t : Tx) (h : t.length < 16777216) : T_is_word (eTx t) = .ok (isWord t) := by
  simp -implicitDefEqProofs only [T_is_word, R.bind_ok, is_text_str _ _ _ _ h]; rfl
theorem is_word_no (d : PyData) (h : isA "str" d = false) : T_is_word d = .ok false := by
  simp -implicitDefEqProofs only [T_is_word, R.bind_ok, is_text_no _ _ _ _ h]
def asc (ws : List Tx) : Bool := (List.zip ws (ws.drop 1)).all fun p => ltTx p.1 p.2
theorem cut_from1 {α : Type} : ∀ xs : List α, cutD xs (some 1) none = xs.drop 1
  | [] => rfl
  | x :: xs => by
    have e : HT.sIx (x :: xs).length 0 (some 1) = 1 := by
      show (if (1 : Int) < 0 then ((1 : Int) + ((x :: xs).length : Int)).toNat else min (1 : Int).toNat (x :: xs).length) = 1
      rw [if_neg (by decide), List.length_cons]
      show min 1 (xs.length + 1) = 1
      omega
    unfold cutD
    rw [e]
    show List.take ((x :: xs).length - 1) (List.drop 1 (x :: xs)) = _
    rw [List.length_cons, List.drop_succ_cons, List.drop_zero]
    exact List.take_of_length_le (by omega)
theorem is_ascending (ws : List Tx) (h : ws.length < 16777216) : T_is_ascending ws = .ok (asc ws) := by
  simp -implicitDefEqProofs only [T_is_ascending, R.bind_ok, R.noex_ok, cut_from1]
  rw [compR_map (fun p : Tx × Tx => ltTx p.1 p.2) (fun _ _ => rfl) (by rw [List.length_zip]; omega), R.bind_ok, R.bind_ok_right, all_id]
  rfl
def isLex (ws : List Tx) : Bool := decide ((1 : Int) ≤ ws.length) && (decide ((ws.length : Int) ≤ 60) && (ws.all isWord && asc ws))
theorem is_lexicon (ws : List Tx) (h : ws.length < 16777216) (hw : ∀ w ∈ ws, w.length < 16777216) : T_is_lexicon (.tuple (ws.map eTx)) = .ok (isLex ws) := by
  have e : compR (ws.map eTx) (fun _ => .ok true) (fun y5 => T_is_word y5) = .ok ((ws.map eTx).map fun d => match T_is_word d with | .ok b => b | _ => false) := compR_map _ (fun d hd => by
    obtain ⟨w, m, rfl⟩ := List.mem_map.mp hd
    rw [is_word_str w (hw w m)]) (by rw [List.length_map]; exact h)
  have e2 : (ws.map eTx).map (fun d => match T_is_word d with | .ok b => b | _ => false) = ws.map isWord := by
    rw [List.map_map]
    apply List.map_congr_left
    intro w m
    show (match T_is_word (eTx w) with | .ok b => b | _ => false) = _
    rw [is_word_str w (hw w m)]
  have e3 : dT dTx (.tuple (ws.map eTx)) = some ws := dT_e dTx_e ws
  simp -implicitDefEqProofs only [T_is_lexicon, R.bind_ok, is_tuple_tup, itA_tup, e, e2, e3, R.ofOpt_some, is_ascending ws h, R.and_ok, all_id, List.length_map]
  unfold isLex
  simp only [Bool.and_assoc]
theorem is_lexicon_no (d : PyData) (h : isA "tuple" d = false) : T_is_lexicon d = .ok false := by
  simp [R.and_ok, R.or_ok, T_is_lexicon, is_tuple_no _ _ _ h]
theorem asc_of : ∀ {ws : List Tx}, ws.Pairwise (fun a b => ltTx a b = true) → asc ws = true
  | [], _ => rfl
  | [x], _ => rfl
  | x :: y :: r, h => by
    have h1 := List.pairwise_cons.mp h
    show ((List.zip (x :: y :: r) (y :: r)).all fun p => ltTx p.1 p.2) = true
    rw [List.zip_cons_cons, List.all_cons, Bool.and_eq_true]
    exact ⟨h1.1 y List.mem_cons_self, asc_of h1.2⟩
theorem Lex.isLex {letters : Tx} {least most : Int} {many : Nat} {ws : List Tx} (L : Lex letters least most many ws) (hc : ∀ c ∈ letters, c ∈ LET) (l2 : 2 ≤ least) (l9 : most ≤ 9) (hm : many ≤ 60) : isLex ws = true := by
  have p := List.length_pos_iff.mpr L.pos
  have f := L.few
  unfold DI.isLex
  rw [asc_of L.asc, Bool.and_true, decide_eq_true (by omega), decide_eq_true (by omega), Bool.true_and, Bool.true_and, List.all_eq_true]
  intro w hw
  obtain ⟨a, b, c⟩ := L.word w hw
  unfold isWord
  rw [decide_eq_true (by omega), decide_eq_true (by omega), Bool.true_and, Bool.true_and, List.all_eq_true]
  exact fun x hx => memT_iff.mpr (hc x (c x hx))
theorem demand_true (t : Tx) : T_demand true t = .ok () := rfl
theorem demand_false (t : Tx) : T_demand false t = .ex ⟨"BadArgument", eTx t⟩ := rfl
/-- how many cases -/
theorem spots (n : Nat) {k : Int} (hk : 1 ≤ k) (h5 : k ≤ 50) : ∃ b : Nat, (if (if (Int.ofNat n) < k then Int.ofNat n else k) > 1 then (if (Int.ofNat n) < k then Int.ofNat n else k) else 1) = (b : Int) ∧ b ≤ 50 := by
  have e : Int.ofNat n = (n : Int) := rfl
  rw [e]
  by_cases h : (n : Int) < k
  · rw [if_pos h]
    by_cases k2 : (n : Int) > 1
    · rw [if_pos k2]; exact ⟨n, rfl, by omega⟩
    · rw [if_neg k2]; exact ⟨1, rfl, by omega⟩
  · rw [if_neg h]
    by_cases k2 : k > 1
    · rw [if_pos k2]; exact ⟨k.toNat, by omega, by omega⟩
    · rw [if_neg k2]; exact ⟨1, rfl, by omega⟩
end DI

set_option Elab.async false
set_option linter.all false
set_option maxRecDepth 100000
set_option maxHeartbeats 4000000
namespace K10
open PySem PySem.Spec Ev Ty
theorem d_in : T_is_in = DI.T_is_in := rfl
theorem d_tup : T_is_tuple = DI.T_is_tuple := rfl
theorem d_lex : T_is_lexicon = DI.T_is_lexicon := rfl
theorem d_word : T_is_word = DI.T_is_word := rfl
theorem d_dem : T_demand = DI.T_demand := rfl
theorem d_dice : T_law_dice = DI.T_law_dice := rfl
theorem d_pick {α : Type} : @T_law_pick α = @DI.T_law_pick α := rfl
theorem d_glex : T_law_g_lexicon = DI.T_law_g_lexicon := rfl
theorem d_cols : T_law_columns = T_columns_of := rfl
/-! ### columns -/
def col (ws : List Tx) (j : Nat) : Tx := ws.map fun w => w.getD j 0
def cols (m : Nat) (ws : List Tx) : List Tx := (List.range m).map (col ws)
theorem columns_eq {ws : List Tx} {m : Nat} (hz : ws.length < 16777216) (hm : m < 16777216) (hw : ∀ w ∈ ws, w.length = m) (h0 : ws ≠ []) : T_columns_of ws = .ok (cols m ws) := by
  obtain ⟨w0, r, rfl⟩ := List.exists_cons_of_ne_nil h0
  have l0 : w0.length = m := hw w0 List.mem_cons_self
  have e0 : idxR (w0 :: r) 0 = .ok w0 := idxR_zero
  have e1 : lenTx w0 = .ok (m : Int) := by rw [lenTx_ok (by omega), l0]
  have e2 : ∀ j : Int, (∃ k : Nat, k < m ∧ j = k) → compR (w0 :: r) (fun _ => .ok true) (fun w => idxTx w j) = .ok ((w0 :: r).map fun w => w.getD j.toNat 0) := by
    rintro j ⟨k, hk, rfl⟩
    refine compR_map _ (fun w hm' => ?_) hz
    have := hw w hm'
    rw [idxTx_nat (by omega), Int.toNat_natCast, List.getD_eq_getElem?_getD, List.getElem?_eq_getElem (by omega)]
    rfl
  unfold T_columns_of
  simp -implicitDefEqProofs only [R.bind_ok, R.noex_ok, R.bind_ok_right, R.and_ok, R.or_ok, cond_true, cond_false, R.ofOpt_some, e0, e1, rngR_nat (show m < 4611686018427387904 by omega)]
  rw [compR_map (fun j : Int => (w0 :: r).map fun w => w.getD j.toNat 0) (fun j hj => ?_) (by simp; omega)]
  · unfold cols col
    rw [List.map_map]
    congr 1
  · obtain ⟨k, hk, rfl⟩ := List.mem_map.mp hj
    rw [e2 _ ⟨k, List.mem_range.mp hk, rfl⟩, R.bind_ok, joinC_nil (by rw [List.length_map]; omega)]
theorem cols_len (m : Nat) (ws : List Tx) : (cols m ws).length = m := by unfold cols; simp
theorem cols_word {m : Nat} {ws : List Tx} {w : Tx} (h : w ∈ cols m ws) : w.length = ws.length := by
  obtain ⟨j, _, rfl⟩ := List.mem_map.mp h
  unfold col; simp
/-! ### tuples -/
def tups (ws : List Tx) : Nat → List (List Tx)
  | 0 => [[]]
  | n + 1 => (tups ws n).flatMap fun row => ws.map fun w => row ++ [w]
theorem tups_len (ws : List Tx) : ∀ (n : Nat), (tups ws n).length = ws.length ^ n
  | 0 => rfl
  | n + 1 => by
    show ((tups ws n).flatMap fun row => ws.map fun w => row ++ [w]).length = _
    rw [List.length_flatMap]
    simp only [List.length_map]
    rw [List.map_const', List.sum_replicate_nat, tups_len ws n, Nat.pow_succ]
theorem tups_mem {ws : List Tx} : ∀ {n : Nat} {row : List Tx}, row ∈ tups ws n → row.length = n ∧ ∀ w ∈ row, w ∈ ws
  | 0, row, h => by
    rw [List.mem_singleton.mp h]
    exact ⟨rfl, fun _ m => absurd m (by simp)⟩
  | n + 1, row, h => by
    obtain ⟨r, hr, h⟩ := List.mem_flatMap.mp h
    obtain ⟨w, hw, rfl⟩ := List.mem_map.mp h
    obtain ⟨h1, h2⟩ := tups_mem hr
    refine ⟨by simp [h1], fun x hx => ?_⟩
    rcases List.mem_append.mp hx with hx | hx
    · exact h2 x hx
    · rw [List.mem_singleton.mp hx]; exact hw
theorem pow_le {a n k : Nat} (h : a ≤ 11) (hk : n ≤ k) : a ^ n ≤ 11 ^ k := Nat.le_trans (Nat.pow_le_pow_left h n) (Nat.pow_le_pow_right (by omega) hk)
theorem tuples_eq {ws : List Tx} {n : Nat} (hw : ws.length ≤ 11) (hn : n ≤ 3) : T_law_tuples ws (n : Int) = .ok (tups ws n) := by
  unfold T_law_tuples
  have z : ∀ i, i ≤ 3 → (tups ws i).length ≤ 1331 := fun i hi => by rw [tups_len]; exact pow_le hw hi
  have step : ∀ i, i < n → forR (tups ws i) ([] : List (List Tx)) (fun (y58 : List Tx) (s57 : List (List Tx)) => (R.bind (R.bind (R.ok s57) fun x69 => R.bind (R.bind (R.ok ws) fun b70 => compR b70 (fun _ => R.ok true) (fun y71 => R.bind (R.ok y58) fun x73 => R.bind (R.bind (R.ok y71) fun x74 => R.ok [x74]) fun x75 => szR (x73 ++ x75))) fun x76 => szR (x69 ++ x76)) fun x77 => R.ok x77)) = .ok (tups ws (i + 1)) := fun i hi => by
    have := forR_flat (G := fun row => ws.map fun w => row ++ [w]) (xs := tups ws i) (s := []) (N := 1331) (f := fun (y58 : List Tx) (s57 : List (List Tx)) => (R.bind (R.bind (R.ok s57) fun x69 => R.bind (R.bind (R.ok ws) fun b70 => compR b70 (fun _ => R.ok true) (fun y71 => R.bind (R.ok y58) fun x73 => R.bind (R.bind (R.ok y71) fun x74 => R.ok [x74]) fun x75 => szR (x73 ++ x75))) fun x76 => szR (x69 ++ x76)) fun x77 => R.ok x77)) (fun row hr s hs => by
      have lr := (tups_mem hr).1
      simp -implicitDefEqProofs only [R.bind_ok, R.noex_ok, R.bind_ok_right, R.and_ok, R.or_ok, cond_true, cond_false, R.ofOpt_some]
      rw [compR_map (fun w => row ++ [w]) (fun w _ => szR_ok (by rw [List.length_append, lr, List.length_singleton]; omega)) (by omega), R.bind_ok, szR_ok (by omega)]) (by rw [List.nil_append]; exact z (i + 1) (by omega))
    rw [this]; rfl
  simp -implicitDefEqProofs only [R.bind_ok, R.noex_ok, R.bind_ok_right, R.and_ok, R.or_ok, cond_true, cond_false, R.ofOpt_some, rngR_nat (show n < 4611686018427387904 by omega)]
  simp -implicitDefEqProofs only [R.bind_ok, R.bind_ok_right] at step
  exact (forR_eq (fun i => tups ws i) rfl (fun i x hx => step i (rngR_get hx).1)).trans (by rw [List.length_map, List.length_range])

/-! ### squares begun -/
theorem getD_app_left {α : Type} {l : List α} {a d : α} {j : Nat} (h : j < l.length) : (l ++ [a]).getD j d = l.getD j d := by
  rw [List.getD_eq_getElem?_getD, List.getD_eq_getElem?_getD, List.getElem?_append_left h]
theorem getD_app_last {α : Type} {l : List α} {a d : α} : (l ++ [a]).getD l.length d = a := by
  rw [List.getD_eq_getElem?_getD, List.getElem?_append_right (Nat.le_refl _), Nat.sub_self]; rfl
def up (k : Nat) (row : List Tx) : Bool := (List.range k).all fun j => eqT ((row.getD j []).take j) (col (row.take j) j)
theorem up_succ {k : Nat} {row : List Tx} {w : Tx} (h : row.length = k) : up (k + 1) (row ++ [w]) = (up k row && eqT (w.take k) (col row k)) := by
  unfold up
  rw [List.range_succ, List.all_append]
  congr 1
  · rw [Bool.eq_iff_iff, List.all_eq_true, List.all_eq_true]
    have e : ∀ j ∈ List.range k, eqT (((row ++ [w]).getD j []).take j) (col ((row ++ [w]).take j) j) = eqT ((row.getD j []).take j) (col (row.take j) j) := fun j hj => by
      have hj := List.mem_range.mp hj
      rw [getD_app_left (by omega), List.take_append_of_le_length (by omega)]
    exact ⟨fun q j hj => by rw [← e j hj]; exact q j hj, fun q j hj => by rw [e j hj]; exact q j hj⟩
  · subst h
    rw [List.all_cons, List.all_nil, Bool.and_true, getD_app_last, List.take_append_of_le_length (Nat.le_refl _), List.take_length]
theorem filter_flatMap {α β : Type} (p : β → Bool) (g : α → List β) : ∀ l : List α, (l.flatMap g).filter p = l.flatMap fun x => (g x).filter p
  | [] => rfl
  | x :: r => by rw [List.flatMap_cons, List.filter_append, filter_flatMap p g r, List.flatMap_cons]
theorem flatMap_filter {α β : Type} (p : α → Bool) (g h : α → List β) : ∀ l : List α, (∀ x ∈ l, p x = true → h x = g x) → (∀ x ∈ l, p x = false → h x = []) → (l.filter p).flatMap g = l.flatMap h
  | [], _, _ => rfl
  | x :: r, h1, h2 => by
    rw [List.flatMap_cons, ← flatMap_filter p g h r (fun y m => h1 y (List.mem_cons_of_mem _ m)) fun y m => h2 y (List.mem_cons_of_mem _ m)]
    cases k : p x with
    | true => rw [List.filter_cons_of_pos k, List.flatMap_cons, h1 x List.mem_cons_self k]
    | false => rw [List.filter_cons_of_neg (by rw [k]; decide), h2 x List.mem_cons_self k, List.nil_append]
/-- all tuples that keep a law of each step are found step by step -/
theorem steps {ws : List Tx} {P : Nat → List Tx → Bool} {S : List Tx → Tx → Bool} {k : Nat} (h : ∀ row ∈ tups ws k, ∀ w ∈ ws, P (k + 1) (row ++ [w]) = (P k row && S row w)) :
    ((tups ws k).filter (P k)).flatMap (fun row => (ws.filter (S row)).map fun w => row ++ [w]) = (tups ws (k + 1)).filter (P (k + 1)) := by
  show _ = ((tups ws k).flatMap fun row => ws.map fun w => row ++ [w]).filter (P (k + 1))
  rw [filter_flatMap]
  refine flatMap_filter _ _ _ _ (fun row hr hp => ?_) fun row hr hp => ?_
  · rw [List.filter_map]
    congr 1
    refine List.filter_congr fun w hw => ?_
    show P (k + 1) (row ++ [w]) = _
    rw [h row hr w hw, hp, Bool.true_and]
  · rw [List.filter_eq_nil_iff]
    intro z hz
    obtain ⟨w, hw, rfl⟩ := List.mem_map.mp hz
    rw [h row hr w hw, hp, Bool.false_and]
    decide
theorem flat_len {ws : List Tx} (P : Nat → List Tx → Bool) {k n : Nat} (hw : ws.length ≤ 11) (hk : k ≤ 3) : ((tups ws k).filter (P k)).length ≤ 1331 :=
  Nat.le_trans (List.length_filter_le _ _) (by rw [tups_len]; exact pow_le hw hk)
theorem begun_eq {ws : List Tx} {n : Nat} (hw : ws.length ≤ 11) (hl : ∀ w ∈ ws, w.length = n) (hn : n ≤ 3) : T_begun_squares ws (n : Int) = .ok ((tups ws n).filter (up n)) := by
  unfold T_begun_squares
  simp -implicitDefEqProofs only [R.bind_ok, R.noex_ok, R.bind_ok_right, R.and_ok, R.or_ok, cond_true, cond_false, R.ofOpt_some, rngR_nat (show n < 4611686018427387904 by omega)]
  have h0 : (tups ws 0).filter (up 0) = [[]] := rfl
  refine (forR_eq (fun i => (tups ws i).filter (up i)) h0 (fun i x hx => ?_)).trans (by rw [List.length_map, List.length_range])
  obtain ⟨hi, rfl⟩ := rngR_get hx
  have st := steps (ws := ws) (P := up) (S := fun row w => eqT (w.take i) (col row i)) (k := i) fun row hr w _ => up_succ (tups_mem hr).1
  have lz := flat_len (n := n) up hw (show i + 1 ≤ 3 by omega)
  rw [← st] at lz ⊢
  refine (forR_flat (s := []) (N := 1331) (fun row => (ws.filter fun w => eqT (w.take i) (col row i)).map fun w => row ++ [w]) (fun row hr s hs => ?_) (by rw [List.nil_append]; exact lz)).trans rfl
  have hr := tups_mem (List.mem_filter.mp hr).1
  have e1 : compR row (fun _ => .ok true) (fun w => idxTx w (i : Int)) = .ok (col row i) := compR_map _ (fun w m => by
    have := hl w (hr.2 w m)
    rw [idxTx_nat (by omega), List.getD_eq_getElem?_getD, List.getElem?_eq_getElem (by omega)]; rfl) (by omega)
  have lc : (col row i).length = i := by unfold col; rw [List.length_map, hr.1]
  simp -implicitDefEqProofs only [R.bind_ok, R.noex_ok, R.bind_ok_right, R.and_ok, R.or_ok, cond_true, cond_false, R.ofOpt_some, e1, joinC_nil (show (col row i).length ≤ 16777216 by omega), lc]
  rw [compR_eq (fun (w : Tx) => eqT (w.take i) (col row i)) (fun (w : Tx) => row ++ [w]) (fun _ _ => rfl) (fun w _ _ => szR_ok (by rw [List.length_append, hr.1, List.length_singleton]; omega)) (by omega), R.bind_ok, szR_ok (by omega)]
/-- letter i, j of rows -/
def at2 (row : List Tx) (i j : Nat) : Ch := (row.getD i []).getD j 0
theorem getD_lt {α : Type} {l : List α} {d : α} {j : Nat} (h : j < l.length) : l.getD j d = l[j] := by
  rw [List.getD_eq_getElem?_getD, List.getElem?_eq_getElem h]; rfl
theorem row_len {row : List Tx} {n i : Nat} (hl : ∀ w ∈ row, w.length = n) (hi : i < row.length) : (row.getD i []).length = n := by
  rw [getD_lt hi]; exact hl _ (List.getElem_mem hi)
theorem take_getD {α : Type} {l : List α} {d : α} {i m : Nat} (h : i < m) : (l.take m).getD i d = l.getD i d := by
  rw [List.getD_eq_getElem?_getD, List.getD_eq_getElem?_getD, List.getElem?_take, if_pos h]
theorem col_getD {row : List Tx} {i j : Nat} (h : i < row.length) : (col row j).getD i 0 = at2 row i j := by
  unfold col at2
  rw [List.getD_eq_getElem?_getD, List.getElem?_map, List.getElem?_eq_getElem h, getD_lt (l := row) h]
  rfl
theorem ext_getD {α : Type} {d : α} {l1 l2 : List α} (h : l1.length = l2.length) (q : ∀ i, i < l1.length → l1.getD i d = l2.getD i d) : l1 = l2 := by
  refine List.ext_getElem h fun i h1 h2 => ?_
  have := q i h1
  rw [getD_lt h1, getD_lt h2] at this
  exact this
theorem cols_getD {row : List Tx} {n j : Nat} (h : j < n) : (cols n row).getD j [] = col row j := by
  unfold cols
  rw [List.getD_eq_getElem?_getD, List.getElem?_map, List.getElem?_range h]
  rfl
theorem cols_iff {row : List Tx} {n : Nat} (h : row.length = n) (hl : ∀ w ∈ row, w.length = n) : cols n row = row ↔ ∀ i j, i < n → j < n → at2 row i j = at2 row j i := by
  constructor
  · intro e i j hi hj
    have q : (cols n row).getD j [] = row.getD j [] := by rw [e]
    rw [cols_getD hj] at q
    rw [← col_getD (by omega), q]
    rfl
  · intro q
    refine ext_getD (d := []) (by rw [cols_len, h]) fun j h1 => ?_
    rw [cols_len] at h1
    rw [cols_getD h1]
    have lj : (row.getD j []).length = n := row_len hl (by omega)
    refine ext_getD (d := 0) (by unfold col; rw [List.length_map]; omega) fun i h3 => ?_
    unfold col at h3
    rw [List.length_map] at h3
    rw [col_getD h3, q i j (by omega) h1]
    rfl
theorem up_iff {row : List Tx} {n : Nat} (h : row.length = n) (hl : ∀ w ∈ row, w.length = n) : up n row = true ↔ ∀ j, j < n → ∀ i, i < j → at2 row j i = at2 row i j := by
  unfold up
  rw [List.all_eq_true]
  have key : ∀ j, j < n → (eqT ((row.getD j []).take j) (col (row.take j) j) = true ↔ ∀ i, i < j → at2 row j i = at2 row i j) := fun j hj => by
    rw [eqT_iff]
    have l1 : (row.getD j []).length = n := row_len hl (by omega)
    have a1 : ∀ i, i < j → at2 (row.take j) i j = at2 row i j := fun i hi => by unfold at2; rw [take_getD hi]
    have l2 : (row.take j).length = j := by rw [List.length_take]; omega
    constructor
    · intro e i hi
      have q : ((row.getD j []).take j).getD i 0 = (col (row.take j) j).getD i 0 := by rw [e]
      rw [take_getD hi, col_getD (by omega), a1 i hi] at q
      exact q
    · intro q
      refine ext_getD (d := 0) (by unfold col; rw [List.length_map, List.length_take, l2]; omega) fun i h1 => ?_
      rw [List.length_take] at h1
      rw [take_getD (by omega), col_getD (by omega), a1 i (by omega)]
      exact q i (by omega)
  exact ⟨fun q j hj => (key j hj).mp (q j (List.mem_range.mpr hj)), fun q j hj => (key j (List.mem_range.mp hj)).mpr (q j (List.mem_range.mp hj))⟩
theorem up_cols {row : List Tx} {n : Nat} (h : row.length = n) (hl : ∀ w ∈ row, w.length = n) : up n row = eqT (cols n row) row := by
  rw [Bool.eq_iff_iff, up_iff h hl, eqT_iff, cols_iff h hl]
  constructor
  · intro q i j hi hj
    rcases Nat.lt_trichotomy i j with k | k | k
    · exact (q j hj i k).symm
    · rw [k]
    · exact q i hi j k
  · exact fun q j hj i hi => q j i hj (by omega)
end K10

set_option Elab.async false
set_option linter.all false
set_option maxRecDepth 100000
set_option maxHeartbeats 4000000
namespace K10
open PySem PySem.Spec Ev Ty
/-! ### double squares -/
def can (n : Nat) (ws rows : List Tx) : Bool := (cols n rows).all fun c => ws.any fun w => eqT (w.take c.length) c
theorem can_eq {rows ws : List Tx} {n : Nat} (hz : rows.length < 16777216) (hm : n < 16777216) (hw : ∀ w ∈ rows, w.length = n) (h0 : rows ≠ []) (hl : ws.length < 16777216) : T_can_go_on rows ws = .ok (can n ws rows) := by
  unfold T_can_go_on
  simp -implicitDefEqProofs only [R.bind_ok, R.noex_ok, R.bind_ok_right, R.and_ok, R.or_ok, cond_true, cond_false, R.ofOpt_some, columns_eq hz hm hw h0]
  have e : ∀ c : Tx, compR ws (fun _ => .ok true) (fun w => .ok (eqT (w.take c.length) c)) = .ok (ws.map fun w => eqT (w.take c.length) c) := fun c => compR_map _ (fun _ _ => rfl) hl
  rw [compR_map (fun c : Tx => ws.any fun w => eqT (w.take c.length) c) (fun c _ => by simp -implicitDefEqProofs only [R.bind_ok, R.noex_ok, R.bind_ok_right, R.and_ok, R.or_ok, cond_true, cond_false, R.ofOpt_some, e c, any_id]) (by rw [cols_len]; exact hm)]
  simp -implicitDefEqProofs only [R.bind_ok, R.noex_ok, R.bind_ok_right, R.and_ok, R.or_ok, cond_true, cond_false, R.ofOpt_some, all_id]
  rfl
def both (n : Nat) (row : List Tx) : List Tx := row ++ cols n row
def once (l : List Tx) : Bool := eqT ((dedupT l).length : Int) (l.length : Int)
theorem once_iff {l : List Tx} : once l = true ↔ l.Nodup := by
  unfold once
  rw [eqT_iff, ← dedupT_full]
  omega
def isDb (n : Nat) (lex row : List Tx) : Bool := (both n row).all (fun w => memT w lex) && once (both n row)
theorem both_len {n : Nat} {row : List Tx} : (both n row).length = row.length + n := by unfold both; rw [List.length_append, cols_len]
theorem setLen_ok {l : List Tx} (h : l.length < 4095) : setLenR l = .ok ((dedupT l).length : Int) := if_pos h
theorem double_eq {lex row : List Tx} {n : Nat} (hz : row.length ≤ 100) (hm : n ≤ 100) (hw : ∀ w ∈ row, w.length = n) (h0 : row ≠ []) : T_is_double lex row = .ok (isDb n lex row) := by
  unfold T_is_double
  have lb := both_len (n := n) (row := row)
  have e1 : szR (row ++ cols n row) = .ok (both n row) := szR_ok (by have : (row ++ cols n row).length = _ := lb; omega)
  simp -implicitDefEqProofs only [R.bind_ok, R.noex_ok, R.bind_ok_right, R.and_ok, R.or_ok, cond_true, cond_false, R.ofOpt_some, columns_eq (by omega) (by omega) hw h0, e1, setLen_ok (show (both n row).length < 4095 by omega)]
  rw [compR_map (fun w : Tx => memT w lex) (fun _ _ => rfl) (by omega)]
  simp -implicitDefEqProofs only [R.bind_ok, R.noex_ok, R.bind_ok_right, R.and_ok, R.or_ok, cond_true, cond_false, R.ofOpt_some, all_id]
  rfl
def q1 (n : Nat) (ws : List Tx) (row : List Tx) (w : Tx) : Bool := !memT w row && can n ws (row ++ [w])
def ups (n : Nat) (ws : List Tx) (k : Nat) (row : List Tx) : Bool := (List.range k).all fun j => q1 n ws (row.take j) (row.getD j [])
theorem ups_succ {n k : Nat} {ws row : List Tx} {w : Tx} (h : row.length = k) : ups n ws (k + 1) (row ++ [w]) = (ups n ws k row && q1 n ws row w) := by
  unfold ups
  rw [List.range_succ, List.all_append]
  congr 1
  · rw [Bool.eq_iff_iff, List.all_eq_true, List.all_eq_true]
    have e : ∀ j ∈ List.range k, q1 n ws ((row ++ [w]).take j) ((row ++ [w]).getD j []) = q1 n ws (row.take j) (row.getD j []) := fun j hj => by
      have hj := List.mem_range.mp hj
      rw [getD_app_left (by omega), List.take_append_of_le_length (by omega)]
    exact ⟨fun q j hj => by rw [← e j hj]; exact q j hj, fun q j hj => by rw [e j hj]; exact q j hj⟩
  · subst h
    rw [List.all_cons, List.all_nil, Bool.and_true, getD_app_last, List.take_append_of_le_length (Nat.le_refl _), List.take_length]
theorem doubles_eq {ws : List Tx} {n : Nat} (hw : ws.length ≤ 11) (hl : ∀ w ∈ ws, w.length = n) (h2 : 2 ≤ n) (hn : n ≤ 3) : T_all_doubles ws (n : Int) = .ok (((tups ws n).filter (ups n ws n)).filter (isDb n ws)) := by
  unfold T_all_doubles
  simp -implicitDefEqProofs only [R.bind_ok, R.noex_ok, R.bind_ok_right, R.and_ok, R.or_ok, cond_true, cond_false, R.ofOpt_some, rngR_nat (show n < 4611686018427387904 by omega)]
  have h0 : (tups ws 0).filter (ups n ws 0) = [[]] := rfl
  rw [forR_eq (s := [[]]) (fun i => (tups ws i).filter (ups n ws i)) h0 (fun i x hx => ?_)]
  · simp -implicitDefEqProofs only [R.bind_ok, R.noex_ok, R.bind_ok_right, R.and_ok, R.or_ok, cond_true, cond_false, R.ofOpt_some, List.length_map, List.length_range]
    refine compR_filter _ (fun row hr => ?_) (by have := flat_len (n := n) (ups n ws) hw hn; omega)
    have hr := tups_mem (List.mem_filter.mp hr).1
    exact double_eq (by omega) (by omega) (fun w m => hl w (hr.2 w m)) (fun e => by rw [e] at hr; simp at hr; omega)
  · obtain ⟨hi, rfl⟩ := rngR_get hx
    have st := steps (ws := ws) (P := ups n ws) (S := q1 n ws) (k := i) fun row hr w _ => ups_succ (tups_mem hr).1
    have lz := flat_len (n := n) (ups n ws) hw (show i + 1 ≤ 3 by omega)
    rw [← st] at lz ⊢
    refine (forR_flat (s := []) (N := 1331) (fun row => (ws.filter (q1 n ws row)).map fun w => row ++ [w]) (fun row hr s hs => ?_) (by rw [List.nil_append]; exact lz)).trans rfl
    have hr := tups_mem (List.mem_filter.mp hr).1
    have e1 : ∀ w ∈ ws, szR (row ++ [w]) = .ok (row ++ [w]) := fun w _ => szR_ok (by rw [List.length_append, hr.1, List.length_singleton]; omega)
    rw [compR_eq (q1 n ws row) (fun (w : Tx) => row ++ [w]) (fun w m => ?_) (fun w m _ => e1 w m) (by omega), R.bind_ok, szR_ok (by omega)]
    rw [e1 w m, R.bind_ok, can_eq (n := n) (by rw [List.length_append, hr.1, List.length_singleton]; omega) (by omega) (fun v hv => by
      rcases List.mem_append.mp hv with hv | hv
      · exact hl v (hr.2 v hv)
      · rw [List.mem_singleton.mp hv]; exact hl w m) (by simp) (by omega), R.and_ok]
    rfl
theorem take_len {row : List Tx} {n j : Nat} (h : row.length = n) (hj : j < n) : row.take j ++ [row.getD j []] = row.take (j + 1) := by
  rw [getD_lt (by omega), List.take_append_getElem]
/-- a double square is found step by step -/
theorem db_ups {ws row : List Tx} {n : Nat} (h : row.length = n) (hl : ∀ w ∈ row, w.length = n) (d : isDb n ws row = true) : ups n ws n row = true := by
  unfold isDb at d
  rw [Bool.and_eq_true, List.all_eq_true, once_iff] at d
  obtain ⟨d1, d2⟩ := d
  have d3 : row.Nodup := (List.nodup_append.mp d2).1
  unfold ups
  rw [List.all_eq_true]
  intro j hj
  have hj := List.mem_range.mp hj
  unfold q1
  rw [Bool.and_eq_true, take_len h hj]
  constructor
  · rw [Bool.not_eq_true', Bool.eq_false_iff]
    intro m
    have m := memT_iff.mp m
    have e := List.take_append_drop j row
    rw [← e] at d3
    refine (List.nodup_append.mp d3).2.2 _ m _ ?_ rfl
    rw [getD_lt (by omega), List.drop_eq_getElem_cons (by omega)]
    exact List.mem_cons_self
  · unfold can
    rw [List.all_eq_true]
    intro c hc
    obtain ⟨i, hi, rfl⟩ := List.mem_map.mp hc
    rw [List.any_eq_true]
    have m : col row i ∈ both n row := List.mem_append_right _ (List.mem_map.mpr ⟨i, hi, rfl⟩)
    refine ⟨col row i, memT_iff.mp (d1 _ m), ?_⟩
    rw [eqT_iff]
    unfold col
    rw [List.length_map, List.length_take, ← List.map_take]
    congr 1
    rw [List.take_eq_take_iff]
    omega
theorem doubles_eq2 {ws : List Tx} {n : Nat} (hw : ws.length ≤ 11) (hl : ∀ w ∈ ws, w.length = n) (h2 : 2 ≤ n) (hn : n ≤ 3) : T_all_doubles ws (n : Int) = .ok ((tups ws n).filter (isDb n ws)) := by
  rw [doubles_eq hw hl h2 hn, List.filter_filter]
  congr 1
  refine List.filter_congr fun row hr => ?_
  have hr := tups_mem hr
  cases k : isDb n ws row with
  | true => rw [Bool.true_and]; exact db_ups hr.1 (fun w m => hl w (hr.2 w m)) k
  | false => rfl
/-! ### the law's judge -/
theorem all0 : ∀ {xs : List PyData}, (∀ x ∈ xs, x.canLay0 = true ∧ x.depth = 0) → PyData.canLayAll0 xs = true ∧ PyData.depthAll xs = 0
  | [], _ => ⟨rfl, rfl⟩
  | x :: r, h => by
    obtain ⟨h1, h2⟩ := all0 fun y m => h y (List.mem_cons_of_mem _ m)
    obtain ⟨h3, h4⟩ := h x List.mem_cons_self
    constructor
    · show (x.canLay0 && PyData.canLayAll0 r) = true; rw [h3, h1]; rfl
    · show max x.depth (PyData.depthAll r) = 0; rw [h4, h2]; rfl
theorem ne_nil {xs : List PyData} (h : ∀ x ∈ xs, x.canLay0 = true ∧ x.depth = 0) : cmpD .ne (eL eAny xs) (eL eAny []) = some (!xs.isEmpty) := by
  have hm : xs.map eAny = xs := List.map_id' xs
  show (if SeqAt.shaped (.list (xs.map eAny)) && SeqAt.shaped (.list []) then some (!PyData.eqv (.list (xs.map eAny)) (.list [])) else none) = _
  rw [hm]
  obtain ⟨h1, h2⟩ := all0 h
  have s1 : SeqAt.shaped (.list xs) = true := by
    unfold SeqAt.shaped
    rw [show PyData.canLay0 (.list xs) = _ from h1, show PyData.depth (.list xs) = PyData.depthAll xs + 1 from rfl, h2]
    rfl
  have s2 : SeqAt.shaped (.list []) = true := rfl
  rw [s1, s2]
  cases xs <;> rfl
def sq (lex : List Tx) (dbl : Bool) (row : List Tx) : Bool :=
  (decide ((2 : Int) ≤ row.length) && decide ((row.length : Int) ≤ 5)) && (row.all (fun w => eqT (w.length : Int) row.length) && ((both row.length row).all (fun w => memT w lex) && cond dbl (once (both row.length row)) (eqT (cols row.length row) row)))
theorem isEmpty_filter_not {α : Type} (p : α → Bool) : ∀ l : List α, (l.filter fun x => !p x).isEmpty = l.all p
  | [] => rfl
  | x :: r => by
    cases h : p x with
    | true => rw [List.filter_cons_of_neg (by rw [h]; decide), isEmpty_filter_not p r, List.all_cons, h]; rfl
    | false => rw [List.filter_cons_of_pos (by rw [h]; rfl), List.all_cons, h]; rfl
theorem eq_nil_filter {lex l : List Tx} : eqT (l.filter fun w => !memT w lex) [] = l.all fun w => memT w lex := by
  rw [← isEmpty_filter_not]
  cases l.filter fun w => !memT w lex <;> rfl
theorem is_square_eq {lex row : List Tx} {dbl : Bool} (hs : ∀ w ∈ row, w.length ≤ 100) (hz : row.length ≤ 100) : T_law_is_square lex (.tuple (row.map eTx)) dbl = .ok (sq lex dbl row) := by
  have e1 : compR (row.map eTx) (fun y8 => R.bind (R.bind (R.bind (R.ok y8) fun (x10 : PyData) => (R.ok (isA "str" x10))) fun x => R.ok (!x)) fun x => cond x (R.ok true) (R.bind (R.bind (R.ok y8) fun (x11 : PyData) => (lenA x11)) fun (x12 : Int) => R.bind (R.bind (R.ok (PyData.tuple (row.map eTx))) fun (x13 : PyData) => (lenA x13)) fun (x14 : Int) => (R.ok (!eqT x12 x14)))) (fun y8 => R.ok y8)
      = .ok ((row.filter fun w => !eqT (w.length : Int) row.length).map eTx) := by
    rw [compR_filter (fun d => match dTx d with | some t => !eqT (t.length : Int) row.length | none => true) (fun d hd => ?_) (by rw [List.length_map]; omega)]
    · rw [List.filter_map]
      congr 2
      refine List.filter_congr fun w _ => ?_
      show (match dTx (eTx w) with | some t => !eqT (t.length : Int) row.length | none => true) = _
      rw [dTx_e]
    · obtain ⟨w, m, rfl⟩ := List.mem_map.mp hd
      have := hs w m
      simp -implicitDefEqProofs only [R.bind_ok, R.noex_ok, R.bind_ok_right, R.and_ok, R.or_ok, cond_true, cond_false, R.ofOpt_some, DI.isA_str, Bool.not_true, DI.lenA_str w (by omega), DI.lenA_tup, List.length_map, dTx_e, Bool.false_or]
  have e2 : dT dTx (.tuple (row.map eTx)) = some row := dT_e dTx_e row
  have e3 := ne_nil (xs := (row.filter fun w => !eqT (w.length : Int) row.length).map eTx) fun x hx => by
    obtain ⟨w, _, rfl⟩ := List.mem_map.mp hx
    exact ⟨qTx.can w, Nat.le_zero.mp (qTx.dep w)⟩
  have e4 : ((row.filter fun w => !eqT (w.length : Int) row.length).map eTx).isEmpty = row.all (fun w => eqT (w.length : Int) row.length) := by
    rw [List.isEmpty_map, isEmpty_filter_not]
  rw [e4] at e3
  unfold T_law_is_square
  simp -implicitDefEqProofs only [R.bind_ok, R.noex_ok, R.bind_ok_right, R.and_ok, R.or_ok, cond_true, cond_false, R.ofOpt_some, DI.lenA_tup, List.length_map] at e1
  simp -implicitDefEqProofs only [R.bind_ok, R.noex_ok, R.bind_ok_right, R.and_ok, R.or_ok, cond_true, cond_false, R.ofOpt_some, DI.isA_tup, Bool.not_true, DI.lenA_tup, DI.itA_tup, List.length_map, e1, e2, e3]
  unfold sq
  cases k1 : (decide ((2 : Int) ≤ row.length) && decide ((row.length : Int) ≤ 5)) with
  | false => rfl
  | true =>
    simp -implicitDefEqProofs only [R.bind_ok, R.noex_ok, R.bind_ok_right, R.and_ok, R.or_ok, cond_true, cond_false, R.ofOpt_some, Bool.not_true, Bool.true_and, Bool.false_or]
    cases k2 : row.all fun w => eqT (w.length : Int) row.length with
    | false => rfl
    | true =>
      rw [Bool.and_eq_true, decide_eq_true_eq, decide_eq_true_eq] at k1
      have h0 : row ≠ [] := fun e => by rw [e] at k1; simp at k1
      have hl : ∀ w ∈ row, w.length = row.length := fun w m => by
        have := eqT_iff.mp (List.all_eq_true.mp k2 w m)
        omega
      have lb := both_len (n := row.length) (row := row)
      have e5 : szR (row ++ cols row.length row) = .ok (both row.length row) := szR_ok (by have : (row ++ cols row.length row).length = _ := lb; omega)
      have e6 : compR (both row.length row) (fun y24 => R.ok (!memT y24 lex)) (fun y24 => R.ok y24) = .ok ((both row.length row).filter fun w => !memT w lex) := compR_filter _ (fun _ _ => rfl) (by omega)
      have e7 : cmpD .eq (eT eTx (cols row.length row)) (.tuple (row.map eTx)) = some (eqT (cols row.length row) row) := lc_eq (qT qTx) (by decide) _ _
      simp -implicitDefEqProofs only [R.bind_ok, R.noex_ok, R.bind_ok_right, R.and_ok, R.or_ok, cond_true, cond_false, R.ofOpt_some, Bool.not_true, d_cols, columns_eq (show row.length < 16777216 by omega) (show row.length < 16777216 by omega) hl h0, e5, e6, eq_nil_filter, setLen_ok (show (both row.length row).length < 4095 by omega), e7, Bool.true_and]
      cases (both row.length row).all fun w => memT w lex with
      | false => rfl
      | true => cases dbl <;> rfl
theorem is_square_no {lex : List Tx} {d : PyData} {dbl : Bool} (h : isA "tuple" d = false) : T_law_is_square lex d dbl = .ok false := by
  unfold T_law_is_square
  simp -implicitDefEqProofs only [R.bind_ok, R.noex_ok, R.bind_ok_right, R.and_ok, R.or_ok, cond_true, cond_false, R.ofOpt_some, h, Bool.not_false]
end K10

set_option Elab.async false
set_option linter.all false
set_option maxRecDepth 100000
set_option maxHeartbeats 4000000
namespace K10
open PySem PySem.Spec Ev Ty
def ar (row : List Tx) : Bool := (decide ((2 : Int) ≤ row.length) && decide ((row.length : Int) ≤ 5)) && (row.all DI.isWord && row.all fun w => eqT (w.length : Int) row.length)
theorem are_rows_eq {row : List Tx} (hs : ∀ w ∈ row, w.length ≤ 100) (hz : row.length ≤ 100) : T_are_rows (.tuple (row.map eTx)) = .ok (ar row) := by
  have e1 : compR (row.map eTx) (fun _ => R.ok true) (fun y => DI.T_is_word y) = .ok (row.map DI.isWord) := by
    rw [compR_map (fun d => match dTx d with | some t => DI.isWord t | none => false) (fun d hd => ?_) (by rw [List.length_map]; omega)]
    · rw [List.map_map]; congr 1; refine List.map_congr_left fun w _ => ?_; show (match dTx (eTx w) with | some t => DI.isWord t | none => false) = _; rw [dTx_e]
    · obtain ⟨w, m, rfl⟩ := List.mem_map.mp hd
      have := hs w m
      rw [DI.is_word_str w (by omega), dTx_e]
  have e2 : compR (row.map eTx) (fun _ => R.ok true) (fun y => R.bind (lenA y) fun x => R.ok (eqT x (row.length : Int))) = .ok (row.map fun w => eqT (w.length : Int) row.length) := by
    rw [compR_map (fun d => match dTx d with | some t => eqT (t.length : Int) row.length | none => false) (fun d hd => ?_) (by rw [List.length_map]; omega)]
    · rw [List.map_map]; congr 1; refine List.map_congr_left fun w _ => ?_; show (match dTx (eTx w) with | some t => eqT (t.length : Int) row.length | none => false) = _; rw [dTx_e]
    · obtain ⟨w, m, rfl⟩ := List.mem_map.mp hd
      have := hs w m
      rw [DI.lenA_str w (by omega), R.bind_ok, dTx_e]
  unfold T_are_rows
  simp -implicitDefEqProofs only [R.bind_ok, R.noex_ok, R.bind_ok_right, R.and_ok, R.or_ok, cond_true, cond_false, R.ofOpt_some, d_tup, DI.is_tuple_tup, DI.itA_tup, d_word, e1, all_id, DI.lenA_tup, List.length_map, e2]
  unfold ar
  cases (decide ((2 : Int) ≤ row.length) && decide ((row.length : Int) ≤ 5)) with
  | false => rfl
  | true => cases row.all DI.isWord <;> rfl
theorem lexN : (T_demand false ([108, 101, 120, 105, 99, 111, 110] : Tx)) = .ex ⟨"BadArgument", eTx ([108, 101, 120, 105, 99, 111, 110] : Tx)⟩ := rfl
/-- a fit lexicon -/
structure Fine (lex : List Tx) : Prop where
  is : DI.isLex lex = true
  len : lex.length ≤ 60
  word : ∀ w ∈ lex, w.length ≤ 9
theorem Fine.lexi {lex : List Tx} (F : Fine lex) : DI.T_is_lexicon (.tuple (lex.map eTx)) = .ok true := by
  rw [DI.is_lexicon lex (by have := F.len; omega) fun w m => by have := F.word w m; omega, F.is]
theorem Fine.isw {lex : List Tx} (F : Fine lex) : ∀ w ∈ lex, DI.isWord w = true := by
  have := F.is
  unfold DI.isLex at this
  rw [Bool.and_eq_true, Bool.and_eq_true, Bool.and_eq_true] at this
  exact List.all_eq_true.mp this.2.2.1
theorem judge {lex row : List Tx} (F : Fine lex) (hs : ∀ w ∈ row, w.length ≤ 100) (hz : row.length ≤ 100) :
    T_is_word_square (eT eTx lex) (.tuple (row.map eTx)) = .ok (sq lex false row) ∧ T_is_double_square (eT eTx lex) (.tuple (row.map eTx)) = .ok (sq lex true row) := by
  have e1 : compR (row.map eTx) (fun _ => R.ok true) (fun y => R.ofOpt (cmpD .isIn y (.tuple (lex.map eTx)))) = .ok (row.map fun w => memT w lex) := by
    have q : ∀ w, cmpD .isIn (eTx w) (.tuple (lex.map eTx)) = some (memT w lex) := fun w => lc_inT qTx (by decide) _ _
    rw [compR_map (fun d => match dTx d with | some t => memT t lex | none => false) (fun d hd => ?_) (by rw [List.length_map]; omega)]
    · rw [List.map_map]; congr 1; refine List.map_congr_left fun w _ => ?_; show (match dTx (eTx w) with | some t => memT t lex | none => false) = _; rw [dTx_e]
    · obtain ⟨w, m, rfl⟩ := List.mem_map.mp hd
      rw [q, dTx_e]; rfl
  have e2 : dT dTx (.tuple (row.map eTx)) = some row := dT_e dTx_e row
  have e3 : dT dTx (.tuple (lex.map eTx)) = some lex := dT_e dTx_e lex
  have t1 : DI.T_demand true ([108, 101, 120, 105, 99, 111, 110] : Tx) = .ok () := rfl
  unfold T_is_word_square T_is_double_square
  simp -implicitDefEqProofs only [R.bind_ok, R.noex_ok, R.bind_ok_right, R.and_ok, R.or_ok, cond_true, cond_false, R.ofOpt_some, d_lex, F.lexi, d_dem, t1, are_rows_eq hs hz, DI.itA_tup, e1, all_id, e2, e3]
  cases k : ar row with
  | false =>
    have z : ∀ b, sq lex b row = false := fun b => by
      cases k2 : sq lex b row with
      | false => rfl
      | true =>
        unfold sq at k2
        simp only [Bool.and_eq_true, List.all_eq_true (l := both row.length row)] at k2
        obtain ⟨⟨a0, a1⟩, a2, a3, _⟩ := k2
        have : ar row = true := by
          unfold ar
          rw [a0, a1, a2, Bool.true_and, Bool.true_and, Bool.and_true, List.all_eq_true]
          exact fun w m => F.isw w (memT_iff.mp (a3 w (List.mem_append_left _ m)))
        rw [this] at k; cases k
    rw [z, z]
    exact ⟨rfl, rfl⟩
  | true =>
    unfold ar at k
    rw [Bool.and_eq_true, Bool.and_eq_true, Bool.and_eq_true, decide_eq_true_eq, decide_eq_true_eq] at k
    obtain ⟨a1, a2, a3⟩ := k
    have h0 : row ≠ [] := fun e => by rw [e] at a1; simp at a1
    have hl : ∀ w ∈ row, w.length = row.length := fun w m => by
      have := eqT_iff.mp (List.all_eq_true.mp a3 w m)
      omega
    have e7 : cmpD .eq (eT eTx (cols row.length row)) (.tuple (row.map eTx)) = some (eqT (cols row.length row) row) := lc_eq (qT qTx) (by decide) _ _
    have s0 : ∀ b, sq lex b row = ((both row.length row).all (fun w => memT w lex) && cond b (once (both row.length row)) (eqT (cols row.length row) row)) := fun b => by
      unfold sq
      rw [a3, decide_eq_true a1.1, decide_eq_true a1.2]; rfl
    rw [s0, s0]
    constructor
    · simp -implicitDefEqProofs only [R.bind_ok, R.noex_ok, R.bind_ok_right, R.and_ok, R.or_ok, cond_true, cond_false, R.ofOpt_some, columns_eq (show row.length < 16777216 by omega) (show row.length < 16777216 by omega) hl h0, e7]
      congr 1
      rw [Bool.eq_iff_iff, Bool.and_eq_true, Bool.and_eq_true, List.all_eq_true, List.all_eq_true, eqT_iff]
      refine ⟨fun ⟨p, q⟩ => ⟨fun w m => ?_, q⟩, fun ⟨p, q⟩ => ⟨fun w m => p w (List.mem_append_left _ m), q⟩⟩
      unfold both at m
      rw [q] at m
      rcases List.mem_append.mp m with m | m <;> exact p w m
    · simp -implicitDefEqProofs only [R.bind_ok, R.noex_ok, R.bind_ok_right, R.and_ok, R.or_ok, cond_true, cond_false, R.ofOpt_some, double_eq (show row.length ≤ 100 by omega) (show row.length ≤ 100 by omega) hl h0]
      rfl
theorem none_no : isA "str" PyData.none = false := rfl
/-- what is no row of texts -/
theorem judge_no {lex : List Tx} {d : PyData} (F : Fine lex) (h : isA "tuple" d = false) : T_is_word_square (eT eTx lex) d = .ok false ∧ T_is_double_square (eT eTx lex) d = .ok false := by
  have t1 : DI.T_demand true ([108, 101, 120, 105, 99, 111, 110] : Tx) = .ok () := rfl
  have e1 : T_are_rows d = .ok false := by
    unfold T_are_rows
    simp -implicitDefEqProofs only [R.bind_ok, R.noex_ok, R.bind_ok_right, R.and_ok, R.or_ok, cond_true, cond_false, R.ofOpt_some, d_tup, DI.is_tuple_no _ _ _ h, Bool.not_false]
  unfold T_is_word_square T_is_double_square
  simp -implicitDefEqProofs only [R.bind_ok, R.noex_ok, R.bind_ok_right, R.and_ok, R.or_ok, cond_true, cond_false, R.ofOpt_some, d_lex, F.lexi, d_dem, t1, e1]
  exact ⟨trivial, trivial⟩
theorem map_none {row : List Tx} {p : PyData → R Bool} {q : Tx → Bool} (hp : ∀ w ∈ row, p (eTx w) = .ok (q w)) {b : Bool} (hb : p .none = .ok b) (hz : row.length ≤ 100) : compR (row.map eTx ++ [.none]) (fun _ => R.ok true) p = .ok (row.map q ++ [b]) := by
  rw [compR_map (fun d => match p d with | .ok b => b | _ => false) (fun d hd => ?_) (by rw [List.length_append, List.length_map, List.length_singleton]; omega)]
  · rw [List.map_append, List.map_map]
    congr 2
    · refine List.map_congr_left fun w m => ?_
      show (match p (eTx w) with | .ok b => b | _ => false) = _
      rw [hp w m]
    · show [match p .none with | .ok b => b | _ => false] = _
      rw [hb]
  · rcases List.mem_append.mp hd with m | m
    · obtain ⟨w, m2, rfl⟩ := List.mem_map.mp m
      rw [hp w m2]
    · rw [List.mem_singleton.mp m, hb]
theorem judge_none {lex row : List Tx} (F : Fine lex) (hs : ∀ w ∈ row, w.length ≤ 100) (hz : row.length ≤ 100) :
    T_is_word_square (eT eTx lex) (.tuple (row.map eTx ++ [.none])) = .ok false ∧ T_is_double_square (eT eTx lex) (.tuple (row.map eTx ++ [.none])) = .ok false := by
  have t1 : DI.T_demand true ([108, 101, 120, 105, 99, 111, 110] : Tx) = .ok () := rfl
  have e0 : compR (row.map eTx ++ [.none]) (fun _ => R.ok true) (fun y => DI.T_is_word y) = .ok (row.map DI.isWord ++ [false]) := map_none (fun w m => DI.is_word_str w (by have := hs w m; omega)) (DI.is_word_no _ none_no) hz
  have e1 : T_are_rows (.tuple (row.map eTx ++ [.none])) = .ok false := by
    unfold T_are_rows
    simp -implicitDefEqProofs only [R.bind_ok, R.noex_ok, R.bind_ok_right, R.and_ok, R.or_ok, cond_true, cond_false, R.ofOpt_some, d_tup, DI.is_tuple_tup, DI.itA_tup, d_word, e0]
    have : (row.map DI.isWord ++ [false]).all id = false := by rw [List.all_append]; simp
    simp -implicitDefEqProofs only [R.bind_ok, R.noex_ok, R.bind_ok_right, R.and_ok, R.or_ok, cond_true, cond_false, R.ofOpt_some, this, Bool.not_false, Bool.or_true]
  unfold T_is_word_square T_is_double_square
  simp -implicitDefEqProofs only [R.bind_ok, R.noex_ok, R.bind_ok_right, R.and_ok, R.or_ok, cond_true, cond_false, R.ofOpt_some, d_lex, F.lexi, d_dem, t1, e1]
  exact ⟨trivial, trivial⟩
theorem is_square_none {lex row : List Tx} {dbl : Bool} (hs : ∀ w ∈ row, w.length ≤ 100) (hz : row.length ≤ 100) : T_law_is_square lex (.tuple (row.map eTx ++ [.none])) dbl = .ok false := by
  have hl : ((row.map eTx ++ [PyData.none]).length : Int) = row.length + 1 := by rw [List.length_append, List.length_map]; rfl
  have e1 : compR (row.map eTx ++ [.none]) (fun y8 => R.bind (R.bind (R.bind (R.ok y8) fun (x10 : PyData) => (R.ok (isA "str" x10))) fun x => R.ok (!x)) fun x => cond x (R.ok true) (R.bind (R.bind (R.ok y8) fun (x11 : PyData) => (lenA x11)) fun (x12 : Int) => (R.ok (!eqT x12 ((row.length : Int) + 1))))) (fun y8 => R.ok y8)
      = .ok ((row.filter fun w => !eqT (w.length : Int) ((row.length : Int) + 1)).map eTx ++ [.none]) := by
    rw [compR_filter (fun d => match dTx d with | some t => !eqT (t.length : Int) ((row.length : Int) + 1) | none => true) (fun d hd => ?_) (by rw [List.length_append, List.length_map, List.length_singleton]; omega)]
    · rw [List.filter_append, List.filter_map]
      congr 2
      congr 1
      refine List.filter_congr fun w _ => ?_
      show (match dTx (eTx w) with | some t => !eqT (t.length : Int) ((row.length : Int) + 1) | none => true) = _
      rw [dTx_e]
    · rcases List.mem_append.mp hd with m | m
      · obtain ⟨w, m2, rfl⟩ := List.mem_map.mp m
        have := hs w m2
        simp -implicitDefEqProofs only [R.bind_ok, R.noex_ok, R.bind_ok_right, R.and_ok, R.or_ok, cond_true, cond_false, R.ofOpt_some, DI.isA_str, Bool.not_true, DI.lenA_str w (by omega), dTx_e, Bool.false_or]
      · rw [List.mem_singleton.mp m]; rfl
  have e3 := ne_nil (xs := (row.filter fun w => !eqT (w.length : Int) ((row.length : Int) + 1)).map eTx ++ [.none]) fun x hx => by
    rcases List.mem_append.mp hx with m | m
    · obtain ⟨w, _, rfl⟩ := List.mem_map.mp m
      exact ⟨qTx.can w, Nat.le_zero.mp (qTx.dep w)⟩
    · rw [List.mem_singleton.mp m]; exact ⟨rfl, rfl⟩
  have e4 : (((row.filter fun w => !eqT (w.length : Int) ((row.length : Int) + 1)).map eTx ++ [PyData.none]).isEmpty) = false := by simp
  rw [e4] at e3
  unfold T_law_is_square
  simp -implicitDefEqProofs only [R.bind_ok, R.noex_ok, R.bind_ok_right, R.and_ok, R.or_ok, cond_true, cond_false, R.ofOpt_some] at e1
  simp -implicitDefEqProofs only [R.bind_ok, R.noex_ok, R.bind_ok_right, R.and_ok, R.or_ok, cond_true, cond_false, R.ofOpt_some, DI.isA_tup, Bool.not_true, DI.lenA_tup, DI.itA_tup, hl, e1, e3]
  cases k1 : (decide ((2 : Int) ≤ (row.length : Int) + 1) && decide ((row.length : Int) + 1 ≤ 5)) <;> rfl
/-- what is judged in the law -/
def Near (d : PyData) : Prop := (∃ row : List Tx, d = .tuple (row.map eTx) ∧ (∀ w ∈ row, w.length ≤ 100) ∧ row.length ≤ 100) ∨ isA "tuple" d = false ∨ ∃ row : List Tx, d = .tuple (row.map eTx ++ [.none]) ∧ (∀ w ∈ row, w.length ≤ 100) ∧ row.length ≤ 100
theorem judges {lex : List Tx} {d : PyData} (F : Fine lex) (h : Near d) : ∃ a b, T_is_word_square (eT eTx lex) d = .ok a ∧ T_law_is_square lex d false = .ok a ∧ T_is_double_square (eT eTx lex) d = .ok b ∧ T_law_is_square lex d true = .ok b := by
  rcases h with ⟨row, rfl, h1, h2⟩ | h | ⟨row, rfl, h1, h2⟩
  · obtain ⟨a, b⟩ := judge F h1 h2
    exact ⟨_, _, a, is_square_eq h1 h2, b, is_square_eq h1 h2⟩
  · obtain ⟨a, b⟩ := judge_no F h
    exact ⟨_, _, a, is_square_no h, b, is_square_no h⟩
  · obtain ⟨a, b⟩ := judge_none F h1 h2
    exact ⟨_, _, a, is_square_none h1 h2, b, is_square_none h1 h2⟩
end K10

set_option Elab.async false
set_option linter.all false
set_option maxRecDepth 100000
set_option maxHeartbeats 4000000
namespace K10
open PySem PySem.Spec Ev Ty
open DI (Dice)
abbrev ab : Tx := [97, 98]
/-! ### wrong lexicons -/
def bads : List PyData := [.none, eT eAny [], eL eTx [[97, 98]], eT eTx [[98]], eT eTx [[97, 98], [97, 97]], eT eTx [[97, 98], [97, 98]], eT eTx [[65, 98]], eT eTx [[97, 98, 99, 100, 101, 102, 103, 104, 105, 106]], eT PyData.int [1], eTx [97, 98]]
theorem lex_t (ws : List Tx) (h : ws.length < 100) (hw : ∀ w ∈ ws, w.length < 100) (k : DI.isLex ws = false) : DI.T_is_lexicon (.tuple (ws.map eTx)) = .ok false := by
  rw [DI.is_lexicon ws (by omega) fun w m => by have := hw w m; omega, k]
theorem bad_lex {d : PyData} (h : d ∈ bads) : DI.T_is_lexicon d = .ok false := by
  unfold bads at h
  simp only [List.mem_cons, List.not_mem_nil, or_false] at h
  rcases h with rfl | rfl | rfl | rfl | rfl | rfl | rfl | rfl | rfl | rfl
  · exact DI.is_lexicon_no _ rfl
  · exact lex_t [] (by decide) (by simp) (by decide)
  · exact DI.is_lexicon_no _ rfl
  · exact lex_t [[98]] (by decide) (by simp) (by decide)
  · exact lex_t [[97, 98], [97, 97]] (by decide) (by simp) (by decide)
  · exact lex_t [[97, 98], [97, 98]] (by decide) (by simp) (by decide)
  · exact lex_t [[65, 98]] (by decide) (by simp) (by decide)
  · exact lex_t [[97, 98, 99, 100, 101, 102, 103, 104, 105, 106]] (by decide) (by simp) (by decide)
  · show DI.T_is_lexicon (.tuple [.int 1]) = _
    have e : compR [PyData.int 1] (fun _ => R.ok true) (fun y => DI.T_is_word y) = .ok [false] := by
      rw [compR_map (fun _ => false) (fun d hd => by rw [List.mem_singleton.mp hd]; exact DI.is_word_no _ rfl) (by simp)]
      rfl
    unfold DI.T_is_lexicon
    simp -implicitDefEqProofs only [R.bind_ok, R.noex_ok, R.bind_ok_right, R.and_ok, R.or_ok, cond_true, cond_false, R.ofOpt_some, DI.is_tuple_tup, DI.itA_tup, e]
    rfl
  · exact DI.is_lexicon_no _ rfl
theorem g_wrong {n : Nat} {D : List Int} (h : Dice n D) (hn : n < 1000000) : ∃ d ∈ bads, ∃ D', T_law_g_wrong D = .ok (d, D') ∧ Dice (n + 1) D' := by
  obtain ⟨d, hd, D', e, d'⟩ := DI.pick (xs := bads) h hn (by simp [bads]) (by simp [bads])
  refine ⟨d, hd, D', ?_, d'⟩
  unfold bads at e
  unfold T_law_g_wrong
  simp -implicitDefEqProofs only [R.bind_ok, R.noex_ok, R.bind_ok_right, R.and_ok, R.or_ok, cond_true, cond_false, R.ofOpt_some, d_pick]
  exact (congrArg (fun t => R.noex (R.noex t)) e)
def LX : Tx := [108, 101, 120, 105, 99, 111, 110]
def LN : Tx := [108, 101, 110, 103, 116, 104]
theorem ref_ex {α : Type} (t : Tx) : refR "BadArgument" (.ex ⟨"BadArgument", eTx t⟩ : R α) = .ok t := by
  unfold refR
  show (if ("BadArgument" : String) = "BadArgument" then R.ofOpt (dTx (eTx t)) else .bad) = _
  rw [if_pos rfl, dTx_e]; rfl
theorem dl_bad {d o : PyData} (h : DI.T_is_lexicon d = .ok false) : T_demand_length d o = .ex ⟨"BadArgument", eTx LX⟩ := by
  unfold T_demand_length
  simp -implicitDefEqProofs only [R.bind_ok, R.noex_ok, R.bind_ok_right, R.and_ok, R.or_ok, cond_true, cond_false, R.ofOpt_some, d_lex, h, d_dem, DI.demand_false]
  rfl
theorem dl_odd {d o : PyData} (h : DI.T_is_lexicon d = .ok true) (k : DI.T_is_in o 2 5 = .ok false) : T_demand_length d o = .ex ⟨"BadArgument", eTx LN⟩ := by
  unfold T_demand_length
  simp -implicitDefEqProofs only [R.bind_ok, R.noex_ok, R.bind_ok_right, R.and_ok, R.or_ok, cond_true, cond_false, R.ofOpt_some, d_lex, h, d_dem, DI.demand_true, d_in, k, DI.demand_false]
  rfl
theorem dl_good {d o : PyData} (h : DI.T_is_lexicon d = .ok true) (k : DI.T_is_in o 2 5 = .ok true) : T_demand_length d o = .ok () := by
  unfold T_demand_length
  simp -implicitDefEqProofs only [R.bind_ok, R.noex_ok, R.bind_ok_right, R.and_ok, R.or_ok, cond_true, cond_false, R.ofOpt_some, d_lex, h, d_dem, DI.demand_true, d_in, k]
def odds : List PyData := [.int 1, .int 6, .none, .bool true]
theorem odd_in {d : PyData} (h : d ∈ odds) : DI.T_is_in d 2 5 = .ok false := by
  unfold odds at h
  simp only [List.mem_cons, List.not_mem_nil, or_false] at h
  rcases h with rfl | rfl | rfl | rfl
  · rw [DI.is_in_int]; rfl
  · rw [DI.is_in_int]; rfl
  · rfl
  · rfl
theorem ws2_bad {d o : PyData} (h : DI.T_is_lexicon d = .ok false) : refR "BadArgument" (T_word_squares_2 d o) = .ok LX := by
  unfold T_word_squares_2
  simp -implicitDefEqProofs only [R.bind_ok, R.noex_ok, R.bind_ok_right, R.and_ok, R.or_ok, cond_true, cond_false, R.ofOpt_some, dl_bad h, R.bind_ex, ref_ex]
theorem ws2_odd {d o : PyData} (h : DI.T_is_lexicon d = .ok true) (k : DI.T_is_in o 2 5 = .ok false) : refR "BadArgument" (T_word_squares_2 d o) = .ok LN := by
  unfold T_word_squares_2
  simp -implicitDefEqProofs only [R.bind_ok, R.noex_ok, R.bind_ok_right, R.and_ok, R.or_ok, cond_true, cond_false, R.ofOpt_some, dl_odd h k, R.bind_ex, ref_ex]
theorem ds2_odd {d o : PyData} (h : DI.T_is_lexicon d = .ok true) (k : DI.T_is_in o 2 5 = .ok false) : refR "BadArgument" (T_double_squares_2 d o) = .ok LN := by
  unfold T_double_squares_2
  simp -implicitDefEqProofs only [R.bind_ok, R.noex_ok, R.bind_ok_right, R.and_ok, R.or_ok, cond_true, cond_false, R.ofOpt_some, dl_odd h k, R.bind_ex, ref_ex]
theorem iw_bad {d v : PyData} (h : DI.T_is_lexicon d = .ok false) : refR "BadArgument" (T_is_word_square d v) = .ok LX ∧ refR "BadArgument" (T_is_double_square d v) = .ok LX := by
  unfold T_is_word_square T_is_double_square
  simp -implicitDefEqProofs only [R.bind_ok, R.noex_ok, R.bind_ok_right, R.and_ok, R.or_ok, cond_true, cond_false, R.ofOpt_some, d_lex, h, d_dem, DI.demand_false, R.bind_ex, ref_ex]
  exact ⟨rfl, rfl⟩
/-! ### the tables -/
def wn (n : Nat) (lex : List Tx) : List Tx := lex.filter fun w => eqT (w.length : Int) (n : Int)
theorem wn_mem {n : Nat} {lex : List Tx} {w : Tx} (h : w ∈ wn n lex) : w ∈ lex ∧ w.length = n := by
  obtain ⟨a, b⟩ := List.mem_filter.mp h
  have := eqT_iff.mp b
  exact ⟨a, by omega⟩
theorem wn_eq {n : Nat} {lex : List Tx} (F : Fine lex) : compR lex (fun y => R.bind (lenTx y) fun x => R.ok (eqT x (n : Int))) (fun y => R.ok y) = .ok (wn n lex) := compR_filter _ (fun w m => by
  have := F.word w m
  rw [lenTx_ok (by omega), R.bind_ok]) (by have := F.len; omega)
section
variable {lex : List Tx} {n : Nat} (F : Fine lex) (h11 : lex.length ≤ 11) (h2 : 2 ≤ n) (h3 : n ≤ 3)
include F h11 h2 h3
theorem wn_len : (wn n lex).length ≤ 11 := Nat.le_trans (List.length_filter_le _ _) h11
theorem row_ok {row : List Tx} (h : row ∈ tups (wn n lex) n) : row.length = n ∧ (∀ w ∈ row, w.length = n ∧ w ∈ lex) ∧ row ≠ [] := by
  obtain ⟨a, b⟩ := tups_mem h
  exact ⟨a, fun w m => ⟨(wn_mem (b w m)).2, (wn_mem (b w m)).1⟩, fun e => by rw [e] at a; simp at a; omega⟩
theorem one_eq : (tups (wn n lex) n).filter (sq lex false) = (tups (wn n lex) n).filter (up n) := by
  refine List.filter_congr fun row hr => ?_
  obtain ⟨a, b, c⟩ := row_ok F h11 h2 h3 hr
  rw [up_cols a fun w m => (b w m).1]
  unfold sq
  have e1 : row.all (fun w => eqT (w.length : Int) row.length) = true := by
    rw [List.all_eq_true]; intro w m; rw [eqT_iff, (b w m).1, a]
  rw [e1, a, decide_eq_true (by omega), decide_eq_true (by omega)]
  show ((both n row).all (fun w => memT w lex) && eqT (cols n row) row) = _
  cases k : eqT (cols n row) row with
  | false => rw [Bool.and_false]
  | true =>
    rw [Bool.and_true, List.all_eq_true]
    intro w m
    unfold both at m
    rw [eqT_iff.mp k] at m
    rw [memT_iff]
    rcases List.mem_append.mp m with m | m <;> exact (b w m).2
theorem two_eq : (tups (wn n lex) n).filter (sq lex true) = (tups (wn n lex) n).filter (isDb n (wn n lex)) := by
  refine List.filter_congr fun row hr => ?_
  obtain ⟨a, b, c⟩ := row_ok F h11 h2 h3 hr
  unfold sq isDb
  have e1 : row.all (fun w => eqT (w.length : Int) row.length) = true := by
    rw [List.all_eq_true]; intro w m; rw [eqT_iff, (b w m).1, a]
  rw [e1, a, decide_eq_true (by omega), decide_eq_true (by omega)]
  show ((both n row).all (fun w => memT w lex) && once (both n row)) = _
  congr 1
  have hb : ∀ w ∈ both n row, w.length = n := fun w m => by
    rcases List.mem_append.mp m with m | m
    · exact (b w m).1
    · rw [cols_word m, a]
  rw [Bool.eq_iff_iff, List.all_eq_true, List.all_eq_true]
  constructor
  · intro q w m
    rw [memT_iff]
    exact List.mem_filter.mpr ⟨memT_iff.mp (q w m), by rw [eqT_iff, hb w m]⟩
  · intro q w m
    rw [memT_iff]
    exact (wn_mem (memT_iff.mp (q w m))).1
theorem sort_rows {l : List (List Tx)} (h : ∀ row ∈ l, row ∈ tups (wn n lex) n) : sortR (ltLex ltTx) (fun t => !t.isEmpty) l = .ok (sortT (ltLex ltTx) l) := by
  unfold sortR
  rw [if_pos]
  rw [List.all_eq_true]
  intro row m
  have := (row_ok F h11 h2 h3 (h row m)).2.2
  cases row with
  | nil => exact absurd rfl this
  | cons _ _ => rfl
theorem in_n : DI.T_is_in (.int (n : Int)) 2 5 = .ok true := by
  rw [DI.is_in_int, decide_eq_true (by omega), decide_eq_true (by omega)]; rfl
theorem word_squares_eq : T_word_squares lex (n : Int) = .ok (sortT (ltLex ltTx) ((tups (wn n lex) n).filter (up n))) := by
  unfold T_word_squares
  simp -implicitDefEqProofs only [R.bind_ok, R.noex_ok, R.bind_ok_right, R.and_ok, R.or_ok, cond_true, cond_false, R.ofOpt_some, dl_good F.lexi (in_n F h11 h2 h3), wn_eq F, begun_eq (wn_len F h11 h2 h3) (fun w m => (wn_mem m).2) h3]
  exact sort_rows F h11 h2 h3 fun row m => (List.mem_filter.mp m).1
def less (n : Nat) (row : List Tx) : Bool := ltLex ltTx row (cols n row)
omit h11 h2 h3 F in
theorem less_eq {l : List (List Tx)} {n : Nat} (h : ∀ row ∈ l, row.length = n ∧ (∀ w ∈ row, w.length = n) ∧ row ≠ []) (hz : l.length < 16777216) (hn : n ≤ 3) : compR l (fun y => R.bind (T_columns_of y) fun x => R.ok (ltLex ltTx y x)) (fun y => R.ok y) = .ok (l.filter (less n)) := compR_filter _ (fun row m => by
  obtain ⟨a, b, c⟩ := h row m
  rw [columns_eq (m := n) (by omega) (by omega) b c, R.bind_ok]; rfl) hz
theorem double_squares_eq : T_double_squares lex (n : Int) = .ok (sortT (ltLex ltTx) (((tups (wn n lex) n).filter (isDb n (wn n lex))).filter (less n))) := by
  have hl := flat_len (n := n) (fun _ => isDb n (wn n lex)) (wn_len F h11 h2 h3) h3
  unfold T_double_squares
  simp -implicitDefEqProofs only [R.bind_ok, R.noex_ok, R.bind_ok_right, R.and_ok, R.or_ok, cond_true, cond_false, R.ofOpt_some, dl_good F.lexi (in_n F h11 h2 h3), wn_eq F, doubles_eq2 (wn_len F h11 h2 h3) (fun w m => (wn_mem m).2) h2 h3, less_eq (l := (tups (wn n lex) n).filter (isDb n (wn n lex))) (n := n) (fun row m => by
    obtain ⟨a, b, c⟩ := row_ok F h11 h2 h3 (List.mem_filter.mp m).1
    exact ⟨a, fun w m => (b w m).1, c⟩) (by omega) h3]
  exact sort_rows F h11 h2 h3 fun row m => (List.mem_filter.mp (List.mem_filter.mp m).1).1
end
end K10

set_option Elab.async false
set_option linter.all false
set_option maxRecDepth 100000
set_option maxHeartbeats 4000000
namespace K10
open PySem PySem.Spec Ev Ty
open DI (Dice)
theorem sub_LET (t : Tx) (h : (t.all fun c => memT c DI.LET) = true) : ∀ c ∈ t, c ∈ DI.LET := fun c m => memT_iff.mp (List.all_eq_true.mp h c m)
theorem cut_sub {α : Type} {xs : List α} {lo hi : Option Int} : ∀ x ∈ cutD xs lo hi, x ∈ xs := fun x h => by
  unfold cutD at h
  exact List.mem_of_mem_drop (List.mem_of_mem_take h)
theorem cut_len {α : Type} {xs : List α} {lo hi : Option Int} : (cutD xs lo hi).length ≤ xs.length := by
  unfold cutD
  rw [List.length_take, List.length_drop]; omega
/-- a drawn row -/
def Some (row : List Tx) : Prop := ∃ k, 2 ≤ k ∧ k ≤ 3 ∧ row.length = k ∧ ∀ w ∈ row, w.length = k
theorem some_t {row : List Tx} (h : Some row) : row.length ≤ 3 ∧ (∀ w ∈ row, w.length ≤ 3) ∧ row ≠ [] := by
  obtain ⟨k, a, b, c, d⟩ := h
  exact ⟨by omega, fun w m => by rw [d w m]; exact b, fun e => by rw [e] at c; simp at c; omega⟩
theorem near_t {row : List Tx} (h1 : ∀ w ∈ row, w.length ≤ 100) (h2 : row.length ≤ 100) : Near (eT eTx row) := .inl ⟨row, rfl, h1, h2⟩
theorem law_ok {ns : List Int} : True := trivial
set_option maxHeartbeats 0 in
theorem right {D : List Int} (h : Dice 0 D) : ∃ D', T_law_right D = .ok (true, D') := by
  obtain ⟨len, hlen, D1, e1, d1⟩ := DI.pick (xs := ([2, 2, 3, 3] : List Int)) h (by decide) (by simp) (by simp)
  obtain ⟨letters, hlet, D2, e2, d2⟩ := DI.pick (xs := ([[97, 98], [97, 98, 99], [97, 98, 99, 100]] : List Tx)) d1 (by decide) (by simp) (by simp)
  have hl : letters ≠ [] ∧ letters.length ≤ 4 ∧ ∀ c ∈ letters, c ∈ DI.LET := by
    simp only [List.mem_cons, List.not_mem_nil, or_false] at hlet
    rcases hlet with rfl | rfl | rfl
    · exact ⟨by simp, by simp, sub_LET _ (by decide +kernel)⟩
    · exact ⟨by simp, by simp, sub_LET _ (by decide +kernel)⟩
    · exact ⟨by simp, by simp, sub_LET _ (by decide +kernel)⟩
  obtain ⟨lex, D3, e3, L, d3⟩ := DI.g_lexicon (letters := letters) (least := 2) (most := 3) (many := 11) d2 (by decide) hl.1 (by omega) (by decide) (by decide) (by decide) (by decide) (by decide)
  obtain ⟨n, h2, h3, rfl⟩ : ∃ n : Nat, 2 ≤ n ∧ n ≤ 3 ∧ len = n := by
    simp only [List.mem_cons, List.not_mem_nil, or_false] at hlen
    rcases hlen with rfl | rfl | rfl | rfl
    · exact ⟨2, by decide, by decide, rfl⟩
    · exact ⟨2, by decide, by decide, rfl⟩
    · exact ⟨3, by decide, by decide, rfl⟩
    · exact ⟨3, by decide, by decide, rfl⟩
  have h11 : lex.length ≤ 11 := L.few
  have F : Fine lex := ⟨L.isLex hl.2.2 (by decide) (by decide) (by decide), by omega, fun w m => by have := (L.word w m).2.1; omega⟩
  have w1 := word_squares_eq F h11 h2 h3
  have w2 := double_squares_eq F h11 h2 h3
  have rows := fun row => @row_ok lex n F h11 h2 h3 row
  have lt : (tups (wn n lex) n).length ≤ 1331 := by rw [tups_len]; exact pow_le (wn_len F h11 h2 h3) h3
  have sqo : ∀ b, compR (tups (wn n lex) n) (fun y => T_law_is_square lex (eT eTx y) b) (fun y => R.ok y) = .ok ((tups (wn n lex) n).filter (sq lex b)) := fun b => compR_filter _ (fun row m => by
    obtain ⟨a, b', c⟩ := rows row m
    exact is_square_eq (fun w m => by rw [(b' w m).1]; omega) (by omega)) (by omega)
  have so1 := sort_rows F h11 h2 h3 (l := (tups (wn n lex) n).filter (up n)) fun row m => (List.mem_filter.mp m).1
  have so2 := sort_rows F h11 h2 h3 (l := ((tups (wn n lex) n).filter (isDb n (wn n lex))).filter (less n)) fun row m => (List.mem_filter.mp (List.mem_filter.mp m).1).1
  have l1 : ((tups (wn n lex) n).filter (up n)).length ≤ 1331 := Nat.le_trans (List.length_filter_le _ _) lt
  have l2 : ((tups (wn n lex) n).filter (isDb n (wn n lex))).length ≤ 1331 := Nat.le_trans (List.length_filter_le _ _) lt
  have le2 := less_eq (l := (tups (wn n lex) n).filter (isDb n (wn n lex))) (n := n) (fun row m => by
    obtain ⟨a, b, c⟩ := rows row (List.mem_filter.mp m).1
    exact ⟨a, fun w m => (b w m).1, c⟩) (by omega) h3
  have eqq : ∀ x : List (List Tx), eqT x x = true := fun x => eqT_iff.mpr rfl
  -- the turns
  generalize hone : (tups (wn n lex) n).filter (up n) = one at *
  generalize htwo : (tups (wn n lex) n).filter (isDb n (wn n lex)) = two at *
  have c5 : (cutD (tups (wn n lex) n) none (some 5)).length ≤ 1331 := Nat.le_trans cut_len lt
  have z1 : szR (one ++ two) = .ok (one ++ two) := szR_ok (by rw [List.length_append]; omega)
  have z2 : szR (one ++ two ++ cutD (tups (wn n lex) n) none (some 5)) = .ok (one ++ two ++ cutD (tups (wn n lex) n) none (some 5)) := szR_ok (by rw [List.length_append, List.length_append]; omega)
  have z3 : szR (one ++ two ++ cutD (tups (wn n lex) n) none (some 5) ++ [[[97, 98], [98, 97]]]) = .ok (one ++ two ++ cutD (tups (wn n lex) n) none (some 5) ++ [[[97, 98], [98, 97]]]) := szR_ok (by rw [List.length_append, List.length_append, List.length_append, List.length_singleton]; omega)
  have hsome : ∀ row ∈ one ++ two ++ cutD (tups (wn n lex) n) none (some 5) ++ [[[97, 98], [98, 97]]], Some row := by
    intro row m
    have tt : row ∈ tups (wn n lex) n → Some row := fun m => by
      obtain ⟨a, b, c⟩ := rows row m
      exact ⟨n, h2, h3, a, fun w m => (b w m).1⟩
    rcases List.mem_append.mp m with m | m
    · rcases List.mem_append.mp m with m | m
      · rcases List.mem_append.mp m with m | m
        · rw [← hone] at m; exact tt (List.mem_filter.mp m).1
        · rw [← htwo] at m; exact tt (List.mem_filter.mp m).1
      · exact tt (cut_sub _ m)
    · rw [List.mem_singleton.mp m]; exact ⟨2, by decide, by decide, rfl, by decide⟩
  have hdr : ∀ row, Some row → idxR row 0 = .ok (row.headD []) := fun row hs => by
    obtain ⟨_, _, c⟩ := some_t hs
    cases row with
    | nil => exact absurd rfl c
    | cons a r => exact idxR_zero
  have hcol : ∀ row, Some row → ∃ cs, T_columns_of row = .ok cs ∧ Near (eT eTx cs) := fun row hs => by
    obtain ⟨k, a, b, c, d⟩ := hs
    refine ⟨cols k row, columns_eq (by omega) (by omega) d (fun e => by rw [e] at c; simp at c; omega), near_t (fun w m => by rw [cols_word m]; omega) (by rw [cols_len]; omega)⟩
  have hz9 : ∀ row, Some row → szR (row ++ cutD row none (Option.some 1)) = .ok (row ++ cutD row none (Option.some 1)) := fun row hs => szR_ok (by
    have := (some_t hs).1
    have := cut_len (xs := row) (lo := none) (hi := Option.some 1)
    rw [List.length_append]; omega)
  have hz8 : ∀ row, Some row → szR (List.map eTx (cutD row none (Option.some (-1))) ++ List.map eN [()]) = .ok (List.map eTx (cutD row none (Option.some (-1))) ++ List.map eN [()]) := fun row hs => szR_ok (by
    have := (some_t hs).1
    have := cut_len (xs := row) (lo := none) (hi := Option.some (-1))
    rw [List.length_append, List.length_map, List.length_map, List.length_singleton]; omega)
  unfold T_law_right
  simp -implicitDefEqProofs only [R.bind_ok, R.noex_ok, R.bind_ok_right, R.and_ok, R.or_ok, cond_true, cond_false, R.ofOpt_some, d_pick, e1, e2, d_glex, e3, wn_eq F, tuples_eq (wn_len F h11 h2 h3) h3, sqo, one_eq F h11 h2 h3, two_eq F h11 h2 h3, hone, htwo, w1, w2, so1, so2, d_cols, le2, eqq, Bool.not_true, Bool.false_or, z1, z2, z3]
  have r6 : rngR 0 6 = .ok ((List.range 6).map fun (k : Nat) => (k : Int)) := rngR_nat (n := 6) (by decide)
  generalize hbig : one ++ two ++ cutD (tups (wn n lex) n) none (Option.some 5) ++ [[[97, 98], [98, 97]]] = big at *
  have hb0 : big ≠ [] := by rw [← hbig]; simp
  have hb1 : big.length < 1000000 := by rw [← hbig, List.length_append, List.length_append, List.length_append, List.length_singleton]; omega
  obtain ⟨D4, e4, d4⟩ := forO_inv (xs := (List.range 6).map fun (k : Nat) => (k : Int)) (s := D3) (J := fun i D => Dice (12000 + 2 * i) D) (ρ := Bool × List Int) (f := fun (y75 : Int) (s74 : List Int) =>
                  (DI.T_law_pick s74 big).noex.bind
                    fun x150 =>
                    ((((T_columns_of x150.fst).bind fun v => R.ok (eT eTx v)).bind fun x156 =>
                              ((szR (x150.fst ++ cutD x150.fst none (some 1))).bind fun v => R.ok (eT eTx v)).bind
                                fun x169 =>
                                (((idxR x150.fst 0).bind fun x170 => R.ok [x170]).bind fun v => R.ok (eT eTx v)).bind
                                  fun x171 =>
                                  ((szR (List.map eTx (cutD x150.fst none (some (-1))) ++ List.map eN [()])).bind
                                        fun v => R.ok (eT eAny v)).bind
                                    fun x178 =>
                                    R.ok
                                      [eT eTx x150.fst, eT eTx x150.fst, eT eTx x150.fst.reverse, x156, eL eTx x150.fst,
                                        eN (), eT eTx (cutD x150.fst (some 1) none), x169, x171, x178]).bind
                          fun x179 => (DI.T_law_pick x150.snd x179).noex).bind
                      fun x180 =>
                      (((T_is_word_square (eT eTx lex) x180.fst).bind fun x183 =>
                                (T_law_is_square lex x180.fst false).bind fun x187 => R.ok !eqT x183 x187).bind
                            fun x =>
                            bif x then R.ok true
                            else
                              (T_is_double_square (eT eTx lex) x180.fst).bind fun x190 =>
                                (T_law_is_square lex x180.fst true).bind fun x194 => R.ok !eqT x190 x194).bind
                        fun x195 => bif x195 then R.ok (Out.rt (false, x180.snd)) else R.ok (Out.nx x180.snd)) (fun i x D hx hD => by
    have hi := (rngR_get hx).1
    obtain ⟨row, m, Da, ea, da⟩ := DI.pick (xs := big) hD (by omega) hb0 hb1
    have hs := hsome row m
    obtain ⟨cs, ec, nc⟩ := hcol row hs
    obtain ⟨t1, t2, t3⟩ := some_t hs
    have s1 : ∀ w ∈ row, w.length ≤ 100 := fun w m => by have := t2 w m; omega
    have s2 : ∀ {lo hi : Option Int}, ∀ w ∈ cutD row lo hi, w.length ≤ 100 := fun w m => s1 w (cut_sub w m)
    have s3 : ∀ {lo hi : Option Int}, (cutD row lo hi).length ≤ 3 := Nat.le_trans cut_len t1
    have hn : ∀ d ∈ [eT eTx row, eT eTx row, eT eTx row.reverse, eT eTx cs, eL eTx row, eN (), eT eTx (cutD row (some 1) none), eT eTx (row ++ cutD row none (some 1)), eT eTx [row.headD []], eT eAny (List.map eTx (cutD row none (some (-1))) ++ List.map eN [()])], Near d := by
      intro d hd
      simp only [List.mem_cons, List.not_mem_nil, or_false] at hd
      rcases hd with rfl | rfl | rfl | rfl | rfl | rfl | rfl | rfl | rfl | rfl
      · exact near_t s1 (by omega)
      · exact near_t s1 (by omega)
      · exact near_t (fun w m => s1 w (List.mem_reverse.mp m)) (by rw [List.length_reverse]; omega)
      · exact nc
      · exact .inr (.inl rfl)
      · exact .inr (.inl rfl)
      · exact near_t s2 (by have := s3 (lo := some 1) (hi := none); omega)
      · exact near_t (fun w m => (List.mem_append.mp m).elim (s1 w) (s2 w)) (by have := s3 (lo := none) (hi := some 1); rw [List.length_append]; omega)
      · refine near_t (fun w m => ?_) (by simp)
        rw [List.mem_singleton.mp m]
        cases row with
        | nil => exact absurd rfl t3
        | cons a r => exact s1 a List.mem_cons_self
      · refine .inr (.inr ⟨cutD row none (some (-1)), ?_, s2, by have := s3 (lo := none) (hi := some (-1)); omega⟩)
        show PyData.tuple (List.map (fun d => d) _) = _
        rw [List.map_id']
        rfl
    obtain ⟨near, mn, Db, eb, db⟩ := DI.pick (xs := [eT eTx row, eT eTx row, eT eTx row.reverse, eT eTx cs, eL eTx row, eN (), eT eTx (cutD row (some 1) none), eT eTx (row ++ cutD row none (some 1)), eT eTx [row.headD []], eT eAny (List.map eTx (cutD row none (some (-1))) ++ List.map eN [()])]) da (by omega) (by simp) (by simp)
    obtain ⟨a, b, j1, j2, j3, j4⟩ := judges F (hn near mn)
    refine ⟨Db, ?_, db.mono (by omega)⟩
    have ee : ∀ b : Bool, eqT b b = true := fun b => eqT_iff.mpr rfl
    simp -implicitDefEqProofs only [R.bind_ok, R.noex_ok, R.bind_ok_right, R.and_ok, R.or_ok, cond_true, cond_false, R.ofOpt_some, ea, ec, hz9 row hs, hdr row hs, hz8 row hs, eb, j1, j2, j3, j4, ee, Bool.not_true, Bool.false_and]) (d3.mono (by omega))
  obtain ⟨bad, hb, D5, e5, d5⟩ := g_wrong (d4.mono (show _ ≤ 13000 by simp)) (by decide)
  obtain ⟨odd, ho, D6, e6, d6⟩ := DI.pick (xs := odds) d5 (by decide) (by simp [odds]) (by simp [odds])
  have e6' : DI.T_law_pick D5 [PyData.int 1, PyData.int 6, eN (), PyData.bool true] = .ok (odd, D6) := e6
  have o1 := odd_in ho
  have b1 := bad_lex hb
  refine ⟨D6, ?_⟩
  simp -implicitDefEqProofs only [R.bind_ok, R.noex_ok, R.bind_ok_right, R.and_ok, R.or_ok, cond_true, cond_false, R.ofOpt_some, Bool.false_and, r6]
  rw [onO_nx e4]
  simp -implicitDefEqProofs only [R.bind_ok, R.noex_ok, R.bind_ok_right, R.and_ok, R.or_ok, cond_true, cond_false, R.ofOpt_some, e5, e6', ws2_bad b1, ws2_odd F.lexi o1, ds2_odd F.lexi o1, (iw_bad b1).1, (iw_bad b1).2]
  have : eqT [LX, LN, LN, LX, LX] [[108, 101, 120, 105, 99, 111, 110], [108, 101, 110, 103, 116, 104], [108, 101, 110, 103, 116, 104], [108, 101, 120, 105, 99, 111, 110], [108, 101, 120, 105, 99, 111, 110]] = true := eqT_iff.mpr rfl
  rw [this]
/-- the law -/
theorem law_true {ns : List Int} (hl : ns.length ≤ 63) : T_law ns = .ok true := by
  obtain ⟨b, eb, b5⟩ := DI.spots ns.length (k := 5) (by decide) (by decide)
  have c1 : T_word_squares [[97, 98], [98, 97], [98, 99]] 2 = .ok [[[97, 98], [98, 97]], [[97, 98], [98, 99]], [[98, 97], [97, 98]]] := by kernel_rfl
  have c2 : T_double_squares [[97, 98], [97, 99], [98, 100], [99, 100]] 2 = .ok [[[97, 98], [99, 100]]] := by kernel_rfl
  have e1 : ∀ x : List (List Tx), eqT x x = true := fun x => eqT_iff.mpr rfl
  unfold T_law
  simp -implicitDefEqProofs only [R.bind_ok, R.noex_ok, R.bind_ok_right, R.and_ok, R.or_ok, cond_true, cond_false, R.ofOpt_some, eb, rngR_nat (show b < 4611686018427387904 by omega)]
  obtain ⟨u, e4, _⟩ := forO_inv (xs := (List.range b).map fun (k : Nat) => (k : Int)) (s := ()) (J := fun _ _ => True) (ρ := Bool) (f := fun (y8 : Int) (s7 : Unit) => (((T_law_dice ns y8).bind fun x17 => (R.noex (T_law_right x17)).bind fun v => R.ok v.1).bind fun x => R.ok (!x)).bind fun x18 => bif x18 then R.ok (Out.rt false) else R.ok (Out.nx ())) (fun i x s hx _ => by
    obtain ⟨hi, rfl⟩ := rngR_get hx
    obtain ⟨D, ed, dd⟩ := DI.dice (ns := ns) (spot := (i : Int)) hl (by omega) (by omega)
    obtain ⟨D', er⟩ := right dd
    exact ⟨(), by simp -implicitDefEqProofs only [R.bind_ok, R.noex_ok, R.bind_ok_right, R.and_ok, R.or_ok, cond_true, cond_false, R.ofOpt_some, d_dice, ed, er, Bool.not_true], trivial⟩) trivial
  rw [onO_nx e4]
  simp -implicitDefEqProofs only [R.bind_ok, R.noex_ok, R.bind_ok_right, R.and_ok, R.or_ok, cond_true, cond_false, R.ofOpt_some, c1, c2, e1, Bool.and_true]
/-- all the plain mathematics of the law -/
theorem pure_ {ns : List Int} (hl : ns.length ≤ 63) : f_law [.sh (.list (ns.map .int))] = .ok (.bool true) [] := by
  have q := sim_law ns
  rw [law_true hl] at q
  exact q
end K10

theorem PySem.Challenge.cw_gridlights_k10_whole_word_squares_holds : PySem.Challenge.rw_gridlights_k10_whole_word_squares.Holds := by
  exact K10.holds_of fun ns hl _ => K10.pure_ hl
