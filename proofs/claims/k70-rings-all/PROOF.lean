import PyProof.Rows.All
import Wide.All
import OpenK.AllK
import Wide.FinOn
import PySem.Challenge.RW_turnwords_k70_whole_rings_with_all_words
import HandS.ForMost
import HandS.IsInst
import HandS.TupAny
import HandS.Zip
import KE.KDictKeyed
import KE.DataCmp
import HandS.Dict
import HandS.More
import HandS.Deep
import HandS.TupMul
import HandS.Style
import HandS.Codes
import HandS.Iter
import KE.GoesEnum
import KE.GoesZip
import HandS.List
import KE.KDictDisplayH
import KE.SortData
import KE.DataMinMax
import HandS.Conv
import HandS.SortOrd
import HandS.DictComp
import HandS.Flow
import HandS.Defaults
import HandS.Head0
import HandS.Head1
import HandS.Head2
import HandS.HeadEnd
import HandS.HeadHook1
import HandS.HeadHook2
import KE.DatumOrd
set_option Elab.async false
set_option linter.all false
set_option maxRecDepth 100000
/-! Tw.EvA: values as trees, the evaluator's moves. -/
namespace Tw
open PySem

/-- a value: lists and dicts bear a mark: is this frame the only one that may change it -/
inductive D where
  | non | bl (b : Bool) | int (i : Int) | str (x : Str)
  | tup (xs : List D) | lst (o : Bool) (xs : List D) | dic (o : Bool) (ks vs : List D)
  /-- the script -/
  | scr (ns : List Int)
  deriving Inhabited

mutual
def frz : D → Bool
  | .non => true | .bl _ => true | .int _ => true | .str _ => true | .scr _ => true
  | .tup xs => frzL xs
  | .lst o xs => !o && frzL xs
  | .dic o ks vs => !o && (frzL ks && frzL vs)
def frzL : List D → Bool
  | [] => true
  | d :: ds => frz d && frzL ds
end
mutual
def fz : D → D
  | .non => .non | .bl b => .bl b | .int i => .int i | .str x => .str x | .scr ns => .scr ns
  | .tup xs => .tup (fzL xs)
  | .lst _ xs => .lst false (fzL xs)
  | .dic _ ks vs => .dic false (fzL ks) (fzL vs)
def fzL : List D → List D
  | [] => []
  | d :: ds => fz d :: fzL ds
end
mutual
def toPy : D → PyData
  | .non => .none | .bl b => .bool b | .int i => .int i | .str x => .str x
  | .tup xs => .tuple (toPyL xs)
  | .lst _ xs => .list (toPyL xs)
  | .dic _ _ _ => .dict []
  | .scr _ => .dict []
def toPyL : List D → List PyData
  | [] => []
  | d :: ds => toPy d :: toPyL ds
end
mutual
/-- no dict within, to a depth of n -/
def shp : Nat → D → Bool
  | _, .non => true | _, .bl _ => true | _, .int _ => true | _, .str x => PyData.strOk x
  | _, .dic _ _ _ => false | _, .scr _ => false
  | n, .tup xs => (match n with
    | 0 => false
    | n + 1 => shpL n xs)
  | n, .lst _ xs => (match n with
    | 0 => false
    | n + 1 => shpL n xs)
def shpL : Nat → List D → Bool
  | _, [] => true
  | n, d :: ds => shp n d && shpL n ds
end

mutual
/-- a value as a dict's key (no texts) -/
def nk : D → Option NestedKey
  | .non => some .none
  | .bl b => some (.num (if b = true then 1 else 0))
  | .int i => some (.num i)
  | .tup xs => (nkL xs).map .tup
  | .str _ => none | .lst _ _ => none | .dic _ _ _ => none | .scr _ => none
def nkL : List D → Option (List NestedKey)
  | [] => some []
  | d :: ds => (nk d).bind fun k => (nkL ds).map (k :: ·)
end
abbrev S := List (Option D)
inductive R (α : Type) where
  | ok (a : α) (s : S) | exc (e : D) (s : S) | bad
/-- what runs around: the defs that may be called, the slots that are the caller's own -/
structure Env where
  call : Str → List D → R D
  refs : List Nat
def Sm (α : Type) := Env → S → R α
def ret {α : Type} (a : α) : Sm α := fun _ s => .ok a s
def bad {α : Type} : Sm α := fun _ _ => .bad
def bnd {α β : Type} (m : Sm α) (f : α → Sm β) : Sm β := fun e s => match m e s with
  | .ok a s' => f a e s'
  | .exc x s' => .exc x s'
  | .bad => .bad
def grd (b : Bool) {α : Type} (m : Sm α) : Sm α := fun e s => if b = true then m e s else .bad
def lift {α : Type} (o : Option α) : Sm α := fun _ s => match o with
  | some a => .ok a s
  | none => .bad

inductive Fl where
  | nx | bk | ct | rt (d : D)

/-! ### names -/
/-- looked at -/
def vP (i : Nat) : Sm D := fun _ s => match s[i]? with
  | some (some d) => .ok d s
  | _ => .bad
/-- handed on: from now on nobody changes it -/
def vE (i : Nat) : Sm D := fun _ s => match s[i]? with
  | some (some d) => if frz d = true then .ok d s else .ok (fz d) (s.set i (some (fz d)))
  | _ => .bad
/-- handed out of the frame -/
def vR (i : Nat) : Sm D := fun e s => match s[i]? with
  | some (some d) => if frz d = true then .ok d s else if e.refs.contains i = true then .ok (fz d) (s.set i (some (fz d))) else .ok d (s.set i none)
  | _ => .bad
def setv (i : Nat) (d : D) : Sm Unit := fun e s => if e.refs.contains i = true then .bad else .ok () (s.set i (some d))

/-! ### operators -/
def szOk (n : Nat) : Bool := decide (n ≤ sizeLine)
def opAdd : D → D → Option D
  | .int a, .int b => some (.int (a + b))
  | .tup a, .tup b => if szOk (a.length + b.length) = true then some (.tup (a ++ b)) else none
  | .lst _ a, .lst _ b => if (szOk (a.length + b.length) && (frzL a && frzL b)) = true then some (.lst true (a ++ b)) else none
  | .str a, .str b => if szOk (a.length + b.length) = true then some (.str (a ++ b)) else none
  | _, _ => none
def opSub : D → D → Option D
  | .int a, .int b => some (.int (a - b))
  | _, _ => none
def mulOk (a b : Int) : Bool := decide (a.natAbs < 2 ^ 64) || decide (b.natAbs < 2 ^ 64)
def repD (a : List D) (k : Int) : List D := (List.replicate k.toNat a).flatten
def repOk (n : Nat) (k : Int) : Bool := decide (-(2 ^ 63) ≤ k) && (decide (k ≤ 1000) && decide (n ≤ 1000))
def repOkL (n : Nat) (k : Int) : Bool := decide (-(2 ^ 63) ≤ k) && (decide (k < 2 ^ 63) && szOk (n * k.toNat))
def opMul : D → D → Option D
  | .int a, .int b => if mulOk a b = true then some (.int (a * b)) else none
  | .tup a, .int k => if repOk a.length k = true then some (.tup (repD a k)) else none
  | .lst _ a, .int k => if (repOkL a.length k && frzL a) = true then some (.lst true (repD a k)) else none
  | _, _ => none
def opDiv : D → D → Option D
  | .int a, .int b => if (decide (0 < b) && decide (b < 1073741824)) = true then some (.int (a / b)) else none
  | _, _ => none
def opMod : D → D → Option D
  | .int a, .int b => if decide (0 < b) = true then some (.int (a % b)) else none
  | _, _ => none
def opPow : D → D → Option D
  | .int a, .int b => if (decide (0 ≤ b) && (decide (b ≤ 1000000) && decide (a.natAbs < 2 ^ 64))) = true then some (.int (a ^ b.toNat)) else none
  | _, _ => none
def binOp : Operator → D → D → Option D
  | .Add => opAdd | .Sub => opSub | .Mult => opMul | .FloorDiv => opDiv | .Mod => opMod | .Pow => opPow
  | _ => fun _ _ => none
/-! ### dicts -/
def kTp : D → Bool
  | .tup _ => true
  | _ => false
/-- a key that is served: a whole number, or a tuple -/
def kOk : D → Bool
  | .int _ => true
  | .tup xs => (match nkL xs with
    | some q => decide ((NestedKey.tup q).depth ≤ 8)
    | none => false)
  | _ => false
/-- all keys are of one kind -/
def homK (ks : List D) (k : D) : Bool := kOk k && ks.all fun j => kOk j && kTp j == kTp k
/-- the same key -/
def sameK (j k : D) : Bool := decide (nk j = nk k)
def findK : List D → List D → D → Option D
  | j :: js, v :: vs, k => if sameK j k = true then some v else findK js vs k
  | _, _, _ => none
def getK : D → D → Option (Option D)
  | .dic _ ks vs, k => if homK ks k = true then some (findK ks vs k) else none
  | _, _ => none
def hasK (ks : List D) (k : D) : Bool := ks.any fun j => sameK j k
/-- the values, one of them (or a last one) new -/
def putVs : List D → List D → D → D → List D
  | j :: js, v :: vs, k, n => if sameK j k = true then n :: putVs js vs k n else v :: putVs js vs k n
  | _, _, _, _ => []
def putK (ks vs : List D) (k n : D) : List D × List D := if hasK ks k = true then (ks, putVs ks vs k n) else (ks ++ [k], vs ++ [n])
def flatD : D → Bool
  | .int _ => true | .str _ => true | .bl _ => true | .non => true
  | _ => false
/-- in -/
def inD : D → D → Option Bool
  | x, .dic o ks vs => (getK (.dic o ks vs) x).map (·.isSome)
  | x, .lst o xs => if (shp 60 x && shp 60 (.lst o xs)) = true then some (xs.any fun y => PyData.eqv (toPy y) (toPy x)) else none
  | x, .tup xs => if (flatD x && xs.all flatD) = true then some (xs.any fun y => PyData.eqv (toPy y) (toPy x)) else none
  | _, _ => none
/-- == -/
def eqD : D → D → Option Bool
  | .str a, .str b => some (decide (a = b))
  | a, b => if (shp 60 a && shp 60 b) = true then some (PyData.eqv (toPy a) (toPy b)) else none
def cmpI (p : Int → Int → Bool) : D → D → Option Bool
  | .int a, .int b => some (p a b)
  | _, _ => none
def nnD : D → Bool
  | .non => false
  | _ => true
/-- whole numbers, or data that are alike -/
def cmpL (p : Int → Int → Bool) (f : PyData → PyData → Bool) : D → D → Option Bool
  | .int a, .int b => some (p a b)
  | a, b => if (shp 60 a && (shp 60 b && (PySem.W.alike (toPy a) (toPy b) && nnD a))) = true then some (f (toPy a) (toPy b)) else none
def cmpOp : CmpOp → D → D → Option Bool
  | .Eq => eqD
  | .NotEq => fun a b => (eqD a b).map (!·)
  | .Lt => cmpL (fun a b => decide (a < b)) PySem.W.dataLt
  | .LtE => cmpL (fun a b => decide (a ≤ b)) fun x y => !PySem.W.dataLt y x
  | .Gt => cmpL (fun a b => decide (b < a)) fun x y => PySem.W.dataLt y x
  | .GtE => cmpL (fun a b => decide (b ≤ a)) fun x y => !PySem.W.dataLt x y
  | .In => inD
  | .NotIn => fun a b => (inD a b).map (!·)
  | _ => fun _ _ => none
/-- a op b: g: what b does changes nothing that was looked at -/
def bin (op : Operator) (g : Bool) (a b : Sm D) : Sm D := bnd a fun x => bnd b fun y => grd (g || frz x) (lift (binOp op x y))
def cmp (op : CmpOp) (g : Bool) (a b : Sm D) : Sm Bool := bnd a fun x => bnd b fun y => grd (g || frz x) (lift (cmpOp op x y))
/-- the same, the second operand changing things: the first one a name, read (again) at the end -/
def binV (op : Operator) (i : Nat) (b : Sm D) : Sm D := bnd (vP i) fun _ => bnd b fun y => bnd (vP i) fun x => lift (binOp op x y)
def cmpV (op : CmpOp) (i : Nat) (b : Sm D) : Sm Bool := bnd (vP i) fun _ => bnd b fun y => bnd (vP i) fun x => lift (cmpOp op x y)
/-- the first one in hand -/
def binH (op : Operator) (a b : Sm D) : Sm D := bnd a fun x => bnd b fun y => lift (binOp op x y)
def cmpH (op : CmpOp) (a b : Sm D) : Sm Bool := bnd a fun x => bnd b fun y => lift (cmpOp op x y)
def isNonD : D → Bool
  | .non => true
  | _ => false
def isBlD (c : Bool) : D → Bool
  | .bl b => b == c
  | _ => false
def isN (a : Sm D) : Sm Bool := bnd a fun x => ret (isNonD x)
def isB (c : Bool) (a : Sm D) : Sm Bool := bnd a fun x => ret (isBlD c x)
def notB (a : Sm Bool) : Sm Bool := bnd a fun b => ret (!b)
def andB (a b : Sm Bool) : Sm Bool := bnd a fun x => if x = true then b else ret false
def orB (a b : Sm Bool) : Sm Bool := bnd a fun x => if x = true then ret true else b
def blE (a : Sm Bool) : Sm D := bnd a fun b => ret (.bl b)
def asB (a : Sm D) : Sm Bool := bnd a fun x => match x with
  | .bl b => ret b
  | _ => bad
def iteS {α : Type} (c : Sm Bool) (a b : Sm α) : Sm α := bnd c fun x => if x = true then a else b
def negI (a : Sm D) : Sm D := bnd a fun x => match x with
  | .int i => ret (.int (-i))
  | _ => bad
/-! ### places -/
abbrev ixOf := L2.ixN
def itemD : D → D → Option D
  | .tup xs, .int i => (ixOf xs.length i).bind fun j => xs[j]?
  | .lst _ xs, .int i => (ixOf xs.length i).bind fun j => xs[j]?
  | .scr ns, .int i => (ixOf ns.length i).bind fun j => (ns[j]?).map D.int
  | .dic o ks vs, k => (getK (.dic o ks vs) k).bind id
  | _, _ => none
def idx (g : Bool) (a i : Sm D) : Sm D := bnd a fun x => bnd i fun y => grd (g || frz x) (bnd (lift (itemD x y)) fun d => grd (frz d) (ret d))
def idxV (i : Nat) (b : Sm D) : Sm D := bnd (vP i) fun _ => bnd b fun y => bnd (vP i) fun x => bnd (lift (itemD x y)) fun d => grd (frz d) (ret d)
def idxH (a b : Sm D) : Sm D := bnd a fun x => bnd b fun y => bnd (lift (itemD x y)) fun d => grd (frz d) (ret d)
def cutD (xs : List D) (lo hi : Option Int) : List D := (xs.drop (HT.sIx xs.length 0 lo)).take (HT.sIx xs.length xs.length hi - HT.sIx xs.length 0 lo)
def sliceD : D → Option Int → Option Int → Option D
  | .tup xs, lo, hi => some (.tup (cutD xs lo hi))
  | .lst _ xs, lo, hi => if frzL xs = true then some (.lst true (cutD xs lo hi)) else none
  | _, _, _ => none
def asI (a : Sm D) : Sm Int := bnd a fun x => match x with
  | .int i => ret i
  | _ => bad
def optI : Option (Sm D) → Sm (Option Int)
  | none => ret none
  | some a => bnd (asI a) fun i => ret (some i)
def slc (g : Bool) (a : Sm D) (lo hi : Option (Sm D)) : Sm D := bnd a fun x => bnd (optI lo) fun l => bnd (optI hi) fun h => grd (g || frz x) (lift (sliceD x l h))
def revD : D → Option D
  | .tup xs => some (.tup xs.reverse)
  | .lst _ xs => if frzL xs = true then some (.lst true xs.reverse) else none
  | _ => none
def rev (a : Sm D) : Sm D := bnd a fun x => lift (revD x)
/-! ### displays -/
def sq : List (Sm D) → Sm (List D)
  | [] => ret []
  | c :: cs => bnd c fun x => bnd (sq cs) fun xs => ret (x :: xs)
def tupE (cs : List (Sm D)) : Sm D := bnd (sq cs) fun xs => if frzL xs = true then ret (.tup xs) else ret (.tup (fzL xs))
def lstE (cs : List (Sm D)) : Sm D := bnd (sq cs) fun xs => ret (.lst true xs)
/-- in hand, from now on nobody changes it -/
def frE (c : Sm D) : Sm D := bnd c fun x => ret (fz x)
/-! ### calls -/
/-- arguments: a name, looked up when the call begins, or a value -/
def argv : List (Nat ⊕ Sm D) → Sm (List (Nat ⊕ D))
  | [] => ret []
  | .inl i :: r => bnd (vP i) fun _ => bnd (argv r) fun xs => ret (.inl i :: xs)
  | .inr c :: r => bnd c fun x => bnd (argv r) fun xs => ret (.inr x :: xs)
def argd (s : S) : List (Nat ⊕ D) → Option (List D)
  | [] => some []
  | .inl i :: r => (s[i]?).bind fun o => o.bind fun d => (argd s r).map (d :: ·)
  | .inr d :: r => (argd s r).map (d :: ·)
/-- the names whose own things are handed over -/
def lent (s : S) : List (Nat ⊕ D) → List Nat
  | [] => []
  | .inl i :: r => (match s[i]? with
    | some (some d) => if frz d = true then lent s r else i :: lent s r
    | _ => lent s r)
  | .inr _ :: r => lent s r
/-- what comes back at those names -/
def back (s : S) : List (Nat ⊕ D) → S → S
  | .inl i :: r, f :: fs => (match s[i]? with
    | some (some d) => if frz d = true then back s r fs else (back s r fs).set i f
    | _ => back s r fs)
  | .inr _ :: r, _ :: fs => back s r fs
  | _, _ => s
def nodupN : List Nat → Bool
  | [] => true
  | i :: r => !r.contains i && nodupN r
def call (f : Str) (as : List (Nat ⊕ Sm D)) : Sm D := bnd (argv as) fun xs => fun e s => match argd s xs with
  | none => .bad
  | some ds => if nodupN (lent s xs) = true then (match e.call f ds with
      | .ok d fin => .ok d (back s xs fin)
      | .exc x fin => .exc x (back s xs fin)
      | .bad => .bad) else .bad
/-! ### built-in functions -/
def lenD : D → Option D
  | .tup xs => some (.int xs.length)
  | .lst _ xs => some (.int xs.length)
  | .scr ns => some (.int ns.length)
  | .dic _ ks _ => some (.int ks.length)
  | _ => none
def allB : List D → Option (List Bool)
  | [] => some []
  | .bl b :: r => (allB r).map (b :: ·)
  | _ => none
def intL : List D → Option (List Int)
  | [] => some []
  | .int i :: r => (intL r).map (i :: ·)
  | _ => none
def seqOf : D → Option (List D)
  | .tup xs => some xs
  | .lst _ xs => some xs
  | _ => none
inductive Bi where
  | len | tuple | list | all | any | int | str | min | max | sum | abs
  deriving DecidableEq
def bi1 : Bi → D → Option D
  | .len, d => lenD d
  | .tuple, d => (match d with
    | .tup xs => some (.tup xs)
    | .lst _ xs => if frzL xs = true then some (.tup xs) else none
    | _ => none)
  | .list, d => (match d with
    | .tup xs => some (.lst true xs)
    | .lst _ xs => if frzL xs = true then some (.lst true xs) else none
    | _ => none)
  | .all, .lst _ xs => (allB xs).map fun bs => .bl (bs.all id)
  | .any, .lst _ xs => (allB xs).map fun bs => .bl (bs.any id)
  | .int, .int i => some (.int i)
  | .int, .bl b => some (.int (if b = true then 1 else 0))
  | .str, .int i => if i.natAbs.log2 < 1920 then some (.str (toString i)) else none
  | .abs, .int i => some (.int (if i < 0 then -i else i))
  | .sum, .lst _ xs => (intL xs).map fun ns => .int ns.sum
  | _, _ => none
def bi2 : Bi → D → D → Option D
  | .min, .int i, .int j => some (.int (if j < i then j else i))
  | .max, .int i, .int j => some (.int (if j > i then j else i))
  | _, _, _ => none
def blt1 (f : Bi) (a : Sm D) : Sm D := bnd a fun x => lift (bi1 f x)
def blt2 (f : Bi) (g : Bool) (a b : Sm D) : Sm D := bnd a fun x => bnd b fun y => grd (g || frz x) (lift (bi2 f x y))
inductive Ty where
  | int | bool | str | tuple | list
  deriving DecidableEq
def isTy : Ty → D → Bool
  | .int, .int _ => true | .int, .bl _ => true
  | .bool, .bl _ => true
  | .str, .str _ => true
  | .tuple, .tup _ => true
  | .list, .lst _ _ => true | .list, .scr _ => true
  | _, _ => false
def isiD (t : Ty) : D → Option D
  | .dic _ _ _ => none
  | x => some (.bl (isTy t x))
def isi (t : Ty) (a : Sm D) : Sm D := bnd a fun x => lift (isiD t x)
/-- x.upper() -/
def upperD : D → Option D
  | .str x => if x.length ≤ 5592405 then some (.str (Txt.upper x)) else none
  | _ => none
def upper (a : Sm D) : Sm D := bnd a fun x => lift (upperD x)
/-! ### walks -/
/-- what a for walks, given the thing walked: rows of values -/
inductive Tg where
  | nm (i : Nat) | tp (ts : List Tg)
mutual
def setT : Tg → D → Sm Unit
  | .nm i, d => setv i d
  | .tp ts, d => (match d with
    | .tup ds => if ds.length = ts.length then setTs ts ds else bad
    | _ => bad)
def setTs : List Tg → List D → Sm Unit
  | [], _ => ret ()
  | t :: ts, ds => (match ds with
    | d :: ds => bnd (setT t d) fun _ => setTs ts ds
    | [] => bad)
end
/-- how the thing is walked: a list, a tuple or a text; ints from lo below hi -/
def rng (lo hi : Int) : List D := (List.range (hi - lo).toNat).map fun k => .int (lo + (k : Nat))
def rngOk (i : Int) : Bool := decide (-(2 ^ 62) ≤ i) && decide (i < 2 ^ 62)
def rows (x : D) : Option (List D) := match x with
  | .tup xs => some xs
  | .lst _ xs => if frzL xs = true then some xs else none
  | _ => none
/-- the things walked; and the name (with what it held) that must hold the same at each turn -/
abbrev Wk := List D × Option (Nat × D)
/-- with the places ahead -/
def enumD : Nat → List D → List D
  | _, [] => []
  | i, x :: xs => .tup [.int i, x] :: enumD (i + 1) xs
def zipD : List D → List D → List D
  | x :: xs, y :: ys => .tup [x, y] :: zipD xs ys
  | _, _ => []
def noW : Option (Nat × D) → Bool
  | none => true
  | some _ => false
/-- a thing that is walked: is it a tuple -/
abbrev Sc := Bool × Wk
def isT : D → Bool
  | .tup _ => true
  | _ => false
def itV (i : Nat) : Sm Sc := bnd (vP i) fun x => bnd (lift (rows x)) fun xs => ret (isT x, (xs, if frz x = true then none else some (i, x)))
def itE (a : Sm D) : Sm Sc := bnd a fun x => bnd (lift (rows x)) fun xs => ret (isT x, (xs, none))
def itS (m : Sm Sc) : Sm Wk := bnd m fun s => ret s.2
def itN (m : Sm Sc) : Sm Wk := bnd m fun s => ret (enumD 0 s.2.1, s.2.2)
def itZ (m n : Sm Sc) : Sm Wk := bnd m fun s => bnd n fun t => grd (noW s.2.2 && (noW t.2.2 && s.1 == t.1)) (ret (zipD s.2.1 t.2.1, none))
def itNZ (m n : Sm Sc) : Sm Wk := bnd m fun s => bnd n fun t => grd (noW s.2.2 && (noW t.2.2 && (s.1 && t.1))) (ret (enumD 0 (zipD s.2.1 t.2.1), none))
def itR1 (a : Sm D) : Sm Wk := bnd (asI a) fun j => grd (rngOk j) (ret (rng 0 j, none))
def itR2 (a b : Sm D) : Sm Wk := bnd (asI a) fun i => bnd (asI b) fun j => grd (rngOk i && rngOk j) (ret (rng i j, none))
mutual
def sameD : D → D → Bool
  | .non, .non => true | .bl a, .bl b => a == b | .int a, .int b => decide (a = b) | .str a, .str b => decide (a = b)
  | .tup a, .tup b => sameL a b
  | .lst o a, .lst p b => o == p && sameL a b
  | .dic o a c, .dic p b d => o == p && (sameL a b && sameL c d)
  | .scr a, .scr b => decide (a = b)
  | _, _ => false
def sameL : List D → List D → Bool
  | [], [] => true
  | a :: as, b :: bs => sameD a b && sameL as bs
  | _, _ => false
end
/-- it still holds it -/
def still (k : Option (Nat × D)) : Sm Unit := fun _ s => match k with
  | none => .ok () s
  | some (i, d) => (match s[i]? with
    | some (some d') => if sameD d d' = true then .ok () s else .bad
    | _ => .bad)
/-- a slot that may not be given another thing meanwhile -/
def withRef {α : Type} (k : Option (Nat × D)) (m : Sm α) : Sm α := match k with
  | none => m
  | some (i, _) => fun e s => m { e with refs := i :: e.refs } s
/-! ### comprehensions -/
def allT : List (Sm Bool) → Sm Bool
  | [] => ret true
  | c :: cs => bnd c fun b => if b = true then allT cs else ret false
def wipeD (is : List Nat) (s : S) : S := is.foldr (fun i s => s.set i none) s
def wipeS (is : List Nat) : Sm Unit := fun _ s => .ok () (wipeD is s)
def lcGo (own : List Nat) (tg : Tg) (ifs : List (Sm Bool)) (elt : Sm D) (k : Option (Nat × D)) : List D → List D → Sm (List D)
  | acc, [] => bnd (wipeS own) fun _ => ret acc
  | acc, x :: xs => grd (frz x) <| bnd (wipeS own) fun _ => bnd (setT tg x) fun _ => bnd (allT ifs) fun b => if b = true
      then bnd elt fun d => bnd (still k) fun _ => grd (szOk (acc.length + 1)) (lcGo own tg ifs elt k (acc ++ [d]) xs)
      else bnd (still k) fun _ => lcGo own tg ifs elt k acc xs
/-- the block's own names put back as they were -/
def putB : List Nat → S → S → S
  | [], _, s => s
  | i :: is, s0, s => (putB is s0 s).set i ((s0[i]?).join)
def ownOk (is : List Nat) (s : S) : Bool := is.all fun i => match s[i]? with
  | some (some d) => frz d
  | _ => true
def inBlk {α : Type} (own : List Nat) (m : Sm α) : Sm α := fun e s => if (ownOk own s && own.all fun i => !e.refs.contains i) = true then (match m e (wipeD own s) with
  | .ok a s' => .ok a (putB own s s')
  | .exc x s' => .exc x (putB own s s')
  | .bad => .bad) else .bad
def lc (own : List Nat) (tg : Tg) (it : Sm Wk) (ifs : List (Sm Bool)) (elt : Sm D) : Sm D := bnd it fun w => withRef w.2 (inBlk own (bnd (lcGo own tg ifs elt w.2 [] w.1) fun ds => ret (.lst true ds)))
/-! ### statements -/
def seqS (a b : Sm Fl) : Sm Fl := bnd a fun f => match f with
  | .nx => b
  | f => ret f
def blk : List (Sm Fl) → Sm Fl
  | [] => ret .nx
  | [c] => c
  | c :: cs => seqS c (blk cs)
def asg (i : Nat) (a : Sm D) : Sm Fl := bnd a fun x => bnd (setv i x) fun _ => ret .nx
/-- from now on nobody changes what a name holds -/
def fzAt (i : Nat) : Sm Unit := fun _ s => match s[i]? with
  | some (some d) => .ok () (s.set i (some (fz d)))
  | _ => .bad
def fzS (i : Nat) (c : Sm Fl) : Sm Fl := bnd c fun f => bnd (fzAt i) fun _ => ret f
def asgT (t : Tg) (a : Sm D) : Sm Fl := bnd a fun x => grd (frz x) (bnd (setT t x) fun _ => ret .nx)
def augI (op : Operator) : D → D → Option D
  | .int a, .int b => (match op with
    | .Add => some (.int (a + b))
    | .Sub => some (.int (a - b))
    | .Mult => if mulOk a b = true then some (.int (a * b)) else none
    | .FloorDiv => if (decide (0 < b) && decide (b < 1073741824)) = true then some (.int (a / b)) else none
    | .Mod => if decide (0 < b) = true then some (.int (a % b)) else none
    | _ => none)
  | _, _ => none
def aug (op : Operator) (i : Nat) (a : Sm D) : Sm Fl := bnd (vP i) fun x => bnd a fun y => grd (frz x) (bnd (lift (augI op x y)) fun z => bnd (setv i z) fun _ => ret .nx)
def expS (a : Sm D) : Sm Fl := bnd a fun _ => ret .nx
def rtS (a : Sm D) : Sm Fl := bnd a fun x => ret (.rt x)
def forGo (tg : Tg) (body : Sm Fl) (k : Option (Nat × D)) : List D → Sm Fl
  | [] => ret .nx
  | x :: xs => grd (frz x) <| bnd (setT tg x) fun _ => bnd body fun f => match f with
    | .nx => bnd (still k) fun _ => forGo tg body k xs
    | .ct => bnd (still k) fun _ => forGo tg body k xs
    | .bk => ret .nx
    | .rt d => ret (.rt d)
def forS (tg : Tg) (it : Sm Wk) (body : Sm Fl) : Sm Fl := bnd it fun w => withRef w.2 (forGo tg body w.2 w.1)
def whileN (c : Sm Bool) (b : Sm Fl) : Nat → Sm Fl
  | 0 => bad
  | n + 1 => bnd c fun t => if t = true then bnd b fun f => match f with
      | .nx => whileN c b n
      | .ct => whileN c b n
      | .bk => ret .nx
      | .rt d => ret (.rt d)
    else ret .nx
def isBad {α : Type} : R α → Prop
  | .bad => True
  | _ => False
open Classical in
noncomputable def whileS (c : Sm Bool) (b : Sm Fl) : Sm Fl := fun e s => if h : ∃ n, ¬ isBad (whileN c b n e s) then whileN c b h.choose e s else .bad
/-! ### changes in place: a name, and places within what it holds -/
/-- the value at places within, and what stands there with another one put in -/
def atP : D → List D → Option D
  | d, [] => some d
  | .lst true xs, .int i :: r => ((ixOf xs.length i).bind fun j => xs[j]?).bind fun d => atP d r
  | _, _ => none
def putP : D → List D → D → Option D
  | _, [], n => some n
  | .lst true xs, .int i :: r, n => (ixOf xs.length i).bind fun j => (xs[j]?).bind fun d => (putP d r n).map fun d' => .lst true (xs.set j d')
  | _, _, _ => none
/-- places, the inmost last; each must be there -/
def chkP (i : Nat) (qs : List D) : Sm (List D) := fun _ s => match s[i]? with
  | some (some d) => (match atP d qs with
    | some _ => .ok qs s
    | none => .bad)
  | _ => .bad
def pthR (i : Nat) : List (Sm D) → Sm (List D)
  | [] => chkP i []
  | e :: r => bnd (pthR i r) fun qs => bnd e fun q => chkP i (qs ++ [q])
/-- a list of the frame's own at places -/
def pthL (i : Nat) (ps : List (Sm D)) : Sm (List D) := bnd (pthR i ps) fun qs => fun _ s => match s[i]? with
  | some (some d) => (match atP d qs with
    | some (.lst true _) => .ok qs s
    | _ => .bad)
  | _ => .bad
/-- the thing at a name and places in it turns into another one -/
def updP (i : Nat) (ps : List D) (f : D → Option (D × D)) : Sm D := fun _ s => match s[i]? with
  | some (some d) => (match (atP d ps).bind f with
    | some (n, r) => (match putP d ps n with
      | some d' => .ok r (s.set i (some d'))
      | none => .bad)
    | none => .bad)
  | _ => .bad
/-- o[k] = v of a thing of the frame's own -/
def setAt (k v : D) : D → Option (D × D)
  | .lst true xs => (match k with
    | .int i => (ixOf xs.length i).map fun j => (.lst true (xs.set j v), .non)
    | _ => none)
  | .dic true ks vs => if (homK ks k && szOk (ks.length + 1)) = true then some (.dic true (putK ks vs k v).1 (putK ks vs k v).2, .non) else none
  | _ => none
def asgP (i : Nat) (ps : List (Sm D)) (k : Sm D) (a : Sm D) : Sm Fl := bnd a fun v => bnd (pthR i ps) fun qs => bnd k fun j => grd (frz v) (bnd (updP i qs (setAt j v)) fun _ => ret .nx)
def appD (v : D) : D → Option (D × D)
  | .lst true xs => if szOk (xs.length + 1) = true then some (.lst true (xs ++ [v]), .non) else none
  | _ => none
def extD (v : D) : D → Option (D × D)
  | .lst true xs => (match v with
    | .lst _ ys => if (szOk (xs.length + ys.length) && frzL ys) = true then some (.lst true (xs ++ ys), .non) else none
    | _ => none)
  | _ => none
def popD : D → Option (D × D)
  | .lst true xs => (match xs[xs.length - 1]? with
    | some d => some (.lst true xs.dropLast, d)
    | none => none)
  | _ => none
def append (i : Nat) (ps : List (Sm D)) (a : Sm D) : Sm D := bnd (pthL i ps) fun qs => bnd a fun v => updP i qs (appD v)
def extend (i : Nat) (ps : List (Sm D)) (a : Sm D) : Sm D := bnd (pthL i ps) fun qs => bnd a fun v => updP i qs (extD v)
def pop (i : Nat) (ps : List (Sm D)) : Sm D := bnd (pthL i ps) fun qs => updP i qs popD
/-! ### defs -/
structure Fn where
  ps : Nat
  ns : Nat
  body : Sm Fl
def lentA : Nat → List D → List Nat
  | _, [] => []
  | i, d :: ds => if frz d = true then lentA (i + 1) ds else i :: lentA (i + 1) ds
def outs (s : S) : Nat → List D → List (Option D)
  | _, [] => []
  | i, d :: ds => (if frz d = true then some d else (s[i]?).join) :: outs s (i + 1) ds
def runF (e : Str → List D → R D) (f : Fn) (ds : List D) : R D :=
  if ds.length = f.ps then (match f.body ⟨e, lentA 0 ds⟩ (ds.map some ++ List.replicate (f.ns - f.ps) none) with
    | .ok .nx s => .ok .non (outs s 0 ds)
    | .ok (.rt d) s => .ok d (outs s 0 ds)
    | .exc x s => .exc x (outs s 0 ds)
    | _ => .bad) else .bad
def run (Φ : Str → Option Fn) : Nat → Str → List D → R D
  | 0, _, _ => .bad
  | k + 1, f, ds => match Φ f with
    | some F => runF (run Φ k) F ds
    | none => .bad
end Tw

set_option Elab.async false
set_option linter.all false
set_option maxRecDepth 100000
/-! Tw.EvB: how a heap bears trees. -/
namespace Tw
open PySem PySem.Spec PyProof.Rows L2

abbrev Ct := Addr → Nat
def z0 : Ct := fun _ => 0

/-- a list of the module's own -/
def KL (K : PySem.W.Frag) (a : Addr) (xs : List V) : Prop :=
  ∃ (o : Obj) (its : Array Value) (n : Nat), K.lookup a = some o ∧ o.cls = .type "list" ∧ o.dict = none ∧ o.data = .seq its n ∧ its.size ≤ sizeLine ∧ Vals xs its.toList
/-- a list that nobody changes -/
def FzL (H : Hp) (O : Addr → Prop) (a : Addr) (xs : List V) : Prop := H a = some (.lst xs) ∧ ¬ O a

/-! ### dicts -/
mutual
theorem hash_any : ∀ {d : D} {k : NestedKey}, nk d = some k → ∀ w w' : World, k.hash w = k.hash w'
  | .non, k, h, w, w' => by unfold nk at h; cases h; rfl
  | .bl _, k, h, w, w' => by unfold nk at h; cases h; rfl
  | .int _, k, h, w, w' => by unfold nk at h; cases h; rfl
  | .tup xs, k, h, w, w' => by
    unfold nk at h
    obtain ⟨ks, e, rfl⟩ := Option.map_eq_some_iff.mp h
    unfold NestedKey.hash
    rw [hashes_any e w w']
  | .str _, k, h, _, _ => by unfold nk at h; cases h
  | .lst _ _, k, h, _, _ => by unfold nk at h; cases h
  | .dic _ _ _, k, h, _, _ => by unfold nk at h; cases h
  | .scr _, k, h, _, _ => by unfold nk at h; cases h
theorem hashes_any : ∀ {ds : List D} {ks : List NestedKey}, nkL ds = some ks → ∀ w w' : World, NestedKey.hashes w ks = NestedKey.hashes w' ks
  | [], ks, h, w, w' => by unfold nkL at h; cases h; rfl
  | d :: ds, ks, h, w, w' => by
    unfold nkL at h
    obtain ⟨k, e1, h⟩ := Option.bind_eq_some_iff.mp h
    obtain ⟨ks', e2, rfl⟩ := Option.map_eq_some_iff.mp h
    unfold NestedKey.hashes
    rw [hash_any e1 w w', hashes_any e2 w w']
end
/-- a key, as it stands, its value -/
abbrev Row := NestedKey × V × V
def EntIs (w : World) (r : Row) (e : DictEntry) : Prop := e.hash = r.1.hash w ∧ RelV r.2.1 e.key ∧ RelV r.2.2 e.val
def DicP (a : Addr) (rows : List Row) (h : Heap) : Prop :=
  (a == sysModules) = false ∧ rows.length ≤ sizeLine ∧ (rows.map (·.1)).Nodup ∧ ∃ (o : Obj) (es : Array DictEntry) (ep : Nat) (w : World), h.get? a = some o ∧ o.ExactDict ∧ o.data = .dict es ep ∧ Paired (EntIs w) rows es.toList
def DicO (a : Addr) (rows : List Row) : HO := .ext (DicP a rows)
/-- a dict that nobody changes (a walk may hold it) -/
def FzD (H : Hp) (O : Addr → Prop) (a : Addr) (rows : List Row) : Prop := (H a = some (DicO a rows) ∨ ∃ o, H a = some (.frz o (DicO a rows))) ∧ ¬ O a

section
variable (K : PySem.W.Frag) (H : Hp) (O : Addr → Prop)
mutual
def Rep : D → V → Ct → Prop
  | .non, v, F => v = .non ∧ ∀ a, F a = 0
  | .bl b, v, F => v = .bl b ∧ ∀ a, F a = 0
  | .int i, v, F => v = .int i ∧ ∀ a, F a = 0
  | .str x, v, F => v = .str x ∧ ∀ a, F a = 0
  | .tup ds, v, F => ∃ p vs, v = .ref p ∧ SqT K H p vs ∧ RepL ds vs F ∧ ∀ a, F a = 0
  | .lst false ds, v, F => ∃ p vs, v = .ref p ∧ FzL H O p vs ∧ RepL ds vs F ∧ ∀ a, F a = 0
  | .lst true ds, v, F => ∃ p vs G, v = .ref p ∧ H p = some (.lst vs) ∧ RepL ds vs G ∧ ∀ a, F a = G a + (if a = p then 1 else 0)
  | .dic false ks vs, v, F => ∃ p rows, v = .ref p ∧ FzD H O p rows ∧ nkL ks = some (rows.map (·.1)) ∧ RepL ks (rows.map (·.2.1)) z0 ∧ RepL vs (rows.map (·.2.2)) F ∧ ∀ a, F a = 0
  | .dic true ks vs, v, F => ∃ p rows G, v = .ref p ∧ H p = some (DicO p rows) ∧ nkL ks = some (rows.map (·.1)) ∧ RepL ks (rows.map (·.2.1)) z0 ∧ RepL vs (rows.map (·.2.2)) G ∧ ∀ a, F a = G a + (if a = p then 1 else 0)
  | .scr ns, v, F => ∃ p, v = .ref p ∧ ((∃ o, H p = some (.frz o (.lst (ns.map V.int)))) ∨ KL K p (ns.map V.int)) ∧ ∀ a, F a = 0
def RepL : List D → List V → Ct → Prop
  | [], vs, F => vs = [] ∧ ∀ a, F a = 0
  | d :: ds, vs, F => ∃ v vs' G1 G2, vs = v :: vs' ∧ Rep d v G1 ∧ RepL ds vs' G2 ∧ ∀ a, F a = G1 a + G2 a
end
end

/-- what was there is there still, as far as one leans on it -/
structure Tr (H : Hp) (O : Addr → Prop) (H' : Hp) (O' : Addr → Prop) : Prop where
  tup : ∀ a xs, H a = some (.tup xs) → H' a = some (.tup xs)
  frz : ∀ a o u, H a = some (.frz o u) → H' a = some (.frz o u)
  lst : ∀ a o, ¬ O a → H a = some o → H' a = some o ∧ ¬ O' a

section
variable {K : PySem.W.Frag} {H H' : Hp} {O O' : Addr → Prop}
theorem Tr.sqT (t : Tr H O H' O') {a : Addr} {xs : List V} (h : SqT K H a xs) : SqT K H' a xs := by
  rcases h with h | h
  · rcases h with h | ⟨o, h⟩
    · exact .inl (.inl (t.tup _ _ h))
    · exact .inl (.inr ⟨o, t.frz _ _ _ h⟩)
  · exact .inr h
theorem Tr.fzD (t : Tr H O H' O') {a : Addr} {rows : List Row} (h : FzD H O a rows) : FzD H' O' a rows := by
  obtain ⟨h | ⟨o, h⟩, n⟩ := h
  · exact ⟨.inl (t.lst _ _ n h).1, (t.lst _ _ n h).2⟩
  · exact ⟨.inr ⟨o, (t.lst _ _ n h).1⟩, (t.lst _ _ n h).2⟩
theorem Tr.fzL (t : Tr H O H' O') {a : Addr} {xs : List V} (h : FzL H O a xs) : FzL H' O' a xs := by
  exact t.lst _ _ h.2 h.1
mutual
theorem Rep.tr (t : Tr H O H' O') : ∀ (d : D) (v : V) (F : Ct), Rep K H O d v F → (∀ a o, 1 ≤ F a → H a = some o → H' a = some o) → Rep K H' O' d v F
  | .non, _, _, h, _ => h
  | .bl _, _, _, h, _ => h
  | .int _, _, _, h, _ => h
  | .str _, _, _, h, _ => h
  | .tup ds, v, F, h, k => by
    obtain ⟨p, vs, e, h1, h2, z⟩ := h
    exact ⟨p, vs, e, t.sqT h1, RepL.tr t ds vs F h2 k, z⟩
  | .lst false ds, v, F, h, k => by
    obtain ⟨p, vs, e, h1, h2, z⟩ := h
    exact ⟨p, vs, e, t.fzL h1, RepL.tr t ds vs F h2 k, z⟩
  | .lst true ds, v, F, h, k => by
    obtain ⟨p, vs, G, e, h1, h2, z⟩ := h
    refine ⟨p, vs, G, e, k p _ (by rw [z p, if_pos rfl]; omega) h1, RepL.tr t ds vs G h2 fun a xs ha => k a xs (by rw [z a]; omega), z⟩
  | .dic false ks vs, v, F, h, k => by
    obtain ⟨p, rows, e, h1, hk, h2, h3, z⟩ := h
    exact ⟨p, rows, e, t.fzD h1, hk, RepL.tr t ks _ z0 h2 (fun a o ha _ => absurd ha (by show ¬ 1 ≤ 0; omega)), RepL.tr t vs _ F h3 k, z⟩
  | .dic true ks vs, v, F, h, k => by
    obtain ⟨p, rows, G, e, h1, hk, h2, h3, z⟩ := h
    exact ⟨p, rows, G, e, k p _ (by rw [z p, if_pos rfl]; omega) h1, hk, RepL.tr t ks _ z0 h2 (fun a o ha _ => absurd ha (by show ¬ 1 ≤ 0; omega)), RepL.tr t vs _ G h3 fun a xs ha => k a xs (by rw [z a]; omega), z⟩
  | .scr ns, v, F, h, _ => by
    obtain ⟨p, e, h1, z⟩ := h
    exact ⟨p, e, h1.imp (fun ⟨o, q⟩ => ⟨o, t.frz _ _ _ q⟩) id, z⟩
theorem RepL.tr (t : Tr H O H' O') : ∀ (ds : List D) (vs : List V) (F : Ct), RepL K H O ds vs F → (∀ a o, 1 ≤ F a → H a = some o → H' a = some o) → RepL K H' O' ds vs F
  | [], _, _, h, _ => h
  | d :: ds, vs, F, h, k => by
    obtain ⟨v, vs', G1, G2, e, h1, h2, z⟩ := h
    exact ⟨v, vs', G1, G2, e, Rep.tr t d v G1 h1 fun a xs ha => k a xs (by rw [z a]; omega), RepL.tr t ds vs' G2 h2 fun a xs ha => k a xs (by rw [z a]; omega), z⟩
end
/-- the counts, by another name -/
theorem Rep.ct {d : D} {v : V} {F F' : Ct} (h : Rep K H O d v F) (e : ∀ a, F' a = F a) : Rep K H O d v F' := by
  have : F' = F := funext e
  rw [this]; exact h
theorem RepL.ct {d : List D} {v : List V} {F F' : Ct} (h : RepL K H O d v F) (e : ∀ a, F' a = F a) : RepL K H O d v F' := by
  have : F' = F := funext e
  rw [this]; exact h
mutual
theorem Rep.frz0 : ∀ (d : D) (v : V) (F : Ct), Rep K H O d v F → frz d = true → ∀ a, F a = 0
  | .non, _, _, h, _ => h.2
  | .bl _, _, _, h, _ => h.2
  | .int _, _, _, h, _ => h.2
  | .str _, _, _, h, _ => h.2
  | .tup ds, v, F, h, _ => by
    obtain ⟨p, vs, e, h1, h2, z⟩ := h
    exact z
  | .lst false ds, v, F, h, _ => by
    obtain ⟨p, vs, e, h1, h2, z⟩ := h
    exact z
  | .lst true ds, v, F, h, k => by
    unfold frz at k
    simp at k
  | .dic false ks vs, v, F, h, _ => by
    obtain ⟨p, rows, e, h1, hk, h2, h3, z⟩ := h
    exact z
  | .dic true ks vs, v, F, h, k => by
    unfold frz at k
    simp at k
  | .scr ns, v, F, h, _ => by
    obtain ⟨p, e, h1, z⟩ := h
    exact z
theorem RepL.frz0 : ∀ (ds : List D) (vs : List V) (F : Ct), RepL K H O ds vs F → frzL ds = true → ∀ a, F a = 0
  | [], _, _, h, _ => h.2
  | d :: ds, vs, F, h, k => by
    obtain ⟨v, vs', G1, G2, e, h1, h2, z⟩ := h
    unfold frzL at k
    rw [Bool.and_eq_true] at k
    intro a
    rw [z a, Rep.frz0 d v G1 h1 k.1 a, RepL.frz0 ds vs' G2 h2 k.2 a]
end
mutual
theorem Rep.of0 : ∀ (d : D) (v : V) (F : Ct), Rep K H O d v F → (∀ a, F a = 0) → frz d = true
  | .non, _, _, h, _ => rfl
  | .bl _, _, _, h, _ => rfl
  | .int _, _, _, h, _ => rfl
  | .str _, _, _, h, _ => rfl
  | .tup ds, v, F, h, _ => by
    obtain ⟨p, vs, e, h1, h2, z⟩ := h
    unfold frz
    exact RepL.of0 ds vs F h2 z
  | .lst false ds, v, F, h, _ => by
    obtain ⟨p, vs, e, h1, h2, z⟩ := h
    unfold frz
    rw [RepL.of0 ds vs F h2 z]; rfl
  | .lst true ds, v, F, h, k => by
    obtain ⟨p, vs, G, e, h1, h2, z⟩ := h
    have := k p
    rw [z p, if_pos rfl] at this
    omega
  | .dic false ks vs, v, F, h, _ => by
    obtain ⟨p, rows, e, h1, hk, h2, h3, z⟩ := h
    unfold frz
    rw [RepL.of0 ks _ z0 h2 fun _ => rfl, RepL.of0 vs _ F h3 z]; rfl
  | .dic true ks vs, v, F, h, k => by
    obtain ⟨p, rows, G, e, h1, hk, h2, h3, z⟩ := h
    have := k p
    rw [z p, if_pos rfl] at this
    omega
  | .scr ns, v, F, h, _ => rfl
theorem RepL.of0 : ∀ (ds : List D) (vs : List V) (F : Ct), RepL K H O ds vs F → (∀ a, F a = 0) → frzL ds = true
  | [], _, _, h, _ => rfl
  | d :: ds, vs, F, h, k => by
    obtain ⟨v, vs', G1, G2, e, h1, h2, z⟩ := h
    have k1 : ∀ a, G1 a = 0 := fun a => by have := k a; rw [z a] at this; omega
    have k2 : ∀ a, G2 a = 0 := fun a => by have := k a; rw [z a] at this; omega
    unfold frzL
    rw [Rep.of0 d v G1 h1 k1, RepL.of0 ds vs' G2 h2 k2]; rfl
end
/-- a thing that a frame may own -/
def Ownd (o : HO) : Prop := (∃ xs, o = .lst xs) ∨ ∃ φ, o = .ext φ
mutual
theorem nk_fz : ∀ d : D, nk (fz d) = nk d
  | .non => rfl
  | .bl _ => rfl
  | .int _ => rfl
  | .str _ => rfl
  | .tup xs => by
    unfold Tw.fz nk
    rw [nkL_fz xs]
  | .lst _ _ => by unfold Tw.fz nk; rfl
  | .dic _ _ _ => by unfold Tw.fz nk; rfl
  | .scr _ => rfl
theorem nkL_fz : ∀ ds : List D, nkL (fzL ds) = nkL ds
  | [] => by unfold Tw.fzL; rfl
  | d :: ds => by
    unfold Tw.fzL nkL
    rw [nk_fz d, nkL_fz ds]
end
mutual
/-- from now on nobody changes it: the frame owns the less -/
theorem Rep.fz (t : Tr H O H O') : ∀ (d : D) (v : V) (F : Ct), Rep K H O d v F → (∀ a, 1 ≤ F a → ¬ O' a) → Rep K H O' (fz d) v z0
  | .non, _, _, h, _ => ⟨h.1, fun _ => rfl⟩
  | .bl _, _, _, h, _ => ⟨h.1, fun _ => rfl⟩
  | .int _, _, _, h, _ => ⟨h.1, fun _ => rfl⟩
  | .str _, _, _, h, _ => ⟨h.1, fun _ => rfl⟩
  | .tup ds, v, F, h, k => by
    obtain ⟨p, vs, e, h1, h2, z⟩ := h
    unfold Tw.fz
    exact ⟨p, vs, e, t.sqT h1, RepL.fz t ds vs F h2 k, fun _ => rfl⟩
  | .lst false ds, v, F, h, k => by
    obtain ⟨p, vs, e, h1, h2, z⟩ := h
    unfold Tw.fz
    exact ⟨p, vs, e, t.fzL h1, RepL.fz t ds vs F h2 k, fun _ => rfl⟩
  | .lst true ds, v, F, h, k => by
    obtain ⟨p, vs, G, e, h1, h2, z⟩ := h
    unfold Tw.fz
    refine ⟨p, vs, e, ⟨h1, k p (by rw [z p, if_pos rfl]; omega)⟩, RepL.fz t ds vs G h2 fun a ha => k a (by rw [z a]; omega), fun _ => rfl⟩
  | .dic false ks vs, v, F, h, k => by
    obtain ⟨p, rows, e, h1, hk, h2, h3, z⟩ := h
    unfold Tw.fz
    exact ⟨p, rows, e, t.fzD h1, (nkL_fz ks).trans hk, RepL.fz t ks _ z0 h2 (fun a ha => absurd ha (by show ¬ 1 ≤ 0; omega)), RepL.fz t vs _ F h3 k, fun _ => rfl⟩
  | .dic true ks vs, v, F, h, k => by
    obtain ⟨p, rows, G, e, h1, hk, h2, h3, z⟩ := h
    unfold Tw.fz
    exact ⟨p, rows, e, ⟨.inl h1, k p (by rw [z p, if_pos rfl]; omega)⟩, (nkL_fz ks).trans hk, RepL.fz t ks _ z0 h2 (fun a ha => absurd ha (by show ¬ 1 ≤ 0; omega)), RepL.fz t vs _ G h3 (fun a ha => k a (by rw [z a]; omega)), fun _ => rfl⟩
  | .scr ns, v, F, h, _ => by
    obtain ⟨p, e, h1, z⟩ := h
    unfold Tw.fz
    exact ⟨p, e, h1.imp (fun ⟨o, q⟩ => ⟨o, t.frz _ _ _ q⟩) id, fun _ => rfl⟩
theorem RepL.fz (t : Tr H O H O') : ∀ (ds : List D) (vs : List V) (F : Ct), RepL K H O ds vs F → (∀ a, 1 ≤ F a → ¬ O' a) → RepL K H O' (fzL ds) vs z0
  | [], _, _, h, _ => ⟨h.1, fun _ => rfl⟩
  | d :: ds, vs, F, h, k => by
    obtain ⟨v, vs', G1, G2, e, h1, h2, z⟩ := h
    unfold Tw.fzL
    exact ⟨v, vs', z0, z0, e, Rep.fz t d v G1 h1 fun a ha => k a (by rw [z a]; omega), RepL.fz t ds vs' G2 h2 fun a ha => k a (by rw [z a]; omega), fun _ => rfl⟩
end
mutual
theorem Rep.there : ∀ (d : D) (v : V) (F : Ct), Rep K H O d v F → ∀ a, 1 ≤ F a → ∃ o, H a = some o ∧ Ownd o
  | .non, _, _, h, a, k => absurd k (by rw [h.2 a]; omega)
  | .bl _, _, _, h, a, k => absurd k (by rw [h.2 a]; omega)
  | .int _, _, _, h, a, k => absurd k (by rw [h.2 a]; omega)
  | .str _, _, _, h, a, k => absurd k (by rw [h.2 a]; omega)
  | .tup ds, v, F, h, a, k => by
    obtain ⟨p, vs, e, h1, h2, z⟩ := h
    exact absurd k (by rw [z a]; omega)
  | .lst false ds, v, F, h, a, k => by
    obtain ⟨p, vs, e, h1, h2, z⟩ := h
    exact absurd k (by rw [z a]; omega)
  | .lst true ds, v, F, h, a, k => by
    obtain ⟨p, vs, G, e, h1, h2, z⟩ := h
    by_cases q : a = p
    · subst q; exact ⟨_, h1, .inl ⟨vs, rfl⟩⟩
    · rw [z a, if_neg q] at k
      exact RepL.there ds vs G h2 a (by omega)
  | .dic false ks vs, v, F, h, a, k => by
    obtain ⟨p, rows, e, h1, hk, h2, h3, z⟩ := h
    exact absurd k (by rw [z a]; omega)
  | .dic true ks vs, v, F, h, a, k => by
    obtain ⟨p, rows, G, e, h1, hk, h2, h3, z⟩ := h
    by_cases q : a = p
    · subst q; exact ⟨_, h1, .inr ⟨_, rfl⟩⟩
    · rw [z a, if_neg q] at k
      exact RepL.there vs _ G h3 a (by omega)
  | .scr ns, v, F, h, a, k => by
    obtain ⟨p, e, h1, z⟩ := h
    exact absurd k (by rw [z a]; omega)
theorem RepL.there : ∀ (ds : List D) (vs : List V) (F : Ct), RepL K H O ds vs F → ∀ a, 1 ≤ F a → ∃ o, H a = some o ∧ Ownd o
  | [], _, _, h, a, k => absurd k (by rw [h.2 a]; omega)
  | d :: ds, vs, F, h, a, k => by
    obtain ⟨v, vs', G1, G2, e, h1, h2, z⟩ := h
    rw [z a] at k
    by_cases q : 1 ≤ G1 a
    · exact Rep.there d v G1 h1 a q
    · exact RepL.there ds vs' G2 h2 a (by omega)
end
theorem RepL.length : ∀ {ds : List D} {vs : List V} {F : Ct}, RepL K H O ds vs F → vs.length = ds.length
  | [], _, _, h => by rw [h.1]; rfl
  | d :: ds, vs, F, h => by
    obtain ⟨v, vs', G1, G2, e, h1, h2, z⟩ := h
    rw [e, List.length_cons, List.length_cons, RepL.length h2]
/-- the i-th -/
theorem RepL.get : ∀ {ds : List D} {vs : List V} {F : Ct} {i : Nat} {d : D}, RepL K H O ds vs F → ds[i]? = some d → ∃ v G, vs[i]? = some v ∧ Rep K H O d v G ∧ ∀ a, G a ≤ F a
  | [], _, _, _, _, _, e => by simp at e
  | d :: ds, vs, F, 0, d', h, e => by
    obtain ⟨v, vs', G1, G2, e1, h1, h2, z⟩ := h
    simp at e
    subst e e1
    exact ⟨v, G1, rfl, h1, fun a => by rw [z a]; omega⟩
  | d :: ds, vs, F, i + 1, d', h, e => by
    obtain ⟨v, vs', G1, G2, e1, h1, h2, z⟩ := h
    simp at e
    subst e1
    obtain ⟨v', G, a1, a2, a3⟩ := RepL.get h2 e
    exact ⟨v', G, by simpa using a1, a2, fun a => by rw [z a]; have := a3 a; omega⟩
theorem RepL.append : ∀ {ds es : List D} {vs us : List V} {F G : Ct}, RepL K H O ds vs F → RepL K H O es us G → RepL K H O (ds ++ es) (vs ++ us) fun a => F a + G a
  | [], es, vs, us, F, G, h, g => by
    rw [h.1]
    exact RepL.ct g fun a => by rw [h.2 a]; omega
  | d :: ds, es, vs, us, F, G, h, g => by
    obtain ⟨v, vs', G1, G2, e, h1, h2, z⟩ := h
    subst e
    exact ⟨v, vs' ++ us, G1, fun a => G2 a + G a, rfl, h1, RepL.append h2 g, fun a => by show F a + G a = G1 a + (G2 a + G a); rw [z a]; omega⟩
theorem RepL.take : ∀ {ds : List D} {vs : List V} {F : Ct} (n : Nat), RepL K H O ds vs F → (∀ a, F a = 0) → RepL K H O (ds.take n) (vs.take n) F
  | _, _, _, 0, _, z => ⟨rfl, z⟩
  | [], _, _, _ + 1, h, z => by rw [h.1]; exact ⟨rfl, z⟩
  | d :: ds, vs, F, n + 1, h, z => by
    obtain ⟨v, vs', G1, G2, e, h1, h2, zz⟩ := h
    subst e
    exact ⟨v, vs'.take n, G1, G2, rfl, h1, RepL.take n h2 fun a => by have := z a; rw [zz a] at this; omega, zz⟩
theorem RepL.drop : ∀ {ds : List D} {vs : List V} {F : Ct} (n : Nat), RepL K H O ds vs F → (∀ a, F a = 0) → RepL K H O (ds.drop n) (vs.drop n) F
  | _, _, _, 0, h, z => h
  | [], _, _, _ + 1, h, z => by rw [h.1]; exact ⟨rfl, z⟩
  | d :: ds, vs, F, n + 1, h, z => by
    obtain ⟨v, vs', G1, G2, e, h1, h2, zz⟩ := h
    subst e
    have z2 : ∀ a, G2 a = 0 := fun a => by have := z a; rw [zz a] at this; omega
    exact RepL.ct (RepL.drop n h2 z2) fun a => by rw [z a, z2 a]
end
end Tw

set_option Elab.async false
set_option linter.all false
set_option maxRecDepth 100000
/-! Tw.EvC: a frame's state. -/
namespace Tw
open PySem PySem.Spec PyProof.Rows L2

/-- a frame's entry: the heap, what is lent by the caller (by counts), the slots that are lent, what the callers own beside -/
structure Wd where
  H0 : Hp
  F0 : Ct
  refs : List (Nat × V)
  B : Addr → Prop
def Own (W : Wd) (F : Ct) : Addr → Prop := fun a => 1 ≤ F a ∨ W.B a
section
variable (K : PySem.W.Frag) (H : Hp) (O : Addr → Prop)
/-- the slots -/
def RepS : S → L2.St → Ct → Prop
  | [], [], F => ∀ a, F a = 0
  | none :: ds, _ :: vs, F => RepS ds vs F
  | some d :: ds, some v :: vs, F => ∃ G1 G2, Rep K H O d v G1 ∧ RepS ds vs G2 ∧ ∀ a, F a = G1 a + G2 a
  | _, _, _ => False
/-- what is in hand -/
def RepT : List (D × V) → Ct → Prop
  | [], F => ∀ a, F a = 0
  | p :: r, F => ∃ G1 G2, Rep K H O p.1 p.2 G1 ∧ RepT r G2 ∧ ∀ a, F a = G1 a + G2 a
end
structure Good (K : PySem.W.Frag) (W : Wd) (H : Hp) (σD : S) (σV : L2.St) (T : List (D × V)) (F : Ct) : Prop where
  rep : ∃ Fs Ft, RepS K H (Own W F) σD σV Fs ∧ RepT K H (Own W F) T Ft ∧ ∀ a, F a = Fs a + Ft a
  one : ∀ a, F a ≤ 1
  new : ∀ a, 1 ≤ F a → 1 ≤ W.F0 a ∨ W.H0 a = none
  old : ∀ a o, W.H0 a = some o → W.F0 a = 0 → H a = some o
  bw : ∀ a, W.B a → W.F0 a = 0 ∧ W.H0 a ≠ none
  rf : ∀ p ∈ W.refs, σV[p.1]? = some (some p.2) ∧ ∃ d, σD[p.1]? = some (some d)
/-- what a step that changes nothing leaves -/
structure Ext (H H' : Hp) (F F' : Ct) : Prop where
  keep : ∀ a o, H a = some o → H' a = some o
  own : ∀ a, 1 ≤ F' a → 1 ≤ F a ∨ H a = none
/-- a value that may be looked at -/
def PRep (K : PySem.W.Frag) (W : Wd) (H : Hp) (F : Ct) (d : D) (v : V) : Prop := ∃ G, Rep K H (Own W F) d v G

section
variable {K : PySem.W.Frag} {H H' H2 : Hp} {O O' : Addr → Prop} {F F' F2 : Ct} {W : Wd} {σD : S} {σV : L2.St} {T : List (D × V)} {d : D} {v : V}

theorem Ext.refl : Ext H H F F := ⟨fun _ _ h => h, fun _ h => .inl h⟩
theorem Ext.trans (a : Ext H H' F F') (b : Ext H' H2 F' F2) : Ext H H2 F F2 :=
  ⟨fun x o h => b.keep x o (a.keep x o h), fun x h => by
    rcases b.own x h with q | q
    · exact a.own x q
    · right
      cases e : H x with
      | none => rfl
      | some o => rw [a.keep x o e] at q; cases q⟩
theorem Ext.tr (e : Ext H H' F F') : Tr H (Own W F) H' (Own W F') :=
  ⟨fun a xs h => e.keep _ _ h, fun a o u h => e.keep _ _ h, fun a xs n h => ⟨e.keep _ _ h, fun q => by
    rcases q with q | q
    · rcases e.own a q with z | z
      · exact n (.inl z)
      · rw [h] at z; cases z
    · exact n (.inr q)⟩⟩
theorem PRep.ext (p : PRep K W H F d v) (e : Ext H H' F F') : PRep K W H' F' d v :=
  let ⟨G, g⟩ := p
  ⟨G, Rep.tr e.tr d v G g fun a xs _ h => e.keep _ _ h⟩

theorem RepS.tr (t : Tr H O H' O') : ∀ {ds : S} {vs : L2.St} {F : Ct}, RepS K H O ds vs F → (∀ a o, 1 ≤ F a → H a = some o → H' a = some o) → RepS K H' O' ds vs F
  | [], [], _, h, _ => h
  | none :: ds, v :: vs, F, h, k => by
    unfold RepS at h ⊢
    exact RepS.tr t h k
  | some d :: ds, some v :: vs, F, h, k => by
    obtain ⟨G1, G2, h1, h2, z⟩ := h
    exact ⟨G1, G2, Rep.tr t d v G1 h1 fun a xs ha => k a xs (by rw [z a]; omega), RepS.tr t h2 fun a xs ha => k a xs (by rw [z a]; omega), z⟩
  | [], _ :: _, _, h, _ => by unfold RepS at h; exact h.elim
  | none :: _, [], _, h, _ => by unfold RepS at h; exact h.elim
  | some _ :: _, [], _, h, _ => by unfold RepS at h; exact h.elim
  | some _ :: _, none :: _, _, h, _ => by unfold RepS at h; exact h.elim
theorem RepT.tr (t : Tr H O H' O') : ∀ {ds : List (D × V)} {F : Ct}, RepT K H O ds F → (∀ a o, 1 ≤ F a → H a = some o → H' a = some o) → RepT K H' O' ds F
  | [], _, h, _ => h
  | d :: ds, F, h, k => by
    obtain ⟨G1, G2, h1, h2, z⟩ := h
    exact ⟨G1, G2, Rep.tr t d.1 d.2 G1 h1 fun a xs ha => k a xs (by rw [z a]; omega), RepT.tr t h2 fun a xs ha => k a xs (by rw [z a]; omega), z⟩
theorem RepS.ct {ds : S} {vs : L2.St} {F F' : Ct} (h : RepS K H O ds vs F) (e : ∀ a, F' a = F a) : RepS K H O ds vs F' := by
  have : F' = F := funext e
  rw [this]; exact h
theorem RepT.ct {ds : List (D × V)} {F F' : Ct} (h : RepT K H O ds F) (e : ∀ a, F' a = F a) : RepT K H O ds F' := by
  have : F' = F := funext e
  rw [this]; exact h
theorem RepS.len : ∀ {ds : S} {vs : L2.St} {F : Ct}, RepS K H O ds vs F → ds.length = vs.length
  | [], [], _, h => rfl
  | none :: ds, v :: vs, F, h => by
    unfold RepS at h
    rw [List.length_cons, List.length_cons, RepS.len h]
  | some d :: ds, some v :: vs, F, h => by
    obtain ⟨G1, G2, h1, h2, z⟩ := h
    rw [List.length_cons, List.length_cons, RepS.len h2]
  | [], _ :: _, _, h => by unfold RepS at h; exact h.elim
  | none :: _, [], _, h => by unfold RepS at h; exact h.elim
  | some _ :: _, [], _, h => by unfold RepS at h; exact h.elim
  | some _ :: _, none :: _, _, h => by unfold RepS at h; exact h.elim
/-- a slot, and the rest -/
theorem RepS.get : ∀ {ds : S} {vs : L2.St} {F : Ct} {i : Nat} {d : D}, RepS K H O ds vs F → ds[i]? = some (some d) → ∃ v G1 G2, vs[i]? = some (some v) ∧ Rep K H O d v G1 ∧ RepS K H O (ds.set i none) vs G2 ∧ ∀ a, F a = G1 a + G2 a
  | [], [], _, _, _, h, e => by simp at e
  | none :: ds, v :: vs, F, 0, d, h, e => by simp at e
  | none :: ds, v :: vs, F, i + 1, d, h, e => by
    unfold RepS at h
    obtain ⟨u, G1, G2, a1, a2, a3, a4⟩ := RepS.get h (by simpa using e)
    exact ⟨u, G1, G2, by simpa using a1, a2, by rw [List.set_cons_succ]; unfold RepS; exact a3, a4⟩
  | some d :: ds, some v :: vs, F, 0, d', h, e => by
    obtain ⟨G1, G2, h1, h2, z⟩ := h
    simp at e
    subst e
    exact ⟨v, G1, G2, rfl, h1, by rw [List.set_cons_zero]; unfold RepS; exact h2, z⟩
  | some d :: ds, some v :: vs, F, i + 1, d', h, e => by
    obtain ⟨G1, G2, h1, h2, z⟩ := h
    obtain ⟨u, G3, G4, a1, a2, a3, a4⟩ := RepS.get h2 (by simpa using e)
    refine ⟨u, G3, fun a => G1 a + G4 a, by simpa using a1, a2, ?_, fun a => by dsimp only; rw [z a, a4 a]; omega⟩
    rw [List.set_cons_succ]
    exact ⟨G1, G4, h1, a3, fun _ => rfl⟩
  | [], _ :: _, _, _, _, h, _ => by unfold RepS at h; exact h.elim
  | none :: _, [], _, _, _, h, _ => by unfold RepS at h; exact h.elim
  | some _ :: _, [], _, _, _, h, _ => by unfold RepS at h; exact h.elim
  | some _ :: _, none :: _, _, _, _, h, _ => by unfold RepS at h; exact h.elim
/-- a slot is forgotten: less is owned -/
theorem RepS.forget : ∀ {ds : S} {vs : L2.St} {F : Ct} (i : Nat), RepS K H O ds vs F → ∃ G, RepS K H O (ds.set i none) vs G ∧ ∀ a, G a ≤ F a
  | [], [], F, _, h => ⟨F, h, fun _ => Nat.le_refl _⟩
  | none :: ds, v :: vs, F, 0, h => ⟨F, h, fun _ => Nat.le_refl _⟩
  | none :: ds, v :: vs, F, i + 1, h => by
    unfold RepS at h
    obtain ⟨G, g, l⟩ := RepS.forget i h
    exact ⟨G, by rw [List.set_cons_succ]; unfold RepS; exact g, l⟩
  | some d :: ds, some v :: vs, F, 0, h => by
    obtain ⟨G1, G2, h1, h2, z⟩ := h
    exact ⟨G2, by rw [List.set_cons_zero]; unfold RepS; exact h2, fun a => by rw [z a]; omega⟩
  | some d :: ds, some v :: vs, F, i + 1, h => by
    obtain ⟨G1, G2, h1, h2, z⟩ := h
    obtain ⟨G, g, l⟩ := RepS.forget i h2
    refine ⟨fun a => G1 a + G a, ?_, fun a => by dsimp only; rw [z a]; have := l a; omega⟩
    rw [List.set_cons_succ]
    exact ⟨G1, G, h1, g, fun _ => rfl⟩
  | [], _ :: _, _, _, h => by unfold RepS at h; exact h.elim
  | none :: _, [], _, _, h => by unfold RepS at h; exact h.elim
  | some _ :: _, [], _, _, h => by unfold RepS at h; exact h.elim
  | some _ :: _, none :: _, _, _, h => by unfold RepS at h; exact h.elim
/-- a slot that is not known is filled, or one forgotten filled anew -/
theorem RepS.put : ∀ {ds : S} {vs : L2.St} {G : Ct} {i : Nat} {d : D} {v : V} {G1 : Ct}, RepS K H O (ds.set i none) vs G → i < ds.length → Rep K H O d v G1 → RepS K H O (ds.set i (some d)) (vs.set i (some v)) fun a => G1 a + G a
  | [], _, _, _, _, _, _, _, hi, _ => by simp at hi
  | x :: ds, [], G, 0, d, v, G1, h, _, _ => by
    rw [List.set_cons_zero] at h; unfold RepS at h; exact h.elim
  | x :: ds, y :: vs, G, 0, d, v, G1, h, _, r => by
    rw [List.set_cons_zero] at h
    unfold RepS at h
    rw [List.set_cons_zero, List.set_cons_zero]
    exact ⟨G1, G, r, h, fun _ => rfl⟩
  | none :: ds, [], G, i + 1, d, v, G1, h, _, _ => by
    rw [List.set_cons_succ] at h; unfold RepS at h; exact h.elim
  | none :: ds, y :: vs, G, i + 1, d, v, G1, h, hi, r => by
    rw [List.set_cons_succ] at h
    unfold RepS at h
    rw [List.set_cons_succ, List.set_cons_succ]
    unfold RepS
    exact RepS.put h (by simpa using hi) r
  | some x :: ds, [], G, i + 1, d, v, G1, h, _, _ => by
    rw [List.set_cons_succ] at h; unfold RepS at h; exact h.elim
  | some x :: ds, none :: vs, G, i + 1, d, v, G1, h, _, _ => by
    rw [List.set_cons_succ] at h; unfold RepS at h; exact h.elim
  | some x :: ds, some y :: vs, G, i + 1, d, v, G1, h, hi, r => by
    rw [List.set_cons_succ] at h
    obtain ⟨G3, G4, h1, h2, z⟩ := h
    rw [List.set_cons_succ, List.set_cons_succ]
    refine ⟨G3, fun a => G1 a + G4 a, h1, RepS.put h2 (by simpa using hi) r, fun a => ?_⟩
    show G1 a + G a = G3 a + (G1 a + G4 a)
    rw [z a]; omega
theorem set_self {α : Type} : ∀ {l : List α} {i : Nat} {x : α}, l[i]? = some x → l.set i x = l
  | [], _, _, e => by simp at e
  | y :: l, 0, x, e => by simp at e; simp [e]
  | y :: l, i + 1, x, e => by
    rw [List.set_cons_succ, set_self (l := l) (by simpa using e)]

/-! ### a frame's state, its steps -/
theorem own_sub {F F' : Ct} (l : ∀ a, F' a ≤ F a) : Tr H (Own W F) H (Own W F') :=
  ⟨fun _ _ h => h, fun _ _ _ h => h, fun a _ n h => ⟨h, fun q => n (q.imp (fun q => Nat.le_trans q (l a)) id)⟩⟩
theorem Good.len (g : Good K W H σD σV T F) : σD.length = σV.length := by
  obtain ⟨Fs, Ft, r, _, _⟩ := g.rep
  exact r.len
/-- what is in hand is taken out of hand -/
theorem Good.pop (g : Good K W H σD σV ((d, v) :: T) F) : ∃ G F', Rep K H (Own W F') d v G ∧ Good K W H σD σV T F' ∧ ∀ a, F a = G a + F' a := by
  obtain ⟨Fs, Ft, r1, r2, z⟩ := g.rep
  obtain ⟨G1, G2, h1, h2, z2⟩ := r2
  have l : ∀ a, (fun a => Fs a + G2 a) a ≤ F a := fun a => by show Fs a + G2 a ≤ F a; rw [z a, z2 a]; omega
  have t : Tr H (Own W F) H (Own W fun a => Fs a + G2 a) := own_sub l
  refine ⟨G1, fun a => Fs a + G2 a, Rep.tr t d v G1 h1 fun _ _ _ h => h, ⟨⟨Fs, G2, RepS.tr t r1 fun _ _ _ h => h, RepT.tr t h2 fun _ _ _ h => h, fun _ => rfl⟩, fun a => Nat.le_trans (l a) (g.one a), fun a q => g.new a (Nat.le_trans q (l a)), g.old, g.bw, g.rf⟩, fun a => ?_⟩
  show F a = G1 a + (Fs a + G2 a)
  rw [z a, z2 a]; omega
/-- a value that nobody changes is taken in hand -/
theorem Good.push0 (g : Good K W H σD σV T F) {G : Ct} (r : Rep K H (Own W F) d v G) (z0 : ∀ a, G a = 0) : Good K W H σD σV ((d, v) :: T) F := by
  obtain ⟨Fs, Ft, r1, r2, z⟩ := g.rep
  refine ⟨⟨Fs, Ft, r1, ⟨G, Ft, r, r2, fun a => by rw [z0 a]; omega⟩, z⟩, g.one, g.new, g.old, g.bw, g.rf⟩
theorem Good.pushP (g : Good K W H σD σV T F) (r : PRep K W H F d v) (z : frz d = true) : Good K W H σD σV ((d, v) :: T) F := by
  obtain ⟨G, r⟩ := r
  exact g.push0 r (Rep.frz0 d v G r z)
theorem Good.top (g : Good K W H σD σV ((d, v) :: T) F) : PRep K W H F d v := by
  obtain ⟨Fs, Ft, r1, r2, z⟩ := g.rep
  obtain ⟨G1, G2, h1, h2, z2⟩ := r2
  exact ⟨G1, h1⟩
theorem RepS.there : ∀ {ds : S} {vs : L2.St} {F : Ct}, RepS K H O ds vs F → ∀ a, 1 ≤ F a → ∃ o, H a = some o ∧ Ownd o
  | [], [], _, h, a, k => absurd k (by have := h a; omega)
  | none :: ds, v :: vs, F, h, a, k => by
    unfold RepS at h
    exact RepS.there h a k
  | some d :: ds, some v :: vs, F, h, a, k => by
    obtain ⟨G1, G2, h1, h2, z⟩ := h
    rw [z a] at k
    by_cases q : 1 ≤ G1 a
    · exact Rep.there d v G1 h1 a q
    · exact RepS.there h2 a (by omega)
  | [], _ :: _, _, h, _, _ => by unfold RepS at h; exact h.elim
  | none :: _, [], _, h, _, _ => by unfold RepS at h; exact h.elim
  | some _ :: _, [], _, h, _, _ => by unfold RepS at h; exact h.elim
  | some _ :: _, none :: _, _, h, _, _ => by unfold RepS at h; exact h.elim
theorem RepT.there : ∀ {ds : List (D × V)} {F : Ct}, RepT K H O ds F → ∀ a, 1 ≤ F a → ∃ o, H a = some o ∧ Ownd o
  | [], _, h, a, k => absurd k (by have := h a; omega)
  | d :: ds, F, h, a, k => by
    obtain ⟨G1, G2, h1, h2, z⟩ := h
    rw [z a] at k
    by_cases q : 1 ≤ G1 a
    · exact Rep.there d.1 d.2 G1 h1 a q
    · exact RepT.there h2 a (by omega)
theorem Good.there (g : Good K W H σD σV T F) : ∀ a, 1 ≤ F a → ∃ o, H a = some o ∧ Ownd o := fun a k => by
  obtain ⟨Fs, Ft, r1, r2, z⟩ := g.rep
  rw [z a] at k
  by_cases q : 1 ≤ Fs a
  · exact r1.there a q
  · exact r2.there a (by omega)
theorem Good.nb (g : Good K W H σD σV T F) : ∀ a, 1 ≤ F a → ¬ W.B a := fun a k b => by
  obtain ⟨b1, b2⟩ := g.bw a b
  rcases g.new a k with q | q
  · omega
  · exact b2 q
/-- a slot's value, looked at -/
theorem Good.var {i : Nat} (g : Good K W H σD σV T F) (e : σD[i]? = some (some d)) : ∃ v, σV[i]? = some (some v) ∧ PRep K W H F d v := by
  obtain ⟨Fs, Ft, r1, r2, z⟩ := g.rep
  obtain ⟨v, G1, G2, a1, a2, a3, a4⟩ := r1.get e
  exact ⟨v, a1, G1, a2⟩
/-- nothing of ours is changed, new things may stand: the state stays, more may be owned -/
theorem Good.ext (g : Good K W H σD σV T F) (k : ∀ a o, H a = some o → H' a = some o) : Good K W H' σD σV T F := by
  obtain ⟨Fs, Ft, r1, r2, z⟩ := g.rep
  have t : Tr H (Own W F) H' (Own W F) := ⟨fun _ _ h => k _ _ h, fun _ _ _ h => k _ _ h, fun a _ n h => ⟨k _ _ h, n⟩⟩
  exact ⟨⟨Fs, Ft, RepS.tr t r1 fun _ _ _ h => k _ _ h, RepT.tr t r2 fun _ _ _ h => k _ _ h, z⟩, g.one, g.new, fun a o e n => k _ _ (g.old a o e n), g.bw, g.rf⟩
theorem upd_keep {p : Addr} {o : HO} (hp : H p = none) : ∀ a u, H a = some u → upd H p o a = some u := fun a u h => by
  rw [upd_ne (ne_of_none h hp)]; exact h
/-- a new list of ours -/
theorem Good.newL {p : Addr} {ds : List D} {vs : List V} {G : Ct} (g : Good K W H σD σV T F) (hp : H p = none) (r : RepL K H (Own W F) ds vs G) (hG : ∀ a, G a = 0) :
    Good K W (upd H p (.lst vs)) σD σV ((.lst true ds, .ref p) :: T) (fun a => F a + if a = p then 1 else 0) := by
  obtain ⟨Fs, Ft, r1, r2, z⟩ := g.rep
  have k := upd_keep (o := .lst vs) hp
  have t : Tr H (Own W F) (upd H p (.lst vs)) (Own W fun a => F a + if a = p then 1 else 0) := ⟨fun _ _ h => k _ _ h, fun _ _ _ h => k _ _ h, fun a _ n h => ⟨k _ _ h, fun q => n (q.imp (fun q => by
    have q : 1 ≤ F a + if a = p then 1 else 0 := q
    rw [if_neg (ne_of_none h hp)] at q
    exact q) id)⟩⟩
  have own : ∀ a xs, 1 ≤ F a → H a = some (.lst xs) → upd H p (.lst vs) a = some (.lst xs) := fun a xs _ h => k _ _ h
  have Fp : F p = 0 := by
    cases e : F p with
    | zero => rfl
    | succ n =>
      exfalso
      obtain ⟨_, e2, _⟩ := g.there p (by omega)
      rw [hp] at e2; cases e2
  refine ⟨⟨Fs, fun a => (G a + if a = p then 1 else 0) + Ft a, RepS.tr t r1 (fun _ _ _ h => k _ _ h), ⟨fun a => G a + if a = p then 1 else 0, Ft, ⟨p, vs, G, rfl, upd_same, RepL.tr t ds vs G r (fun _ _ _ h => k _ _ h), fun _ => rfl⟩, RepT.tr t r2 (fun _ _ _ h => k _ _ h), fun _ => rfl⟩, fun a => ?_⟩, fun a => ?_, fun a q => ?_, fun a o e n => k _ _ (g.old a o e n), g.bw, g.rf⟩
  · show F a + (if a = p then 1 else 0) = Fs a + ((G a + if a = p then 1 else 0) + Ft a)
    rw [z a, hG a]; omega
  · show F a + (if a = p then 1 else 0) ≤ 1
    by_cases e : a = p
    · subst e; rw [Fp, if_pos rfl]; omega
    · rw [if_neg e]; exact g.one a
  · have q : 1 ≤ F a + if a = p then 1 else 0 := q
    by_cases e : a = p
    · subst e
      cases q2 : W.H0 a with
      | none => exact .inr rfl
      | some o =>
        left
        rcases Nat.eq_zero_or_pos (W.F0 a) with q3 | q3
        · rw [g.old a o q2 q3] at hp; cases hp
        · exact q3
    · rw [if_neg e] at q
      exact g.new a q
/-- a new tuple -/
theorem Good.newT {p : Addr} {ds : List D} {vs : List V} (g : Good K W H σD σV T F) (hp : H p = none) (r : RepL K H (Own W F) ds vs z0) :
    Good K W (upd H p (.tup vs)) σD σV ((.tup ds, .ref p) :: T) F := by
  have k := upd_keep (o := .tup vs) hp
  have g1 := g.ext (H' := upd H p (.tup vs)) k
  have t : Tr H (Own W F) (upd H p (.tup vs)) (Own W F) := ⟨fun _ _ h => k _ _ h, fun _ _ _ h => k _ _ h, fun a _ n h => ⟨k _ _ h, n⟩⟩
  exact g1.push0 (G := z0) ⟨p, vs, rfl, .inl (.inl upd_same), RepL.tr t ds vs z0 r (fun _ _ _ h => k _ _ h), fun _ => rfl⟩ fun _ => rfl
theorem ext_newL {p : Addr} {o : HO} (hp : H p = none) : Ext H (upd H p o) F (fun a => F a + if a = p then 1 else 0) :=
  ⟨upd_keep hp, fun a q => by
    by_cases e : a = p
    · subst e; exact .inr hp
    · rw [if_neg e] at q; exact .inl (by omega)⟩
theorem ext_new {p : Addr} {o : HO} (hp : H p = none) : Ext H (upd H p o) F F := ⟨upd_keep hp, fun _ q => .inl q⟩
/-- a name's value is handed on: nobody changes it from now on -/
theorem Good.frzVar {i : Nat} (g : Good K W H σD σV T F) (e : σD[i]? = some (some d)) : ∃ v F', σV[i]? = some (some v) ∧ Good K W H (σD.set i (some (Tw.fz d))) σV ((Tw.fz d, v) :: T) F' ∧ ∀ a, F' a ≤ F a := by
  obtain ⟨Fs, Ft, r1, r2, z⟩ := g.rep
  obtain ⟨v, G1, G2, a1, a2, a3, a4⟩ := r1.get e
  have l : ∀ a, (fun a => G2 a + Ft a) a ≤ F a := fun a => by dsimp only; rw [z a, a4 a]; omega
  have t : Tr H (Own W F) H (Own W fun a => G2 a + Ft a) := own_sub l
  have hi : i < σD.length := (List.getElem?_eq_some_iff.mp e).1
  have fr : Rep K H (Own W fun a => G2 a + Ft a) (Tw.fz d) v z0 := Rep.fz t d v G1 a2 fun a q z' => by
    have q1 : 1 ≤ F a := by rw [z a, a4 a]; omega
    rcases z' with z' | z'
    · have z' : 1 ≤ G2 a + Ft a := z'
      have := g.one a
      rw [z a, a4 a] at this; omega
    · exact g.nb a q1 z'
  have kp : ∀ a o, 1 ≤ G2 a → H a = some o → H a = some o := fun _ _ _ h => h
  have s1 := RepS.put (RepS.tr t a3 kp) hi fr
  rw [set_self a1] at s1
  refine ⟨v, fun a => G2 a + Ft a, a1, ⟨⟨fun a => z0 a + G2 a, Ft, s1, ⟨z0, Ft, fr, RepT.tr t r2 (fun _ _ _ h => h), fun a => by show Ft a = 0 + Ft a; omega⟩, fun a => by show G2 a + Ft a = (0 + G2 a) + Ft a; omega⟩, fun a => Nat.le_trans (l a) (g.one a), fun a q => g.new a (Nat.le_trans q (l a)), g.old, g.bw, fun p hp => ?_⟩, l⟩
  obtain ⟨q1, d', q2⟩ := g.rf p hp
  refine ⟨q1, ?_⟩
  by_cases hpi : i = p.1
  · subst hpi; exact ⟨_, List.getElem?_set_self hi⟩
  · exact ⟨d', by rw [List.getElem?_set_ne hpi]; exact q2⟩
/-- a name is given what is in hand -/
theorem Good.setv {i : Nat} (g : Good K W H σD σV ((d, v) :: T) F) (hi : i < σD.length) (hr : ∀ p ∈ W.refs, p.1 ≠ i) : ∃ F', Good K W H (σD.set i (some d)) (σV.set i (some v)) T F' ∧ ∀ a, F' a ≤ F a := by
  obtain ⟨Fs, Ft, r1, r2, z⟩ := g.rep
  obtain ⟨G1, G2, h1, h2, z2⟩ := r2
  obtain ⟨G, gs, l1⟩ := r1.forget i
  have l : ∀ a, (fun a => (G1 a + G a) + G2 a) a ≤ F a := fun a => by dsimp only; rw [z a, z2 a]; have := l1 a; omega
  have t : Tr H (Own W F) H (Own W fun a => (G1 a + G a) + G2 a) := own_sub l
  have s1 := RepS.put (RepS.tr t gs fun _ _ _ h => h) hi (Rep.tr t d v G1 h1 fun _ _ _ h => h)
  refine ⟨_, ⟨⟨_, G2, s1, RepT.tr t h2 (fun _ _ _ h => h), fun _ => rfl⟩, fun a => Nat.le_trans (l a) (g.one a), fun a q => g.new a (Nat.le_trans q (l a)), g.old, g.bw, fun p hp => ?_⟩, l⟩
  obtain ⟨q1, d', q2⟩ := g.rf p hp
  exact ⟨by rw [List.getElem?_set_ne (Ne.symm (hr p hp))]; exact q1, d', by rw [List.getElem?_set_ne (Ne.symm (hr p hp))]; exact q2⟩
theorem RepT.split : ∀ {ds : List D} {vs : List V} {T : List (D × V)} {F : Ct}, RepT K H O ((ds.zip vs).reverse ++ T) F → vs.length = ds.length → ∃ G F', RepL K H O ds vs G ∧ RepT K H O T F' ∧ ∀ a, F a = G a + F' a
  | [], vs, T, F, g, hl => by
    have e : vs = [] := List.eq_nil_of_length_eq_zero hl
    subst e
    exact ⟨z0, F, ⟨rfl, fun _ => rfl⟩, g, fun a => by show F a = 0 + F a; omega⟩
  | d :: ds, [], T, F, g, hl => by cases hl
  | d :: ds, v :: vs, T, F, g, hl => by
    rw [List.zip_cons_cons, List.reverse_cons, List.append_assoc] at g
    obtain ⟨G1, F1, r1, g1, z1⟩ := RepT.split (ds := ds) (vs := vs) (T := (d, v) :: T) g (by simpa using hl)
    obtain ⟨G2, F2, r2, g2, z2⟩ := g1
    exact ⟨fun a => G2 a + G1 a, F2, ⟨v, vs, G2, G1, rfl, r2, r1, fun _ => rfl⟩, g2, fun a => by dsimp only; rw [z1 a, z2 a]; omega⟩
/-- several things in hand, the last one on top -/
theorem Good.popL {ds : List D} {vs : List V} (g : Good K W H σD σV ((ds.zip vs).reverse ++ T) F) (hl : vs.length = ds.length) : ∃ G F', RepL K H (Own W F') ds vs G ∧ Good K W H σD σV T F' ∧ ∀ a, F a = G a + F' a := by
  obtain ⟨Fs, Ft, r1, r2, z⟩ := g.rep
  obtain ⟨G1, G2, h1, h2, z2⟩ := r2.split hl
  have l : ∀ a, (fun a => Fs a + G2 a) a ≤ F a := fun a => by show Fs a + G2 a ≤ F a; rw [z a, z2 a]; omega
  have t : Tr H (Own W F) H (Own W fun a => Fs a + G2 a) := own_sub l
  refine ⟨G1, fun a => Fs a + G2 a, RepL.tr t ds vs G1 h1 fun _ _ _ h => h, ⟨⟨Fs, G2, RepS.tr t r1 fun _ _ _ h => h, RepT.tr t h2 fun _ _ _ h => h, fun _ => rfl⟩, fun a => Nat.le_trans (l a) (g.one a), fun a q => g.new a (Nat.le_trans q (l a)), g.old, g.bw, g.rf⟩, fun a => ?_⟩
  show F a = G1 a + (Fs a + G2 a)
  rw [z a, z2 a]; omega
theorem Good.Fp {p : Addr} (g : Good K W H σD σV T F) (hp : H p = none) : F p = 0 := by
  cases e : F p with
  | zero => rfl
  | succ n =>
    exfalso
    obtain ⟨_, e2, _⟩ := g.there p (by omega)
    rw [hp] at e2; cases e2
theorem own_new {p : Addr} {vs : List V} (hp : H p = none) : Tr H (Own W F) (upd H p (.lst vs)) (Own W fun a => F a + if a = p then 1 else 0) :=
  ⟨fun _ _ h => upd_keep hp _ _ h, fun _ _ _ h => upd_keep hp _ _ h, fun a _ n h => ⟨upd_keep hp _ _ h, fun q => n (q.imp (fun q => by
    have q : 1 ≤ F a + if a = p then 1 else 0 := q
    rw [if_neg (ne_of_none h hp)] at q
    exact q) id)⟩⟩
theorem Good.one_new {p : Addr} (g : Good K W H σD σV T F) (hp : H p = none) : ∀ a, (F a + if a = p then 1 else 0) ≤ 1 := fun a => by
  by_cases e : a = p
  · subst e; rw [g.Fp hp, if_pos rfl]; omega
  · rw [if_neg e]; exact g.one a
theorem Good.new_new {p : Addr} (g : Good K W H σD σV T F) (hp : H p = none) : ∀ a, 1 ≤ (F a + if a = p then 1 else 0) → 1 ≤ W.F0 a ∨ W.H0 a = none := fun a q => by
  by_cases e : a = p
  · subst e
    cases q2 : W.H0 a with
    | none => exact .inr rfl
    | some o =>
      left
      rcases Nat.eq_zero_or_pos (W.F0 a) with q3 | q3
      · rw [g.old a o q2 q3] at hp; cases hp
      · exact q3
  · rw [if_neg e] at q
    exact g.new a q
/-- a new list of ours, of things in hand -/
theorem Good.newLs {p : Addr} {ds : List D} {vs : List V} (g : Good K W H σD σV ((ds.zip vs).reverse ++ T) F) (hl : vs.length = ds.length) (hp : H p = none) :
    Good K W (upd H p (.lst vs)) σD σV ((.lst true ds, .ref p) :: T) (fun a => F a + if a = p then 1 else 0) := by
  obtain ⟨Fs, Ft, r1, r2, z⟩ := g.rep
  obtain ⟨G1, G2, h1, h2, z2⟩ := r2.split hl
  have k := upd_keep (H := H) (o := .lst vs) hp
  have t := own_new (W := W) (F := F) (vs := vs) hp
  refine ⟨⟨Fs, fun a => (G1 a + if a = p then 1 else 0) + G2 a, RepS.tr t r1 (fun _ _ _ h => k _ _ h), ⟨fun a => G1 a + if a = p then 1 else 0, G2, ⟨p, vs, G1, rfl, upd_same, RepL.tr t ds vs G1 h1 (fun _ _ _ h => k _ _ h), fun _ => rfl⟩, RepT.tr t h2 (fun _ _ _ h => k _ _ h), fun _ => rfl⟩, fun a => ?_⟩, g.one_new hp, g.new_new hp, fun a o e n => k _ _ (g.old a o e n), g.bw, g.rf⟩
  show F a + (if a = p then 1 else 0) = Fs a + ((G1 a + if a = p then 1 else 0) + G2 a)
  rw [z a, z2 a]; omega
theorem Good.setv' {i : Nat} (g : Good K W H σD σV ((d, v) :: T) F) (hr : ∀ p ∈ W.refs, p.1 ≠ i) : ∃ F', Good K W H (σD.set i (some d)) (σV.set i (some v)) T F' ∧ ∀ a, F' a ≤ F a := by
  by_cases hi : i < σD.length
  · exact g.setv hi hr
  · have hl := g.len
    rw [List.set_eq_of_length_le (by omega), List.set_eq_of_length_le (by omega)]
    obtain ⟨G, F', _, g', z⟩ := g.pop
    exact ⟨F', g', fun a => by rw [z a]; omega⟩
end
end Tw

set_option Elab.async false
set_option linter.all false
set_option maxRecDepth 100000
/-! Tw.EvD: readings; expressions. -/
namespace Tw
open PySem PySem.Spec PyProof.Rows L2

theorem PE.imp {X : Cx} {e : Expr} {t t' : TE} (h : PE X e t) (i : ∀ σ H Q, t' σ H Q → t σ H Q) : PE X e t' := ⟨fun pins s σ H Q I q => h.run pins s σ H Q I (i σ H Q q)⟩
theorem PT.imp {X : Cx} {e : Expr} {t t' : TT} (h : PT X e t) (i : ∀ σ H Q, t' σ H Q → t σ H Q) : PT X e t' := ⟨fun pins s σ H Q I q => h.run pins s σ H Q I (i σ H Q q)⟩
theorem PA.imp {X : Cx} {e : List Expr} {t t' : TA} (h : PA X e t) (i : ∀ σ H Q, t' σ H Q → t σ H Q) : PA X e t' := ⟨fun pos pins s σ H Q I q => h.run pos pins s σ H Q I (i σ H Q q)⟩
theorem PS.imp {X : Cx} {e : Stmt} {t t' : TS} (h : PS X e t) (i : ∀ D σ H, t' D σ H → t D σ H) : PS X e t' := ⟨fun pins s σ H D I q => h.run pins s σ H D I (i D σ H q)⟩
theorem PSs.imp {X : Cx} {e : List Stmt} {t t' : TS} (h : PSs X e t) (i : ∀ D σ H, t' D σ H → t D σ H) : PSs X e t' := ⟨fun pins s σ H D I q => h.run pins s σ H D I (i D σ H q)⟩
theorem PG.imp {X : Cx} {e : Expr} {t t' : TG} (h : PG X e t) (i : ∀ v σ H Q, t' v σ H Q → t v σ H Q) : PG X e t' := ⟨fun pins s σ H v u Q I r q => h.run pins s σ H v u Q I r (i v σ H Q q)⟩

/-! ### readings -/
section
variable (K : PySem.W.Frag) (W : Wd) (ev : Env)
/-- a value in hand -/
def tE (c : Sm D) (cb : Bool) : TE := fun σV H Q => ∃ σD T F, Good K W H σD σV T F ∧ ∃ d σD', c ev σD = .ok d σD' ∧
  ∀ v H' F', Good K W H' σD' σV ((d, v) :: T) F' → (cb = true → Ext H H' F F') → Q v H'
/-- a value looked at -/
def tP (c : Sm D) (cb : Bool) : TE := fun σV H Q => ∃ σD T F, Good K W H σD σV T F ∧ ∃ d σD', c ev σD = .ok d σD' ∧
  ∀ v H' F', Good K W H' σD' σV T F' → PRep K W H' F' d v → (cb = true → Ext H H' F F') → Q v H'
/-- a test -/
def tB (c : Sm Bool) (cb : Bool) : TT := fun σV H Q => ∃ σD T F, Good K W H σD σV T F ∧ ∃ b σD', c ev σD = .ok b σD' ∧
  ∀ H' F', Good K W H' σD' σV T F' → (cb = true → Ext H H' F F') → Q b H'
/-- values in hand, the last one on top -/
def tEs (c : Sm (List D)) (cb : Bool) : TA := fun σV H Q => ∃ σD T F, Good K W H σD σV T F ∧ ∃ ds σD', c ev σD = .ok ds σD' ∧
  ∀ vs H' F', vs.length = ds.length → Good K W H' σD' σV ((ds.zip vs).reverse ++ T) F' → (cb = true → Ext H H' F F') → Q vs H'
end

theorem bnd_ok {α β : Type} {m : Sm α} {f : α → Sm β} {e : Env} {s s' : S} {b : β} (h : bnd m f e s = .ok b s') : ∃ a s1, m e s = .ok a s1 ∧ f a e s1 = .ok b s' := by
  unfold bnd at h
  split at h
  · exact ⟨_, _, by assumption, h⟩
  · cases h
  · cases h
theorem ret_ok {α : Type} {a b : α} {e : Env} {s s' : S} (h : ret a e s = .ok b s') : b = a ∧ s' = s := by
  unfold ret at h; cases h; exact ⟨rfl, rfl⟩
theorem grd_ok {α : Type} {c : Bool} {m : Sm α} {b : α} {e : Env} {s s' : S} (h : grd c m e s = .ok b s') : c = true ∧ m e s = .ok b s' := by
  unfold grd at h
  split at h
  · exact ⟨by assumption, h⟩
  · cases h
theorem lift_ok {α : Type} {o : Option α} {b : α} {e : Env} {s s' : S} (h : lift o e s = .ok b s') : o = some b ∧ s' = s := by
  unfold lift at h
  split at h
  · cases h; exact ⟨rfl, rfl⟩
  · cases h

section
variable {X : Cx} {W : Wd} {ev : Env} {e a b : Expr} {c ca cb : Sm D} {g ga gb : Bool} {pos : Pos}
/-- what is in hand may be looked at -/
theorem toP (h : PE X e (tE X.K W ev c g)) : PE X e (tP X.K W ev c g) := PE.imp h fun σ H Q q => by
  obtain ⟨σD, T, F, gd, d, σD', ec, k⟩ := q
  refine ⟨σD, T, F, gd, d, σD', ec, fun v H' F' g' x => ?_⟩
  obtain ⟨G, F2, r, g2, z⟩ := g'.pop
  refine k v H' F2 g2 ⟨G, r⟩ fun hg => ?_
  have x := x hg
  exact ⟨x.keep, fun a q => x.own a (by rw [z a]; omega)⟩
/-- a scalar that was looked at is in hand -/
theorem ofP (h : PE X e (tP X.K W ev c g)) (hz : ∀ σ d σ', c ev σ = .ok d σ' → frz d = true) : PE X e (tE X.K W ev c g) := PE.imp h fun σ H Q q => by
  obtain ⟨σD, T, F, gd, d, σD', ec, k⟩ := q
  exact ⟨σD, T, F, gd, d, σD', ec, fun v H' F' g' p x => k v H' F' (g'.pushP p (hz _ _ _ ec)) x⟩

theorem s_vP {i : Nat} {x : Str} (hN : X.N[i]? = some x) (hv : Vis X.env.scope x) (hd : (x == ("__debug__" : Str)) = false) (hcd : (x == ("__classdict__" : Str)) = false) : PE X (.Name x pos) (tP X.K W ev (vP i) true) :=
  PE.imp (pe_var (i := i) hN hv hd hcd) fun σ H Q q => by
    obtain ⟨σD, T, F, gd, d, σD', ec, k⟩ := q
    unfold vP at ec
    split at ec
    · rename_i d' e
      cases ec
      obtain ⟨v, e2, p⟩ := gd.var e
      exact ⟨v, e2, k v H F gd p fun _ => Ext.refl⟩
    · cases ec
theorem s_vE {i : Nat} {x : Str} (hN : X.N[i]? = some x) (hv : Vis X.env.scope x) (hd : (x == ("__debug__" : Str)) = false) (hcd : (x == ("__classdict__" : Str)) = false) : PE X (.Name x pos) (tE X.K W ev (vE i) true) :=
  PE.imp (pe_var (i := i) hN hv hd hcd) fun σ H Q q => by
    obtain ⟨σD, T, F, gd, d, σD', ec, k⟩ := q
    unfold vE at ec
    split at ec
    · rename_i d' e
      split at ec
      · rename_i hz
        cases ec
        obtain ⟨v, e2, p⟩ := gd.var e
        exact ⟨v, e2, k v H F (gd.pushP p hz) fun _ => Ext.refl⟩
      · cases ec
        obtain ⟨v, F', e2, g2, l⟩ := gd.frzVar e
        exact ⟨v, e2, k v H F' g2 fun _ => ⟨fun _ _ h => h, fun a q => .inl (Nat.le_trans q (l a))⟩⟩
    · cases ec
theorem Good.scal {K : PySem.W.Frag} {H : Hp} {σD : S} {σV : L2.St} {T : List (D × V)} {F : Ct} {d : D} {v : V} (gd : Good K W H σD σV T F) (r : Rep K H (Own W F) d v z0) : Good K W H σD σV ((d, v) :: T) F := gd.push0 r fun _ => rfl
/-- a constant -/
theorem s_cst {d : D} {v : V} (h : PE X e (tC v)) (r : ∀ H F, Rep X.K H (Own W F) d v z0) : PE X e (tE X.K W ev (ret d) true) := PE.imp h fun σ H Q q => by
  obtain ⟨σD, T, F, gd, d', σD', ec, k⟩ := q
  obtain ⟨rfl, rfl⟩ := ret_ok ec
  exact k v H F (gd.scal (r H F)) fun _ => Ext.refl

/-! ### two operands -/
/-- what an operation by values does, of values looked at -/
def OpS (K : PySem.W.Frag) (f : D → D → Option D) (r : R2) : Prop :=
  ∀ (W : Wd) (H : Hp) (σD : S) (σV : L2.St) (T : List (D × V)) (F : Ct) (dx dy d : D) (x y : V) (Q : VK), Good K W H σD σV T F → PRep K W H F dx x → PRep K W H F dy y → f dx dy = some d →
    (∀ v H' F', Good K W H' σD σV ((d, v) :: T) F' → Ext H H' F F' → Q v H') → r x y H Q
/-- two operands looked at: the reading of both, and what is known then -/
theorem two {K : PySem.W.Frag} {f : D → D → Sm D} {r : R2} {σ : L2.St} {H : Hp} {Q : VK} (q : tE K W ev (bnd ca fun x => bnd cb fun y => grd (gb || frz x) (f x y)) (ga && gb) σ H Q)
    (k : ∀ (σD : S) (T : List (D × V)) (F F0 : Ct) (dx dy : D) (x y : V) (H2 : Hp), Good K W H2 σD σ T F → PRep K W H2 F dx x → PRep K W H2 F dy y → ((ga && gb) = true → Ext H H2 F0 F) →
      (∃ d σD', f dx dy ev σD = .ok d σD' ∧ ∀ v H' F', Good K W H' σD' σ ((d, v) :: T) F' → (Ext H2 H' F F') → Q v H') → r x y H2 Q) :
    tOp r (tP K W ev ca ga) (tP K W ev cb gb) σ H Q := by
  obtain ⟨σD, T, F, gd, d, σD', ec, kk⟩ := q
  obtain ⟨dx, s1, e1, ec⟩ := bnd_ok ec
  obtain ⟨dy, s2, e2, ec⟩ := bnd_ok ec
  obtain ⟨hg, ec⟩ := grd_ok ec
  refine ⟨σD, T, F, gd, dx, s1, e1, fun x H1 F1 g1 p1 x1 => ?_⟩
  by_cases hz : frz dx = true
  · refine ⟨s1, (dx, x) :: T, F1, g1.pushP p1 hz, dy, s2, e2, fun y H2 F2 g2 p2 x2 => ?_⟩
    obtain ⟨G, F3, r3, g3, z3⟩ := g2.pop
    have G0 : ∀ a, G a = 0 := Rep.frz0 dx x G r3 hz
    have e3 : F3 = F2 := funext fun a => by rw [z3 a, G0 a]; omega
    subst e3
    refine k s2 T F3 F dx dy x y H2 g3 ⟨G, r3⟩ p2 (fun h => ?_) ⟨d, σD', ec, fun v H' F' g' x' => kk v H' F' g' fun h => ?_⟩
    · rw [Bool.and_eq_true] at h
      exact (x1 h.1).trans (x2 h.2)
    · rw [Bool.and_eq_true] at h
      exact ((x1 h.1).trans (x2 h.2)).trans x'
  · have hb : gb = true := by
      rw [Bool.or_eq_true] at hg
      rcases hg with h | h
      · exact h
      · exact absurd h hz
    refine ⟨s1, T, F1, g1, dy, s2, e2, fun y H2 F2 g2 p2 x2 => ?_⟩
    refine k s2 T F2 F dx dy x y H2 g2 (p1.ext (x2 hb)) p2 (fun h => ?_) ⟨d, σD', ec, fun v H' F' g' x' => kk v H' F' g' fun h => ?_⟩
    · rw [Bool.and_eq_true] at h
      exact (x1 h.1).trans (x2 h.2)
    · rw [Bool.and_eq_true] at h
      exact ((x1 h.1).trans (x2 h.2)).trans x'
theorem s_bin {op : Operator} {r : R2} (ho : OpR X (binaryOp op) r) (hs : OpS X.K (binOp op) r) (ha : PE X a (tP X.K W ev ca ga)) (hb : PE X b (tP X.K W ev cb gb)) : PE X (.BinOp a op b pos) (tE X.K W ev (bin op gb ca cb) (ga && gb)) :=
  PE.imp (pe_op ho ha hb) fun σ H Q q => two q fun σD T F F0 dx dy x y H2 g2 p1 p2 _ ⟨d, σD', ec, kk⟩ => by
    obtain ⟨e1, rfl⟩ := lift_ok ec
    exact hs W H2 σD' σ T F dx dy d x y Q g2 p1 p2 e1 kk
end
end Tw

set_option Elab.async false
set_option linter.all false
set_option maxRecDepth 100000
/-! Tw.EvDA: dicts in the heap, by rows. -/
namespace Tw
open PySem PySem.Spec PyProof.Rows L2

/-! ### rows -/
def valR (rows : List Row) (k : NestedKey) : Option V := (rows.find? fun r => decide (r.1 = k)).map (·.2.2)
def putR (rows : List Row) (k : NestedKey) (y v : V) : List Row := if (rows.any fun r => decide (r.1 = k)) = true then rows.map (fun r => if r.1 = k then (r.1, r.2.1, v) else r) else rows ++ [(k, y, v)]
section
variable (K : PySem.W.Frag) (H : Hp)
mutual
/-- the value stands for the key -/
def NIs : NestedKey → V → Prop
  | .none, v => v = .non
  | .num i, v => v = .int i ∨ ∃ b : Bool, v = .bl b ∧ i = (if b = true then 1 else 0)
  | .text _, _ => False
  | .tup ks, v => ∃ p vs, v = .ref p ∧ SqT K H p vs ∧ NIsL ks vs
def NIsL : List NestedKey → List V → Prop
  | [], vs => vs = []
  | k :: ks, vs => ∃ v vs', vs = v :: vs' ∧ NIs k v ∧ NIsL ks vs'
end
end
/-- one kind of keys: whole numbers -/
def LfK (k : NestedKey) (y : V) : Prop := ∃ i, k = .num i ∧ y = .int i
/-- or tuples -/
def TpK (K : PySem.W.Frag) (H : Hp) (k : NestedKey) (y : V) : Prop := NIs K H k y ∧ (∃ ks, k = .tup ks) ∧ k.depth ≤ 8 ∧ ∀ w w' : World, k.hash w = k.hash w'
def KOk (K : PySem.W.Frag) (H : Hp) (rows : List Row) (k : NestedKey) (y : V) : Prop :=
  (LfK k y ∧ ∀ r ∈ rows, LfK r.1 r.2.1) ∨ (TpK K H k y ∧ ∀ r ∈ rows, TpK K H r.1 r.2.1)
def LeafR (r : Row) (u : Key × Value) : Prop := ∃ i, r.1 = .num i ∧ r.2.1 = .int i ∧ u.1 = Sum.inl i ∧ RelV r.2.2 u.2
def TupR (r : Row) (x : NestedKey × Addr × Value) : Prop := r.1 = x.1 ∧ r.2.1 = .ref x.2.1 ∧ RelV r.2.2 x.2.2
section
variable {P : Program} {w : World} {h h' : Heap} {a : Addr} {rows : List Row}
theorem DicP.ok (d : DicP a rows h) {H : Hp} : ObjOk P w H h a (DicO a rows) := by
  refine ⟨d, ?_, fun h1 h2 d1 k => ?_⟩
  · obtain ⟨_, _, _, o, _, _, _, e, _⟩ := d; exact ⟨o, e⟩
  · obtain ⟨y, z, n, o, es, ep, w, e, c⟩ := d1
    exact ⟨y, z, n, o, es, ep, w, k _ e, c⟩
theorem DicP.of {H : Hp} (x : ObjOk P w H h a (DicO a rows)) : DicP a rows h := x.1
theorem leaf_to (d : DicP a rows h) (hl : ∀ r ∈ rows, LfK r.1 r.2.1) : ∃ us, Paired LeafR rows us ∧ h.DictOf (mixKind P w) a us := by
  obtain ⟨_, _, nd, o, es, ep, w0, e, xd, ed, pr⟩ := d
  have key : ∀ {rows : List Row} {es : List DictEntry}, Paired (EntIs w0) rows es → (∀ r ∈ rows, LfK r.1 r.2.1) → (rows.map (·.1)).Nodup →
      ∃ us, Paired LeafR rows us ∧ Pairs (mixKind P w) es us ∧ (∀ e ∈ es, ∃ k, (mixKind P w).is k e.key = true ∧ e.hash = (mixKind P w).hash k) ∧ (us.map (·.1)).Nodup ∧ ∀ u ∈ us, ∃ r ∈ rows, ∃ i, r.1 = .num i ∧ u.1 = Sum.inl i := by
    intro rows es pr
    induction pr with
    | nil => exact fun _ _ => ⟨[], .nil, .nil, (fun _ h => (nomatch h)), List.nodup_nil, (fun _ h => (nomatch h))⟩
    | @cons r e rs es' he _ ih =>
      intro hl nd
      obtain ⟨i, e1, e2⟩ := hl r List.mem_cons_self
      rw [List.map_cons, List.nodup_cons] at nd
      obtain ⟨us, p1, p2, p3, p4, p5⟩ := ih (fun r hr => hl r (List.mem_cons_of_mem _ hr)) nd.2
      obtain ⟨h1, h2, h3⟩ := he
      rw [e2] at h2
      obtain ⟨t, h2⟩ := h2
      refine ⟨(.inl i, e.val) :: us, .cons ⟨i, e1, e2, rfl, h3⟩ p1, .cons (by rw [h2]; exact keyIs_int i t) rfl p2, fun e' he' => ?_, ?_, fun u hu => ?_⟩
      · rcases List.mem_cons.mp he' with rfl | he'
        · exact ⟨.inl i, by rw [h2]; exact keyIs_int i t, by rw [h1, e1]; rfl⟩
        · exact p3 e' he'
      · rw [List.map_cons, List.nodup_cons]
        refine ⟨fun hm => ?_, p4⟩
        obtain ⟨u, hu, e3⟩ := List.mem_map.mp hm
        obtain ⟨r', hr', j, e4, e5⟩ := p5 u hu
        rw [e5] at e3
        have e3 : j = i := Sum.inl.inj e3
        subst e3
        exact nd.1 (List.mem_map.mpr ⟨r', hr', e4.trans e1.symm⟩)
      · rcases List.mem_cons.mp hu with rfl | hu
        · exact ⟨r, List.mem_cons_self, i, e1, rfl⟩
        · obtain ⟨r', hr', q⟩ := p5 u hu
          exact ⟨r', List.mem_cons_of_mem _ hr', q⟩
  obtain ⟨us, p1, p2, p3, p4, _⟩ := key pr hl nd
  exact ⟨us, p1, o, es, ep, e, xd, ed, fun e he => p3 e (Array.mem_toList_iff.mpr he), p2, p4⟩
theorem leaf_of {us : List (Key × Value)} (hr : Paired LeafR rows us) (d : h.DictOf (mixKind P w) a us) (y : (a == sysModules) = false) (z : rows.length ≤ sizeLine) : DicP a rows h := by
  obtain ⟨o, es, ep, e, xd, ed, p3, p2, nd⟩ := d
  have hks : ∀ e ∈ es.toList, ∃ k, (mixKind P w).is k e.key = true ∧ e.hash = (mixKind P w).hash k := fun e he => p3 e (Array.mem_toList_iff.mp he)
  have key : ∀ {rows : List Row} {us : List (Key × Value)}, Paired LeafR rows us → ∀ {es : List DictEntry}, Pairs (mixKind P w) es us → (∀ e ∈ es, ∃ k, (mixKind P w).is k e.key = true ∧ e.hash = (mixKind P w).hash k) → (us.map (·.1)).Nodup →
      Paired (EntIs w) rows es ∧ (rows.map (·.1)).Nodup ∧ ∀ r ∈ rows, ∃ u ∈ us, ∃ i, r.1 = .num i ∧ u.1 = Sum.inl i := by
    intro rows us hr
    induction hr with
    | nil => intro es p2 _ _; cases p2; exact ⟨.nil, List.nodup_nil, fun _ h => nomatch h⟩
    | @cons r u rs us' hru _ ih =>
      intro es p2 p3 nd
      cases p2 with
      | @cons e kv es' _ k1 k2 p2 =>
        obtain ⟨i, e1, e2, e3, e4⟩ := hru
        rw [List.map_cons, List.nodup_cons] at nd
        obtain ⟨q1, q2, q3⟩ := ih p2 (fun e he => p3 e (List.mem_cons_of_mem _ he)) nd.2
        obtain ⟨k, k3, k4⟩ := p3 e List.mem_cons_self
        have ek : k = u.1 := (mixKind P w).inj _ _ _ k3 k1
        rw [e3] at k1 ek
        subst ek
        rcases keyIs_shape (show keyIs (Sum.inl i) e.key = true from k1) with ⟨j, t, ej, et⟩ | ⟨x, t, ej, _⟩
        · cases ej
          refine ⟨.cons ⟨by rw [k4, e1]; rfl, by rw [e2, et]; exact ⟨t, rfl⟩, by rw [k2]; exact e4⟩ q1, ?_, fun r' hr' => ?_⟩
          · rw [List.map_cons, List.nodup_cons]
            refine ⟨fun hm => ?_, q2⟩
            obtain ⟨r', hr', e5⟩ := List.mem_map.mp hm
            obtain ⟨u', hu', j, e6, e7⟩ := q3 r' hr'
            rw [e6, e1] at e5
            cases e5
            exact nd.1 (List.mem_map.mpr ⟨u', hu', e7.trans e3.symm⟩)
          · rcases List.mem_cons.mp hr' with rfl | hr'
            · exact ⟨u, List.mem_cons_self, i, e1, e3⟩
            · obtain ⟨u', hu', q⟩ := q3 r' hr'
              exact ⟨u', List.mem_cons_of_mem _ hu', q⟩
        · cases ej
  obtain ⟨q1, q2, _⟩ := key hr p2 hks nd
  exact ⟨y, z, q2, o, es, ep, w, e, xd, ed, q1⟩
theorem tup_to (d : DicP a rows h) (hl : ∀ r ∈ rows, ∃ b, r.2.1 = .ref b ∧ (nestedKind P w).is h r.1 b ∧ ∀ w w' : World, r.1.hash w = r.1.hash w') : ∃ xs, Paired TupR rows xs ∧ h.DictOfH (nestedKind P w) a xs := by
  obtain ⟨_, _, nd, o, es, ep, w0, e, xd, ed, pr⟩ := d
  have key : ∀ {rows : List Row} {es : List DictEntry}, Paired (EntIs w0) rows es → (∀ r ∈ rows, ∃ b, r.2.1 = .ref b ∧ (nestedKind P w).is h r.1 b ∧ ∀ w w' : World, r.1.hash w = r.1.hash w') →
      ∃ xs, Paired TupR rows xs ∧ es = xs.map (entryOfKey (nestedKind P w)) ∧ (∀ x ∈ xs, (nestedKind P w).is h x.1 x.2.1) ∧ xs.map (·.1) = rows.map (·.1) := by
    intro rows es pr
    induction pr with
    | nil => exact fun _ => ⟨[], .nil, rfl, fun _ h => (nomatch h), rfl⟩
    | @cons r e rs es' he _ ih =>
      intro hl
      obtain ⟨b, e1, e2, e3⟩ := hl r List.mem_cons_self
      obtain ⟨xs, p1, p2, p3, p4⟩ := ih (fun r hr => hl r (List.mem_cons_of_mem _ hr))
      obtain ⟨h1, h2, h3⟩ := he
      rw [e1] at h2
      have h2 : e.key = .ref b := h2
      refine ⟨(r.1, b, e.val) :: xs, .cons ⟨rfl, e1, h3⟩ p1, ?_, fun x hx => ?_, by rw [List.map_cons, List.map_cons, p4]⟩
      · rw [List.map_cons, ← p2]
        have : e = entryOfKey (nestedKind P w) (r.1, b, e.val) := by
          show e = ⟨r.1.hash w, .ref b, e.val⟩
          rw [e3 w w0, ← h1, ← h2]
        rw [← this]
      · rcases List.mem_cons.mp hx with rfl | hx
        · exact e2
        · exact p3 x hx
  obtain ⟨xs, p1, p2, p3, p4⟩ := key pr hl
  exact ⟨xs, p1, o, es, ep, e, xd, ed, p2, p3, by rw [p4]; exact nd⟩
theorem tup_of {xs : List (NestedKey × Addr × Value)} (hr : Paired TupR rows xs) (d : h.DictOfH (nestedKind P w) a xs) (y : (a == sysModules) = false) (z : rows.length ≤ sizeLine) : DicP a rows h := by
  obtain ⟨o, es, ep, e, xd, ed, p2, p3, nd⟩ := d
  have key : ∀ {rows : List Row} {xs : List (NestedKey × Addr × Value)}, Paired TupR rows xs → Paired (EntIs w) rows (xs.map (entryOfKey (nestedKind P w))) ∧ rows.map (·.1) = xs.map (·.1) := by
    intro rows xs hr
    induction hr with
    | nil => exact ⟨.nil, rfl⟩
    | @cons r x rs xs' hrx _ ih =>
      obtain ⟨e1, e2, e3⟩ := hrx
      exact ⟨.cons ⟨by rw [e1]; rfl, by rw [e2]; rfl, e3⟩ ih.1, by rw [List.map_cons, List.map_cons, ih.2, e1]⟩
  obtain ⟨q1, q2⟩ := key hr
  exact ⟨y, z, by rw [q2]; exact nd, o, es, ep, w, e, xd, ed, by rw [p2]; exact q1⟩
end
/-! ### look-ups and stores, by rows -/
theorem leaf_val {i : Int} : ∀ {rows : List Row} {us : List (Key × Value)}, Paired LeafR rows us → RelO (valR rows (.num i)) (valueAt us (.inl i))
  | _, _, .nil => trivial
  | _, _, .cons (a := r) (b := u) hru t => by
    obtain ⟨j, e1, e2, e3, e4⟩ := hru
    have ih := leaf_val (i := i) t
    unfold valR valueAt at *
    rw [List.find?_cons, List.find?_cons]
    by_cases q : j = i
    · subst q
      rw [decide_eq_true e1, decide_eq_true e3]
      exact e4
    · have q1 : ¬ r.1 = .num i := fun z => by rw [e1] at z; cases z; exact q rfl
      have q2 : ¬ u.1 = Sum.inl i := fun z => by rw [e3] at z; exact q (Sum.inl.inj z)
      rw [decide_eq_false q1, decide_eq_false q2]
      exact ih
theorem leaf_any {i : Int} : ∀ {rows : List Row} {us : List (Key × Value)}, Paired LeafR rows us → (rows.any fun r => decide (r.1 = .num i)) = us.any fun u => decide (u.1 = Sum.inl i)
  | _, _, .nil => rfl
  | _, _, .cons (a := r) (b := u) hru t => by
    obtain ⟨j, e1, e2, e3, e4⟩ := hru
    rw [List.any_cons, List.any_cons, leaf_any t]
    congr 1
    by_cases q : j = i
    · subst q; rw [decide_eq_true e1, decide_eq_true e3]
    · have q1 : ¬ r.1 = .num i := fun z => by rw [e1] at z; cases z; exact q rfl
      have q2 : ¬ u.1 = Sum.inl i := fun z => by rw [e3] at z; exact q (Sum.inl.inj z)
      rw [decide_eq_false q1, decide_eq_false q2]
theorem leaf_put {i : Int} {v : V} {u : Value} {rows : List Row} {us : List (Key × Value)} (hr : Paired LeafR rows us) (rv : RelV v u) : Paired LeafR (putR rows (.num i) (.int i) v) (stored us (.inl i) u) := by
  unfold putR stored
  rw [leaf_any hr]
  split
  · have key : ∀ {rows : List Row} {us : List (Key × Value)}, Paired LeafR rows us → Paired LeafR (rows.map fun r => if r.1 = .num i then (r.1, r.2.1, v) else r) (us.map fun kv => if kv.1 = Sum.inl i then (kv.1, u) else kv) := by
      intro rows us hr
      induction hr with
      | nil => exact .nil
      | @cons r x rs xs' hrx _ ih =>
        rw [List.map_cons, List.map_cons]
        obtain ⟨j, e1, e2, e3, e4⟩ := hrx
        refine .cons ?_ ih
        by_cases q : j = i
        · subst q
          rw [if_pos e1, if_pos e3]
          exact ⟨j, e1, e2, e3, rv⟩
        · have q1 : ¬ r.1 = .num i := fun z => by rw [e1] at z; cases z; exact q rfl
          have q2 : ¬ x.1 = Sum.inl i := fun z => by rw [e3] at z; exact q (Sum.inl.inj z)
          rw [if_neg q1, if_neg q2]
          exact ⟨j, e1, e2, e3, e4⟩
    exact key hr
  · exact Paired.snoc hr ⟨i, rfl, rfl, rfl, rv⟩
theorem tup_val {k : NestedKey} : ∀ {rows : List Row} {xs : List (NestedKey × Addr × Value)}, Paired TupR rows xs → RelO (valR rows k) ((atKey xs k).map (·.2))
  | _, _, .nil => trivial
  | _, _, .cons (a := r) (b := x) hrx t => by
    obtain ⟨e1, e2, e3⟩ := hrx
    have ih := tup_val (k := k) t
    unfold valR atKey at *
    rw [List.find?_cons, List.find?_cons, e1]
    by_cases q : x.1 = k
    · rw [decide_eq_true q]; exact e3
    · rw [decide_eq_false q]; exact ih
theorem tup_any {k : NestedKey} : ∀ {rows : List Row} {xs : List (NestedKey × Addr × Value)}, Paired TupR rows xs → (rows.any fun r => decide (r.1 = k)) = (atKey xs k).isSome
  | _, _, .nil => rfl
  | _, _, .cons (a := r) (b := x) hrx t => by
    obtain ⟨e1, e2, e3⟩ := hrx
    rw [List.any_cons, tup_any t, e1]
    unfold atKey
    rw [List.find?_cons]
    by_cases q : x.1 = k
    · rw [decide_eq_true q]; rfl
    · rw [decide_eq_false q]; rfl
theorem tup_put {k : NestedKey} {b : Addr} {v : V} {u : Value} {rows : List Row} {xs : List (NestedKey × Addr × Value)} (hr : Paired TupR rows xs) (rv : RelV v u) : Paired TupR (putR rows k (.ref b) v) (storedH xs k b u) := by
  unfold putR storedH
  rw [tup_any hr]
  split
  · have key : ∀ {rows : List Row} {xs : List (NestedKey × Addr × Value)}, Paired TupR rows xs → Paired TupR (rows.map fun r => if r.1 = k then (r.1, r.2.1, v) else r) (xs.map (putAt k u)) := by
      intro rows xs hr
      induction hr with
      | nil => exact .nil
      | @cons r x rs xs' hrx _ ih =>
        rw [List.map_cons, List.map_cons]
        obtain ⟨e1, e2, e3⟩ := hrx
        refine .cons ?_ ih
        unfold putAt
        by_cases q : x.1 = k
        · rw [if_pos (e1.trans q), if_pos q]
          exact ⟨e1, e2, rv⟩
        · rw [if_neg fun z => q (e1.symm.trans z), if_neg q]
          exact ⟨e1, e2, e3⟩
    exact key hr
  · exact Paired.snoc hr ⟨rfl, rfl, rv⟩
theorem putR_len (rows : List Row) (k : NestedKey) (y v : V) : (putR rows k y v).length ≤ rows.length + 1 := by
  unfold putR
  split <;> simp
end Tw

set_option Elab.async false
set_option linter.all false
set_option maxRecDepth 100000
/-! Tw.EvDB: what is done with dicts: rules. -/
namespace Tw
open PySem PySem.Spec PyProof.Rows L2

mutual
theorem nis_rep {K : PySem.W.Frag} {H : Hp} {O : Addr → Prop} : ∀ {d : D} {k : NestedKey} {v : V} {F : Ct}, nk d = some k → Rep K H O d v F → NIs K H k v
  | .non, k, v, F, h, r => by unfold nk at h; cases h; unfold NIs; exact r.1
  | .bl b, k, v, F, h, r => by unfold nk at h; cases h; unfold NIs; exact .inr ⟨b, r.1, rfl⟩
  | .int i, k, v, F, h, r => by unfold nk at h; cases h; unfold NIs; exact .inl r.1
  | .tup xs, k, v, F, h, r => by
    unfold nk at h
    obtain ⟨ks, e, rfl⟩ := Option.map_eq_some_iff.mp h
    obtain ⟨p, vs, rfl, h1, h2, _⟩ := r
    unfold NIs
    exact ⟨p, vs, rfl, h1, nisL_rep e h2⟩
  | .str _, k, _, _, h, _ => by unfold nk at h; cases h
  | .lst _ _, k, _, _, h, _ => by unfold nk at h; cases h
  | .dic _ _ _, k, _, _, h, _ => by unfold nk at h; cases h
  | .scr _, k, _, _, h, _ => by unfold nk at h; cases h
theorem nisL_rep {K : PySem.W.Frag} {H : Hp} {O : Addr → Prop} : ∀ {ds : List D} {ks : List NestedKey} {vs : List V} {F : Ct}, nkL ds = some ks → RepL K H O ds vs F → NIsL K H ks vs
  | [], ks, vs, F, h, r => by unfold nkL at h; cases h; unfold NIsL; exact r.1
  | d :: ds, ks, vs, F, h, r => by
    unfold nkL at h
    obtain ⟨k, e1, h⟩ := Option.bind_eq_some_iff.mp h
    obtain ⟨ks', e2, rfl⟩ := Option.map_eq_some_iff.mp h
    obtain ⟨v, vs', G1, G2, rfl, h1, h2, _⟩ := r
    unfold NIsL
    exact ⟨v, vs', rfl, nis_rep e1 h1, nisL_rep e2 h2⟩
end
section
variable {X : Cx} {pins : List (Addr × Obj)} {σ : L2.St} {H : Hp} {s : Shared}
mutual
theorem nis_heap (I : Inv X pins σ H s) : ∀ {k : NestedKey} {v : V} {u : Value}, NIs X.K H k v → RelV v u → NestedIs s.heap k u
  | .none, v, u, h, r => by unfold NIs at h; subst h; cases (show u = .none from r); exact .none
  | .num i, v, u, h, r => by
    unfold NIs at h
    rcases h with rfl | ⟨b, rfl, rfl⟩
    · obtain ⟨t, rfl⟩ := r; exact .int i t
    · cases (show u = .bool b from r); exact .bool rfl
  | .text _, v, u, h, r => by unfold NIs at h; exact h.elim
  | .tup ks, v, u, h, r => by
    unfold NIs at h
    obtain ⟨p, vs, rfl, h1, h2⟩ := h
    cases (show u = .ref p from r)
    obtain ⟨its, r1, ⟨o, e1, e2, n, e3⟩, _⟩ := I.tuple h1
    exact .tup e1 e2 e3 (nisL_heap I h2 (by simpa using r1))
theorem nisL_heap (I : Inv X pins σ H s) : ∀ {ks : List NestedKey} {vs : List V} {us : List Value}, NIsL X.K H ks vs → Vals vs us → NestedAll s.heap ks us
  | [], vs, us, h, r => by unfold NIsL at h; subst h; cases r; exact .nil
  | k :: ks, vs, us, h, r => by
    unfold NIsL at h
    obtain ⟨v, vs', rfl, h1, h2⟩ := h
    cases r with
    | cons r1 r2 => exact .cons (nis_heap I h1 r1) (nisL_heap I h2 r2)
end
theorem tpk_heap (I : Inv X pins σ H s) {k : NestedKey} {v : V} (h : TpK X.K H k v) : ∃ b, v = .ref b ∧ (nestedKind X.prog X.w).is s.heap k b ∧ ∀ w w' : World, k.hash w = k.hash w' := by
  obtain ⟨h1, ⟨ks, rfl⟩, h2, h3⟩ := h
  have h1' := h1
  unfold NIs at h1'
  obtain ⟨p, vs, rfl, _, _⟩ := h1'
  exact ⟨p, rfl, ⟨nis_heap I h1 rfl, h2⟩, h3⟩
/-- a dict that stands, whoever holds it -/
def DicAt (H : Hp) (a : Addr) (rows : List Row) : Prop := H a = some (DicO a rows) ∨ ∃ o, H a = some (.frz o (DicO a rows))
theorem DicAt.dp (I : Inv X pins σ H s) {a : Addr} {rows : List Row} (h : DicAt H a rows) : DicP a rows s.heap :=
  DicP.of (P := X.prog) (w := X.w) (H := H) (Rd.ok (show Rd H a (DicO a rows) from h) I.hok)
/-- what the dict at a holds at the key y -/
def DGetX (K : PySem.W.Frag) (H : Hp) (a : Addr) (y : V) (r : Option V) : Prop := ∃ rows k, DicAt H a rows ∧ KOk K H rows k y ∧ r = valR rows k
variable {a : Addr} {y v d : V} {u r : Value} {o : Option V} {A : Around} {E : Value → Shared → Prop}
theorem nk_room (hu : A.units + 64 < cLine) : (nestedKind X.prog X.w).room A.in1 := by
  show A.units + 1 + 8 < cLine
  omega
/-- both kinds at once -/
theorem dx_cases (I : Inv X pins σ H s) (g : DGetX X.K H a y o) (ry : RelV y u) {C : Prop}
    (hl : ∀ (i : Int) (us : List (Key × Value)), (mixKind X.prog X.w).is (.inl i) u = true → (a == sysModules) = false → s.heap.DictOf (mixKind X.prog X.w) a us → RelO o (valueAt us (.inl i)) → C)
    (ht : ∀ (k : NestedKey) (b : Addr) (xs : List (NestedKey × Addr × Value)), u = .ref b → (nestedKind X.prog X.w).is s.heap k b → (a == sysModules) = false → s.heap.DictOfH (nestedKind X.prog X.w) a xs → RelO o ((atKey xs k).map (·.2)) → C) : C := by
  obtain ⟨rows, k, da, ko, rfl⟩ := g
  have dp := da.dp I
  have hd := dp.1
  rcases ko with ⟨⟨i, rfl, rfl⟩, hl'⟩ | ⟨tk, ht'⟩
  · obtain ⟨us, p1, p2⟩ := leaf_to (P := X.prog) (w := X.w) dp hl'
    obtain ⟨t, rfl⟩ := ry
    exact hl i us (keyIs_int i t) hd p2 (leaf_val p1)
  · obtain ⟨b, rfl, h1, h2⟩ := tpk_heap I tk
    obtain ⟨xs, p1, p2⟩ := tup_to (P := X.prog) (w := X.w) dp fun r hr => tpk_heap I (ht' r hr)
    exact ht k b xs ry h1 hd p2 (tup_val p1)
theorem dx_getItem {Q : Value → Shared → Prop} (hu : A.units + 64 < cLine) (I : Inv X pins σ H s) (g : DGetX X.K H a y (some v)) (ry : RelV y u) (h : ∀ w' s', Inv X pins σ H s' → RelV v w' → Q w' s') :
    wpAny (model X.prog X.w) A (getItem (.ref a) u) Q E s := by
  refine dx_cases I g ry (fun i us k1 hd dd rel => ?_) (fun k b xs eb k1 hd dd rel => ?_)
  · obtain ⟨w', hw, rw'⟩ := RelO.some_of rel
    exact wpAny_getItem_of k1 dd.mapOf hw (h w' _ (I.tok _) rw')
  · subst eb
    obtain ⟨w', hw, rw'⟩ := RelO.some_of rel
    obtain ⟨p, hp, hp2⟩ := Option.map_eq_some_iff.mp hw
    refine wpAny_getItem_heap (nk_room (X := X) hu) k1 dd hp ?_
    rw [hp2]
    exact h w' _ (I.tok _) rw'
theorem dx_in {Q : Value → Shared → Prop} (hu : A.units + 64 < cLine) (I : Inv X pins σ H s) (g : DGetX X.K H a y o) (ry : RelV y u) (h : ∀ s', Inv X pins σ H s' → Q (.bool o.isSome) s') :
    wpAny (model X.prog X.w) A (compareOp .In u (.ref a)) Q E s := by
  refine dx_cases I g ry (fun i us k1 hd dd rel => ?_) (fun k b xs eb k1 hd dd rel => ?_)
  · refine wpAny_in_of k1 hd dd.mapOf ?_
    rw [← rel.isSome_eq]
    exact h _ (I.tok _)
  · subst eb
    refine wpAny_in_heap (nk_room (X := X) hu) k1 hd dd ?_
    have q := rel.isSome_eq
    rw [Option.isSome_map] at q
    rw [← q]
    exact h _ (I.tok _)
theorem dx_notIn {Q : Value → Shared → Prop} (hu : A.units + 64 < cLine) (I : Inv X pins σ H s) (g : DGetX X.K H a y o) (ry : RelV y u) (h : ∀ s', Inv X pins σ H s' → Q (.bool (!o.isSome)) s') :
    wpAny (model X.prog X.w) A (compareOp .NotIn u (.ref a)) Q E s := by
  refine dx_cases I g ry (fun i us k1 hd dd rel => ?_) (fun k b xs eb k1 hd dd rel => ?_)
  · refine wpAny_notIn_of k1 hd dd.mapOf ?_
    rw [← rel.isSome_eq]
    exact h _ (I.tok _)
  · subst eb
    refine wpAny_notIn_heap (nk_room (X := X) hu) k1 hd dd ?_
    have q := rel.isSome_eq
    rw [Option.isSome_map] at q
    rw [← q]
    exact h _ (I.tok _)
theorem dx_get1 {Q : Value → Shared → Prop} (hu : A.units + 64 < cLine) (I : Inv X pins σ H s) (g : DGetX X.K H a y o) (ry : RelV y u) (h : ∀ w' s', Inv X pins σ H s' → RelV (o.getD .non) w' → Q w' s') :
    wpAny (model X.prog X.w) A (PySem.call (.builtin "dict.get") [.ref a, u]) Q E s := by
  refine dx_cases I g ry (fun i us k1 hd dd rel => ?_) (fun k b xs eb k1 hd dd rel => ?_)
  · exact call_meetsIn PySem.F.slot_dict_get dd.typeIs PySem.F.entry_dict_get (PySem.F.args_dict_get_2 _ _) (meets_dict_get (mixKind X.prog X.w) a k1 hd) ⟨_, dd.mapOf, h _ _ (I.tok _) (rel.getD rfl)⟩
  · subst eb
    exact call_meetsIn PySem.F.slot_dict_get dd.typeIs PySem.F.entry_dict_get (PySem.F.args_dict_get_2 _ _) (meetsH_dict_get (nestedKind X.prog X.w) a b hd) ⟨nk_room (X := X) hu, k, xs, k1, dd, h _ _ (I.tok _) (rel.getD rfl)⟩
theorem dx_get2 {Q : Value → Shared → Prop} (hu : A.units + 64 < cLine) (I : Inv X pins σ H s) (g : DGetX X.K H a y o) (ry : RelV y u) (rd : RelV d r) (h : ∀ w' s', Inv X pins σ H s' → RelV (o.getD d) w' → Q w' s') :
    wpAny (model X.prog X.w) A (PySem.call (.builtin "dict.get") [.ref a, u, r]) Q E s := by
  refine dx_cases I g ry (fun i us k1 hd dd rel => ?_) (fun k b xs eb k1 hd dd rel => ?_)
  · exact call_meetsIn PySem.F.slot_dict_get dd.typeIs PySem.F.entry_dict_get (PySem.F.args_dict_get_3 _ _ _) (meets_dict_get_default (mixKind X.prog X.w) a k1 hd r) ⟨_, dd.mapOf, h _ _ (I.tok _) (rel.getD rd)⟩
  · subst eb
    exact call_meetsIn PySem.F.slot_dict_get dd.typeIs PySem.F.entry_dict_get (PySem.F.args_dict_get_3 _ _ _) (meetsH_dict_get_default (nestedKind X.prog X.w) a b hd r) ⟨nk_room (X := X) hu, k, xs, k1, dd, h _ _ (I.tok _) (rel.getD rd)⟩
/-- d[y] = v -/
theorem dx_setItem {rows : List Row} {k : NestedKey} {Q : Unit → Shared → Prop} (hu : A.units + 64 < cLine) (I : Inv X pins σ H s) (e : H a = some (DicO a rows)) (ko : KOk X.K H rows k y) (hl : rows.length < sizeLine) (ry : RelV y u) (rv : RelV v r)
    (h : ∀ s', Inv X pins σ (upd H a (DicO a (putR rows k y v))) s' → Q () s') : wpAny (model X.prog X.w) A (setItem (.ref a) u r) Q E s := by
  have dp := (show DicAt H a rows from .inl e).dp I
  have hd := dp.1
  have hz := dp.2.1
  have hz' : (putR rows k y v).length ≤ sizeLine := by have := putR_len rows k y v; omega
  rcases ko with ⟨⟨i, rfl, rfl⟩, hl'⟩ | ⟨tk, ht'⟩
  · obtain ⟨us, p1, p2⟩ := leaf_to (P := X.prog) (w := X.w) dp hl'
    obtain ⟨t, rfl⟩ := ry
    have hs : us.length ≤ sizeLine := by rw [← p1.length]; exact hz
    refine wpAny_setItem_pairs (hsz := hs) (show (mixKind X.prog X.w).is (.inl i) (.int i t) = true from keyIs_int i t) p2 fun h' dd' hs => h _ ?_
    have he : ∃ q, h'.get? a = some q := let ⟨q, _, _, hq, _⟩ := dd'; ⟨q, hq⟩
    exact d_write I (by rw [e]; exact True.intro) hs he (DicP.ok (leaf_of (leaf_put p1 rv) dd' hd hz'))
  · obtain ⟨b, rfl, h1, h2⟩ := tpk_heap I tk
    obtain ⟨xs, p1, p2⟩ := tup_to (P := X.prog) (w := X.w) dp fun r hr => tpk_heap I (ht' r hr)
    cases (show u = Value.ref b from ry)
    have hs : xs.length ≤ sizeLine := by rw [← p1.length]; exact hz
    refine wpAny_setItem_heap (hsz := hs) (nk_room (X := X) hu) h1 p2 fun h' dd' hs => h _ ?_
    have he : ∃ q, h'.get? a = some q := let ⟨q, _, _, hq, _⟩ := dd'; ⟨q, hq⟩
    exact d_write I (by rw [e]; exact True.intro) hs he (DicP.ok (tup_of (tup_put p1 rv) dd' hd hz'))
theorem dicP_new (h : Heap) (hb : sysModules < h.objs.size) (w : World) : DicP h.objs.size [] (h.push { cls := .type "dict", data := .dict #[] }) :=
  ⟨by rw [beq_eq_false_iff_ne]; exact Nat.ne_of_gt hb, Nat.zero_le _, List.nodup_nil, _, #[], 0, w, Heap.get?_push_size _ rfl, ⟨rfl, rfl, rfl⟩, rfl, .nil⟩
def tDNewX : TE := fun _ H Q => ∀ p, H p = none → Q (.ref p) (upd H p (DicO p []))
theorem pe_dnewX {pos : Pos} : PE X (.Dict [] [] pos) tDNewX := ⟨fun pins s σ H Q I h =>
  wpAny_Dict_empty ⟨.ref s.heap.objs.size, _, I.laid (a := s.heap.objs.size) (o := DicO s.heap.objs.size []) (t' := s.toks) (fun _ _ q => Heap.get?_push_of_some _ q) (Nat.le_refl _) (DicP.ok (dicP_new s.heap I.big X.w)), rfl, h _ (I.hok.fresh (Nat.le_refl _))⟩⟩
theorem DGetX.ty (I : Inv X pins σ H s) (g : DGetX X.K H a y o) : s.TypeIs (.ref a) "dict" := by
  obtain ⟨rows, k, da, _, _⟩ := g
  obtain ⟨_, _, _, ob, es, ep, w, h1, h2, _⟩ := da.dp I
  exact ⟨ob, h1, h2.1⟩
end
/-! ### as operations -/
def rIxX (K : PySem.W.Frag) : R2 := fun x y H Q => ∃ a v, x = .ref a ∧ DGetX K H a y (some v) ∧ Q v H
def rIxA (K : PySem.W.Frag) : R2 := fun x y H Q => rIx K x y H Q ∨ rIxX K x y H Q
def rInX (K : PySem.W.Frag) (neg : Bool) : R2 := fun x y H Q => ∃ a o, y = .ref a ∧ DGetX K H a x o ∧ Q (.bl (if neg = true then !o.isSome else o.isSome)) H
section
variable {X : Cx}
theorem ix_all (hu : X.A.units + 64 < cLine) : IxR X (rIxA X.K) := ix_seq.or fun value slice pins s σ H x y v u Q I rx ry h hs => by
  obtain ⟨a, r, rfl, g, q⟩ := h
  obtain rfl : v = Value.ref a := rx
  exact tail_any (g.ty I) PySem.F.slot_dict_getitem.lookup (dx_getItem hu I g ry fun w' s3 I3 rw' => ⟨r, H, I3, rw', q⟩) hs
theorem op_inX (hu : X.A.units + 64 < cLine) : OpR X (compareOp .In) (rInX X.K false) := by
  intro pins s σ H x y v u Q I rx ry h
  obtain ⟨a, o, rfl, g, q⟩ := h
  obtain rfl : u = Value.ref a := ry
  exact dx_in hu I g rx fun s3 I3 => ⟨.bl o.isSome, H, I3, rfl, q⟩
theorem op_notInX (hu : X.A.units + 64 < cLine) : OpR X (compareOp .NotIn) (rInX X.K true) := by
  intro pins s σ H x y v u Q I rx ry h
  obtain ⟨a, o, rfl, g, q⟩ := h
  obtain rfl : u = Value.ref a := ry
  exact dx_notIn hu I g rx fun s3 I3 => ⟨.bl (!o.isSome), H, I3, rfl, q⟩
end
/-- o[i] = v: a list or a dict -/
def rSetX (K : PySem.W.Frag) : V → V → V → Hp → (Hp → Prop) → Prop := fun o i v H Q => ∃ p rows q, o = .ref p ∧ H p = some (DicO p rows) ∧ KOk K H rows q i ∧ rows.length < sizeLine ∧ Q (upd H p (DicO p (putR rows q i v)))
def rSetA (K : PySem.W.Frag) : V → V → V → Hp → (Hp → Prop) → Prop := fun o i v H Q => rSetL o i v H Q ∨ rSetX K o i v H Q
theorem set_all {X : Cx} (hu : X.A.units + 64 < cLine) : PSet X (rSetA X.K) := by
  intro pins s σ H o i v ov iv u Q I ro ri rv h
  rcases h with h | ⟨p, rows, q, rfl, h1, h2, h3, h4⟩
  · exact set_list pins s σ H o i v ov iv u Q I ro ri rv h
  · obtain rfl : ov = Value.ref p := ro
    exact dx_setItem hu I h1 h2 h3 ri rv fun s' I' => ⟨_, I', h4⟩
end Tw

set_option Elab.async false
set_option linter.all false
set_option maxRecDepth 100000
/-! Tw.EvDC: dicts as trees and by rows. -/
namespace Tw
open PySem PySem.Spec PyProof.Rows L2

theorem kOk_int {d : D} (h : kOk d = true) (t : kTp d = false) : ∃ i, d = .int i := by
  cases d with
  | int i => exact ⟨i, rfl⟩
  | tup xs => cases t
  | _ => cases h
theorem kOk_tup {d : D} (h : kOk d = true) (t : kTp d = true) : ∃ xs q, d = .tup xs ∧ nkL xs = some q ∧ (NestedKey.tup q).depth ≤ 8 := by
  cases d with
  | tup xs =>
    have h : (match nkL xs with
      | some q => decide ((NestedKey.tup q).depth ≤ 8)
      | none => false) = true := h
    cases e : nkL xs with
    | some q => rw [e] at h; exact ⟨xs, q, rfl, e, of_decide_eq_true h⟩
    | none => rw [e] at h; cases h
  | _ => cases t
theorem tpk_of {K : PySem.W.Frag} {H : Hp} {O : Addr → Prop} {d : D} {v : V} {F : Ct} {k : NestedKey} (h : kOk d = true) (t : kTp d = true) (e : nk d = some k) (r : Rep K H O d v F) : TpK K H k v := by
  obtain ⟨xs, q, rfl, e1, e2⟩ := kOk_tup h t
  have e3 := e
  unfold nk at e
  rw [e1] at e
  cases e
  exact ⟨nis_rep e3 r, ⟨q, rfl⟩, e2, hash_any e3⟩
theorem lfk_of {K : PySem.W.Frag} {H : Hp} {O : Addr → Prop} {d : D} {v : V} {F : Ct} {k : NestedKey} (h : kOk d = true) (t : kTp d = false) (e : nk d = some k) (r : Rep K H O d v F) : LfK k v := by
  obtain ⟨i, rfl⟩ := kOk_int h t
  unfold nk at e
  cases e
  exact ⟨i, rfl, r.1⟩
theorem nk_kOk {d : D} (h : kOk d = true) : ∃ k, nk d = some k := by
  cases d with
  | int i => exact ⟨.num i, rfl⟩
  | tup xs =>
    have h : (match nkL xs with
      | some q => decide ((NestedKey.tup q).depth ≤ 8)
      | none => false) = true := h
    cases e : nkL xs with
    | some q => exact ⟨.tup q, by unfold nk; rw [e]; rfl⟩
    | none => rw [e] at h; cases h
  | _ => cases h
/-- the rows of a dict's trees -/
theorem rows_cons {d : D} {ds : List D} {rows : List Row} (h : nkL (d :: ds) = some (rows.map (·.1))) : ∃ r rs k, rows = r :: rs ∧ nk d = some k ∧ r.1 = k ∧ nkL ds = some (rs.map (·.1)) := by
  unfold nkL at h
  obtain ⟨k, e1, h⟩ := Option.bind_eq_some_iff.mp h
  obtain ⟨ks', e2, e3⟩ := Option.map_eq_some_iff.mp h
  cases rows with
  | nil => cases e3
  | cons r rs =>
    rw [List.map_cons] at e3
    cases e3
    exact ⟨r, rs, r.1, rfl, e1, rfl, e2⟩
theorem rows_nil {rows : List Row} (h : nkL [] = some (rows.map (·.1))) : rows = [] := by
  unfold nkL at h
  cases rows with
  | nil => rfl
  | cons r rs => cases h
section
variable {K : PySem.W.Frag} {H : Hp} {O : Addr → Prop} {W : Wd} {F : Ct}
theorem rows_kok {k : D} (hk : kOk k = true) : ∀ {ks : List D} {rows : List Row} {G : Ct}, nkL ks = some (rows.map (·.1)) → RepL K H O ks (rows.map (·.2.1)) G → (ks.all fun j => kOk j && kTp j == kTp k) = true →
    (kTp k = true ∧ ∀ r ∈ rows, TpK K H r.1 r.2.1) ∨ (kTp k = false ∧ ∀ r ∈ rows, LfK r.1 r.2.1)
  | [], rows, G, h, r, ha => by
    rw [rows_nil h]
    cases kTp k with
    | true => exact .inl ⟨rfl, fun _ h => nomatch h⟩
    | false => exact .inr ⟨rfl, fun _ h => nomatch h⟩
  | d :: ds, rows, G, h, r, ha => by
    obtain ⟨r0, rs, q, rfl, e1, e2, e3⟩ := rows_cons h
    rw [List.all_cons, Bool.and_eq_true, Bool.and_eq_true] at ha
    obtain ⟨⟨a1, a2⟩, a3⟩ := ha
    have a2 : kTp d = kTp k := by simpa using a2
    rw [List.map_cons] at r
    obtain ⟨v, vs', G1, G2, e4, r1, r2, _⟩ := r
    cases e4
    rcases rows_kok hk e3 r2 a3 with ⟨t, ih⟩ | ⟨t, ih⟩
    · refine .inl ⟨t, fun x hx => ?_⟩
      rcases List.mem_cons.mp hx with rfl | hx
      · exact tpk_of a1 (a2.trans t) (by rw [e1, e2]) r1
      · exact ih x hx
    · refine .inr ⟨t, fun x hx => ?_⟩
      rcases List.mem_cons.mp hx with rfl | hx
      · exact lfk_of a1 (a2.trans t) (by rw [e1, e2]) r1
      · exact ih x hx
theorem kok_of {k : D} {y : V} {ks : List D} {rows : List Row} {G G' : Ct} (hom : homK ks k = true) (h : nkL ks = some (rows.map (·.1))) (r : RepL K H O ks (rows.map (·.2.1)) G) (ry : Rep K H O k y G') :
    ∃ q, nk k = some q ∧ KOk K H rows q y := by
  unfold homK at hom
  rw [Bool.and_eq_true] at hom
  obtain ⟨q, e⟩ := nk_kOk hom.1
  refine ⟨q, e, ?_⟩
  rcases rows_kok hom.1 h r hom.2 with ⟨t, a⟩ | ⟨t, a⟩
  · exact .inr ⟨tpk_of hom.1 t e ry, a⟩
  · exact .inl ⟨lfk_of hom.1 t e ry, a⟩
theorem sameK_iff {j k : D} {a b : NestedKey} (ea : nk j = some a) (eb : nk k = some b) : sameK j k = decide (a = b) := by
  unfold sameK
  rw [ea, eb]
  by_cases h : a = b
  · subst h; simp
  · have : ¬ (some a = some b) := fun z => h (Option.some.inj z)
    rw [decide_eq_false this, decide_eq_false h]
theorem find_val {k : D} {q : NestedKey} (eq : nk k = some q) : ∀ {ks vs : List D} {rows : List Row} {G : Ct}, nkL ks = some (rows.map (·.1)) → RepL K H O vs (rows.map (·.2.2)) G → vs.length = ks.length →
    (∀ d, findK ks vs k = some d → ∃ v G', valR rows q = some v ∧ Rep K H O d v G' ∧ ∀ a, G' a ≤ G a) ∧ (findK ks vs k = none → valR rows q = none)
  | [], vs, rows, G, h, r, hl => by
    rw [rows_nil h]
    exact ⟨fun d e => (by unfold findK at e; cases e), fun _ => rfl⟩
  | j :: js, [], rows, G, h, r, hl => by cases hl
  | j :: js, d :: ds, rows, G, h, r, hl => by
    obtain ⟨r0, rs, q0, rfl, e1, e2, e3⟩ := rows_cons h
    rw [List.map_cons] at r
    obtain ⟨v, vs', G1, G2, e4, r1, r2, z⟩ := r
    cases e4
    obtain ⟨i1, i2⟩ := find_val eq e3 r2 (by simpa using hl)
    have sk := sameK_iff e1 eq
    unfold findK
    unfold valR
    rw [List.find?_cons, e2]
    by_cases hq : q0 = q
    · rw [sk, decide_eq_true hq, if_pos rfl]
      refine ⟨fun d' e => ?_, fun e => by cases e⟩
      cases e
      exact ⟨_, G1, rfl, r1, fun a => by rw [z a]; omega⟩
    · rw [sk, decide_eq_false hq, if_neg Bool.false_ne_true]
      refine ⟨fun d' e => ?_, fun e => i2 e⟩
      obtain ⟨v, G', a1, a2, a3⟩ := i1 d' e
      exact ⟨v, G', a1, a2, fun a => by rw [z a]; have := a3 a; omega⟩
/-- a dict that is looked at -/
theorem PRep.dic {o : Bool} {ks vs : List D} {x : V} (p : PRep K W H F (.dic o ks vs) x) : ∃ a rows G, x = .ref a ∧ DicAt H a rows ∧ nkL ks = some (rows.map (·.1)) ∧ RepL K H (Own W F) ks (rows.map (·.2.1)) z0 ∧ RepL K H (Own W F) vs (rows.map (·.2.2)) G := by
  obtain ⟨G, p⟩ := p
  cases o with
  | false =>
    obtain ⟨p, rows, e, h1, hk, h2, h3, z⟩ := p
    exact ⟨p, rows, G, e, h1.1, hk, h2, h3⟩
  | true =>
    obtain ⟨p, rows, G, e, h1, hk, h2, h3, z⟩ := p
    exact ⟨p, rows, G, e, .inl h1, hk, h2, h3⟩
theorem nkL_len : ∀ {ks : List D} {qs : List NestedKey}, nkL ks = some qs → qs.length = ks.length
  | [], _, h => by unfold nkL at h; cases h; rfl
  | d :: ds, _, h => by
    unfold nkL at h
    obtain ⟨k, e1, h⟩ := Option.bind_eq_some_iff.mp h
    obtain ⟨ks', e2, rfl⟩ := Option.map_eq_some_iff.mp h
    rw [List.length_cons, List.length_cons, nkL_len e2]
theorem PRep.dget {d k : D} {x y : V} {r : Option D} (p1 : PRep K W H F d x) (p2 : PRep K W H F k y) (e : getK d k = some r) :
    ∃ a u, x = .ref a ∧ DGetX K H a y u ∧ (∀ d', r = some d' → ∃ v, u = some v ∧ PRep K W H F d' v) ∧ (r = none → u = none) := by
  cases d with
  | dic o ks vs =>
    have e : (if homK ks k = true then some (findK ks vs k) else none) = some r := e
    by_cases hom : homK ks k = true
    · rw [if_pos hom] at e
      cases e
      obtain ⟨a, rows, G, rfl, h1, hk, h2, h3⟩ := p1.dic
      obtain ⟨G', p2⟩ := p2
      obtain ⟨q, eq, ko⟩ := kok_of hom hk h2 p2
      have hl : vs.length = ks.length := by
        have l1 := h3.length
        have l2 := nkL_len hk
        rw [List.length_map] at l1 l2
        omega
      obtain ⟨f1, f2⟩ := find_val eq hk h3 hl
      refine ⟨a, valR rows q, rfl, ⟨rows, q, h1, ko, rfl⟩, ?_⟩
      refine ⟨fun d' ef => ?_, f2⟩
      obtain ⟨v, G2, e1, e2, _⟩ := f1 d' ef
      exact ⟨v, e1, G2, e2⟩
    · rw [if_neg hom] at e
      cases e
  | _ => cases e
end
end Tw

set_option Elab.async false
set_option linter.all false
set_option maxRecDepth 100000
set_option maxHeartbeats 4000000
/-! Tw.EvR: a tuple many times over. -/
namespace Tw
open PySem PySem.Spec PyProof.Rows L2

theorem tuple_mul_same (l : Addr) (items : Array Value) (n : Nat) (dd : Option Addr) (sl : Array (Option Value)) (x : Int) (u : Tok) (c0 : (decide (x < -(2 ^ 63)) || decide (x ≥ 2 ^ 63)) = false) (c1 : (items.isEmpty || x == 1) = true) :
    Meets (Builtin.«tuple.__mul__» ⟨[.ref l, .int x u], []⟩) (fun _ R s => s.heap.get? l = some { cls := .type "tuple", dict := dd, data := .seq items n, slots := sl } ∧
      R (.ok (.ret (Value.ref l))) s) :=
  .of_wp fun prog w A R s h => by
    obtain ⟨hp, g, d, tk, os⟩ := s
    obtain ⟨hl, h⟩ := h
    have f1 := AutoSeq1.idx_int
    wp_walk using wpAny_loadPart' hl
    repeat (first
      | (refine wpAny_ite_false (decide_eq_false (by rw [c0]; exact Bool.false_ne_true)) ?_; wp_walk using wpAny_loadPart' hl)
      | (refine wpAny_ite_true (decide_eq_true (by rw [c1])) ?_; wp_walk using wpAny_loadPart' hl))
    exact ⟨_, rfl, h⟩
theorem tuple_mul_none (l : Addr) (items : Array Value) (n : Nat) (dd : Option Addr) (sl : Array (Option Value)) (x : Int) (u : Tok) (c0 : (decide (x < -(2 ^ 63)) || decide (x ≥ 2 ^ 63)) = false) (c1 : (items.isEmpty || x == 1) = false) (c2 : (decide (x ≤ 0) || items.isEmpty) = true) :
    Meets (Builtin.«tuple.__mul__» ⟨[.ref l, .int x u], []⟩) (fun _ R s => s.heap.get? l = some { cls := .type "tuple", dict := dd, data := .seq items n, slots := sl } ∧
      R (.ok (.ret (Value.ref s.heap.objs.size))) { s with heap := s.heap.push { cls := Value.type "tuple", data := Data.seq #[] }, toks := s.toks }) :=
  .of_wp fun prog w A R s h => by
    obtain ⟨hp, g, d, tk, os⟩ := s
    obtain ⟨hl, h⟩ := h
    have f1 := AutoSeq1.idx_int
    wp_walk using wpAny_loadPart' hl
    repeat (first
      | (refine wpAny_ite_false (decide_eq_false (by rw [c0]; exact Bool.false_ne_true)) ?_; wp_walk using wpAny_loadPart' hl)
      | (refine wpAny_ite_false (decide_eq_false (by rw [c1]; exact Bool.false_ne_true)) ?_; wp_walk using wpAny_loadPart' hl)
      | (refine wpAny_ite_true (decide_eq_true (by rw [c2])) ?_; wp_walk using wpAny_loadPart' hl))
    exact ⟨_, rfl, h⟩
def rRepS (K : PySem.W.Frag) : R2 := fun x y H Q => ∃ l k xs, x = .ref l ∧ y = .int k ∧ SqT K H l xs ∧ -(2 ^ 63) ≤ k ∧ k < 2 ^ 63 ∧ (((xs = [] ∨ k = 1) ∧ Q (.ref l) H) ∨ (xs ≠ [] ∧ k ≤ 0 ∧ ∀ p, H p = none → Q (.ref p) (upd H p (.tup []))))
section
variable {X : Cx}
theorem op_repS : OpR X (binaryOp .Mult) (rRepS X.K) := by
  intro pins s σ H x y v u Q I rx ry h
  obtain ⟨l, k, xs, rfl, rfl, hT, h1, h2, q⟩ := h
  cases rx
  obtain ⟨t, rfl⟩ := ry
  obtain ⟨its, r, ⟨⟨cls, dd, data, sl⟩, ho, hc, n, hd⟩, hs⟩ := I.tuple hT
  simp only at hc hd
  subst hc hd
  have hle : its.length = xs.length := r.length.symm
  have c0 : (decide (k < -(2 ^ 63)) || decide (k ≥ 2 ^ 63)) = false := by
    rw [decide_eq_false (by omega), decide_eq_false (by omega)] <;> rfl
  have emp : its.toArray.isEmpty = decide (xs = []) := by
    cases its with
    | nil =>
      have : xs = [] := List.eq_nil_of_length_eq_zero hle.symm
      rw [this]; rfl
    | cons a b =>
      cases xs with
      | nil => cases hle
      | cons a b => rfl
  rcases q with ⟨hx, q⟩ | ⟨hne, hk, q⟩
  · have c1 : (its.toArray.isEmpty || k == 1) = true := by
      rcases hx with hx | hx
      · rw [emp, hx]; rfl
      · rw [hx]; simp
    refine wpAny_binaryOp_repeat_ref (T := "tuple") (U := "int") (by decide) ⟨_, ho, rfl⟩ (fun s' => typeIs_int s' k t) noFill_tuple_mul F.fills_int_mul F.slot_int_rmul repeat_tuple F.slot_int_index.lookup
      (call_meets F.slot_int_rmul (typeIs_int s k t) F.entry_int_rmul (F.args_int_rmul_2 _ _) (int_rmul_tuple k t l its.toArray n dd sl)
        ⟨ho, rfl, ⟨_, ho, rfl⟩, call_meets F.slot_tuple_mul ⟨_, ho, rfl⟩ F.entry_tuple_mul (F.args_tuple_mul_2 _ _) (tuple_mul_same l its.toArray n dd sl k t c0 c1) ⟨ho, ?_⟩⟩)
    exact ⟨.ref l, _, I, rfl, q⟩
  · have c1 : (its.toArray.isEmpty || k == 1) = false := by
      rw [emp, decide_eq_false hne, Bool.false_or]
      exact beq_eq_false_iff_ne.mpr (by omega)
    have c2 : (decide (k ≤ 0) || its.toArray.isEmpty) = true := by
      rw [decide_eq_true hk]; rfl
    refine wpAny_binaryOp_repeat_ref (T := "tuple") (U := "int") (by decide) ⟨_, ho, rfl⟩ (fun s' => typeIs_int s' k t) noFill_tuple_mul F.fills_int_mul F.slot_int_rmul repeat_tuple F.slot_int_index.lookup
      (call_meets F.slot_int_rmul (typeIs_int s k t) F.entry_int_rmul (F.args_int_rmul_2 _ _) (int_rmul_tuple k t l its.toArray n dd sl)
        ⟨ho, rfl, ⟨_, ho, rfl⟩, call_meets F.slot_tuple_mul ⟨_, ho, rfl⟩ F.entry_tuple_mul (F.args_tuple_mul_2 _ _) (tuple_mul_none l its.toArray n dd sl k t c0 c1 c2) ⟨ho, ?_⟩⟩)
    refine ⟨.ref s.heap.objs.size, _, I.laid (t' := s.toks) (o := .tup []) (fun b ob q => Heap.get?_push_of_some _ q) (Nat.le_refl _) ?_, rfl, q _ (I.hok.fresh (Nat.le_refl _))⟩
    exact ⟨Nat.zero_le _, [], .nil, IsTup.new _ _⟩
end
end Tw

set_option Elab.async false
set_option linter.all false
set_option maxRecDepth 100000
/-! Tw.EvE: operations by values. -/
namespace Tw
open PySem PySem.Spec PyProof.Rows L2

theorem PRep.int {K : PySem.W.Frag} {W : Wd} {H : Hp} {F : Ct} {i : Int} {v : V} (p : PRep K W H F (.int i) v) : v = .int i := by
  obtain ⟨G, h⟩ := p; exact h.1
theorem PRep.bl {K : PySem.W.Frag} {W : Wd} {H : Hp} {F : Ct} {i : Bool} {v : V} (p : PRep K W H F (.bl i) v) : v = .bl i := by
  obtain ⟨G, h⟩ := p; exact h.1
theorem PRep.str {K : PySem.W.Frag} {W : Wd} {H : Hp} {F : Ct} {i : Str} {v : V} (p : PRep K W H F (.str i) v) : v = .str i := by
  obtain ⟨G, h⟩ := p; exact h.1
theorem PRep.tup {K : PySem.W.Frag} {W : Wd} {H : Hp} {F : Ct} {ds : List D} {v : V} (p : PRep K W H F (.tup ds) v) : ∃ a vs, v = .ref a ∧ SqT K H a vs ∧ RepL K H (Own W F) ds vs z0 := by
  obtain ⟨G, p, vs, e, h1, h2, z⟩ := p
  exact ⟨p, vs, e, h1, RepL.ct h2 fun a => (z a).symm⟩
/-- a list, whoever owns it -/
theorem PRep.lst {K : PySem.W.Frag} {W : Wd} {H : Hp} {F : Ct} {o : Bool} {ds : List D} {v : V} (p : PRep K W H F (.lst o ds) v) : ∃ a vs G, v = .ref a ∧ H a = some (.lst vs) ∧ RepL K H (Own W F) ds vs G := by
  obtain ⟨G, p⟩ := p
  cases o with
  | false =>
    obtain ⟨p, vs, e, h1, h2, z⟩ := p
    exact ⟨p, vs, G, e, h1.1, h2⟩
  | true =>
    obtain ⟨p, vs, G, e, h1, h2, z⟩ := p
    exact ⟨p, vs, G, e, h1, h2⟩
theorem RepL.z {K : PySem.W.Frag} {H : Hp} {O : Addr → Prop} {ds : List D} {vs : List V} {G : Ct} (h : RepL K H O ds vs G) (z : frzL ds = true) : RepL K H O ds vs z0 :=
  RepL.ct h fun a => (RepL.frz0 ds vs G h z a).symm
theorem Rep.z {K : PySem.W.Frag} {H : Hp} {O : Addr → Prop} {ds : D} {vs : V} {G : Ct} (h : Rep K H O ds vs G) (z : frz ds = true) : Rep K H O ds vs z0 :=
  Rep.ct h fun a => (Rep.frz0 ds vs G h z a).symm
theorem RepL.frz_of {K : PySem.W.Frag} {H : Hp} {O : Addr → Prop} {ds : List D} {vs : List V} (h : RepL K H O ds vs z0) : frzL ds = true := RepL.of0 ds vs z0 h fun _ => rfl
/-- a tuple that stands -/
theorem PRep.ofT {K : PySem.W.Frag} {W : Wd} {H : Hp} {F : Ct} {ds : List D} {p : Addr} {vs : List V} (h : SqT K H p vs) (r : RepL K H (Own W F) ds vs z0) : PRep K W H F (.tup ds) (.ref p) :=
  ⟨z0, p, vs, rfl, h, r, fun _ => rfl⟩
theorem szOk_le {n : Nat} (h : szOk n = true) : n ≤ sizeLine := of_decide_eq_true h

section
variable {K : PySem.W.Frag}
theorem ops_intop {r : R2} {C : Int → Int → Prop} {g : Int → Int → Int} {f : D → D → Option D} (hf : ∀ dx dy d, f dx dy = some d → ∃ i j, dx = .int i ∧ dy = .int j ∧ C i j ∧ d = .int (g i j))
    (hr : ∀ i j H Q, C i j → Q (.int (g i j)) H → r (.int i) (.int j) H Q) : OpS K f r := by
  intro W H σD σV T F dx dy d x y Q gd p1 p2 e kk
  obtain ⟨i, j, rfl, rfl, c, rfl⟩ := hf _ _ _ e
  rw [p1.int, p2.int]
  exact hr i j H Q c (kk _ H F (gd.scal ⟨rfl, fun _ => rfl⟩) Ext.refl)
theorem ops_sub : OpS K opSub (rI0 fun i j => .int (i - j)) := ops_intop (C := fun _ _ => True) (g := fun i j => i - j)
  (fun dx dy d h => by
    unfold opSub at h; split at h
    · exact ⟨_, _, rfl, rfl, trivial, (Option.some.inj h).symm⟩
    · cases h) fun i j H Q _ q => ⟨i, j, rfl, rfl, q⟩
def rMulA (K : PySem.W.Frag) : R2 := fun x y H Q => ((rI CMul (fun i j => .int (i * j)) x y H Q ∨ rRepS K x y H Q) ∨ rRepT K x y H Q) ∨ rRep x y H Q
theorem RepL.rep {K : PySem.W.Frag} {H : Hp} {O : Addr → Prop} {ds : List D} {vs : List V} (r : RepL K H O ds vs z0) : ∀ k : Nat, RepL K H O (List.replicate k ds).flatten (List.replicate k vs).flatten z0
  | 0 => ⟨rfl, fun _ => rfl⟩
  | k + 1 => by
    rw [List.replicate_succ, List.replicate_succ, List.flatten_cons, List.flatten_cons]
    exact RepL.ct (r.append (RepL.rep r k)) fun _ => rfl
theorem ops_mul : OpS K opMul (rMulA K) := by
  intro W H σD σV T F dx dy d x y Q gd p1 p2 e kk
  unfold opMul at e
  split at e
  · rename_i i j
    split at e
    · rename_i hm
      cases e
      rw [p1.int, p2.int]
      refine .inl (.inl (.inl ⟨i, j, rfl, rfl, ?_, kk _ H F (gd.scal ⟨rfl, fun _ => rfl⟩) Ext.refl⟩))
      unfold mulOk at hm
      rw [Bool.or_eq_true, decide_eq_true_eq, decide_eq_true_eq] at hm
      rcases hm with hm | hm
      · left; omega
      · right; omega
    · cases e
  · rename_i xs k
    split at e
    · rename_i hm
      cases e
      unfold repOk at hm
      simp only [Bool.and_eq_true, decide_eq_true_eq] at hm
      obtain ⟨a, vs, rfl, h1, r1⟩ := p1.tup
      have l1 := r1.length
      rw [p2.int]
      by_cases hs : vs = [] ∨ k = 1
      · refine .inl (.inl (.inr ⟨a, k, vs, rfl, rfl, h1, hm.1, by omega, .inl ⟨hs, ?_⟩⟩))
        have : repD xs k = xs := by
          unfold repD
          rcases hs with hs | hs
          · subst hs
            have : xs = [] := List.eq_nil_of_length_eq_zero l1.symm
            subst this
            simp
          · subst hs; simp
        rw [this] at kk
        exact kk _ H F (gd.pushP p1 (by unfold frz; exact r1.frz_of)) Ext.refl
      · rw [not_or] at hs
        by_cases h0 : k ≤ 0
        · refine .inl (.inl (.inr ⟨a, k, vs, rfl, rfl, h1, hm.1, by omega, .inr ⟨hs.1, h0, fun p hp => ?_⟩⟩))
          have : repD xs k = [] := by
            unfold repD
            rw [Int.toNat_of_nonpos h0]; rfl
          rw [this] at kk
          exact kk _ _ F (gd.newT hp ⟨rfl, fun _ => rfl⟩) (ext_new hp)
        · refine .inl (.inr ⟨a, k, vs, rfl, rfl, h1, hs.1, by omega, hm.2.1, by rw [l1]; exact hm.2.2, fun p hp => ?_⟩)
          exact kk _ _ F (gd.newT hp (r1.rep _)) (ext_new hp)
    · cases e
  · rename_i o xs k
    split at e
    · rename_i hm
      cases e
      unfold repOkL at hm
      simp only [Bool.and_eq_true, decide_eq_true_eq] at hm
      obtain ⟨a, vs, G, rfl, h1, r1⟩ := p1.lst
      have q1 := r1.z hm.2
      rw [p2.int]
      refine .inr ⟨a, k, vs, rfl, rfl, h1, hm.1.1, hm.1.2.1, by rw [r1.length]; exact szOk_le hm.1.2.2, fun p hp => ?_⟩
      exact kk _ _ _ (gd.newL hp (q1.rep _) fun _ => rfl) (ext_newL hp)
    · cases e
  · cases e
theorem op_mulA {X : Cx} : OpR X (binaryOp .Mult) (rMulA X.K) := ((op_mul.or op_repS).or op_repT).or op_rep
theorem ops_div : OpS K opDiv (rI CDiv fun i j => .int (i / j)) := ops_intop (C := CDiv) (g := fun i j => i / j)
  (fun dx dy d h => by
    unfold opDiv at h; split at h
    · split at h
      · rename_i hm
        rw [Bool.and_eq_true, decide_eq_true_eq, decide_eq_true_eq] at hm
        exact ⟨_, _, rfl, rfl, hm, (Option.some.inj h).symm⟩
      · cases h
    · cases h) fun i j H Q c q => ⟨i, j, rfl, rfl, c, q⟩
theorem ops_mod : OpS K opMod (rI (fun _ j => 0 < j) fun i j => .int (i % j)) := ops_intop (C := fun _ j => 0 < j) (g := fun i j => i % j)
  (fun dx dy d h => by
    unfold opMod at h; split at h
    · split at h
      · rename_i hm
        rw [decide_eq_true_eq] at hm
        exact ⟨_, _, rfl, rfl, hm, (Option.some.inj h).symm⟩
      · cases h
    · cases h) fun i j H Q c q => ⟨i, j, rfl, rfl, c, q⟩
theorem ops_pow : OpS K opPow (rI CPow fun i j => .int (i ^ j.toNat)) := ops_intop (C := CPow) (g := fun i j => i ^ j.toNat)
  (fun dx dy d h => by
    unfold opPow at h; split at h
    · split at h
      · rename_i hm
        simp only [Bool.and_eq_true, decide_eq_true_eq] at hm
        exact ⟨_, _, rfl, rfl, hm, (Option.some.inj h).symm⟩
      · cases h
    · cases h) fun i j H Q c q => ⟨i, j, rfl, rfl, c, q⟩
def rAddA (K : PySem.W.Frag) : R2 := fun x y H Q => ((rI0 (fun i j => .int (i + j)) x y H Q ∨ rCatA K x y H Q) ∨ rCat x y H Q) ∨ (∃ i j, x = .str i ∧ y = .str j ∧ i.length + j.length ≤ sizeLine ∧ Q (.str (i ++ j)) H)
theorem ops_add : OpS K opAdd (rAddA K) := by
  intro W H σD σV T F dx dy d x y Q gd p1 p2 e kk
  unfold opAdd at e
  split at e
  · rename_i i j
    cases e
    rw [p1.int, p2.int]
    exact .inl (.inl (.inl ⟨i, j, rfl, rfl, kk _ H F (gd.scal ⟨rfl, fun _ => rfl⟩) Ext.refl⟩))
  · rename_i xs ys
    split at e
    · rename_i hz
      cases e
      obtain ⟨a, vs, rfl, h1, r1⟩ := p1.tup
      obtain ⟨b, us, rfl, h2, r2⟩ := p2.tup
      have l1 := r1.length
      have l2 := r2.length
      refine .inl (.inl (.inr ⟨a, b, vs, us, rfl, rfl, h1, h2, by rw [l1, l2]; exact szOk_le hz, fun z => ?_, fun z1 z => ?_, fun z1 z2 p hp => ?_⟩))
      · subst z
        have : xs = [] := List.eq_nil_of_length_eq_zero l1.symm
        subst this
        exact kk _ H F (gd.pushP p2 (by unfold frz; exact r2.frz_of)) Ext.refl
      · subst z
        have : ys = [] := List.eq_nil_of_length_eq_zero l2.symm
        subst this
        rw [List.append_nil] at kk
        exact kk _ H F (gd.pushP p1 (by unfold frz; exact r1.frz_of)) Ext.refl
      · exact kk _ _ F (gd.newT hp (RepL.ct (r1.append r2) fun _ => rfl)) (ext_new hp)
    · cases e
  · rename_i o1 xs o2 ys
    split at e
    · rename_i hz
      cases e
      simp only [Bool.and_eq_true] at hz
      obtain ⟨a, vs, G1, rfl, h1, r1⟩ := p1.lst
      obtain ⟨b, us, G2, rfl, h2, r2⟩ := p2.lst
      have q1 := r1.z hz.2.1
      have q2 := r2.z hz.2.2
      refine .inl (.inr ⟨a, b, vs, us, rfl, rfl, h1, h2, by rw [r1.length, r2.length]; exact szOk_le hz.1, fun p hp => ?_⟩)
      exact kk _ _ _ (gd.newL hp (RepL.ct (q1.append q2) (F' := z0) fun _ => rfl) fun _ => rfl) (ext_newL hp)
    · cases e
  · rename_i i j
    split at e
    · rename_i hz
      cases e
      rw [p1.str, p2.str]
      exact .inr ⟨i, j, rfl, rfl, szOk_le hz, kk _ H F (gd.scal ⟨rfl, fun _ => rfl⟩) Ext.refl⟩
    · cases e
  · cases e
theorem op_addA {X : Cx} : OpR X (binaryOp .Add) (rAddA X.K) := ((op_add.or op_catA).or op_cat).or op_add_str
end
section
variable {X : Cx} {W : Wd} {ev : Env} {a b : Expr} {ca cb : Sm D} {ga gb : Bool} {pos : Pos}
def binOk : Operator → Bool
  | .Add => true | .Sub => true | .Mult => true | .FloorDiv => true | .Mod => true | .Pow => true
  | _ => false
theorem s_binop {op : Operator} (h : binOk op = true) (ha : PE X a (tP X.K W ev ca ga)) (hb : PE X b (tP X.K W ev cb gb)) : PE X (.BinOp a op b pos) (tE X.K W ev (bin op gb ca cb) (ga && gb)) := by
  cases op
  case Add => exact s_bin op_addA (show OpS X.K (binOp .Add) _ from ops_add) ha hb
  case Sub => exact s_bin op_sub (show OpS X.K (binOp .Sub) _ from ops_sub) ha hb
  case Mult => exact s_bin op_mulA (show OpS X.K (binOp .Mult) _ from ops_mul) ha hb
  case FloorDiv => exact s_bin op_fdiv (show OpS X.K (binOp .FloorDiv) _ from ops_div) ha hb
  case Mod => exact s_bin op_mod (show OpS X.K (binOp .Mod) _ from ops_mod) ha hb
  case Pow => exact s_bin op_pow (show OpS X.K (binOp .Pow) _ from ops_pow) ha hb
  all_goals exact absurd (show false = true from h) Bool.false_ne_true
end
end Tw

set_option Elab.async false
set_option linter.all false
set_option maxRecDepth 100000
/-! Tw.EvF: comparisons, tests, displays, places. -/
namespace Tw
open PySem PySem.Spec PyProof.Rows L2

/-! ### == -/
mutual
theorem Rep.dp {K : PySem.W.Frag} {H : Hp} {O : Addr → Prop} : ∀ (d : D) (v : V) (F : Ct) (n : Nat), Rep K H O d v F → shp n d = true → Dp K H v (toPy d)
  | .non, _, _, _, h, _ => by rw [h.1]; exact .non
  | .bl b, _, _, _, h, _ => by rw [h.1]; exact .bl b
  | .int i, _, _, _, h, _ => by rw [h.1]; exact .int i
  | .str x, _, _, _, h, _ => by rw [h.1]; exact .str x
  | .tup ds, v, F, n, h, k => by
    obtain ⟨p, vs, e, h1, h2, z⟩ := h
    subst e
    cases n with
    | zero => simp [shp] at k
    | succ n => unfold toPy; exact .tup h1 (RepL.dp ds vs F n h2 (by unfold shp at k; exact k))
  | .lst o ds, v, F, n, h, k => by
    cases n with
    | zero => simp [shp] at k
    | succ n =>
      have k' : shpL n ds = true := by unfold shp at k; exact k
      unfold toPy
      cases o with
      | false =>
        obtain ⟨p, vs, e, h1, h2, z⟩ := h
        subst e
        exact .lst (.inl (.inl h1.1)) (RepL.dp ds vs F n h2 k')
      | true =>
        obtain ⟨p, vs, G, e, h1, h2, z⟩ := h
        subst e
        exact .lst (.inl (.inl h1)) (RepL.dp ds vs G n h2 k')
  | .dic _ _ _, _, _, _, _, k => by unfold shp at k; cases k
  | .scr ns, v, F, n, h, k => by unfold shp at k; cases k
theorem RepL.dp {K : PySem.W.Frag} {H : Hp} {O : Addr → Prop} : ∀ (ds : List D) (vs : List V) (F : Ct) (n : Nat), RepL K H O ds vs F → shpL n ds = true → DpAll K H vs (toPyL ds)
  | [], _, _, _, h, _ => by rw [h.1]; exact .nil
  | d :: ds, vs, F, n, h, k => by
    obtain ⟨v, vs', G1, G2, e, h1, h2, z⟩ := h
    unfold shpL at k
    rw [Bool.and_eq_true] at k
    subst e
    unfold toPyL
    exact .cons (Rep.dp d v G1 n h1 k.1) (RepL.dp ds vs' G2 n h2 k.2)
end
mutual
theorem shp_lay : ∀ (d : D) (n : Nat), shp n d = true → (toPy d).canLay0 = true ∧ (toPy d).depth ≤ n
  | .non, n, _ => ⟨rfl, Nat.zero_le _⟩
  | .bl b, n, _ => ⟨rfl, Nat.zero_le _⟩
  | .int i, n, _ => ⟨rfl, Nat.zero_le _⟩
  | .str x, n, k => ⟨by unfold toPy PyData.canLay0; unfold shp at k; exact k, Nat.zero_le _⟩
  | .tup ds, n, k => by
    cases n with
    | zero => simp [shp] at k
    | succ n =>
      have q := shpL_lay ds n (by unfold shp at k; exact k)
      unfold toPy PyData.canLay0 PyData.depth
      exact ⟨q.1, Nat.succ_le_succ q.2⟩
  | .lst _ ds, n, k => by
    cases n with
    | zero => simp [shp] at k
    | succ n =>
      have q := shpL_lay ds n (by unfold shp at k; exact k)
      unfold toPy PyData.canLay0 PyData.depth
      exact ⟨q.1, Nat.succ_le_succ q.2⟩
  | .dic _ _ _, n, k => by unfold shp at k; cases k
  | .scr _, n, k => by unfold shp at k; cases k
theorem shpL_lay : ∀ (ds : List D) (n : Nat), shpL n ds = true → PyData.canLayAll0 (toPyL ds) = true ∧ PyData.depthAll (toPyL ds) ≤ n
  | [], n, _ => ⟨rfl, Nat.zero_le _⟩
  | d :: ds, n, k => by
    unfold shpL at k
    rw [Bool.and_eq_true] at k
    have q1 := shp_lay d n k.1
    have q2 := shpL_lay ds n k.2
    unfold toPyL PyData.canLayAll0 PyData.depthAll
    exact ⟨by rw [q1.1, q2.1]; rfl, Nat.max_le.mpr ⟨q1.2, q2.2⟩⟩
end
theorem shp_shaped {d : D} (h : shp 60 d = true) : SeqAt.shaped (toPy d) = true := by
  have q := shp_lay d 60 h
  unfold SeqAt.shaped
  rw [q.1, decide_eq_true (Nat.le_trans q.2 (by decide))]
  rfl

def CmpS (K : PySem.W.Frag) (f : D → D → Option Bool) (r : R2) : Prop :=
  ∀ (W : Wd) (H : Hp) (F : Ct) (dx dy : D) (b : Bool) (x y : V) (Q : VK), PRep K W H F dx x → PRep K W H F dy y → f dx dy = some b → Q (.bl b) H → r x y H Q
def rEqA (K : PySem.W.Frag) : R2 := fun x y H Q => rEq x y H Q ∨ rEqD K x y H Q
def rNeA (K : PySem.W.Frag) : R2 := fun x y H Q => rNe x y H Q ∨ rNeD K x y H Q
theorem cmps_eq {K : PySem.W.Frag} : CmpS K eqD (rEqA K) := by
  intro W H F dx dy b x y Q p1 p2 e q
  unfold eqD at e
  split at e
  · cases e
    rw [p1.str, p2.str]
    refine .inl ⟨rfl, ?_⟩
    rw [dec_str, Bool.beq_eq_decide_eq]
    exact q
  · split at e
    · rename_i hz
      cases e
      rw [Bool.and_eq_true] at hz
      obtain ⟨G1, r1⟩ := p1
      obtain ⟨G2, r2⟩ := p2
      exact .inr ⟨_, _, Rep.dp _ _ _ 60 r1 hz.1, Rep.dp _ _ _ 60 r2 hz.2, shp_shaped hz.1, shp_shaped hz.2, q⟩
    · cases e
theorem cmps_ne {K : PySem.W.Frag} : CmpS K (fun a b => (eqD a b).map (!·)) (rNeA K) := by
  intro W H F dx dy b x y Q p1 p2 e q
  obtain ⟨c, e', rfl⟩ := Option.map_eq_some_iff.mp e
  clear e
  have e := e'
  clear e'
  unfold eqD at e
  split at e
  · cases e
    rw [p1.str, p2.str]
    refine .inl ⟨rfl, ?_⟩
    rw [dec_str, Bool.beq_eq_decide_eq]
    exact q
  · split at e
    · rename_i hz
      cases e
      rw [Bool.and_eq_true] at hz
      obtain ⟨G1, r1⟩ := p1
      obtain ⟨G2, r2⟩ := p2
      exact .inr ⟨_, _, Rep.dp _ _ _ 60 r1 hz.1, Rep.dp _ _ _ 60 r2 hz.2, shp_shaped hz.1, shp_shaped hz.2, q⟩
    · cases e
theorem cmps_int {K : PySem.W.Frag} (p : Int → Int → Bool) : CmpS K (cmpI p) (rI0 fun i j => .bl (p i j)) := by
  intro W H F dx dy b x y Q p1 p2 e q
  unfold cmpI at e
  split at e
  · cases e
    rw [p1.int, p2.int]
    exact ⟨_, _, rfl, rfl, q⟩
  · cases e
def rDat (K : PySem.W.Frag) (f : PyData → PyData → Bool) : R2 := fun x y H Q => ∃ d e, Dp K H x d ∧ Dp K H y e ∧ PySem.W.alike d e = true ∧ d ≠ .none ∧ d.depth ≤ 60 ∧ Q (.bl (f d e)) H
section
variable {X : Cx} {f : PyData → PyData → Bool}
theorem op_dat {op : CmpOp} (hr : ∀ {A : Around} {E : Value → Shared → Prop} {s : Shared} {a b : Value} {da db : PyData} {as bs : List Addr} {Q : Value → Shared → Prop}, Reads s.heap a da as → Reads s.heap b db bs → PySem.W.alike da db = true → da ≠ .none → A.units + min da.depth db.depth < cLine → Q (.bool (f da db)) s → wpAny (model X.prog X.w) A (compareOp op a b) Q E s)
    (hu : X.A.units + 80 < cLine) : OpR X (compareOp op) (rDat X.K f) := by
  intro pins s σ H x y v u Q I rx ry h
  obtain ⟨d, e, hd, he, al, nn, dp, q⟩ := h
  obtain ⟨as, r1⟩ := Dp.reads I d x v hd rx
  obtain ⟨bs, r2⟩ := Dp.reads I e y u he ry
  exact hr r1 r2 al nn (by omega) ⟨.bl _, H, I, rfl, q⟩
end
theorem toPy_nn {d : D} (h : nnD d = true) : toPy d ≠ .none := by
  cases d <;> first | exact absurd (show false = true from h) Bool.false_ne_true | (unfold toPy; intro e; cases e)
theorem cmps_dat {K : PySem.W.Frag} (p : Int → Int → Bool) (f : PyData → PyData → Bool) : CmpS K (cmpL p f) (fun x y H Q => rI0 (fun i j => .bl (p i j)) x y H Q ∨ rDat K f x y H Q) := by
  intro W H F dx dy b x y Q p1 p2 e q
  unfold cmpL at e
  split at e
  · cases e
    rw [p1.int, p2.int]
    exact .inl ⟨_, _, rfl, rfl, q⟩
  · split at e
    · rename_i hz
      cases e
      simp only [Bool.and_eq_true] at hz
      obtain ⟨G1, r1⟩ := p1
      obtain ⟨G2, r2⟩ := p2
      exact .inr ⟨toPy dx, toPy dy, Rep.dp _ _ _ 60 r1 hz.1, Rep.dp _ _ _ 60 r2 hz.2.1, hz.2.2.1, toPy_nn hz.2.2.2, (shp_lay dx 60 hz.1).2, q⟩
    · cases e
def cmpOk : CmpOp → Bool
  | .Eq => true | .NotEq => true | .Lt => true | .LtE => true | .Gt => true | .GtE => true | .In => true | .NotIn => true
  | _ => false
def noSet : Expr → Bool
  | .Set _ _ _ => false
  | _ => true
/-- the operation's rule and what it says of trees -/
theorem flat_V {K : PySem.W.Frag} {H : Hp} {O : Addr → Prop} {d : D} {v : V} {F : Ct} (h : flatD d = true) (r : Rep K H O d v F) : flatV v = true := by
  cases d <;> first | (rw [r.1]; rfl) | cases h
theorem eq_flat {K : PySem.W.Frag} {H : Hp} {O : Addr → Prop} {d e : D} {v u : V} {F G : Ct} (h : flatD d = true) (h' : flatD e = true) (r : Rep K H O d v F) (r' : Rep K H O e u G) : eqV v u = PyData.eqv (toPy d) (toPy e) := by
  cases d <;> first | (cases h; done) | (cases e <;> first | (cases h'; done) | (rw [r.1, r'.1]; unfold toPy PyData.eqv eqV; rfl))
theorem in_flat {K : PySem.W.Frag} {H : Hp} {O : Addr → Prop} {x : D} {v : V} {G : Ct} (hx : flatD x = true) (rx : Rep K H O x v G) : ∀ {ds : List D} {vs : List V} {F : Ct}, RepL K H O ds vs F → ds.all flatD = true → vs.all flatV = true ∧ inV v vs = ds.any fun y => PyData.eqv (toPy y) (toPy x)
  | [], vs, F, r, _ => by rw [r.1]; exact ⟨rfl, rfl⟩
  | d :: ds, vs, F, r, h => by
    rw [List.all_cons, Bool.and_eq_true] at h
    obtain ⟨u, vs', G1, G2, rfl, r1, r2, _⟩ := r
    obtain ⟨i1, i2⟩ := in_flat hx rx r2 h.2
    refine ⟨by rw [List.all_cons, flat_V h.1 r1, i1]; rfl, ?_⟩
    unfold inV at i2 ⊢
    rw [List.any_cons, List.any_cons, i2, eq_flat h.1 hx r1 rx]
theorem any_toPy {x : PyData} : ∀ ds : List D, (toPyL ds).any (fun z => PyData.eqv z x) = ds.any fun y => PyData.eqv (toPy y) x
  | [] => by unfold toPyL; rfl
  | d :: ds => by unfold toPyL; rw [List.any_cons, List.any_cons, any_toPy ds]
def rInA (K : PySem.W.Frag) : R2 := fun x y H Q => rInX K false x y H Q ∨ (rInD K x y H Q ∨ rIn K false x y H Q)
def rNotInA (K : PySem.W.Frag) : R2 := fun x y H Q => rInX K true x y H Q ∨ (rNotInD K x y H Q ∨ rIn K true x y H Q)
theorem cmps_in {K : PySem.W.Frag} : CmpS K inD (rInA K) := by
  intro W H F dx dy b x y Q p1 p2 e q
  cases dy with
  | dic o ks vs =>
    obtain ⟨r, e1, e2⟩ := Option.map_eq_some_iff.mp (show (getK (.dic o ks vs) dx).map (·.isSome) = some b from e)
    obtain ⟨a, u, ea, g, k1, k2⟩ := PRep.dget p2 p1 e1
    refine .inl ⟨a, u, ea, g, ?_⟩
    have : u.isSome = b := by
      cases r with
      | some d' => obtain ⟨v, e3, _⟩ := k1 d' rfl; rw [e3]; exact e2
      | none => rw [k2 rfl]; exact e2
    rw [if_neg Bool.false_ne_true, this]
    exact q
  | lst o xs =>
    have e : (if (shp 60 dx && shp 60 (.lst o xs)) = true then some (xs.any fun y => PyData.eqv (toPy y) (toPy dx)) else none) = some b := e
    split at e
    · rename_i hz
      cases e
      rw [Bool.and_eq_true] at hz
      obtain ⟨G1, r1⟩ := p1
      obtain ⟨G2, r2⟩ := p2
      have dp2 := Rep.dp _ _ _ 60 r2 hz.2
      have sh2 := shp_shaped hz.2
      have ey : toPy (.lst o xs) = .list (toPyL xs) := by unfold toPy; rfl
      rw [ey] at dp2 sh2
      exact .inr (.inl ⟨_, _, Rep.dp _ _ _ 60 r1 hz.1, dp2, shp_shaped hz.1, sh2, by rw [any_toPy]; exact q⟩)
    · cases e
  | tup xs =>
    have e : (if (flatD dx && xs.all flatD) = true then some (xs.any fun y => PyData.eqv (toPy y) (toPy dx)) else none) = some b := e
    split at e
    · rename_i hz
      cases e
      rw [Bool.and_eq_true] at hz
      obtain ⟨G1, r1⟩ := p1
      obtain ⟨a, vs, rfl, h1, r2⟩ := p2.tup
      obtain ⟨i1, i2⟩ := in_flat hz.1 r1 r2 hz.2
      refine .inr (.inr ⟨a, vs, rfl, .inr h1, flat_V hz.1 r1, i1, ?_⟩)
      rw [if_neg Bool.false_ne_true, i2]
      exact q
    · cases e
  | _ => cases e
theorem cmps_notIn {K : PySem.W.Frag} : CmpS K (fun a b => (inD a b).map (!·)) (rNotInA K) := by
  intro W H F dx dy b x y Q p1 p2 e q
  obtain ⟨b0, e', rfl⟩ := Option.map_eq_some_iff.mp e
  clear e
  have e := e'
  clear e'
  cases dy with
  | dic o ks vs =>
    obtain ⟨r, e1, e2⟩ := Option.map_eq_some_iff.mp (show (getK (.dic o ks vs) dx).map (·.isSome) = some b0 from e)
    obtain ⟨a, u, ea, g, k1, k2⟩ := PRep.dget p2 p1 e1
    refine .inl ⟨a, u, ea, g, ?_⟩
    have : u.isSome = b0 := by
      cases r with
      | some d' => obtain ⟨v, e3, _⟩ := k1 d' rfl; rw [e3]; exact e2
      | none => rw [k2 rfl]; exact e2
    rw [if_pos rfl, this]
    exact q
  | lst o xs =>
    have e : (if (shp 60 dx && shp 60 (.lst o xs)) = true then some (xs.any fun y => PyData.eqv (toPy y) (toPy dx)) else none) = some b0 := e
    split at e
    · rename_i hz
      cases e
      rw [Bool.and_eq_true] at hz
      obtain ⟨G1, r1⟩ := p1
      obtain ⟨G2, r2⟩ := p2
      have dp2 := Rep.dp _ _ _ 60 r2 hz.2
      have sh2 := shp_shaped hz.2
      have ey : toPy (.lst o xs) = .list (toPyL xs) := by unfold toPy; rfl
      rw [ey] at dp2 sh2
      exact .inr (.inl ⟨_, _, Rep.dp _ _ _ 60 r1 hz.1, dp2, shp_shaped hz.1, sh2, by rw [any_toPy]; exact q⟩)
    · cases e
  | tup xs =>
    have e : (if (flatD dx && xs.all flatD) = true then some (xs.any fun y => PyData.eqv (toPy y) (toPy dx)) else none) = some b0 := e
    split at e
    · rename_i hz
      cases e
      rw [Bool.and_eq_true] at hz
      obtain ⟨G1, r1⟩ := p1
      obtain ⟨a, vs, rfl, h1, r2⟩ := p2.tup
      obtain ⟨i1, i2⟩ := in_flat hz.1 r1 r2 hz.2
      refine .inr (.inr ⟨a, vs, rfl, .inr h1, flat_V hz.1 r1, i1, ?_⟩)
      rw [if_pos rfl, i2]
      exact q
    · cases e
  | _ => cases e
theorem cmp_rule {X : Cx} (hu : X.A.units + 80 < cLine) : ∀ {op : CmpOp}, cmpOk op = true → ∃ r, OpR X (compareOp op) r ∧ CmpS X.K (cmpOp op) r
  | .Eq, _ => ⟨_, op_eq.or (op_eqD (by omega)), cmps_eq⟩
  | .NotEq, _ => ⟨_, op_ne.or (op_neD (by omega)), cmps_ne⟩
  | .Lt, _ => ⟨_, op_lt.or (op_dat (f := PySem.W.dataLt) PySem.W.lt_data hu), cmps_dat (fun a b => decide (a < b)) (PySem.W.dataLt)⟩
  | .LtE, _ => ⟨_, op_le.or (op_dat (f := fun x y => !PySem.W.dataLt y x) PySem.W.le_data hu), cmps_dat (fun a b => decide (a ≤ b)) (fun x y => !PySem.W.dataLt y x)⟩
  | .Gt, _ => ⟨_, op_gt.or (op_dat (f := fun x y => PySem.W.dataLt y x) PySem.W.gt_data hu), cmps_dat (fun a b => decide (b < a)) (fun x y => PySem.W.dataLt y x)⟩
  | .GtE, _ => ⟨_, op_ge.or (op_dat (f := fun x y => !PySem.W.dataLt x y) PySem.W.ge_data hu), cmps_dat (fun a b => decide (b ≤ a)) (fun x y => !PySem.W.dataLt x y)⟩
  | .Is, h => absurd (show false = true from h) Bool.false_ne_true
  | .IsNot, h => absurd (show false = true from h) Bool.false_ne_true
  | .In, _ => ⟨_, (op_inX (by omega)).or ((op_inD (by omega)).or op_in_seq), cmps_in⟩
  | .NotIn, _ => ⟨_, (op_notInX (by omega)).or ((op_notInD (by omega)).or op_notIn_seq), cmps_notIn⟩
theorem cmpOk_mark {op : CmpOp} {b : Expr} (h : noSet b = true) : behindInMarks op b = false := by
  cases b <;> first | rfl | cases h

section
variable {X : Cx} {W : Wd} {ev : Env} {a b e e1 : Expr} {ca cb : Sm D} {ga gb g g1 : Bool} {pos : Pos} {c c1 : Sm Bool}
theorem tB.imp {K : PySem.W.Frag} {σ : L2.St} {H : Hp} {Q Q' : Bool → Hp → Prop} (q : tB K W ev c g σ H Q) (h : ∀ b H', Q b H' → Q' b H') : tB K W ev c g σ H Q' := by
  obtain ⟨σD, T, F, gd, d, σD', ec, kk⟩ := q
  exact ⟨σD, T, F, gd, d, σD', ec, fun H' F' g' x => h _ _ (kk H' F' g' x)⟩
/-- two operands looked at, a bool -/
theorem twoB {K : PySem.W.Frag} {f : D → D → Option Bool} {r : R2} {σ : L2.St} {H : Hp} {Q : VK} (hs : CmpS K f r)
    (q : tB K W ev (bnd ca fun x => bnd cb fun y => grd (gb || frz x) (lift (f x y))) (ga && gb) σ H fun b H' => Q (.bl b) H') :
    tOp r (tP K W ev ca ga) (tP K W ev cb gb) σ H Q := by
  obtain ⟨σD, T, F, gd, d, σD', ec, kk⟩ := q
  obtain ⟨dx, s1, e1, ec⟩ := bnd_ok ec
  obtain ⟨dy, s2, e2, ec⟩ := bnd_ok ec
  obtain ⟨hg, ec⟩ := grd_ok ec
  obtain ⟨hf, e3⟩ := lift_ok ec
  subst e3
  refine ⟨σD, T, F, gd, dx, s1, e1, fun x H1 F1 g1 p1 x1 => ?_⟩
  by_cases hz : frz dx = true
  · refine ⟨s1, (dx, x) :: T, F1, g1.pushP p1 hz, dy, _, e2, fun y H2 F2 g2 p2 x2 => ?_⟩
    obtain ⟨G, F3, r3, g3, z3⟩ := g2.pop
    have G0 : ∀ a, G a = 0 := Rep.frz0 dx x G r3 hz
    have e3 : F3 = F2 := funext fun a => by rw [z3 a, G0 a]; omega
    subst e3
    exact hs W H2 F3 dx dy d x y _ ⟨G, r3⟩ p2 hf (kk H2 F3 g3 fun h => by rw [Bool.and_eq_true] at h; exact (x1 h.1).trans (x2 h.2))
  · have hb : gb = true := by
      rw [Bool.or_eq_true] at hg
      rcases hg with h | h
      · exact h
      · exact absurd h hz
    refine ⟨s1, T, F1, g1, dy, _, e2, fun y H2 F2 g2 p2 x2 => ?_⟩
    exact hs W H2 F2 dx dy d x y _ (p1.ext (x2 hb)) p2 hf (kk H2 F2 g2 fun h => by rw [Bool.and_eq_true] at h; exact (x1 h.1).trans (x2 h.2))
theorem st_cmp {op : CmpOp} (h : cmpOk op = true) (hns : noSet b = true) (hu : X.A.units + 80 < cLine) (ha : PE X a (tP X.K W ev ca ga)) (hb : PE X b (tP X.K W ev cb gb)) : PT X (.Compare a [op] [b] pos) (tB X.K W ev (cmp op gb ca cb) (ga && gb)) := by
  obtain ⟨r, ho, hs⟩ := cmp_rule (X := X) hu h
  exact PT.imp (pt_cmpR ho ha hb (cmpOk_mark hns)) fun σ H Q q => twoB hs (q.imp fun b H' k => ⟨b, rfl, k⟩)
/-- a bool as a value -/
theorem tB_E {K : PySem.W.Frag} {σ : L2.St} {H : Hp} {Q : VK} (q : tE K W ev (blE c) g σ H Q) : tB K W ev c g σ H (fun b H' => Q (.bl b) H') := by
  obtain ⟨σD, T, F, gd, d, σD', ec, kk⟩ := q
  obtain ⟨b, s1, e1, ec⟩ := bnd_ok ec
  obtain ⟨rfl, rfl⟩ := ret_ok ec
  exact ⟨σD, T, F, gd, b, σD', e1, fun H' F' g' x => kk (.bl b) H' F' (g'.scal ⟨rfl, fun _ => rfl⟩) x⟩
theorem s_cmp {op : CmpOp} (h : cmpOk op = true) (hns : noSet b = true) (hu : X.A.units + 80 < cLine) (ha : PE X a (tP X.K W ev ca ga)) (hb : PE X b (tP X.K W ev cb gb)) : PE X (.Compare a [op] [b] pos) (tE X.K W ev (blE (cmp op gb ca cb)) (ga && gb)) := by
  obtain ⟨r, ho, hs⟩ := cmp_rule (X := X) hu h
  exact PE.imp (pe_cmpR ho ha hb (cmpOk_mark hns)) fun σ H Q q => twoB hs (tB_E q)
/-- a op b op c: b is taken once -/
theorem s_tests {cT : Sm Bool} (h : PT X e (tB X.K W ev cT g)) : True := trivial
/-! ### is None, is True -/
theorem PRep.non_iff {K : PySem.W.Frag} {W : Wd} {H : Hp} {F : Ct} {d : D} {v : V} (p : PRep K W H F d v) : decide (v = .non) = isNonD d := by
  obtain ⟨G, p⟩ := p
  cases d with
  | non => rw [p.1]; rfl
  | bl b => rw [p.1]; rfl
  | int b => rw [p.1]; rfl
  | str b => rw [p.1]; rfl
  | tup ds => obtain ⟨a, vs, rfl, _⟩ := p; rfl
  | lst o ds =>
    cases o with
    | true => obtain ⟨a, vs, G, rfl, _⟩ := p; rfl
    | false => obtain ⟨a, vs, rfl, _⟩ := p; rfl
  | dic o a b =>
    cases o with
    | true => obtain ⟨a, rows, G, rfl, _⟩ := p; rfl
    | false => obtain ⟨a, rows, rfl, _⟩ := p; rfl
  | scr ns => obtain ⟨a, rfl, _⟩ := p; rfl
theorem tB_isN {K : PySem.W.Frag} {σ : L2.St} {H : Hp} {Q : VK} (q : tB K W ev (isN ca) ga σ H fun b H' => Q (.bl b) H') : tIsN (tP K W ev ca ga) σ H Q := by
  obtain ⟨σD, T, F, gd, d, σD', ec, kk⟩ := q
  obtain ⟨dx, s1, e1, ec⟩ := bnd_ok ec
  refine ⟨σD, T, F, gd, dx, s1, e1, fun x H1 F1 g1 p1 x1 => ?_⟩
  dsimp only
  rw [p1.non_iff]
  obtain ⟨rfl, rfl⟩ := ret_ok ec
  exact kk H1 F1 g1 x1
theorem tB_notN {K : PySem.W.Frag} {σ : L2.St} {H : Hp} {Q : VK} (q : tB K W ev (notB (isN ca)) ga σ H fun b H' => Q (.bl b) H') : tNotN (tP K W ev ca ga) σ H Q := by
  obtain ⟨σD, T, F, gd, d, σD', ec, kk⟩ := q
  obtain ⟨b, s0, ec, e0⟩ := bnd_ok ec
  obtain ⟨rfl, rfl⟩ := ret_ok e0
  obtain ⟨dx, s1, e1, ec⟩ := bnd_ok ec
  refine ⟨σD, T, F, gd, dx, s1, e1, fun x H1 F1 g1 p1 x1 => ?_⟩
  dsimp only
  rw [p1.non_iff]
  obtain ⟨rfl, rfl⟩ := ret_ok ec
  exact kk H1 F1 g1 x1
theorem st_isN {j pos'} (ha : PE X a (tP X.K W ev ca ga)) : PT X (.Compare a [.Is] [.Constant .none j pos'] pos) (tB X.K W ev (isN ca) ga) :=
  PT.imp (pt_cmp (pc_isN ha) rfl) fun σ H Q q => tB_isN (q.imp fun b H' k => ⟨b, rfl, k⟩)
theorem s_isN {j pos'} (ha : PE X a (tP X.K W ev ca ga)) : PE X (.Compare a [.Is] [.Constant .none j pos'] pos) (tE X.K W ev (blE (isN ca)) ga) :=
  PE.imp (pe_cmp (pc_isN ha) rfl) fun σ H Q q => tB_isN (tB_E q)
theorem tB_not {K : PySem.W.Frag} {σ : L2.St} {H : Hp} {Q : Bool → Hp → Prop} (q : tB K W ev (notB c) g σ H Q) : tB K W ev c g σ H fun b H' => Q (!b) H' := by
  obtain ⟨σD, T, F, gd, d, σD', ec, kk⟩ := q
  obtain ⟨b, s1, e1, ec⟩ := bnd_ok ec
  obtain ⟨rfl, rfl⟩ := ret_ok ec
  exact ⟨σD, T, F, gd, b, σD', e1, fun H' F' g' x => kk H' F' g' x⟩
theorem st_notN {j pos'} (ha : PE X a (tP X.K W ev ca ga)) : PT X (.Compare a [.IsNot] [.Constant .none j pos'] pos) (tB X.K W ev (notB (isN ca)) ga) :=
  PT.imp (pt_cmp (pc_notN ha) rfl) fun σ H Q q => tB_notN (q.imp fun b H' k => ⟨b, rfl, k⟩)
theorem s_notN {j pos'} (ha : PE X a (tP X.K W ev ca ga)) : PE X (.Compare a [.IsNot] [.Constant .none j pos'] pos) (tE X.K W ev (blE (notB (isN ca))) ga) :=
  PE.imp (pe_cmp (pc_notN ha) rfl) fun σ H Q q => tB_notN (tB_E q)
/-! ### not, and, or, if else -/
theorem st_not (h : PT X e (tB X.K W ev c g)) : PT X (.UnaryOp .Not e pos) (tB X.K W ev (notB c) g) := PT.imp (pt_not h) fun σ H Q q => tB_not q
/-- a value that is a bool, as a test -/
theorem st_val (h : PE X e (tE X.K W ev ca ga)) (he : ∀ whole, isTrue e X.env whole = (do let v ← whole; standAt e.pos; holding [v] (truthy v))) : PT X e (tB X.K W ev (asB ca) ga) :=
  PT.imp (pt_val (toP h) he) fun σ H Q q => by
    obtain ⟨σD, T, F, gd, d, σD', ec, kk⟩ := q
    obtain ⟨dx, s1, e1, ec⟩ := bnd_ok ec
    refine ⟨σD, T, F, gd, dx, s1, e1, fun x H1 F1 g1 p1 x1 => ?_⟩
    cases dx with
    | bl b =>
      obtain ⟨rfl, rfl⟩ := ret_ok ec
      exact ⟨_, p1.bl, kk H1 F1 g1 x1⟩
    | _ => cases ec
theorem tB_and {K : PySem.W.Frag} {σ : L2.St} {H : Hp} {Q : Bool → Hp → Prop} (q : tB K W ev (andB c c1) (g && g1) σ H Q) : tAnd (tB K W ev c g) (tB K W ev c1 g1) σ H Q := by
  obtain ⟨σD, T, F, gd, d, σD', ec, kk⟩ := q
  obtain ⟨b, s1, e1, ec⟩ := bnd_ok ec
  refine ⟨σD, T, F, gd, b, s1, e1, fun H1 F1 g1' x1 => ?_⟩
  cases b with
  | true =>
    rw [if_pos rfl] at ec ⊢
    exact ⟨s1, T, F1, g1', d, σD', ec, fun H2 F2 g2 x2 => kk H2 F2 g2 fun h => by rw [Bool.and_eq_true] at h; exact (x1 h.1).trans (x2 h.2)⟩
  | false =>
    rw [if_neg Bool.false_ne_true] at ec ⊢
    obtain ⟨rfl, rfl⟩ := ret_ok ec
    exact kk H1 F1 g1' fun h => by rw [Bool.and_eq_true] at h; exact x1 h.1
theorem tB_or {K : PySem.W.Frag} {σ : L2.St} {H : Hp} {Q : Bool → Hp → Prop} (q : tB K W ev (orB c c1) (g && g1) σ H Q) : tOr (tB K W ev c g) (tB K W ev c1 g1) σ H Q := by
  obtain ⟨σD, T, F, gd, d, σD', ec, kk⟩ := q
  obtain ⟨b, s1, e1, ec⟩ := bnd_ok ec
  refine ⟨σD, T, F, gd, b, s1, e1, fun H1 F1 g1' x1 => ?_⟩
  cases b with
  | false =>
    rw [if_neg Bool.false_ne_true] at ec ⊢
    exact ⟨s1, T, F1, g1', d, σD', ec, fun H2 F2 g2 x2 => kk H2 F2 g2 fun h => by rw [Bool.and_eq_true] at h; exact (x1 h.1).trans (x2 h.2)⟩
  | true =>
    rw [if_pos rfl] at ec ⊢
    obtain ⟨rfl, rfl⟩ := ret_ok ec
    exact kk H1 F1 g1' fun h => by rw [Bool.and_eq_true] at h; exact x1 h.1
theorem sw_and {rest : List Expr} (ha : PT X a (tB X.K W ev c g)) (hb : PW X (.BoolOp .And (b :: rest) pos) (tB X.K W ev c1 g1)) : PW X (.BoolOp .And (a :: b :: rest) pos) (tB X.K W ev (andB c c1) (g && g1)) :=
  ⟨fun wh pins s σ H Q I q => (pw_and ha hb).run wh pins s σ H Q I (tB_and q)⟩
theorem sw_or {rest : List Expr} (ha : PT X a (tB X.K W ev c g)) (hb : PW X (.BoolOp .Or (b :: rest) pos) (tB X.K W ev c1 g1)) : PW X (.BoolOp .Or (a :: b :: rest) pos) (tB X.K W ev (orB c c1) (g && g1)) :=
  ⟨fun wh pins s σ H Q I q => (pw_or ha hb).run wh pins s σ H Q I (tB_or q)⟩
/-! as values: bools -/
theorem tE_asB {K : PySem.W.Frag} {σ : L2.St} {H : Hp} {Q : VK} (q : tE K W ev (blE (asB ca)) ga σ H Q) : tP K W ev ca ga σ H fun x H1 => ∃ k, x = .bl k ∧ Q (.bl k) H1 := by
  obtain ⟨σD, T, F, gd, d, σD', ec, kk⟩ := tB_E q
  obtain ⟨dx, s1, e1, ec⟩ := bnd_ok ec
  refine ⟨σD, T, F, gd, dx, s1, e1, fun x H1 F1 g1 p1 x1 => ?_⟩
  cases dx with
  | bl b =>
    obtain ⟨rfl, rfl⟩ := ret_ok ec
    exact ⟨_, p1.bl, kk H1 F1 g1 x1⟩
  | _ => cases ec
theorem s_not (h : PE X e (tE X.K W ev ca ga)) : PE X (.UnaryOp .Not e pos) (tE X.K W ev (blE (notB (asB ca))) ga) := PE.imp (pe_not (toP h)) fun σ H Q q => by
  obtain ⟨σD, T, F, gd, d, σD', ec, kk⟩ := tB_not (tB_E q)
  obtain ⟨dx, s1, e1, ec⟩ := bnd_ok ec
  refine ⟨σD, T, F, gd, dx, s1, e1, fun x H1 F1 g1 p1 x1 => ?_⟩
  cases dx with
  | bl b =>
    obtain ⟨rfl, rfl⟩ := ret_ok ec
    exact ⟨_, p1.bl, kk H1 F1 g1 x1⟩
  | _ => cases ec
theorem s_one {op : BoolOp} (h : PE X e (tE X.K W ev ca ga)) : PE X (.BoolOp op [e] pos) (tE X.K W ev ca ga) := pe_one h
/-- a and b, a or b, as values: a is a bool -/
def andE (a b : Sm D) : Sm D := bnd a fun x => match x with
  | .bl true => b
  | .bl false => ret (.bl false)
  | _ => bad
def orE (a b : Sm D) : Sm D := bnd a fun x => match x with
  | .bl false => b
  | .bl true => ret (.bl true)
  | _ => bad
theorem s_and {rest : List Expr} (ha : PE X a (tE X.K W ev ca ga)) (hb : PE X (.BoolOp .And (b :: rest) pos) (tE X.K W ev cb gb)) : PE X (.BoolOp .And (a :: b :: rest) pos) (tE X.K W ev (andE ca cb) (ga && gb)) :=
  PE.imp (pe_and (toP ha) hb) fun σ H Q q => by
    obtain ⟨σD, T, F, gd, d, σD', ec, kk⟩ := q
    obtain ⟨dx, s1, e1, ec⟩ := bnd_ok ec
    refine ⟨σD, T, F, gd, dx, s1, e1, fun x H1 F1 g1 p1 x1 => ?_⟩
    cases dx with
    | bl t =>
      refine ⟨t, p1.bl, ?_⟩
      cases t with
      | true =>
        rw [if_pos rfl]
        exact ⟨s1, T, F1, g1, d, σD', ec, fun v H2 F2 g2 x2 => kk v H2 F2 g2 fun h => by rw [Bool.and_eq_true] at h; exact (x1 h.1).trans (x2 h.2)⟩
      | false =>
        rw [if_neg Bool.false_ne_true]
        obtain ⟨rfl, rfl⟩ := ret_ok ec
        exact kk _ H1 F1 (g1.scal ⟨rfl, fun _ => rfl⟩) fun h => by rw [Bool.and_eq_true] at h; exact x1 h.1
    | _ => cases ec
theorem s_or {rest : List Expr} (ha : PE X a (tE X.K W ev ca ga)) (hb : PE X (.BoolOp .Or (b :: rest) pos) (tE X.K W ev cb gb)) : PE X (.BoolOp .Or (a :: b :: rest) pos) (tE X.K W ev (orE ca cb) (ga && gb)) :=
  PE.imp (pe_or (toP ha) hb) fun σ H Q q => by
    obtain ⟨σD, T, F, gd, d, σD', ec, kk⟩ := q
    obtain ⟨dx, s1, e1, ec⟩ := bnd_ok ec
    refine ⟨σD, T, F, gd, dx, s1, e1, fun x H1 F1 g1 p1 x1 => ?_⟩
    cases dx with
    | bl t =>
      refine ⟨t, p1.bl, ?_⟩
      cases t with
      | false =>
        rw [if_neg Bool.false_ne_true]
        exact ⟨s1, T, F1, g1, d, σD', ec, fun v H2 F2 g2 x2 => kk v H2 F2 g2 fun h => by rw [Bool.and_eq_true] at h; exact (x1 h.1).trans (x2 h.2)⟩
      | true =>
        rw [if_pos rfl]
        obtain ⟨rfl, rfl⟩ := ret_ok ec
        exact kk _ H1 F1 (g1.scal ⟨rfl, fun _ => rfl⟩) fun h => by rw [Bool.and_eq_true] at h; exact x1 h.1
    | _ => cases ec
theorem s_ite (hc : PT X e1 (tB X.K W ev c g)) (ha : PE X a (tE X.K W ev ca ga)) (hb : PE X b (tE X.K W ev cb gb)) : PE X (.IfExp e1 a b pos) (tE X.K W ev (iteS c ca cb) (g && (ga && gb))) :=
  PE.imp (pe_ifExp hc ha hb) fun σ H Q q => by
    obtain ⟨σD, T, F, gd, d, σD', ec, kk⟩ := q
    obtain ⟨t, s1, e1, ec⟩ := bnd_ok ec
    refine ⟨σD, T, F, gd, t, s1, e1, fun H1 F1 g1 x1 => ?_⟩
    cases t with
    | true =>
      rw [if_pos rfl] at ec ⊢
      exact ⟨s1, T, F1, g1, d, σD', ec, fun v H2 F2 g2 x2 => kk v H2 F2 g2 fun h => by simp only [Bool.and_eq_true] at h; exact (x1 h.1).trans (x2 h.2.1)⟩
    | false =>
      rw [if_neg Bool.false_ne_true] at ec ⊢
      exact ⟨s1, T, F1, g1, d, σD', ec, fun v H2 F2 g2 x2 => kk v H2 F2 g2 fun h => by simp only [Bool.and_eq_true] at h; exact (x1 h.1).trans (x2 h.2.2)⟩
end
end Tw

set_option Elab.async false
set_option linter.all false
set_option maxRecDepth 100000
/-! Tw.EvG: chains, is True, displays, places, built-in calls. -/
namespace Tw
open PySem PySem.Spec PyProof.Rows L2

/-! ### is True -/
theorem is_bl_gen {M : Model} {A : Around} {E : Value → Shared → Prop} {s : Shared} {Q : Value → Shared → Prop} {x : V} {v : Value} {c : Bool} (r : RelV x v) (h : Q (.bool (v == .bool c)) s) : wpAny M A (compareOp .Is v (.bool c)) Q E s := by
  cases x with
  | non => cases r; exact wpAny_pure h
  | bl b => cases r; exact wpAny_pure h
  | int _ => obtain ⟨t, rfl⟩ := r; exact wpAny_pure h
  | str _ => obtain ⟨t, rfl⟩ := r; exact wpAny_pure h
  | byt _ => obtain ⟨t, rfl⟩ := r; exact wpAny_pure h
  | flt _ => obtain ⟨t, rfl⟩ := r; exact wpAny_pure h
  | ref _ => cases r; exact wpAny_pure h
  | ty _ => cases r; exact wpAny_pure h
theorem RelV.bl_iff {x : V} {v : Value} {c : Bool} (r : RelV x v) : (v == Value.bool c) = decide (x = .bl c) := by
  cases x with
  | non => cases r; rfl
  | bl b => cases r; cases b <;> cases c <;> rfl
  | int _ => obtain ⟨t, rfl⟩ := r; rfl
  | str _ => obtain ⟨t, rfl⟩ := r; rfl
  | byt _ => obtain ⟨t, rfl⟩ := r; rfl
  | flt _ => obtain ⟨t, rfl⟩ := r; rfl
  | ref _ => cases r; rfl
  | ty _ => cases r; rfl
def tIsB (c : Bool) (ta : TE) : TE := fun σ H Q => ta σ H fun x H1 => Q (.bl (decide (x = .bl c))) H1
theorem PRep.bl_iff {K : PySem.W.Frag} {W : Wd} {H : Hp} {F : Ct} {d : D} {v : V} {c : Bool} (p : PRep K W H F d v) : decide (v = .bl c) = isBlD c d := by
  obtain ⟨G, p⟩ := p
  cases d with
  | non => rw [p.1]; rfl
  | bl b => rw [p.1]; cases b <;> cases c <;> rfl
  | int b => rw [p.1]; rfl
  | str b => rw [p.1]; rfl
  | tup ds => obtain ⟨a, vs, rfl, _⟩ := p; rfl
  | lst o ds =>
    cases o with
    | true => obtain ⟨a, vs, G, rfl, _⟩ := p; rfl
    | false => obtain ⟨a, vs, rfl, _⟩ := p; rfl
  | dic o a b =>
    cases o with
    | true => obtain ⟨a, rows, G, rfl, _⟩ := p; rfl
    | false => obtain ⟨a, rows, rfl, _⟩ := p; rfl
  | scr ns => obtain ⟨a, rfl, _⟩ := p; rfl
section
variable {X : Cx} {W : Wd} {ev : Env} {a b e e1 x1 x2 x3 : Expr} {ca cb cc : Sm D} {ga gb gc g g1 : Bool} {pos : Pos} {c c1 : Sm Bool}
theorem pc_isB {k : Bool} {j pos'} {ta : TE} (ha : PE X a ta) : PC X .Is a (.Constant (.bool k) j pos') (tIsB k ta) := by
  refine ⟨fun pins s σ H Q I h => ?_⟩
  refine thn (ha.run pins s σ H _ I h) fun v s1 ⟨x, H1, I1, r1, q1⟩ => ?_
  exact Constant_bool (is_bl_gen r1 ⟨.bl _, H1, I1, by rw [RelV.bl_iff r1]; rfl, q1⟩)
theorem tB_isB {K : PySem.W.Frag} {σ : L2.St} {H : Hp} {Q : VK} {k : Bool} (q : tB K W ev (isB k ca) ga σ H fun b H' => Q (.bl b) H') : tIsB k (tP K W ev ca ga) σ H Q := by
  obtain ⟨σD, T, F, gd, d, σD', ec, kk⟩ := q
  obtain ⟨dx, s1, e1, ec⟩ := bnd_ok ec
  refine ⟨σD, T, F, gd, dx, s1, e1, fun x H1 F1 g1 p1 x1 => ?_⟩
  dsimp only
  rw [p1.bl_iff]
  obtain ⟨rfl, rfl⟩ := ret_ok ec
  exact kk H1 F1 g1 x1
theorem st_isB {k : Bool} {j pos'} (ha : PE X a (tP X.K W ev ca ga)) : PT X (.Compare a [.Is] [.Constant (.bool k) j pos'] pos) (tB X.K W ev (isB k ca) ga) :=
  PT.imp (pt_cmp (pc_isB ha) rfl) fun σ H Q q => tB_isB (q.imp fun b H' k => ⟨b, rfl, k⟩)
theorem s_isB {k : Bool} {j pos'} (ha : PE X a (tP X.K W ev ca ga)) : PE X (.Compare a [.Is] [.Constant (.bool k) j pos'] pos) (tE X.K W ev (blE (isB k ca)) ga) :=
  PE.imp (pe_cmp (pc_isB ha) rfl) fun σ H Q q => tB_isB (tB_E q)

/-! ### a op b op c -/
def chn (o1 o2 : CmpOp) (gb : Bool) (a b c : Sm D) : Sm Bool := bnd a fun x => bnd b fun y => grd (gb || frz x) (bnd (lift (cmpOp o1 x y)) fun k => if k = true then bnd c fun z => grd (frz y) (lift (cmpOp o2 y z)) else ret false)
theorem tB_chn {K : PySem.W.Frag} {o1 o2 : CmpOp} {r1 r2 : R2} {σ : L2.St} {H : Hp} {Q : VK} (hs1 : CmpS K (cmpOp o1) r1) (hs2 : CmpS K (cmpOp o2) r2)
    (q : tB K W ev (chn o1 o2 gb ca cb cc) (ga && (gb && gc)) σ H fun b H' => Q (.bl b) H') : tChain r1 r2 (tP K W ev ca ga) (tP K W ev cb gb) (tP K W ev cc gc) σ H Q := by
  obtain ⟨σD, T, F, gd, d, σD', ec, kk⟩ := q
  obtain ⟨dx, s1, e1, ec⟩ := bnd_ok ec
  obtain ⟨dy, s2, e2, ec⟩ := bnd_ok ec
  obtain ⟨hg, ec⟩ := grd_ok ec
  obtain ⟨k, s3, e3, ec⟩ := bnd_ok ec
  obtain ⟨hf, e4⟩ := lift_ok e3
  subst e4
  -- the first comparison, behind both
  have go : ∀ (x y : V) (H2 : Hp) (F2 : Ct), Good K W H2 s3 σ T F2 → PRep K W H2 F2 dx x → PRep K W H2 F2 dy y → ((ga && gb) = true → Ext H H2 F F2) →
      r1 x y H2 fun z H3 => ∃ k, z = .bl k ∧ (if k = true then tP K W ev cc gc σ H3 fun w' H4 => r2 y w' H4 Q else Q (.bl false) H3) := by
    intro x y H2 F2 g2 p1 p2 x2
    refine hs1 W H2 F2 dx dy k x y _ p1 p2 hf ⟨k, rfl, ?_⟩
    cases k with
    | false =>
      rw [if_neg Bool.false_ne_true] at ec ⊢
      obtain ⟨rfl, rfl⟩ := ret_ok ec
      exact kk H2 F2 g2 fun h => by simp only [Bool.and_eq_true] at h; exact x2 (by rw [h.1, h.2.1]; rfl)
    | true =>
      rw [if_pos rfl] at ec ⊢
      obtain ⟨dz, s4, e4, ec⟩ := bnd_ok ec
      obtain ⟨hz, ec⟩ := grd_ok ec
      obtain ⟨hf2, e5⟩ := lift_ok ec
      subst e5
      refine ⟨s3, (dy, y) :: T, F2, g2.pushP p2 hz, dz, _, e4, fun z H3 F3 g3 p3 x3 => ?_⟩
      obtain ⟨G, F4, r4, g4, z4⟩ := g3.pop
      have G0 : ∀ a, G a = 0 := Rep.frz0 dy y G r4 hz
      have e6 : F4 = F3 := funext fun a => by rw [z4 a, G0 a]; omega
      subst e6
      exact hs2 W H3 F4 dy dz d y z _ ⟨G, r4⟩ p3 hf2 (kk H3 F4 g4 fun h => by simp only [Bool.and_eq_true] at h; exact (x2 (by rw [h.1, h.2.1]; rfl)).trans (x3 h.2.2))
  refine ⟨σD, T, F, gd, dx, s1, e1, fun x H1 F1 g1 p1 x1 => ?_⟩
  by_cases hz : frz dx = true
  · refine ⟨s1, (dx, x) :: T, F1, g1.pushP p1 hz, dy, _, e2, fun y H2 F2 g2 p2 x2 => ?_⟩
    obtain ⟨G, F3, r3, g3, z3⟩ := g2.pop
    have G0 : ∀ a, G a = 0 := Rep.frz0 dx x G r3 hz
    have e3 : F3 = F2 := funext fun a => by rw [z3 a, G0 a]; omega
    subst e3
    exact go x y H2 F3 g3 ⟨G, r3⟩ p2 fun h => by rw [Bool.and_eq_true] at h; exact (x1 h.1).trans (x2 h.2)
  · have hb : gb = true := by
      rw [Bool.or_eq_true] at hg
      rcases hg with h | h
      · exact h
      · exact absurd h hz
    refine ⟨s1, T, F1, g1, dy, _, e2, fun y H2 F2 g2 p2 x2 => ?_⟩
    exact go x y H2 F2 g2 (p1.ext (x2 hb)) p2 fun h => by rw [Bool.and_eq_true] at h; exact (x1 h.1).trans (x2 h.2)
theorem chain_marks {o1 o2 : CmpOp} (x2 x3 : Expr) (h : noSet x3 = true) : lastMarks [o1, o2] [x2, x3] = false := cmpOk_mark h
theorem st_chn {o1 o2 : CmpOp} (h1 : cmpOk o1 = true) (h2 : cmpOk o2 = true) (hns : noSet x3 = true) (hu : X.A.units + 80 < cLine) (ha : PE X x1 (tP X.K W ev ca ga)) (hb : PE X x2 (tP X.K W ev cb gb)) (hc : PE X x3 (tP X.K W ev cc gc)) :
    PT X (.Compare x1 [o1, o2] [x2, x3] pos) (tB X.K W ev (chn o1 o2 gb ca cb cc) (ga && (gb && gc))) := by
  obtain ⟨r, ho, hs⟩ := cmp_rule (X := X) hu h1
  obtain ⟨r', ho', hs'⟩ := cmp_rule (X := X) hu h2
  exact PT.imp (pt_chain ho ho' ha hb hc (chain_marks _ _ hns)) fun σ H Q q => tB_chn hs hs' (q.imp fun b H' k => ⟨b, rfl, k⟩)
theorem s_chn {o1 o2 : CmpOp} (h1 : cmpOk o1 = true) (h2 : cmpOk o2 = true) (hns : noSet x3 = true) (hu : X.A.units + 80 < cLine) (ha : PE X x1 (tP X.K W ev ca ga)) (hb : PE X x2 (tP X.K W ev cb gb)) (hc : PE X x3 (tP X.K W ev cc gc)) :
    PE X (.Compare x1 [o1, o2] [x2, x3] pos) (tE X.K W ev (blE (chn o1 o2 gb ca cb cc)) (ga && (gb && gc))) := by
  obtain ⟨r, ho, hs⟩ := cmp_rule (X := X) hu h1
  obtain ⟨r', ho', hs'⟩ := cmp_rule (X := X) hu h2
  exact PE.imp (pe_chain ho ho' ha hb hc (chain_marks _ _ hns)) fun σ H Q q => tB_chn hs hs' (tB_E q)

/-! ### displays -/
def noStar : Expr → Bool
  | .Starred _ _ => false
  | _ => true
theorem noStar_each {e : Expr} {es : List Expr} {env : PySem.Env} (h : noStar e = true) : starEach (e :: es) env = (false, eval e env) :: starEach es env := by
  cases e <;> first | rfl | exact absurd (show false = true from h) Bool.false_ne_true
theorem noStar_back {es : List Expr} {env : PySem.Env} {pos : Pos} (h : es.all noStar = true) : (backTo pos (starEach es env)).any (·.1) = false := by
  induction es with
  | nil => rfl
  | cons e es ih =>
    rw [List.all_cons, Bool.and_eq_true] at h
    rw [noStar_each h.1]
    show (false || (backTo pos (starEach es env)).any (·.1)) = false
    rw [ih h.2]; rfl
theorem sa_nil : PA X [] (tEs X.K W ev (sq []) true) := PA.imp pa_nil fun σ H Q q => by
  obtain ⟨σD, T, F, gd, d, σD', ec, kk⟩ := q
  obtain ⟨rfl, rfl⟩ := ret_ok ec
  exact kk [] H F rfl gd fun _ => Ext.refl
theorem sa_cons {es : List Expr} {cs : List (Sm D)} {gs : Bool} (h : noStar e = true) (ha : PE X e (tE X.K W ev ca ga)) (hs : PA X es (tEs X.K W ev (sq cs) gs)) : PA X (e :: es) (tEs X.K W ev (sq (ca :: cs)) (ga && gs)) :=
  PA.imp (pa_cons ha hs (noStar_each h)) fun σ H Q q => by
    obtain ⟨σD, T, F, gd, d, σD', ec, kk⟩ := q
    obtain ⟨dx, s1, e1, ec⟩ := bnd_ok ec
    obtain ⟨dxs, s2, e2, ec⟩ := bnd_ok ec
    obtain ⟨rfl, rfl⟩ := ret_ok ec
    refine ⟨σD, T, F, gd, dx, s1, e1, fun x H1 F1 g1 x1 => ⟨s1, (dx, x) :: T, F1, g1, dxs, σD', e2, fun vs H2 F2 hl g2 x2 => ?_⟩⟩
    refine kk (x :: vs) H2 F2 (by rw [List.length_cons, List.length_cons, hl]) ?_ fun h => by rw [Bool.and_eq_true] at h; exact (x1 h.1).trans (x2 h.2)
    rw [List.zip_cons_cons, List.reverse_cons, List.append_assoc]
    exact g2
theorem sq_len {cs : List (Sm D)} : ∀ {ev : Env} {s s' : S} {ds : List D}, sq cs ev s = .ok ds s' → ds.length = cs.length := by
  induction cs with
  | nil => intro ev s s' ds h; obtain ⟨rfl, rfl⟩ := ret_ok h; rfl
  | cons c cs ih =>
    intro ev s s' ds h
    obtain ⟨dx, s1, e1, ec⟩ := bnd_ok h
    obtain ⟨dxs, s2, e2, ec⟩ := bnd_ok ec
    obtain ⟨rfl, rfl⟩ := ret_ok ec
    rw [List.length_cons, List.length_cons, ih e2]
theorem s_tup {es : List Expr} {cs : List (Sm D)} {gs : Bool} {x1} (hz : cs.length ≤ sizeLine) (h : PA X es (tEs X.K W ev (sq cs) gs)) : PE X (.Tuple es x1 pos) (tE X.K W ev (tupE cs) gs) :=
  PE.imp (pe_tup h) fun σ H Q q => by
    obtain ⟨σD, T, F, gd, d, σD', ec, kk⟩ := q
    obtain ⟨ds, s1, e1, ec⟩ := bnd_ok ec
    refine ⟨σD, T, F, gd, ds, s1, e1, fun vs H1 F1 hl g1 x1 => ⟨by rw [hl, sq_len e1]; exact hz, fun p hp => ?_⟩⟩
    have hone := g1.one
    have hnb := g1.nb
    obtain ⟨G, F2, r2, g2, z2⟩ := g1.popL hl
    have xx : gs = true → Ext H (upd H1 p (.tup vs)) F F2 := fun h => by
      have x := x1 h
      have y : Ext H1 (upd H1 p (.tup vs)) F1 F2 := ⟨upd_keep hp, fun a q => .inl (by rw [z2 a]; omega)⟩
      exact x.trans y
    split at ec
    · rename_i hz
      obtain ⟨rfl, rfl⟩ := ret_ok ec
      exact kk _ _ F2 (g2.newT hp (r2.z hz)) xx
    · obtain ⟨rfl, rfl⟩ := ret_ok ec
      have t : Tr H1 (Own W F2) H1 (Own W F2) := ⟨fun _ _ h => h, fun _ _ _ h => h, fun _ _ n h => ⟨h, n⟩⟩
      refine kk _ _ F2 (g2.newT hp (RepL.fz t ds vs G r2 fun a ha q => ?_)) xx
      rcases q with q | q
      · have := hone a
        rw [z2 a] at this
        omega
      · exact hnb a (by rw [z2 a]; omega) q
theorem s_frE (h : PE X e (tE X.K W ev ca ga)) : PE X e (tE X.K W ev (frE ca) ga) := PE.imp h fun σ H Q q => by
  obtain ⟨σD, T, F, gd, d, σD', ec, kk⟩ := q
  obtain ⟨dx, s1, e1, ec⟩ := bnd_ok ec
  obtain ⟨rfl, rfl⟩ := ret_ok ec
  refine ⟨σD, T, F, gd, dx, σD', e1, fun v H1 F1 g1 x1 => ?_⟩
  have hone := g1.one
  have hnb := g1.nb
  obtain ⟨G, F2, r2, g2, z2⟩ := g1.pop
  have t : Tr H1 (Own W F2) H1 (Own W F2) := ⟨fun _ _ h => h, fun _ _ _ h => h, fun _ _ n h => ⟨h, n⟩⟩
  refine kk v H1 F2 (g2.push0 (Rep.fz t dx v G r2 fun a ha q => ?_) fun _ => rfl) fun h => ?_
  · rcases q with q | q
    · have := hone a
      rw [z2 a] at this
      omega
    · exact hnb a (by rw [z2 a]; omega) q
  · have x := x1 h
    exact ⟨x.keep, fun a q => x.own a (by rw [z2 a]; omega)⟩
theorem s_lst {es : List Expr} {cs : List (Sm D)} {gs : Bool} (hz : cs.length ≤ sizeLine) (h : PA X es (tEs X.K W ev (sq cs) gs)) : PE X (.List es pos) (tE X.K W ev (lstE cs) gs) :=
  PE.imp (pe_lst h) fun σ H Q q => by
    obtain ⟨σD, T, F, gd, d, σD', ec, kk⟩ := q
    obtain ⟨ds, s1, e1, ec⟩ := bnd_ok ec
    obtain ⟨rfl, rfl⟩ := ret_ok ec
    refine ⟨σD, T, F, gd, ds, σD', e1, fun vs H1 F1 hl g1 x1 => ⟨by rw [hl, sq_len e1]; exact hz, fun p hp => ?_⟩⟩
    exact kk _ _ _ (g1.newLs hl hp) fun h => (x1 h).trans (ext_newL hp)

/-! ### places -/
theorem ops_ix {K : PySem.W.Frag} {W : Wd} {H : Hp} {σD : S} {σV : L2.St} {T : List (D × V)} {F : Ct} {dx dy d : D} {x y : V} {Q : VK} (gd : Good K W H σD σV T F) (p1 : PRep K W H F dx x) (p2 : PRep K W H F dy y) (e : itemD dx dy = some d)
    (kk : ∀ v, PRep K W H F d v → Q v H) : rIxA K x y H Q := by
  unfold itemD at e
  split at e
  · rename_i xs i
    obtain ⟨a, vs, rfl, h1, r1⟩ := p1.tup
    rw [p2.int]
    obtain ⟨j, e1, e2⟩ := Option.bind_eq_some_iff.mp e
    obtain ⟨v, G, e3, r3, _⟩ := r1.get e2
    refine .inl (.inr (.inl ⟨a, vs, i, v, rfl, rfl, h1, ?_, kk v ⟨G, r3⟩⟩))
    have e1' : ixN xs.length i = some j := e1
    unfold atI
    rw [r1.length, e1']
    exact e3
  · rename_i o xs i
    obtain ⟨a, vs, G1, rfl, h1, r1⟩ := p1.lst
    rw [p2.int]
    obtain ⟨j, e1, e2⟩ := Option.bind_eq_some_iff.mp e
    obtain ⟨v, G, e3, r3, _⟩ := r1.get e2
    refine .inl (.inl ⟨a, vs, i, v, rfl, rfl, .inl (.inl h1), ?_, kk v ⟨G, r3⟩⟩)
    have e1' : ixN xs.length i = some j := e1
    unfold atI
    rw [r1.length, e1']
    exact e3
  · rename_i ns i
    obtain ⟨G, a, rfl, h1, z⟩ := p1
    rw [p2.int]
    obtain ⟨j, e1, e2⟩ := Option.bind_eq_some_iff.mp e
    obtain ⟨n, e3, rfl⟩ := Option.map_eq_some_iff.mp e2
    have hs : SqL K H a (ns.map V.int) := by
      rcases h1 with ⟨o, h1⟩ | h1
      · exact .inl (.inr ⟨o, h1⟩)
      · exact .inr h1
    refine .inl (.inl ⟨a, ns.map V.int, i, .int n, rfl, rfl, hs, ?_, kk _ ⟨z0, rfl, fun _ => rfl⟩⟩)
    have e1' : ixN ns.length i = some j := e1
    unfold atI
    rw [List.length_map, e1']
    show (ns.map V.int)[j]? = _
    rw [List.getElem?_map, e3]; rfl
  · rename_i o ks vs k
    obtain ⟨r, e1, e2⟩ := Option.bind_eq_some_iff.mp e
    obtain ⟨a, u, rfl, g, k1, _⟩ := PRep.dget p1 p2 e1
    obtain ⟨v, e3, p3⟩ := k1 d e2
    exact .inr ⟨a, v, rfl, by rw [← e3]; exact g, kk v p3⟩
  · cases e
def ixPlain : Expr → Bool
  | .Slice _ _ _ _ => false
  | _ => true
theorem ixPlain_ok {b : Expr} (h : ixPlain b = true) : PlainIx b := by
  cases b <;> first | (intro o i; rfl) | exact absurd (show false = true from h) Bool.false_ne_true
theorem s_idx (hu : X.A.units + 80 < cLine) (hb0 : ixPlain b = true) (ha : PE X a (tP X.K W ev ca ga)) (hb : PE X b (tP X.K W ev cb gb)) : PE X (.Subscript a b pos) (tE X.K W ev (idx gb ca cb) (ga && gb)) :=
  PE.imp (pe_ix (ix_all (by omega)) ha hb (ixPlain_ok hb0)) fun σ H Q q => two q fun σD T F F0 dx dy x y H2 g2 p1 p2 _ ⟨d, σD', ec, kk⟩ => by
    obtain ⟨d', s1, e1, ec2⟩ := bnd_ok ec
    obtain ⟨e2, e5⟩ := lift_ok e1
    subst e5
    obtain ⟨hz, ec3⟩ := grd_ok ec2
    obtain ⟨e6, e7⟩ := ret_ok ec3
    subst e6 e7
    exact ops_ix g2 p1 p2 e2 fun v p => kk v H2 F (g2.pushP p hz) Ext.refl
/-- a place looked at -/
def idxP (g : Bool) (a i : Sm D) : Sm D := bnd a fun x => bnd i fun y => grd (g || frz x) (lift (itemD x y))
theorem twoP {K : PySem.W.Frag} {f : D → D → Sm D} {r : R2} {σ : L2.St} {H : Hp} {Q : VK} (q : tP K W ev (bnd ca fun x => bnd cb fun y => grd (gb || frz x) (f x y)) (ga && gb) σ H Q)
    (k : ∀ (σD : S) (T : List (D × V)) (F : Ct) (dx dy : D) (x y : V) (H2 : Hp), Good K W H2 σD σ T F → PRep K W H2 F dx x → PRep K W H2 F dy y →
      (∃ d σD', f dx dy ev σD = .ok d σD' ∧ ∀ v H' F', Good K W H' σD' σ T F' → PRep K W H' F' d v → (Ext H2 H' F F') → Q v H') → r x y H2 Q) :
    tOp r (tP K W ev ca ga) (tP K W ev cb gb) σ H Q := by
  obtain ⟨σD, T, F, gd, d, σD', ec, kk⟩ := q
  obtain ⟨dx, s1, e1, ec⟩ := bnd_ok ec
  obtain ⟨dy, s2, e2, ec⟩ := bnd_ok ec
  obtain ⟨hg, ec⟩ := grd_ok ec
  refine ⟨σD, T, F, gd, dx, s1, e1, fun x H1 F1 g1 p1 x1 => ?_⟩
  by_cases hz : frz dx = true
  · refine ⟨s1, (dx, x) :: T, F1, g1.pushP p1 hz, dy, s2, e2, fun y H2 F2 g2 p2 x2 => ?_⟩
    obtain ⟨G, F3, r3, g3, z3⟩ := g2.pop
    have G0 : ∀ a, G a = 0 := Rep.frz0 dx x G r3 hz
    have e3 : F3 = F2 := funext fun a => by rw [z3 a, G0 a]; omega
    subst e3
    refine k s2 T F3 dx dy x y H2 g3 ⟨G, r3⟩ p2 ⟨d, σD', ec, fun v H' F' g' p' x' => kk v H' F' g' p' fun h => ?_⟩
    rw [Bool.and_eq_true] at h
    exact ((x1 h.1).trans (x2 h.2)).trans x'
  · have hb : gb = true := by
      rw [Bool.or_eq_true] at hg
      rcases hg with h | h
      · exact h
      · exact absurd h hz
    refine ⟨s1, T, F1, g1, dy, s2, e2, fun y H2 F2 g2 p2 x2 => ?_⟩
    refine k s2 T F2 dx dy x y H2 g2 (p1.ext (x2 hb)) p2 ⟨d, σD', ec, fun v H' F' g' p' x' => kk v H' F' g' p' fun h => ?_⟩
    rw [Bool.and_eq_true] at h
    exact ((x1 h.1).trans (x2 h.2)).trans x'
theorem s_idxP (hu : X.A.units + 80 < cLine) (hb0 : ixPlain b = true) (ha : PE X a (tP X.K W ev ca ga)) (hb : PE X b (tP X.K W ev cb gb)) : PE X (.Subscript a b pos) (tP X.K W ev (idxP gb ca cb) (ga && gb)) :=
  PE.imp (pe_ix (ix_all (by omega)) ha hb (ixPlain_ok hb0)) fun σ H Q q => twoP q fun σD T F dx dy x y H2 g2 p1 p2 ⟨d, σD', ec, kk⟩ => by
    obtain ⟨e2, rfl⟩ := lift_ok ec
    exact ops_ix g2 p1 p2 e2 fun v p => kk v H2 F g2 p Ext.refl
end
end Tw

set_option Elab.async false
set_option linter.all false
set_option maxRecDepth 100000
/-! Tw.EvH: slices. -/
namespace Tw
open PySem PySem.Spec PyProof.Rows L2 HT

section
variable {prog : Program} {w : World} {A : Around} {E : Value → Shared → Prop} {s : Shared}
theorem adjust_rev (n : Nat) : Builtin.Slice.sliceAdjust none none (-1) (n : Int) = ((n : Int) - 1, -1) := rfl
theorem places_rev (n : Nat) : Builtin.Slice.slicePlaces ((n : Int) - 1) (-1) (-1) = n := by
  unfold Builtin.Slice.slicePlaces
  have h1 : ¬ ((-1 : Int) > 0) := by omega
  simp only [h1, if_false]
  split
  · have : ((n : Int) - 1 - -1 - 1) / (- -1) + 1 = n := by
      have e : (- -1 : Int) = 1 := by omega
      rw [e, Int.ediv_one]; omega
    rw [this]; omega
  · omega
theorem sliceApplied_rev {sl : Addr} {vl vu vk : Value} {n : Nat} {Q : Int × Int × Nat → Shared → Prop} (hs : s.heap.IsSliceOf sl vl vu vk) (pl : IsPart vl none) (pu : IsPart vu none) (pk : IsPart vk (some (-1)))
    (h : Q ((n : Int) - 1, -1, n) s) : wpAny (model prog w) A (Builtin.Slice.sliceApplied (.ref sl) (pure (n : Int))) Q E s := by
  obtain ⟨os, hos, hcs, hds⟩ := id hs
  unfold Builtin.Slice.sliceApplied Builtin.Slice.sliceFields
  refine wpAny_bind (wpAny_bind (wpAny_field hos hds (x := vl) rfl (wpAny_bind (wpAny_field hos hds (x := vu) rfl (wpAny_bind (wpAny_field hos hds (x := vk) rfl (wpAny_pure ?_)))))))
  refine wpAny_bind (slicePart_ pk ?_)
  show wpAny _ _ (if ((-1 : Int) == 0) = true then _ else _) _ _ s
  rw [if_neg (by decide)]
  refine wpAny_bind (slicePart_ pl (wpAny_bind (slicePart_ pu (wpAny_bind (wpAny_pure ?_)))))
  show wpAny _ _ (match Builtin.Slice.sliceAdjust none none (-1) (n : Int) with | (lo, hi) => pure (lo, (-1 : Int), Builtin.Slice.slicePlaces lo hi (-1))) _ _ s
  rw [adjust_rev]
  show wpAny _ _ (pure ((n : Int) - 1, (-1 : Int), Builtin.Slice.slicePlaces ((n : Int) - 1) (-1) (-1))) _ _ s
  rw [places_rev]
  exact wpAny_pure h
theorem pick_rev (xs : Array Value) : ((List.range xs.size).filterMap fun (m : Nat) => xs[(((xs.size : Int) - 1) + (m : Int) * -1).toNat]?).toArray = xs.toList.reverse.toArray := by
  congr 1
  apply List.ext_getElem?
  intro i
  have key : ∀ (k : Nat), k ≤ xs.size → ((List.range k).filterMap fun (m : Nat) => xs[(((xs.size : Int) - 1) + (m : Int) * -1).toNat]?) = xs.toList.reverse.take k := by
    intro k hk
    induction k with
    | zero => rfl
    | succ k ih =>
      rw [List.range_succ, List.filterMap_append, ih (by omega)]
      have e : (((xs.size : Int) - 1) + (k : Int) * -1).toNat = xs.size - 1 - k := by omega
      have e2 : xs[xs.size - 1 - k]? = some (xs[xs.size - 1 - k]'(by omega)) := by rw [Array.getElem?_eq_getElem]
      rw [List.filterMap_cons, List.filterMap_nil, e, e2]
      rw [List.take_succ]
      congr 1
      rw [List.getElem?_reverse (by rw [Array.length_toList]; omega)]
      rw [Array.length_toList, Array.getElem?_toList, e2]; rfl
  rw [key xs.size (Nat.le_refl _), List.take_of_length_le (by simp)]
theorem getItem_tuple_rev {t sl : Addr} {items : Array Value} {vl vu vk : Value} {Q : Value → Shared → Prop} (ht : IsTup s.heap t items) (hs : s.heap.IsSliceOf sl vl vu vk) (pl : IsPart vl none) (pu : IsPart vu none) (pk : IsPart vk (some (-1)))
    (h : Q (.ref s.heap.objs.size) { s with heap := s.heap.push { cls := .type "tuple", data := .seq items.toList.reverse.toArray } })
    (hsz : items.size ≤ sizeLine) : wpAny (model prog w) A (getItem (.ref t) (.ref sl)) Q E s := by
  have htake : sizeOk (.seq items.toList.reverse.toArray) := by
    show items.toList.reverse.toArray.size ≤ sizeLine
    rw [List.size_toArray, List.length_reverse, Array.length_toList]
    omega
  obtain ⟨os, hos, hcs, hds⟩ := id hs
  have hTs : s.TypeIs (.ref sl) "slice" := ⟨os, hos, hcs⟩
  unfold getItem
  try with_reducible refine wpAny_holding ?_
  first | refine wpAny_bind (wpAny_pure ?_) | skip
  refine wpAny_bind (wpAny_sequenceKey ht.typeIs (by decide) ?_)
  refine wpAny_bind (wpAny_callSpecial?_slot (name := Str.ofString "__getitem__") ht.typeIs PyProof.Rows.slot_tuple_getitem
    (wpAny_call_entry PyProof.Rows.slot_tuple_getitem ht.typeIs entry_tuple_getitem ?_ (args_tuple_getitem _ _)))
  show wpAny _ _ (Builtin.Tuple.tupleItemsOf (.ref t) >>= _) _ _ s
  refine wpAny_bind (tupleItemsOf_ ht ?_)
  refine wpAny_bind (wpAny_typeOf hTs ?_)
  rw [if_pos (by decide)]
  refine wpAny_bind (sliceApplied_rev hs pl pu pk ?_)
  have hno : ¬ ((((items.size : Int) - 1) == 0 && (-1 : Int) == 1 && items.size == items.size) = true) := by
    intro q
    rw [Bool.and_eq_true, Bool.and_eq_true] at q
    exact absurd q.1.2 (by decide)
  show wpAny _ _ (if ((((items.size : Int) - 1) == 0 && (-1 : Int) == 1 && items.size == items.size)) = true then _ else _) _ _ s
  rw [if_neg hno, pick_rev]
  first
    | exact wpAny_bind (m := Builtin.Tuple.tupleExact _) (wpAny_newObj_type (wpAny_pure ⟨_, rfl, wpAny_pure h⟩) htake)
    | exact wpAny_bind (m := Builtin.Tuple.tupleExact _) (wpAny_newObj_type (wpAny_bind (wpAny_pure (wpAny_pure ⟨_, rfl, wpAny_pure h⟩))) htake)
    | exact wpAny_bind (wpAny_bind (m := Builtin.Tuple.tupleExact _) (wpAny_newObj_type (wpAny_pure (wpAny_pure ⟨_, rfl, wpAny_pure h⟩)) htake))
    | exact wpAny_bind (wpAny_bind (m := Builtin.Tuple.tupleExact _) (wpAny_newObj_type (wpAny_pure ⟨_, rfl, wpAny_pure h⟩) htake))
end
def tRevA (K : PySem.W.Frag) (te : TE) : TE := fun σ H Q => te σ H fun x H1 => ∃ a xs, x = .ref a ∧ ((SqL K H1 a xs ∧ ∀ p, H1 p = none → Q (.ref p) (upd H1 p (.lst xs.reverse))) ∨ (SqT K H1 a xs ∧ ∀ p, H1 p = none → Q (.ref p) (upd H1 p (.tup xs.reverse))))
section
variable {X : Cx} {W : Wd} {ev : Env} {a b e e1 x1 x2 x3 : Expr} {ca cb cc : Sm D} {ga gb gc g g1 : Bool} {pos : Pos} {c c1 : Sm Bool}
theorem pe_revA {te : TE} {k : Nat} {p1 p2 p3 : Pos} (he : PE X e te) : PE X (.Subscript e (.Slice none none (some (.UnaryOp .USub (.Constant (.int 1) k p1) p2)) p3) pos) (tRevA X.K te) := by
  refine ⟨fun pins s σ H Q I h => ?_⟩
  refine Subscript_ (thn (he.run pins s σ H _ I h) fun v s1 ⟨x, H1, I1, r1, q1⟩ => ?_)
  obtain ⟨a, xs, ex, q⟩ := q1
  subst ex
  cases r1
  have hst : PO X (some (.UnaryOp .USub (.Constant (.int 1) k p1) p2)) (tPart (tUn (rU fun i => .int (-i)) (tC (.int 1)))) := po_some (pe_un un_neg pe_int)
  refine wpAny_Slice (thn (po_none.run pins s1 σ H1 (fun o H2 => o = none ∧ H2 = H1) I1 ⟨rfl, rfl⟩) fun vl s2 ⟨l, H2, I2, pl, el, e2⟩ => ?_)
  subst el e2
  refine thn (po_none.run pins s2 σ H2 (fun o H3 => o = none ∧ H3 = H2) I2 ⟨rfl, rfl⟩) fun vu s3 ⟨u, H3, I3, pu, eu, e3⟩ => ?_
  subst eu e3
  refine thn (hst.run pins s3 σ H3 (fun o H4 => o = some (-1) ∧ H4 = H3) I3 ⟨1, rfl, -1, rfl, rfl, rfl⟩) fun vs s4 ⟨o, H4, I4, ps, eo, e4⟩ => ?_
  subst eo e4
  have I5 : Inv X pins σ H4 { s4 with heap := s4.heap.push { cls := .type "slice", data := .fields #[vl, vu, vs] } } := I4.kept (t' := s4.toks) fun b ob q => Heap.get?_push_of_some _ q
  show wpAny (model X.prog X.w) X.A (subscriptTail e (.Slice none none (some (.UnaryOp .USub (.Constant (.int 1) k p1) p2)) p3) (.ref a) (.ref s4.heap.objs.size)) (EP X pins σ Q) X.xe { s4 with heap := s4.heap.push { cls := .type "slice", data := .fields #[vl, vu, vs] } }
  rcases q with ⟨hx, q⟩ | ⟨hx, q⟩
  · obtain ⟨its, r, ht, hz⟩ := I5.list hx
    have hlen := r.length
    refine tail_any (ops := [.ref a, .ref s4.heap.objs.size]) ht.isList.typeIs (PySem.slot_list_getitem.lookup) ?_ (by with_unfolding_all rfl)
    refine wpAny_getItem_list_slice ht.isList (Heap.IsSliceOf.new _ vl vu vs) pl pu ps (by decide) ?_ (by rw [List.size_toArray]; omega)
    rw [PySem.W.krv_pick]
    refine ⟨.ref _, _, I5.laid (t' := s4.toks) (o := .lst xs.reverse) (fun b ob q => Heap.get?_push_of_some _ q) (Nat.le_refl _) ?_, rfl, q _ (I5.hok.fresh (Nat.le_refl _))⟩
    exact ⟨by rw [List.length_reverse]; exact hz, _, 0, r.reverse, Heap.get?_push_size _ rfl⟩
  · obtain ⟨its, r, ht, hz⟩ := I5.tuple hx
    have hlen := r.length
    refine tail_any (ops := [.ref a, .ref s4.heap.objs.size]) ht.typeIs (PyProof.Rows.slot_tuple_getitem.lookup) ?_ (by with_unfolding_all rfl)
    refine getItem_tuple_rev ht (Heap.IsSliceOf.new _ vl vu vs) pl pu ps ?_ (by rw [List.size_toArray]; omega)
    refine ⟨.ref _, _, I5.laid (t' := s4.toks) (o := .tup xs.reverse) (fun b ob q => Heap.get?_push_of_some _ q) (Nat.le_refl _) ?_, rfl, q _ (I5.hok.fresh (Nat.le_refl _))⟩
    exact ⟨by rw [List.length_reverse]; exact hz, _, r.reverse, ⟨_, Heap.get?_push_size _ rfl, rfl, _, rfl⟩⟩
theorem RepL.reverse {K : PySem.W.Frag} {H : Hp} {O : Addr → Prop} : ∀ {ds : List D} {vs : List V}, RepL K H O ds vs z0 → RepL K H O ds.reverse vs.reverse z0
  | [], vs, h => by rw [h.1]; exact ⟨rfl, fun _ => rfl⟩
  | d :: ds, vs, h => by
    obtain ⟨v, vs', G1, G2, e, h1, h2, z⟩ := h
    subst e
    have k1 : ∀ a, G1 a = 0 := fun a => by have : 0 = G1 a + G2 a := z a; omega
    have k2 : ∀ a, G2 a = 0 := fun a => by have : 0 = G1 a + G2 a := z a; omega
    rw [List.reverse_cons, List.reverse_cons]
    refine RepL.ct (RepL.append (RepL.reverse (RepL.ct h2 fun a => (k2 a).symm)) (F := z0) (G := z0) ⟨v, [], G1, z0, rfl, h1, ⟨rfl, fun _ => rfl⟩, fun a => ?_⟩) fun _ => rfl
    show 0 = G1 a + 0
    rw [k1 a]
theorem s_rev {k : Nat} {p1 p2 p3 : Pos} (ha : PE X a (tP X.K W ev ca ga)) : PE X (.Subscript a (.Slice none none (some (.UnaryOp .USub (.Constant (.int 1) k p1) p2)) p3) pos) (tE X.K W ev (rev ca) ga) :=
  PE.imp (pe_revA ha) fun σ H Q q => by
    obtain ⟨σD, T, F, gd, d, σD', ec, kk⟩ := q
    obtain ⟨dx, s1, e1, ec⟩ := bnd_ok ec
    obtain ⟨e2, e3⟩ := lift_ok ec
    subst e3
    refine ⟨σD, T, F, gd, dx, _, e1, fun x H1 F1 g1 p1 x1 => ?_⟩
    unfold revD at e2
    split at e2
    · cases e2
      obtain ⟨p, vs, rfl, h1, r1⟩ := p1.tup
      exact ⟨p, vs, rfl, .inr ⟨h1, fun q hq => kk _ _ F1 (g1.newT hq r1.reverse) fun h => (x1 h).trans (ext_new hq)⟩⟩
    · split at e2
      · rename_i hz
        cases e2
        obtain ⟨p, vs, G, rfl, h1, r1⟩ := p1.lst
        exact ⟨p, vs, rfl, .inl ⟨.inl (.inl h1), fun q hq => kk _ _ _ (g1.newL hq (r1.z hz).reverse fun _ => rfl) fun h => (x1 h).trans (ext_newL hq)⟩⟩
      · cases e2
    · cases e2
/-! ### parts -/
def tOI (K : PySem.W.Frag) (W : Wd) (ev : Env) (m : Sm (Option Int)) (cb : Bool) : TO := fun σV H Q => ∃ σD T F, Good K W H σD σV T F ∧ ∃ o σD', m ev σD = .ok o σD' ∧
  ∀ H' F', Good K W H' σD' σV T F' → (cb = true → Ext H H' F F') → Q o H'
theorem PO.imp {e : Option Expr} {t t' : TO} (h : PO X e t) (i : ∀ σ H Q, t' σ H Q → t σ H Q) : PO X e t' := ⟨fun pins s σ H Q I q => h.run pins s σ H Q I (i σ H Q q)⟩
theorem so_none : PO X none (tOI X.K W ev (optI none) true) := PO.imp po_none fun σ H Q q => by
  obtain ⟨σD, T, F, gd, o, σD', ec, kk⟩ := q
  obtain ⟨rfl, rfl⟩ := ret_ok (show ret none ev σD = .ok o σD' from ec)
  exact kk H F gd fun _ => Ext.refl
theorem so_some (ha : PE X a (tP X.K W ev ca ga)) : PO X (some a) (tOI X.K W ev (optI (some ca)) ga) := PO.imp (po_some ha) fun σ H Q q => by
  obtain ⟨σD, T, F, gd, o, σD', ec, kk⟩ := q
  obtain ⟨i, s1, e1, ec⟩ := bnd_ok ec
  obtain ⟨rfl, rfl⟩ := ret_ok ec
  obtain ⟨dx, s2, e2, ec⟩ := bnd_ok e1
  refine ⟨σD, T, F, gd, dx, s2, e2, fun x H1 F1 g1 p1 x1 => ?_⟩
  cases dx with
  | int j =>
    obtain ⟨rfl, rfl⟩ := ret_ok ec
    exact ⟨_, p1.int, kk H1 F1 g1 x1⟩
  | _ => cases ec
def rSlB (K : PySem.W.Frag) : V → Option Int → Option Int → Hp → VK → Prop := fun x lo hi H Q => rSlA K x lo hi H Q ∨ rSlL K x lo hi H Q
theorem sl_B : SlR X (rSlB X.K) := sl_tupA.or sl_list
theorem RepL.cut {K : PySem.W.Frag} {H : Hp} {O : Addr → Prop} {ds : List D} {vs : List V} (h : RepL K H O ds vs z0) (lo hi : Option Int) : RepL K H O (cutD ds lo hi) (cutV vs lo hi) z0 := by
  unfold cutD cutV
  rw [h.length]
  exact RepL.take _ (RepL.drop _ h fun _ => rfl) fun _ => rfl
theorem ops_sl {K : PySem.W.Frag} {W : Wd} {H : Hp} {σD : S} {σV : L2.St} {T : List (D × V)} {F : Ct} {dx d : D} {x : V} {lo hi : Option Int} {Q : VK} (gd : Good K W H σD σV T F) (p1 : PRep K W H F dx x) (e : sliceD dx lo hi = some d)
    (kk : ∀ v H' F', Good K W H' σD σV ((d, v) :: T) F' → Ext H H' F F' → Q v H') : rSlB K x lo hi H Q := by
  unfold sliceD at e
  split at e
  · rename_i xs
    cases e
    obtain ⟨a, vs, rfl, h1, r1⟩ := p1.tup
    refine .inl ⟨a, vs, rfl, h1, fun hw => ?_, fun hw p hp => ?_⟩
    · have e2 : cutD xs lo hi = xs := by
        unfold cutD
        rw [r1.length] at hw
        rw [hw.1, hw.2, List.drop_zero, Nat.sub_zero, List.take_length]
      rw [e2] at kk
      exact kk _ H F (gd.pushP p1 (by unfold frz; exact r1.frz_of)) Ext.refl
    · exact kk _ _ F (gd.newT hp (r1.cut lo hi)) (ext_new hp)
  · rename_i o xs
    split at e
    · rename_i hz
      cases e
      obtain ⟨a, vs, G, rfl, h1, r1⟩ := p1.lst
      exact .inr ⟨a, vs, rfl, .inl (.inl h1), fun p hp => kk _ _ _ (gd.newL hp ((r1.z hz).cut lo hi) fun _ => rfl) (ext_newL hp)⟩
    · cases e
  · cases e
theorem s_slc {lo hi : Option Expr} {cl ch : Option (Sm D)} {gl gh : Bool} {p2 : Pos} (ha : PE X a (tP X.K W ev ca ga)) (hl : PO X lo (tOI X.K W ev (optI cl) gl)) (hh : PO X hi (tOI X.K W ev (optI ch) gh)) :
    PE X (.Subscript a (.Slice lo hi none p2) pos) (tE X.K W ev (slc (gl && gh) ca cl ch) (ga && (gl && gh))) :=
  PE.imp (pe_slice sl_B ha hl hh) fun σ H Q q => by
    obtain ⟨σD, T, F, gd, d, σD', ec, kk⟩ := q
    obtain ⟨dx, s1, e1, ec⟩ := bnd_ok ec
    obtain ⟨l, s2, e2, ec⟩ := bnd_ok ec
    obtain ⟨u, s3, e3, ec⟩ := bnd_ok ec
    obtain ⟨hg, ec⟩ := grd_ok ec
    obtain ⟨e4, e5⟩ := lift_ok ec
    subst e5
    refine ⟨σD, T, F, gd, dx, s1, e1, fun x H1 F1 g1 p1 x1 => ?_⟩
    by_cases hz : frz dx = true
    · refine ⟨s1, (dx, x) :: T, F1, g1.pushP p1 hz, l, s2, e2, fun H2 F2 g2 x2 => ⟨s2, (dx, x) :: T, F2, g2, u, _, e3, fun H3 F3 g3 x3 => ?_⟩⟩
      obtain ⟨G, F4, r4, g4, z4⟩ := g3.pop
      have G0 : ∀ a, G a = 0 := Rep.frz0 dx x G r4 hz
      have e6 : F4 = F3 := funext fun a => by rw [z4 a, G0 a]; omega
      subst e6
      refine ops_sl g4 ⟨G, r4⟩ e4 fun v H' F' g' x' => kk v H' F' g' fun h => ?_
      simp only [Bool.and_eq_true] at h
      exact (((x1 h.1).trans (x2 h.2.1)).trans (x3 h.2.2)).trans x'
    · have hb : (gl && gh) = true := by
        rw [Bool.or_eq_true] at hg
        rcases hg with h | h
        · exact h
        · exact absurd h hz
      rw [Bool.and_eq_true] at hb
      refine ⟨s1, T, F1, g1, l, s2, e2, fun H2 F2 g2 x2 => ⟨s2, T, F2, g2, u, _, e3, fun H3 F3 g3 x3 => ?_⟩⟩
      refine ops_sl g3 (p1.ext ((x2 hb.1).trans (x3 hb.2))) e4 fun v H' F' g' x' => kk v H' F' g' fun h => ?_
      simp only [Bool.and_eq_true] at h
      exact (((x1 h.1).trans (x2 h.2.1)).trans (x3 h.2.2)).trans x'
end
end Tw

set_option Elab.async false
set_option linter.all false
set_option maxRecDepth 100000
/-! Tw.EvI: built-in functions. -/
namespace Tw
open PySem PySem.Spec PyProof.Rows L2

def tyName : Ty → String
  | .int => "int" | .bool => "bool" | .str => "str" | .tuple => "tuple" | .list => "list"
def tyOfD : D → String
  | .non => "NoneType" | .bl _ => "bool" | .int _ => "int" | .str _ => "str" | .tup _ => "tuple" | .lst _ _ => "list" | .dic _ _ _ => "dict" | .scr _ => "list"
theorem kit_fact (K : PySem.W.Frag) (t : Ty) : ∀ d : D, PySem.W.kitOne K (.type (tyOfD d)) (.type (tyName t)) = some (isTy t d) := by
  intro d
  cases d <;> cases t <;> first | rfl | (unfold PySem.W.kitOne; rfl) | decide +kernel

theorem isiD_some {t : Ty} {d r : D} (h : isiD t d = some r) : r = .bl (isTy t d) ∧ ∀ o ks vs, d ≠ .dic o ks vs := by
  cases d with
  | dic o ks vs => cases h
  | _ => cases h; exact ⟨rfl, fun _ _ _ e => by cases e⟩
theorem tyX_of {K : PySem.W.Frag} {H : Hp} {F : Ct} {d : D} {v : V} (p : PRep K W H F d v) (hd : ∀ o ks vs, d ≠ .dic o ks vs) : TyX K H v (.type (tyOfD d)) := by
  obtain ⟨G, p⟩ := p
  cases d with
  | non => rw [p.1]; exact .base .non
  | bl b => rw [p.1]; exact .base (.bl b)
  | int b => rw [p.1]; exact .base (.int b)
  | str b => rw [p.1]; exact .base (.str b)
  | tup ds =>
    obtain ⟨a, vs, rfl, h, _⟩ := p
    rcases h with (h | ⟨o, h⟩) | ⟨o, its, n, h, c, _⟩
    · exact .base (.tup h)
    · exact .fTuple h
    · exact .kTuple h c
  | lst o ds =>
    cases o with
    | true => obtain ⟨a, vs, G, rfl, h, _⟩ := p; exact .base (.lst h)
    | false => obtain ⟨a, vs, rfl, h, _⟩ := p; exact .base (.lst h.1)
  | dic o a b => exact (hd _ _ _ rfl).elim
  | scr ns =>
    obtain ⟨a, rfl, h, _⟩ := p
    rcases h with ⟨o, h⟩ | ⟨o, its, n, h, c, _⟩
    · exact .base (.frz h)
    · exact .kList h c
section
variable {X : Cx} {W : Wd} {ev : Env} {a b e : Expr} {ca cb : Sm D} {ga gb : Bool} {pos p : Pos}
/-- isinstance(a, T) -/
theorem s_isi {t : Ty} {x : Str} {p2 : Pos} (hg : Gl X "isinstance") (hm : X.mg "isinstance" = none) (hgT : Gl X x) (hmT : X.mg x = none) (hvT : bootBuiltins x = some (.type (tyName t))) (hn : x ≠ "__name__") (hdb : (x == ("__debug__" : Str)) = false) (hs : noStar a = true) (ha : PE X a (tP X.K W ev ca ga)) :
    PE X (.Call (.Name "isinstance" p) [a, .Name x p2] [] pos) (tE X.K W ev (isi t ca) ga) :=
  PE.imp (pe_callB call_isi hg hm boot_isinstance (pa_cons ha (pa_cons (pe_bltn (v := .ty (tyName t)) hgT hmT hvT rfl hn hdb) pa_nil rfl) (noStar_each hs)) (by decide) (by decide) (noStar_each hs) rfl) fun σ H Q q => by
    obtain ⟨σD, T, F, gd, d, σD', ec, kk⟩ := q
    obtain ⟨dx, s1, e1, ec⟩ := bnd_ok ec
    obtain ⟨e2, rfl⟩ := lift_ok ec
    obtain ⟨rfl, hd⟩ := isiD_some e2
    refine ⟨σD, T, F, gd, dx, _, e1, fun x H1 F1 g1 p1 x1 => ?_⟩
    exact ⟨x, _, _, _, isTy t dx, rfl, .ty _, tyX_of p1 hd, kit_fact X.K t dx, kk _ H1 F1 (g1.scal ⟨rfl, fun _ => rfl⟩) x1⟩
/-- what a built-in of one argument does, of a value looked at -/
def B1S (K : PySem.W.Frag) (f : D → Option D) (r : List V → Hp → VK → Prop) : Prop :=
  ∀ (W : Wd) (H : Hp) (σD : S) (σV : L2.St) (T : List (D × V)) (F : Ct) (dx d : D) (x : V) (Q : VK), Good K W H σD σV T F → PRep K W H F dx x → f dx = some d →
    (∀ v H' F', Good K W H' σD σV ((d, v) :: T) F' → Ext H H' F F' → Q v H') → r [x] H Q
theorem b1_tc {f : D → Option D} {r : List V → Hp → VK → Prop} {K : PySem.W.Frag} {σ : L2.St} {H : Hp} {Q : VK} (hs : B1S K f r) (q : tE K W ev (bnd ca fun x => lift (f x)) ga σ H Q) : tCB r (tCons (tP K W ev ca ga) tNil) σ H Q := by
  obtain ⟨σD, T, F, gd, d, σD', ec, kk⟩ := q
  obtain ⟨dx, s1, e1, ec⟩ := bnd_ok ec
  obtain ⟨e2, e3⟩ := lift_ok ec
  subst e3
  exact ⟨σD, T, F, gd, dx, _, e1, fun x H1 F1 g1 p1 x1 => hs W H1 _ σ T F1 dx d x Q g1 p1 e2 fun v H' F' g' x' => kk v H' F' g' fun h => (x1 h).trans x'⟩
theorem s_b1 {f : D → Option D} {r : List V → Hp → VK → Prop} {x : Str} {id : String} (hc : CallR X (.builtin id) r) (hs : B1S X.K f r) (hv : bootBuiltins x = some (.builtin id)) (hg : Gl X x) (hm : X.mg x = none) (hn : x ≠ "__name__") (hdb : (x == ("__debug__" : Str)) = false) (h : noStar a = true) (ha : PE X a (tP X.K W ev ca ga)) :
    PE X (.Call (.Name x p) [a] [] pos) (tE X.K W ev (bnd ca fun x => lift (f x)) ga) :=
  PE.imp (pe_callB hc hg hm hv (pa_cons ha pa_nil (noStar_each h)) hn hdb (noStar_each h) rfl) fun σ H Q q => b1_tc hs q
theorem s_t1 {f : D → Option D} {r : List V → Hp → VK → Prop} {x : Str} {id : String} (hc : CallR X (.type id) r) (hs : B1S X.K f r) (hv : bootBuiltins x = some (.type id)) (hg : Gl X x) (hm : X.mg x = none) (hn : x ≠ "__name__") (hdb : (x == ("__debug__" : Str)) = false) (h : noStar a = true) (ha : PE X a (tP X.K W ev ca ga)) :
    PE X (.Call (.Name x p) [a] [] pos) (tE X.K W ev (bnd ca fun x => lift (f x)) ga) :=
  PE.imp (pe_callTy hc hg hm hv (pa_cons ha pa_nil (noStar_each h)) hn hdb (noStar_each h) rfl) fun σ H Q q => b1_tc hs q
end
section
variable {K : PySem.W.Frag}
theorem PRep.scrL {H : Hp} {F : Ct} {ns : List Int} {v : V} (p : PRep K W H F (.scr ns) v) : ∃ a, v = .ref a ∧ SqL K H a (ns.map V.int) := by
  obtain ⟨G, a, e, h, z⟩ := p
  exact ⟨a, e, h.elim (fun ⟨o, q⟩ => .inl (.inr ⟨o, q⟩)) .inr⟩
def rLenX (K : PySem.W.Frag) : List V → Hp → VK → Prop := fun xs H Q => (∃ p ys, xs = [.ref p] ∧ (SqL K H p ys ∨ SqT K H p ys) ∧ Q (.int ys.length) H) ∨ ∃ p rows, xs = [.ref p] ∧ DicAt H p rows ∧ Q (.int rows.length) H
theorem cr_len {X : Cx} : CallR X (.builtin "len") (rLenX X.K) := by
  intro pins s σ H xs us Q I r h
  rcases h with h | h
  · exact call_len_seq pins s σ H xs us Q I r h
  · obtain ⟨p, rows, rfl, hp, q⟩ := h
    obtain ⟨u, rfl, rx⟩ := vals1 r
    obtain rfl : u = .ref p := rx
    obtain ⟨hd, hz, _, ob, es, ep, w, h1, h2, h3, h4⟩ := hp.dp I
    have hl : rows.length = es.size := by rw [h4.length, Array.length_toList]
    rw [sizeLine_eq] at hz
    refine call_len_slot (n := (es.size : Int)) ⟨ob, h1, h2.1⟩ PySem.F.slot_dict_len (fun Q' hq => call_len_raw (es := es) (ep := ep) hd ⟨ob, h1, h2, h3⟩ hq) (by omega) (by omega) ?_
    exact ⟨.int rows.length, H, I.tok _, ⟨_, by rw [hl]⟩, q⟩
theorem b1_len : B1S K (bi1 .len) (rLenX K) := by
  intro W H σD σV T F dx d x Q gd p1 e kk
  cases dx with
  | dic o ks vs =>
    obtain rfl : D.int ks.length = d := Option.some.inj e
    obtain ⟨a, rows, G, rfl, h1, hk, _, _⟩ := p1.dic
    refine .inr ⟨a, rows, rfl, h1, ?_⟩
    have := nkL_len hk
    rw [List.length_map] at this
    rw [this]
    exact kk _ H F (gd.scal ⟨rfl, fun _ => rfl⟩) Ext.refl
  | tup xs =>
    obtain rfl : D.int xs.length = d := Option.some.inj e
    obtain ⟨a, vs, rfl, h1, r1⟩ := p1.tup
    refine .inl ⟨a, vs, rfl, .inr h1, ?_⟩
    rw [r1.length]
    exact kk _ H F (gd.scal ⟨rfl, fun _ => rfl⟩) Ext.refl
  | lst o xs =>
    obtain rfl : D.int xs.length = d := Option.some.inj e
    obtain ⟨a, vs, G, rfl, h1, r1⟩ := p1.lst
    refine .inl ⟨a, vs, rfl, .inl (.inl (.inl h1)), ?_⟩
    rw [r1.length]
    exact kk _ H F (gd.scal ⟨rfl, fun _ => rfl⟩) Ext.refl
  | scr ns =>
    obtain rfl : D.int ns.length = d := Option.some.inj e
    obtain ⟨a, rfl, h1⟩ := p1.scrL
    refine .inl ⟨a, _, rfl, .inl h1, ?_⟩
    rw [List.length_map]
    exact kk _ H F (gd.scal ⟨rfl, fun _ => rfl⟩) Ext.refl
  | _ => cases e
theorem b1_tuple : B1S K (bi1 .tuple) (fun xs H Q => ∃ p ys, xs = [.ref p] ∧ ((SqL K H p ys ∧ ∀ l, H l = none → Q (.ref l) (upd H l (.tup ys))) ∨ (SqT K H p ys ∧ Q (.ref p) H))) := by
  intro W H σD σV T F dx d x Q gd p1 e kk
  cases dx with
  | tup xs =>
    obtain rfl : D.tup xs = d := Option.some.inj e
    obtain ⟨a, vs, rfl, h1, r1⟩ := p1.tup
    exact ⟨a, vs, rfl, .inr ⟨h1, kk _ H F (gd.pushP p1 (by unfold frz; exact r1.frz_of)) Ext.refl⟩⟩
  | lst o xs =>
    have e : (if frzL xs = true then some (D.tup xs) else none) = some d := e
    split at e
    · rename_i hz
      obtain rfl : D.tup xs = d := Option.some.inj e
      obtain ⟨a, vs, G, rfl, h1, r1⟩ := p1.lst
      exact ⟨a, vs, rfl, .inl ⟨.inl (.inl h1), fun p hp => kk _ _ F (gd.newT hp (r1.z hz)) (ext_new hp)⟩⟩
    · cases e
  | _ => cases e
theorem b1_list : B1S K (bi1 .list) (fun xs H Q => ∃ p ys, xs = [.ref p] ∧ (SqL K H p ys ∨ SqT K H p ys) ∧ ∀ l, H l = none → Q (.ref l) (upd H l (.lst ys))) := by
  intro W H σD σV T F dx d x Q gd p1 e kk
  cases dx with
  | tup xs =>
    obtain rfl : D.lst true xs = d := Option.some.inj e
    obtain ⟨a, vs, rfl, h1, r1⟩ := p1.tup
    exact ⟨a, vs, rfl, .inr h1, fun p hp => kk _ _ _ (gd.newL hp r1 fun _ => rfl) (ext_newL hp)⟩
  | lst o xs =>
    have e : (if frzL xs = true then some (D.lst true xs) else none) = some d := e
    split at e
    · rename_i hz
      obtain rfl : D.lst true xs = d := Option.some.inj e
      obtain ⟨a, vs, G, rfl, h1, r1⟩ := p1.lst
      exact ⟨a, vs, rfl, .inl (.inl (.inl h1)), fun p hp => kk _ _ _ (gd.newL hp (r1.z hz) fun _ => rfl) (ext_newL hp)⟩
    · cases e
  | _ => cases e
theorem allB_rep {H : Hp} {O : Addr → Prop} : ∀ {xs : List D} {vs : List V} {G : Ct} {bs : List Bool}, RepL K H O xs vs G → allB xs = some bs → vs = bs.map V.bl
  | [], vs, G, bs, h, e => by cases e; exact h.1
  | d :: xs, vs, G, bs, h, e => by
    obtain ⟨v, vs', G1, G2, e1, h1, h2, z⟩ := h
    cases d with
    | bl b =>
      obtain ⟨bs', e2, rfl⟩ := Option.map_eq_some_iff.mp (show (allB xs).map (b :: ·) = some bs from e)
      subst e1
      rw [h1.1, allB_rep h2 e2]; rfl
    | _ => cases e
theorem intL_rep {H : Hp} {O : Addr → Prop} : ∀ {xs : List D} {vs : List V} {G : Ct} {bs : List Int}, RepL K H O xs vs G → intL xs = some bs → vs = bs.map V.int
  | [], vs, G, bs, h, e => by cases e; exact h.1
  | d :: xs, vs, G, bs, h, e => by
    obtain ⟨v, vs', G1, G2, e1, h1, h2, z⟩ := h
    cases d with
    | int b =>
      obtain ⟨bs', e2, rfl⟩ := Option.map_eq_some_iff.mp (show (intL xs).map (b :: ·) = some bs from e)
      subst e1
      rw [h1.1, intL_rep h2 e2]; rfl
    | _ => cases e
theorem b1_all : B1S K (bi1 .all) (rAll K) := by
  intro W H σD σV T F dx d x Q gd p1 e kk
  cases dx with
  | lst o xs =>
    obtain ⟨bs, e1, rfl⟩ := Option.map_eq_some_iff.mp (show (allB xs).map (fun bs => D.bl (bs.all id)) = some d from e)
    obtain ⟨a, vs, G, rfl, h1, r1⟩ := p1.lst
    have := allB_rep r1 e1
    subst this
    exact ⟨a, bs, rfl, .inl (.inl h1), kk _ H F (gd.scal ⟨rfl, fun _ => rfl⟩) Ext.refl⟩
  | _ => cases e
theorem b1_any : B1S K (bi1 .any) (rAny K) := by
  intro W H σD σV T F dx d x Q gd p1 e kk
  cases dx with
  | lst o xs =>
    obtain ⟨bs, e1, rfl⟩ := Option.map_eq_some_iff.mp (show (allB xs).map (fun bs => D.bl (bs.any id)) = some d from e)
    obtain ⟨a, vs, G, rfl, h1, r1⟩ := p1.lst
    have := allB_rep r1 e1
    subst this
    exact ⟨a, bs, rfl, .inl (.inl h1), kk _ H F (gd.scal ⟨rfl, fun _ => rfl⟩) Ext.refl⟩
  | _ => cases e
theorem b1_sum : B1S K (bi1 .sum) (rSum K) := by
  intro W H σD σV T F dx d x Q gd p1 e kk
  cases dx with
  | lst o xs =>
    obtain ⟨bs, e1, rfl⟩ := Option.map_eq_some_iff.mp (show (intL xs).map (fun bs => D.int bs.sum) = some d from e)
    obtain ⟨a, vs, G, rfl, h1, r1⟩ := p1.lst
    have := intL_rep r1 e1
    subst this
    exact ⟨a, bs, rfl, .inl (.inl h1), kk _ H F (gd.scal ⟨rfl, fun _ => rfl⟩) Ext.refl⟩
  | _ => cases e
theorem b1_int : B1S K (bi1 .int) (fun xs H Q => (∃ i, xs = [.int i] ∧ Q (.int i) H) ∨ ∃ k, xs = [.bl k] ∧ Q (.int (if k then 1 else 0)) H) := by
  intro W H σD σV T F dx d x Q gd p1 e kk
  cases dx with
  | int i =>
    obtain rfl : D.int i = d := Option.some.inj e
    rw [p1.int]
    exact .inl ⟨i, rfl, kk _ H F (gd.scal ⟨rfl, fun _ => rfl⟩) Ext.refl⟩
  | bl b =>
    obtain rfl : D.int (if b = true then 1 else 0) = d := Option.some.inj e
    rw [p1.bl]
    exact .inr ⟨b, rfl, kk _ H F (gd.scal ⟨rfl, fun _ => rfl⟩) Ext.refl⟩
  | _ => cases e
theorem b1_str : B1S K (bi1 .str) (fun xs H Q => ∃ i, xs = [.int i] ∧ i.natAbs.log2 < 1920 ∧ Q (.str (toString i)) H) := by
  intro W H σD σV T F dx d x Q gd p1 e kk
  cases dx with
  | int i =>
    have e : (if i.natAbs.log2 < 1920 then some (D.str (toString i)) else none) = some d := e
    split at e
    · rename_i hz
      obtain rfl : D.str (toString i) = d := Option.some.inj e
      rw [p1.int]
      exact ⟨i, rfl, hz, kk _ H F (gd.scal ⟨rfl, fun _ => rfl⟩) Ext.refl⟩
    · cases e
  | _ => cases e
theorem b1_abs : B1S K (bi1 .abs) (fun xs H Q => ∃ i, xs = [.int i] ∧ Q (.int (if i < 0 then -i else i)) H) := by
  intro W H σD σV T F dx d x Q gd p1 e kk
  cases dx with
  | int i =>
    obtain rfl : D.int (if i < 0 then -i else i) = d := Option.some.inj e
    rw [p1.int]
    exact ⟨i, rfl, kk _ H F (gd.scal ⟨rfl, fun _ => rfl⟩) Ext.refl⟩
  | _ => cases e
end
/-- a built-in of one argument, by its name -/
def biName : Bi → Str
  | .len => "len" | .tuple => "tuple" | .list => "list" | .all => "all" | .any => "any" | .int => "int" | .str => "str" | .min => "min" | .max => "max" | .sum => "sum" | .abs => "abs"
section
variable {X : Cx} {W : Wd} {ev : Env} {a b e : Expr} {ca cb : Sm D} {ga gb : Bool} {pos p : Pos}
theorem s_blt1 {f : Bi} (hc : X.calm = true) (hf : f ≠ .min ∧ f ≠ .max) (hg : Gl X (biName f)) (hm : X.mg (biName f) = none) (h : noStar a = true) (ha : PE X a (tP X.K W ev ca ga)) : PE X (.Call (.Name (biName f) p) [a] [] pos) (tE X.K W ev (blt1 f ca) ga) := by
  cases f
  case len => exact s_b1 cr_len b1_len boot_len hg hm (by decide) (by decide) h ha
  case tuple => exact s_t1 call_tuple_of b1_tuple boot_tuple hg hm (by decide) (by decide) h ha
  case list => exact s_t1 call_list_of b1_list boot_list hg hm (by decide) (by decide) h ha
  case all => exact s_b1 (cr_all hc) b1_all boot_all hg hm (by decide) (by decide) h ha
  case any => exact s_b1 (cr_any hc) b1_any boot_any hg hm (by decide) (by decide) h ha
  case int => exact s_t1 call_int1 b1_int boot_int hg hm (by decide) (by decide) h ha
  case str => exact s_t1 call_str_int b1_str boot_str hg hm (by decide) (by decide) h ha
  case sum => exact s_b1 (cr_sum hc) b1_sum boot_sum hg hm (by decide) (by decide) h ha
  case abs => exact s_b1 call_abs b1_abs boot_abs hg hm (by decide) (by decide) h ha
  case min => exact absurd rfl hf.1
  case max => exact absurd rfl hf.2
theorem s_blt2 {f : Bi} (hc : X.calm = true) (hf : f = .min ∨ f = .max) (hg : Gl X (biName f)) (hm : X.mg (biName f) = none) (h : noStar a = true) (h2 : noStar b = true) (ha : PE X a (tP X.K W ev ca ga)) (hb : PE X b (tP X.K W ev cb gb)) :
    PE X (.Call (.Name (biName f) p) [a, b] [] pos) (tE X.K W ev (blt2 f gb ca cb) (ga && gb)) := by
  have hpl : (backTo pos (starEach [b] X.env)).any (·.1) = false := noStar_back (by rw [List.all_cons, h2]; rfl)
  rcases hf with rfl | rfl
  · refine PE.imp (pe_callB (call_min2 hc) hg hm boot_min (pa_cons ha (pa_cons hb pa_nil (noStar_each h2)) (noStar_each h)) (by decide) (by decide) (noStar_each h) hpl) fun σ H Q q => ?_
    refine two (r := fun x y H Q => ∃ i j, [x, y] = [V.int i, V.int j] ∧ Q (.int (if j < i then j else i)) H) q fun σD T F F0 dx dy x y H2 g2 p1 p2 _ ⟨d, σD', ec, kk⟩ => ?_
    obtain ⟨e1, e2⟩ := lift_ok ec
    subst e2
    cases dx with
    | int i =>
      cases dy with
      | int j =>
        obtain rfl : D.int (if j < i then j else i) = d := Option.some.inj e1
        rw [p1.int, p2.int]
        exact ⟨i, j, rfl, kk _ H2 F (g2.scal ⟨rfl, fun _ => rfl⟩) Ext.refl⟩
      | _ => cases e1
    | _ => cases e1
  · refine PE.imp (pe_callB (call_max2 hc) hg hm boot_max (pa_cons ha (pa_cons hb pa_nil (noStar_each h2)) (noStar_each h)) (by decide) (by decide) (noStar_each h) hpl) fun σ H Q q => ?_
    refine two (r := fun x y H Q => ∃ i j, [x, y] = [V.int i, V.int j] ∧ Q (.int (if j > i then j else i)) H) q fun σD T F F0 dx dy x y H2 g2 p1 p2 _ ⟨d, σD', ec, kk⟩ => ?_
    obtain ⟨e1, e2⟩ := lift_ok ec
    subst e2
    cases dx with
    | int i =>
      cases dy with
      | int j =>
        obtain rfl : D.int (if j > i then j else i) = d := Option.some.inj e1
        rw [p1.int, p2.int]
        exact ⟨i, j, rfl, kk _ H2 F (g2.scal ⟨rfl, fun _ => rfl⟩) Ext.refl⟩
      | _ => cases e1
    | _ => cases e1
/-- x.upper() -/
theorem s_upper {apos : Pos} (hbase : attributeBase a "upper" X.env (eval a X.env) = eval a X.env) (hline : (apos.endLine == pos.line) = true) (ha : PE X a (tP X.K W ev ca ga)) : PE X (.Call (.Attribute a "upper" apos) [] [] pos) (tE X.K W ev (upper ca) ga) :=
  PE.imp (pe_upper ha hbase hline) fun σ H Q q => by
    obtain ⟨σD, T, F, gd, d, σD', ec, kk⟩ := q
    obtain ⟨dx, s1, e1, ec⟩ := bnd_ok ec
    obtain ⟨e2, e3⟩ := lift_ok ec
    subst e3
    refine ⟨σD, T, F, gd, dx, _, e1, fun x H1 F1 g1 p1 x1 => ?_⟩
    cases dx with
    | str y =>
      have e2 : (if y.length ≤ 5592405 then some (D.str (Txt.upper y)) else none) = some d := e2
      split at e2
      · rename_i hz
        obtain rfl : D.str (Txt.upper y) = d := Option.some.inj e2
        rw [p1.str]
        exact ⟨⟨y, rfl⟩, y, rfl, rfl, hz, kk _ H1 F1 (g1.scal ⟨rfl, fun _ => rfl⟩) x1⟩
      · cases e2
    | _ => cases e2
end
end Tw

set_option Elab.async false
set_option linter.all false
set_option maxRecDepth 100000
/-! Tw.EvJ: calls of the text's own defs. -/
namespace Tw
open PySem PySem.Spec PyProof.Rows L2

/-! ### slots put aside -/
def clr (p : Nat → Bool) (s : S) : S := s.mapIdx fun i o => if p i = true then none else o
theorem clr_get (p : Nat → Bool) (s : S) (i : Nat) : (clr p s)[i]? = (s[i]?).map fun o => if p i = true then none else o := by
  unfold clr; rw [List.getElem?_mapIdx]
theorem clr_len (p : Nat → Bool) (s : S) : (clr p s).length = s.length := by unfold clr; rw [List.length_mapIdx]
theorem clr_set (p : Nat → Bool) (s : S) (i : Nat) : (clr p s).set i none = clr (fun j => p j || j == i) s := by
  apply List.ext_getElem?
  intro j
  rw [List.getElem?_set, clr_get, clr_get, clr_len]
  by_cases h : i = j
  · subst h
    rw [if_pos rfl]
    by_cases hl : i < s.length
    · rw [if_pos hl, List.getElem?_eq_getElem hl]
      simp
    · rw [if_neg hl, List.getElem?_eq_none (by omega)]; rfl
  · rw [if_neg h]
    have e : (j == i) = false := by simp [Ne.symm h]
    rw [e, Bool.or_false]
theorem clr_put (p : Nat → Bool) (s : S) (i : Nat) (o : Option D) (h : p i = false) : (clr p s).set i o = clr p (s.set i o) := by
  apply List.ext_getElem?
  intro j
  rw [List.getElem?_set, clr_get, clr_get, clr_len, List.getElem?_set]
  by_cases hj : i = j
  · subst hj
    rw [if_pos rfl, if_pos rfl]
    by_cases hl : i < s.length
    · rw [if_pos hl]; simp [h]
    · rw [if_neg hl]; rfl
  · rw [if_neg hj, if_neg hj]
theorem clr_false (s : S) : clr (fun _ => false) s = s := by
  apply List.ext_getElem?
  intro j
  rw [clr_get]
  cases s[j]? <;> rfl
theorem clr_congr {p q : Nat → Bool} (h : ∀ j, p j = q j) (s : S) : clr p s = clr q s := by
  have : p = q := funext h
  rw [this]

theorem lent_f {s : S} {i : Nat} {d : D} {r : List (Nat ⊕ D)} (e : s[i]? = some (some d)) (hz : frz d = true) : lent s (.inl i :: r) = lent s r := by
  show (match s[i]? with
    | some (some d) => if frz d = true then lent s r else i :: lent s r
    | _ => lent s r) = _
  rw [e]; exact if_pos hz
theorem lent_o {s : S} {i : Nat} {d : D} {r : List (Nat ⊕ D)} (e : s[i]? = some (some d)) (hz : frz d = false) : lent s (.inl i :: r) = i :: lent s r := by
  show (match s[i]? with
    | some (some d) => if frz d = true then lent s r else i :: lent s r
    | _ => lent s r) = _
  rw [e]; exact if_neg (by rw [hz]; exact Bool.false_ne_true)
theorem lent_n {s : S} {i : Nat} {r : List (Nat ⊕ D)} (e : ∀ d, s[i]? ≠ some (some d)) : lent s (.inl i :: r) = lent s r := by
  show (match s[i]? with
    | some (some d) => if frz d = true then lent s r else i :: lent s r
    | _ => lent s r) = _
  split
  · rename_i d h; exact absurd h (e d)
  · rfl
theorem lent_r {s : S} {d : D} {r : List (Nat ⊕ D)} : lent s (.inr d :: r) = lent s r := rfl
theorem back_f {s : S} {i : Nat} {d : D} {r : List (Nat ⊕ D)} {f : Option D} {fs : S} (e : s[i]? = some (some d)) (hz : frz d = true) : back s (.inl i :: r) (f :: fs) = back s r fs := by
  show (match s[i]? with
    | some (some d) => if frz d = true then back s r fs else (back s r fs).set i f
    | _ => back s r fs) = _
  rw [e]; exact if_pos hz
theorem back_o {s : S} {i : Nat} {d : D} {r : List (Nat ⊕ D)} {f : Option D} {fs : S} (e : s[i]? = some (some d)) (hz : frz d = false) : back s (.inl i :: r) (f :: fs) = (back s r fs).set i f := by
  show (match s[i]? with
    | some (some d) => if frz d = true then back s r fs else (back s r fs).set i f
    | _ => back s r fs) = _
  rw [e]; exact if_neg (by rw [hz]; exact Bool.false_ne_true)
theorem back_n {s : S} {i : Nat} {r : List (Nat ⊕ D)} {f : Option D} {fs : S} (e : ∀ d, s[i]? ≠ some (some d)) : back s (.inl i :: r) (f :: fs) = back s r fs := by
  show (match s[i]? with
    | some (some d) => if frz d = true then back s r fs else (back s r fs).set i f
    | _ => back s r fs) = _
  split
  · rename_i d h; exact absurd h (e d)
  · rfl
theorem back_r {s : S} {d : D} {r : List (Nat ⊕ D)} {f : Option D} {fs : S} : back s (.inr d :: r) (f :: fs) = back s r fs := rfl
theorem back_nil {s fin : S} : back s [] fin = s := by cases fin <;> rfl

/-! ### arguments -/
def tmps : List (Nat ⊕ D) → List V → List (D × V) → List (D × V)
  | .inl _ :: r, _ :: vs, T => tmps r vs T
  | .inr d :: r, v :: vs, T => tmps r vs ((d, v) :: T)
  | _, _, T => T
def argsAt (σ : L2.St) : List (Nat ⊕ D) → List V → Prop
  | [], [] => True
  | .inl i :: r, v :: vs => σ[i]? = some (some v) ∧ argsAt σ r vs
  | .inr _ :: r, _ :: vs => argsAt σ r vs
  | _, _ => False
def tAs (K : PySem.W.Frag) (W : Wd) (ev : Env) (as : List (Nat ⊕ Sm D)) : TA := fun σV H Q => ∃ σD T F, Good K W H σD σV T F ∧ ∃ xs σD', argv as ev σD = .ok xs σD' ∧
  ∀ vs H' F', argsAt σV xs vs → Good K W H' σD' σV (tmps xs vs T) F' → Q vs H'
section
variable {X : Cx} {W : Wd} {ev : Env} {a b e : Expr} {ca cb : Sm D} {ga gb : Bool} {pos p : Pos} {es : List Expr} {as : List (Nat ⊕ Sm D)}
theorem sas_nil : PA X [] (tAs X.K W ev []) := PA.imp pa_nil fun σ H Q q => by
  obtain ⟨σD, T, F, gd, xs, σD', ec, kk⟩ := q
  obtain ⟨rfl, rfl⟩ := ret_ok (show ret [] ev σD = .ok xs σD' from ec)
  exact kk [] H F trivial gd
theorem sas_var {i : Nat} {x : Str} {px : Pos} (hN : X.N[i]? = some x) (hv : Vis X.env.scope x) (hd : (x == ("__debug__" : Str)) = false) (hcd : (x == ("__classdict__" : Str)) = false) (hs : PA X es (tAs X.K W ev as)) : PA X (.Name x px :: es) (tAs X.K W ev (.inl i :: as)) :=
  PA.imp (pa_cons (pe_var (i := i) hN hv hd hcd) hs rfl) fun σ H Q q => by
    obtain ⟨σD, T, F, gd, xs, σD', ec, kk⟩ := q
    obtain ⟨d, s1, e1, ec⟩ := bnd_ok (show bnd (vP i) (fun _ => bnd (argv as) fun xs => ret (.inl i :: xs)) ev σD = .ok xs σD' from ec)
    obtain ⟨ys, s2, e2, ec⟩ := bnd_ok ec
    obtain ⟨rfl, rfl⟩ := ret_ok ec
    unfold vP at e1
    split at e1
    · rename_i d' ed
      cases e1
      obtain ⟨v, ev', _⟩ := gd.var ed
      exact ⟨v, ev', σD, T, F, gd, ys, σD', e2, fun vs H' F' ha g' => kk (v :: vs) H' F' ⟨ev', ha⟩ g'⟩
    · cases e1
theorem sas_val (h : noStar e = true) (ha : PE X e (tE X.K W ev ca ga)) (hs : PA X es (tAs X.K W ev as)) : PA X (e :: es) (tAs X.K W ev (.inr ca :: as)) :=
  PA.imp (pa_cons ha hs (noStar_each h)) fun σ H Q q => by
    obtain ⟨σD, T, F, gd, xs, σD', ec, kk⟩ := q
    obtain ⟨d, s1, e1, ec⟩ := bnd_ok (show bnd ca (fun x => bnd (argv as) fun xs => ret (.inr x :: xs)) ev σD = .ok xs σD' from ec)
    obtain ⟨ys, s2, e2, ec⟩ := bnd_ok ec
    obtain ⟨rfl, rfl⟩ := ret_ok ec
    exact ⟨σD, T, F, gd, d, s1, e1, fun v H1 F1 g1 _ => ⟨s1, (d, v) :: T, F1, g1, ys, σD', e2, fun vs H' F' ha' g' => kk (v :: vs) H' F' ha' g'⟩⟩
end
theorem argsAt_len {σ : L2.St} : ∀ {xs : List (Nat ⊕ D)} {vs : List V}, argsAt σ xs vs → vs.length = xs.length
  | [], [], _ => rfl
  | .inl i :: r, v :: vs, h => by rw [List.length_cons, List.length_cons, argsAt_len h.2]
  | .inr d :: r, v :: vs, h => by
    unfold argsAt at h
    rw [List.length_cons, List.length_cons, argsAt_len h]
  | [], _ :: _, h => by unfold argsAt at h; exact h.elim
  | .inl _ :: _, [], h => by unfold argsAt at h; exact h.elim
  | .inr _ :: _, [], h => by unfold argsAt at h; exact h.elim
theorem argd_len {s : S} : ∀ {xs : List (Nat ⊕ D)} {ds : List D}, argd s xs = some ds → ds.length = xs.length
  | [], ds, h => by cases h; rfl
  | .inl i :: r, ds, h => by
    unfold argd at h
    obtain ⟨o, e1, h⟩ := Option.bind_eq_some_iff.mp h
    obtain ⟨d, e2, h⟩ := Option.bind_eq_some_iff.mp h
    obtain ⟨ds', e3, rfl⟩ := Option.map_eq_some_iff.mp h
    rw [List.length_cons, List.length_cons, argd_len e3]
  | .inr d :: r, ds, h => by
    unfold argd at h
    obtain ⟨ds', e3, rfl⟩ := Option.map_eq_some_iff.mp h
    rw [List.length_cons, List.length_cons, argd_len e3]
section
variable {K : PySem.W.Frag} {H H' : Hp} {O O' : Addr → Prop} {σV : L2.St} {s : S}
/-- what is handed over is parted from what stays -/
theorem args_split : ∀ {xs : List (Nat ⊕ D)} {vs : List V} {ds : List D} {T : List (D × V)} {Fs Ft : Ct} {p : Nat → Bool}, argsAt σV xs vs → argd s xs = some ds → nodupN (lent s xs) = true →
    (∀ j, p j = true → (∃ d, s[j]? = some (some d) ∧ frz d = false) ∧ (lent s xs).contains j = false) → RepS K H O (clr p s) σV Fs → RepT K H O (tmps xs vs T) Ft →
    ∃ Gs Gt Ga, RepS K H O (clr (fun j => p j || (lent s xs).contains j) s) σV Gs ∧ RepT K H O T Gt ∧ RepL K H O ds vs Ga ∧ ∀ a, Fs a + Ft a = Gs a + Gt a + Ga a
  | [], [], ds, T, Fs, Ft, p, _, e, _, _, r1, r2 => by
    cases e
    refine ⟨Fs, Ft, z0, ?_, r2, ⟨rfl, fun _ => rfl⟩, fun a => by show Fs a + Ft a = Fs a + Ft a + 0; omega⟩
    rw [clr_congr (q := p) (fun j => by simp [lent])]
    exact r1
  | .inl i :: r, v :: vs, ds, T, Fs, Ft, p, h, e, hn, hp, r1, r2 => by
    unfold argd at e
    obtain ⟨o, e1, e⟩ := Option.bind_eq_some_iff.mp e
    obtain ⟨d, e2, e⟩ := Option.bind_eq_some_iff.mp e
    obtain ⟨ds', e3, rfl⟩ := Option.map_eq_some_iff.mp e
    cases e2
    by_cases hz : frz d = true
    · have el := lent_f (r := r) e1 hz
      rw [el] at hn hp ⊢
      have pi : p i = false := by
        cases hpi : p i with
        | false => rfl
        | true =>
          obtain ⟨⟨d', q1, q2⟩, _⟩ := hp i hpi
          rw [e1] at q1; cases q1; rw [hz] at q2; cases q2
      have hget : (clr p s)[i]? = some (some d) := by rw [clr_get, e1]; simp [pi]
      obtain ⟨v', G1, G2, a1, a2, a3, a4⟩ := r1.get hget
      rw [h.1] at a1; cases a1
      obtain ⟨Gs, Gt, Ga, b1, b2, b3, b4⟩ := args_split h.2 e3 hn hp r1 r2
      exact ⟨Gs, Gt, Ga, b1, b2, ⟨v, vs, z0, Ga, rfl, Rep.z a2 hz, b3, fun a => by show Ga a = 0 + Ga a; omega⟩, b4⟩
    · have hz' : frz d = false := by simpa using hz
      have el := lent_o (r := r) e1 hz'
      rw [el] at hn hp ⊢
      unfold nodupN at hn
      rw [Bool.and_eq_true] at hn
      have hni : (lent s r).contains i = false := by simpa using hn.1
      have pi : p i = false := by
        cases hpi : p i with
        | false => rfl
        | true => have := (hp i hpi).2; simp at this
      have hget : (clr p s)[i]? = some (some d) := by rw [clr_get, e1]; simp [pi]
      obtain ⟨v', G1, G2, a1, a2, a3, a4⟩ := r1.get hget
      rw [h.1] at a1; cases a1
      rw [clr_set] at a3
      obtain ⟨Gs, Gt, Ga, b1, b2, b3, b4⟩ := args_split (p := fun j => p j || j == i) h.2 e3 hn.2 (fun j hj => by
        rw [Bool.or_eq_true] at hj
        rcases hj with hj | hj
        · obtain ⟨q1, q2⟩ := hp j hj
          refine ⟨q1, ?_⟩
          rw [List.contains_cons, Bool.or_eq_false_iff] at q2
          exact q2.2
        · have : j = i := by simpa using hj
          subst this
          exact ⟨⟨d, e1, hz'⟩, hni⟩) a3 r2
      refine ⟨Gs, Gt, fun a => G1 a + Ga a, ?_, b2, ⟨v, vs, G1, Ga, rfl, a2, b3, fun _ => rfl⟩, fun a => ?_⟩
      · rw [clr_congr (fun j => ?_)]
        · exact b1
        · rw [List.contains_cons, Bool.or_assoc]
      · show Fs a + Ft a = Gs a + Gt a + (G1 a + Ga a)
        have := b4 a
        rw [a4 a]; omega
  | .inr d :: r, v :: vs, ds, T, Fs, Ft, p, h, e, hn, hp, r1, r2 => by
    unfold argd at e
    obtain ⟨ds', e3, rfl⟩ := Option.map_eq_some_iff.mp e
    have el : lent s (.inr d :: r) = lent s r := rfl
    rw [el] at hn hp ⊢
    obtain ⟨Gs, Gt, Ga, b1, b2, b3, b4⟩ := args_split (T := (d, v) :: T) (show argsAt σV r vs from h) e3 hn hp r1 r2
    obtain ⟨G1, G2, c1, c2, c3⟩ := b2
    exact ⟨Gs, G2, fun a => G1 a + Ga a, b1, c2, ⟨v, vs, G1, Ga, rfl, c1, b3, fun _ => rfl⟩, fun a => by dsimp only; have := b4 a; rw [c3 a] at this; omega⟩
  | [], _ :: _, _, _, _, _, _, h, _, _, _, _, _ => by unfold argsAt at h; exact h.elim
  | .inl _ :: _, [], _, _, _, _, _, h, _, _, _, _, _ => by unfold argsAt at h; exact h.elim
  | .inr _ :: _, [], _, _, _, _, _, h, _, _, _, _, _ => by unfold argsAt at h; exact h.elim
theorem back_len : ∀ (xs : List (Nat ⊕ D)) (fin : S), (back s xs fin).length = s.length
  | .inl i :: r, f :: fs => by
    cases hs : s[i]? with
    | none => rw [back_n (by rw [hs]; intro d h; cases h)]; exact back_len r fs
    | some o =>
      cases o with
      | none => rw [back_n (by rw [hs]; intro d h; cases h)]; exact back_len r fs
      | some d =>
        cases hz : frz d with
        | true => rw [back_f hs hz]; exact back_len r fs
        | false => rw [back_o hs hz, List.length_set]; exact back_len r fs
  | .inr _ :: r, _ :: fs => back_len r fs
  | [], fin => by rw [back_nil]
  | .inl _ :: _, [] => rfl
  | .inr _ :: _, [] => rfl
/-- what comes back is put in its place -/
theorem back_rep : ∀ {xs : List (Nat ⊕ D)} {vs : List V} {fin : S} {Gs G2 : Ct} {p : Nat → Bool}, argsAt σV xs vs → nodupN (lent s xs) = true →
    (∀ j, p j = true → (lent s xs).contains j = false) → RepS K H O (clr (fun j => p j || (lent s xs).contains j) s) σV Gs → RepS K H O fin (vs.map some) G2 →
    ∃ G3 : Ct, RepS K H O (clr p (back s xs fin)) σV (fun a => Gs a + G3 a) ∧ ∀ a, G3 a ≤ G2 a
  | [], [], fin, Gs, G2, p, _, _, _, r1, _ => by
    refine ⟨z0, ?_, fun a => Nat.zero_le _⟩
    have e : back s [] fin = s := back_nil
    rw [e, clr_congr (q := fun j => p j || (lent s []).contains j) (fun j => by simp [lent])]
    exact RepS.ct r1 fun a => by show Gs a + 0 = Gs a; omega
  | .inl i :: r, v :: vs, [], Gs, G2, p, _, _, _, _, r2 => by
    rw [List.map_cons] at r2; unfold RepS at r2; exact r2.elim
  | .inr i :: r, v :: vs, [], Gs, G2, p, _, _, _, _, r2 => by
    rw [List.map_cons] at r2; unfold RepS at r2; exact r2.elim
  | .inr d :: r, v :: vs, f :: fs, Gs, G2, p, h, hn, hp, r1, r2 => by
    have el : lent s (.inr d :: r) = lent s r := rfl
    rw [el] at hn hp r1
    have eb : back s (.inr d :: r) (f :: fs) = back s r fs := rfl
    rw [eb]
    rw [List.map_cons] at r2
    cases f with
    | none =>
      unfold RepS at r2
      exact back_rep (show argsAt σV r vs from h) hn hp r1 r2
    | some d' =>
      obtain ⟨G4, G5, c1, c2, c3⟩ := r2
      obtain ⟨G3, b1, b2⟩ := back_rep (show argsAt σV r vs from h) hn hp r1 c2
      exact ⟨G3, b1, fun a => by rw [c3 a]; have := b2 a; omega⟩
  | .inl i :: r, v :: vs, f :: fs, Gs, G2, p, h, hn, hp, r1, r2 => by
    rw [List.map_cons] at r2
    -- the rest of what comes back
    obtain ⟨G5, c2, c4⟩ : ∃ G5, RepS K H O fs (vs.map some) G5 ∧ ∀ a, G5 a ≤ G2 a := by
      cases f with
      | none => unfold RepS at r2; exact ⟨G2, r2, fun a => Nat.le_refl _⟩
      | some d' =>
        obtain ⟨G4, G5, c1, c2, c3⟩ := r2
        exact ⟨G5, c2, fun a => by rw [c3 a]; omega⟩
    -- is it lent?
    cases hs : s[i]? with
    | none =>
      have el := lent_n (r := r) (s := s) (i := i) (by rw [hs]; intro d h; cases h)
      have eb := back_n (r := r) (s := s) (i := i) (f := f) (fs := fs) (by rw [hs]; intro d h; cases h)
      rw [el] at hn hp r1
      rw [eb]
      obtain ⟨G3, b1, b2⟩ := back_rep h.2 hn hp r1 c2
      exact ⟨G3, b1, fun a => Nat.le_trans (b2 a) (c4 a)⟩
    | some o =>
      cases o with
      | none =>
        have el := lent_n (r := r) (s := s) (i := i) (by rw [hs]; intro d h; cases h)
        have eb := back_n (r := r) (s := s) (i := i) (f := f) (fs := fs) (by rw [hs]; intro d h; cases h)
        rw [el] at hn hp r1
        rw [eb]
        obtain ⟨G3, b1, b2⟩ := back_rep h.2 hn hp r1 c2
        exact ⟨G3, b1, fun a => Nat.le_trans (b2 a) (c4 a)⟩
      | some d =>
        by_cases hz : frz d = true
        · have el := lent_f (r := r) hs hz
          have eb := back_f (r := r) (f := f) (fs := fs) hs hz
          rw [el] at hn hp r1
          rw [eb]
          obtain ⟨G3, b1, b2⟩ := back_rep h.2 hn hp r1 c2
          exact ⟨G3, b1, fun a => Nat.le_trans (b2 a) (c4 a)⟩
        · have hz' : frz d = false := by simpa using hz
          have el := lent_o (r := r) hs hz'
          have eb := back_o (r := r) (f := f) (fs := fs) hs hz'
          rw [el] at hn hp r1
          rw [eb]
          unfold nodupN at hn
          rw [Bool.and_eq_true] at hn
          have hni : (lent s r).contains i = false := by simpa using hn.1
          have pi : p i = false := by
            cases hpi : p i with
            | false => rfl
            | true => have := hp i hpi; simp at this
          have hi : i < s.length := (List.getElem?_eq_some_iff.mp hs).1
          rw [clr_congr (q := fun j => (p j || j == i) || (lent s r).contains j) (fun j => by rw [List.contains_cons, Bool.or_assoc])] at r1
          obtain ⟨G3, b1, b2⟩ := back_rep (p := fun j => p j || j == i) h.2 hn.2 (fun j hj => by
            rw [Bool.or_eq_true] at hj
            rcases hj with hj | hj
            · have q := hp j hj
              rw [List.contains_cons, Bool.or_eq_false_iff] at q
              exact q.2
            · have : j = i := by simpa using hj
              subst this
              exact hni) r1 c2
          rw [← clr_set] at b1
          cases f with
          | none =>
            rw [← clr_put p _ i none pi]
            exact ⟨G3, b1, fun a => Nat.le_trans (b2 a) (c4 a)⟩
          | some d' =>
            obtain ⟨G4, G6, c1, c5, c3⟩ := r2
            obtain ⟨G7, b3, b4⟩ := back_rep (p := fun j => p j || j == i) h.2 hn.2 (fun j hj => by
              rw [Bool.or_eq_true] at hj
              rcases hj with hj | hj
              · have q := hp j hj
                rw [List.contains_cons, Bool.or_eq_false_iff] at q
                exact q.2
              · have : j = i := by simpa using hj
                subst this
                exact hni) r1 c5
            rw [← clr_set] at b3
            have s1 := RepS.put b3 (by rw [clr_len, back_len]; exact hi) c1
            rw [set_self h.1, clr_put p _ i _ pi] at s1
            refine ⟨fun a => G4 a + G7 a, RepS.ct s1 fun a => by dsimp only; omega, fun a => ?_⟩
            have := b4 a
            show G4 a + G7 a ≤ G2 a
            rw [c3 a]; omega
  | [], _ :: _, _, _, _, _, h, _, _, _, _ => by unfold argsAt at h; exact h.elim
  | .inl _ :: _, [], _, _, _, _, h, _, _, _, _ => by unfold argsAt at h; exact h.elim
  | .inr _ :: _, [], _, _, _, _, h, _, _, _, _ => by unfold argsAt at h; exact h.elim
end
end Tw

set_option Elab.async false
set_option linter.all false
set_option maxRecDepth 100000
/-! Tw.EvK: what a def promises; its call. -/
namespace Tw
open PySem PySem.Spec PyProof.Rows L2

def OwnB (B : Addr → Prop) (F : Ct) : Addr → Prop := fun a => 1 ≤ F a ∨ B a
/-- at a call: the arguments, how much of them is handed over (F), what the callers own beside (B) -/
structure CallIn (K : PySem.W.Frag) (H : Hp) (ds : List D) (vs : List V) (F : Ct) (B : Addr → Prop) : Prop where
  rep : RepL K H (OwnB B F) ds vs F
  one : ∀ a, F a ≤ 1
  bw : ∀ a, B a → F a = 0 ∧ H a ≠ none
/-- behind a call -/
structure CallOut (K : PySem.W.Frag) (H : Hp) (F : Ct) (B : Addr → Prop) (d : D) (v : V) (fin : S) (vs : List V) (H' : Hp) (F' : Ct) : Prop where
  rep : ∃ G1 G2, Rep K H' (OwnB B F') d v G1 ∧ RepS K H' (OwnB B F') fin (vs.map some) G2 ∧ ∀ a, F' a = G1 a + G2 a
  one : ∀ a, F' a ≤ 1
  new : ∀ a, 1 ≤ F' a → 1 ≤ F a ∨ H a = none
  old : ∀ a o, H a = some o → F a = 0 → H' a = some o
  som : ∀ o ∈ fin, o ≠ none
/-- the promise of a def whose run is r -/
def spR (K : PySem.W.Frag) (n : Nat) (r : List D → R D) : Sp := fun vs H Q _ => ∃ ds F B d fin, CallIn K H ds vs F B ∧ ds.length = n ∧ r ds = .ok d fin ∧ ∀ v H' F', CallOut K H F B d v fin vs H' F' → Q v H'
/-- a def that may be called -/
structure Cal (P : Program) (w : World) (K : PySem.W.Frag) (mg : Str → Option Value) (base : Heap) (k : Nat) (f : Str) (sp : Sp) : Prop where
  ex : ∃ (a : Addr) (fd : FuncData) (ps : List Str), FnOk P w K mg base CX0 k a fd ps sp ∧ mg f = some (.ref a) ∧ PySem.W.keepIn K (.ref a) = true ∧ Binds K fd ps []

theorem back_some {s : S} {j : Nat} {d : D} : ∀ (xs : List (Nat ⊕ D)) (fin : S), (∀ o ∈ fin, o ≠ none) → s[j]? = some (some d) → ∃ d', (back s xs fin)[j]? = some (some d')
  | [], fin, _, e => by rw [back_nil]; exact ⟨d, e⟩
  | .inl _ :: _, [], _, e => ⟨d, e⟩
  | .inr _ :: _, [], _, e => ⟨d, e⟩
  | .inr _ :: r, f :: fs, h, e => back_some r fs (fun o ho => h o (List.mem_cons_of_mem _ ho)) e
  | .inl i :: r, f :: fs, h, e => by
    obtain ⟨d1, e1⟩ := back_some r fs (fun o ho => h o (List.mem_cons_of_mem _ ho)) e
    cases hs : s[i]? with
    | none => rw [back_n (by rw [hs]; intro d h; cases h)]; exact ⟨d1, e1⟩
    | some o =>
      cases o with
      | none => rw [back_n (by rw [hs]; intro d h; cases h)]; exact ⟨d1, e1⟩
      | some d2 =>
        cases hz : frz d2 with
        | true => rw [back_f hs hz]; exact ⟨d1, e1⟩
        | false =>
          rw [back_o hs hz]
          by_cases hij : i = j
          · subst hij
            cases f with
            | none => exact absurd rfl (h none List.mem_cons_self)
            | some d' => exact ⟨d', List.getElem?_set_self (List.getElem?_eq_some_iff.mp e1).1⟩
          · exact ⟨d1, by rw [List.getElem?_set_ne hij]; exact e1⟩

section
variable {K : PySem.W.Frag} {W : Wd} {H1 : Hp} {s1 : S} {σ : L2.St} {T : List (D × V)} {F1 : Ct} {xs : List (Nat ⊕ D)} {vs : List V} {ds : List D}
/-- a frame at a call, and behind it -/
theorem Good.call (g1 : Good K W H1 s1 σ (tmps xs vs T) F1) (ha : argsAt σ xs vs) (e1 : argd s1 xs = some ds) (hn : nodupN (lent s1 xs) = true) :
    ∃ F B, CallIn K H1 ds vs F B ∧ ∀ d v fin H' F', CallOut K H1 F B d v fin vs H' F' → ∃ Fn, Good K W H' (back s1 xs fin) σ ((d, v) :: T) Fn := by
  obtain ⟨Fs, Ft, r1, r2, z⟩ := g1.rep
  obtain ⟨Gs, Gt, Ga, q1, q2, q3, q4⟩ := args_split (p := fun _ => false) ha e1 hn (fun j hj => by cases hj) (by rw [clr_false]; exact r1) r2
  have z2 : ∀ a, F1 a = Gs a + Gt a + Ga a := fun a => by rw [z a, q4 a]
  have hB : ∀ a, OwnB (fun a => 1 ≤ Gs a + Gt a ∨ W.B a) Ga a ↔ Own W F1 a := fun a => by
    unfold OwnB Own
    rw [z2 a]
    constructor
    · rintro (h | h | h)
      · exact .inl (by omega)
      · exact .inl (by omega)
      · exact .inr h
    · rintro (h | h)
      · by_cases h1 : 1 ≤ Ga a
        · exact .inl h1
        · exact .inr (.inl (by omega))
      · exact .inr (.inr h)
  have eB : OwnB (fun a => 1 ≤ Gs a + Gt a ∨ W.B a) Ga = Own W F1 := funext fun a => propext (hB a)
  refine ⟨Ga, fun a => 1 ≤ Gs a + Gt a ∨ W.B a, ⟨by rw [eB]; exact q3, fun a => by have := g1.one a; rw [z2 a] at this; omega, fun a h => ?_⟩, fun d v fin H' F' co => ?_⟩
  · rcases h with h | h
    · have := g1.one a
      rw [z2 a] at this
      obtain ⟨ys, e, _⟩ := g1.there a (by rw [z2 a]; omega)
      exact ⟨by omega, by rw [e]; intro h; cases h⟩
    · have nb : ¬ 1 ≤ F1 a := fun q => g1.nb a q h
      obtain ⟨b1, b2⟩ := g1.bw a h
      refine ⟨by rw [z2 a] at nb; omega, ?_⟩
      cases e : W.H0 a with
      | none => exact absurd e b2
      | some o => rw [g1.old a o e b1]; intro h; cases h
  · obtain ⟨G1, G2, c1, c2, c3⟩ := co.rep
    -- what is owned behind the call, with all that came back
    have eO : ∀ a, OwnB (fun a => 1 ≤ Gs a + Gt a ∨ W.B a) F' a ↔ Own W (fun a => Gs a + Gt a + F' a) a := fun a => by
      unfold OwnB Own
      constructor
      · rintro (h | h | h)
        · exact .inl (by dsimp only; omega)
        · exact .inl (by dsimp only; omega)
        · exact .inr h
      · rintro (h | h)
        · have h : 1 ≤ Gs a + Gt a + F' a := h
          by_cases h1 : 1 ≤ F' a
          · exact .inl h1
          · exact .inr (.inl (by omega))
        · exact .inr (.inr h)
    have eO' : OwnB (fun a => 1 ≤ Gs a + Gt a ∨ W.B a) F' = Own W (fun a => Gs a + Gt a + F' a) := funext fun a => propext (eO a)
    rw [eO'] at c1 c2
    have ga0 : ∀ a, (∀ o, Ownd o → H1 a ≠ some o) → Ga a = 0 := fun a h => by
      rcases Nat.eq_zero_or_pos (Ga a) with q | q
      · exact q
      · obtain ⟨ys, e, w⟩ := g1.there a (by rw [z2 a]; omega)
        exact absurd e (h ys w)
    have t : Tr H1 (Own W F1) H' (Own W fun a => Gs a + Gt a + F' a) := ⟨fun a ys h => co.old a _ h (ga0 a (by rw [h]; rintro o (⟨_, rfl⟩ | ⟨_, rfl⟩) h <;> cases h)), fun a o u h => co.old a _ h (ga0 a (by rw [h]; rintro o (⟨_, rfl⟩ | ⟨_, rfl⟩) h <;> cases h)), fun a ys n h => by
      have n1 : ¬ 1 ≤ F1 a := fun q => n (.inl q)
      have n2 : ¬ W.B a := fun q => n (.inr q)
      rw [z2 a] at n1
      refine ⟨co.old a _ h (by omega), ?_⟩
      rintro (q | q)
      · have q : 1 ≤ Gs a + Gt a + F' a := q
        rcases co.new a (by omega) with q2 | q2
        · omega
        · rw [h] at q2; cases q2
      · exact n2 q⟩
    have keep : ∀ (G : Ct), (∀ a, G a ≤ Gs a + Gt a) → ∀ a o, 1 ≤ G a → H1 a = some o → H' a = some o := fun G l a ys q h => co.old a _ h (by
      have := g1.one a
      have := l a
      rw [z2 a] at *
      omega)
    have q1' := RepS.tr t q1 (keep Gs fun a => by omega)
    have q2' := RepT.tr t q2 (keep Gt fun a => by omega)
    obtain ⟨G3, b1, b2⟩ := back_rep (p := fun _ => false) ha hn (fun j hj => by cases hj) q1' c2
    rw [clr_false] at b1
    have l : ∀ a, (fun a => (Gs a + G3 a) + (G1 a + Gt a)) a ≤ (fun a => Gs a + Gt a + F' a) a := fun a => by
      dsimp only; have := b2 a; rw [c3 a]; omega
    have t2 := own_sub (H := H') (W := W) l
    have inF' : ∀ a, 1 ≤ F' a → Gs a = 0 ∧ Gt a = 0 := fun a h => by
      rcases co.new a h with q | q
      · have := g1.one a
        rw [z2 a] at this
        omega
      · have : ¬ 1 ≤ F1 a := fun q2 => by
          obtain ⟨ys, e, _⟩ := g1.there a q2
          rw [q] at e; cases e
        rw [z2 a] at this
        omega
    refine ⟨fun a => (Gs a + G3 a) + (G1 a + Gt a), ⟨⟨fun a => Gs a + G3 a, fun a => G1 a + Gt a, RepS.tr t2 b1 (fun _ _ _ h => h), ⟨G1, Gt, Rep.tr t2 d v G1 c1 (fun _ _ _ h => h), RepT.tr t2 q2' (fun _ _ _ h => h), fun _ => rfl⟩, fun _ => rfl⟩, fun a => ?_, fun a q => ?_, fun a o e n => ?_, g1.bw, fun p hp => ?_⟩⟩
    · have l := l a
      dsimp only at l
      by_cases h : 1 ≤ F' a
      · have := inF' a h
        have := co.one a
        omega
      · have := g1.one a
        rw [z2 a] at this
        omega
    · have q : 1 ≤ (Gs a + G3 a) + (G1 a + Gt a) := q
      have l := l a
      dsimp only at l
      by_cases h : 1 ≤ Gs a + Gt a
      · exact g1.new a (by rw [z2 a]; omega)
      · rcases co.new a (by omega) with q2 | q2
        · exact g1.new a (by rw [z2 a]; omega)
        · cases e : W.H0 a with
          | none => exact .inr rfl
          | some o =>
            left
            rcases Nat.eq_zero_or_pos (W.F0 a) with q3 | q3
            · rw [g1.old a o e q3] at q2; cases q2
            · exact q3
    · refine co.old a o (g1.old a o e n) ?_
      rcases Nat.eq_zero_or_pos (Ga a) with q | q
      · exact q
      · rcases g1.new a (by rw [z2 a]; omega) with q2 | q2
        · omega
        · rw [q2] at e; cases e
    · obtain ⟨q1, d', q2⟩ := g1.rf p hp
      exact ⟨q1, back_some xs fin co.som q2⟩
end
section
variable {X : Cx} {W : Wd} {ev : Env} {a b e : Expr} {ca cb : Sm D} {ga gb : Bool} {pos p : Pos} {es : List Expr} {as : List (Nat ⊕ Sm D)}
theorem call_ok {f : Str} {ev : Env} {s s' : S} {d : D} (h : call f as ev s = .ok d s') : ∃ xs s1 ds fin, argv as ev s = .ok xs s1 ∧ argd s1 xs = some ds ∧ nodupN (lent s1 xs) = true ∧ ev.call f ds = .ok d fin ∧ s' = back s1 xs fin := by
  obtain ⟨xs, s1, e1, h⟩ := bnd_ok h
  split at h
  · cases h
  · rename_i ds e2
    split at h
    · rename_i hn
      split at h
      · rename_i d' fin e3
        cases h
        exact ⟨xs, s1, ds, fin, e1, e2, hn, e3, rfl⟩
      · cases h
      · cases h
    · cases h
theorem call_read {K : PySem.W.Frag} {σ : L2.St} {H : Hp} {Q : VK} {E : XK} {f : Str} {n : Nat} (hl : as.length = n) (q : tE K W ev (call f as) false σ H Q) : tAs K W ev as σ H fun vs H1 => spR K n (ev.call f) (vs ++ []) H1 Q E := by
  obtain ⟨σD, T, F, gd, d, σD', ec, kk⟩ := q
  obtain ⟨xs, s1, ds, fin, e1, e2, hn, e3, rfl⟩ := call_ok ec
  refine ⟨σD, T, F, gd, xs, s1, e1, fun vs H1 F1 ha g1 => ?_⟩
  obtain ⟨F2, B, ci, k⟩ := g1.call ha e2 hn
  rw [List.append_nil]
  refine ⟨ds, F2, B, d, fin, ci, ?_, e3, fun v H' F' co => ?_⟩
  · rw [argd_len e2, ← hl]
    have key : ∀ (as : List (Nat ⊕ Sm D)) (s s1 : S) (xs : List (Nat ⊕ D)), argv as ev s = .ok xs s1 → xs.length = as.length := by
      intro as
      induction as with
      | nil => intro s s1 xs h; obtain ⟨rfl, rfl⟩ := ret_ok (show ret [] ev s = .ok xs s1 from h); rfl
      | cons x as ih =>
        intro s s1 xs h
        cases x with
        | inl i =>
          obtain ⟨d, s2, e1, h⟩ := bnd_ok (show bnd (vP i) (fun _ => bnd (argv as) fun xs => ret (.inl i :: xs)) ev s = .ok xs s1 from h)
          obtain ⟨ys, s3, e2, h⟩ := bnd_ok h
          obtain ⟨rfl, rfl⟩ := ret_ok h
          rw [List.length_cons, List.length_cons, ih _ _ _ e2]
        | inr c =>
          obtain ⟨d, s2, e1, h⟩ := bnd_ok (show bnd c (fun x => bnd (argv as) fun xs => ret (.inr x :: xs)) ev s = .ok xs s1 from h)
          obtain ⟨ys, s3, e2, h⟩ := bnd_ok h
          obtain ⟨rfl, rfl⟩ := ret_ok h
          rw [List.length_cons, List.length_cons, ih _ _ _ e2]
    exact key as _ _ _ e1
  · obtain ⟨Fn, gn⟩ := k d v fin H' F' co
    exact kk v H' Fn gn fun h => by cases h
theorem s_call {f : Str} {k n : Nat} (C : Cal X.prog X.w X.K X.mg X.base k f (spR X.K n (ev.call f))) (hr : Room k X.A) (hg : Gl X f) (hdb : (f == ("__debug__" : Str)) = false) (hl : as.length = n) (hs : noStar e = true) (hss : es.all noStar = true)
    (ha : PA X (e :: es) (tAs X.K W ev as)) : PE X (.Call (.Name f p) (e :: es) [] pos) (tE X.K W ev (call f as) false) := by
  obtain ⟨a, fd, ps, F, hm, hk, hb⟩ := C.ex
  exact PE.imp (pe_call (E := E0) F hr hg hm hk hb (.nil : Vals [] []) pass0 ha hdb (noStar_each hs) (noStar_back hss)) fun σ H Q q => call_read hl q
theorem s_call0 {f : Str} {k : Nat} (C : Cal X.prog X.w X.K X.mg X.base k f (spR X.K 0 (ev.call f))) (hr : Room k X.A) (hg : Gl X f) (hdb : (f == ("__debug__" : Str)) = false) : PE X (.Call (.Name f p) [] [] pos) (tE X.K W ev (call f []) false) := by
  obtain ⟨a, fd, ps, F, hm, hk, hb⟩ := C.ex
  refine PE.imp (pe_call0 (E := E0) F hr hg hm hk hb (.nil : Vals [] []) pass0 hdb) fun σ H Q q => ?_
  obtain ⟨σD, T, F, gd, xs, σD', ec, kk⟩ := call_read (E := E0) (as := []) rfl q
  obtain ⟨rfl, rfl⟩ := ret_ok (show ret [] ev σD = .ok xs σD' from ec)
  exact kk [] H F trivial gd
end
end Tw

set_option Elab.async false
set_option linter.all false
set_option maxRecDepth 100000
/-! Tw.EvL: statements. -/
namespace Tw
open PySem PySem.Spec PyProof.Rows L2

section
variable {K : PySem.W.Frag} {H H' : Hp} {O : Addr → Prop} {W : Wd} {σD : S} {σV : L2.St} {T T' : List (D × V)} {F : Ct} {d : D} {v : V}
theorem RepT.perm (p : T.Perm T') : ∀ {F : Ct}, RepT K H O T F → RepT K H O T' F := by
  induction p with
  | nil => exact fun h => h
  | cons x _ ih =>
      intro F h
      exact let ⟨G1, G2, h1, h2, z⟩ := h; ⟨G1, G2, h1, ih h2, z⟩
  | swap x y l =>
      intro F h
      obtain ⟨G1, G2, h1, h2, z⟩ := h
      obtain ⟨G3, G4, h3, h4, z2⟩ := h2
      exact ⟨G3, fun a => G1 a + G4 a, h3, ⟨G1, G4, h1, h4, fun _ => rfl⟩, fun a => by dsimp only; rw [z a, z2 a]; omega⟩
  | trans _ _ ih1 ih2 =>
      intro F h
      exact ih2 (ih1 h)
theorem Good.perm (g : Good K W H σD σV T F) (p : T.Perm T') : Good K W H σD σV T' F := by
  obtain ⟨Fs, Ft, r1, r2, z⟩ := g.rep
  exact ⟨⟨Fs, Ft, r1, r2.perm p, z⟩, g.one, g.new, g.old, g.bw, g.rf⟩
end
/-- how a statement ends -/
def EndS (K : PySem.W.Frag) (W : Wd) (T : List (D × V)) (D : Ends) (f : Fl) (σD' : S) : Prop := match f with
  | .nx => ∀ σV' H' F', Good K W H' σD' σV' T F' → D.nx σV' H'
  | .bk => ∀ σV' H' F', Good K W H' σD' σV' T F' → D.bk σV' H'
  | .ct => ∀ σV' H' F', Good K W H' σD' σV' T F' → D.ct σV' H'
  | .rt d => ∀ v σV' H' F', Good K W H' σD' σV' ((d, v) :: T) F' → D.rt v H'
def tS (K : PySem.W.Frag) (W : Wd) (ev : Env) (c : Sm Fl) : TS := fun D σV H => ∃ σD T F, Good K W H σD σV T F ∧ ∃ f σD', c ev σD = .ok f σD' ∧ EndS K W T D f σD'
/-- what the frame keeps to -/
structure Rfs (W : Wd) (ev : Env) : Prop where
  rf : ∀ p ∈ W.refs, ev.refs.contains p.1 = true
mutual
/-- the slots that a target is given -/
def Tg.slots : Tg → List Nat
  | .nm i => [i]
  | .tp ts => slotsL ts
def slotsL : List Tg → List Nat
  | [] => []
  | t :: ts => t.slots ++ slotsL ts
end
/-- a target -/
def tG (K : PySem.W.Frag) (W : Wd) (ev : Env) (t : Tg) : TG := fun v σV H Q => ∃ σD T F d, Good K W H σD σV T F ∧ (PRep K W H F d v ∧ frz d = true) ∧ ∃ σD', setT t d ev σD = .ok () σD' ∧
  ∀ σV' H' F', Good K W H' σD' σV' T F' → (∀ vs : List Nat, (∀ i ∈ t.slots, i ∈ vs) → wipe σV' vs = wipe σV vs) → Q σV' H'
theorem wipe_set {σ : L2.St} {i : Nat} {x : Option V} : ∀ {vs : List Nat}, i ∈ vs → wipe (σ.set i x) vs = wipe σ vs
  | [], h => by cases h
  | v :: vs, h => by
    unfold wipe
    by_cases hi : i ∈ vs
    · rw [wipe_set hi]
    · have e : i = v := by
        rcases List.mem_cons.mp h with e | e
        · exact e
        · exact absurd e hi
      subst e
      have key : ∀ (vs : List Nat), i ∉ vs → wipe (σ.set i x) vs = (wipe σ vs).set i x := by
        intro vs hv
        induction vs with
        | nil => rfl
        | cons w vs ih =>
          rw [List.mem_cons, not_or] at hv
          unfold wipe
          rw [ih hv.2, List.set_comm _ _ hv.1]
      rw [key vs hi, List.set_set]

section
variable {X : Cx} {W : Wd} {ev : Env} {a b e : Expr} {ca cb : Sm D} {ga gb : Bool} {pos p : Pos} {sts : List Stmt} {st : Stmt} {c c1 c2 : Sm Fl}
theorem ss_nil : PSs X [] (tS X.K W ev (blk [])) := PSs.imp pss_nil fun D σ H q => by
  obtain ⟨σD, T, F, gd, f, σD', ec, kk⟩ := q
  obtain ⟨rfl, rfl⟩ := ret_ok (show ret Fl.nx ev σD = .ok f σD' from ec)
  exact kk σ H F gd
theorem ss_one (h : PS X st (tS X.K W ev c)) : PSs X [st] (tS X.K W ev (blk [c])) := pss_one h
theorem ss_cons {cs : List (Sm Fl)} {st2 : Stmt} {c2 : Sm Fl} (h : PS X st (tS X.K W ev c)) (hs : PSs X (st2 :: sts) (tS X.K W ev (blk (c2 :: cs)))) : PSs X (st :: st2 :: sts) (tS X.K W ev (blk (c :: c2 :: cs))) :=
  PSs.imp (pss_cons h hs) fun D σ H q => by
    obtain ⟨σD, T, F, gd, f, σD', ec, kk⟩ := q
    obtain ⟨f1, s1, e1, ec⟩ := bnd_ok (show bnd c (fun f => match f with
      | .nx => blk (c2 :: cs)
      | f => ret f) ev σD = .ok f σD' from ec)
    refine ⟨σD, T, F, gd, f1, s1, e1, ?_⟩
    cases f1 with
    | nx => exact fun σV' H' F' g' => ⟨s1, T, F', g', f, σD', ec, kk⟩
    | bk => obtain ⟨rfl, rfl⟩ := ret_ok ec; exact kk
    | ct => obtain ⟨rfl, rfl⟩ := ret_ok ec; exact kk
    | rt d => obtain ⟨rfl, rfl⟩ := ret_ok ec; exact kk
theorem ss_pass : PS X (.Pass pos) (tS X.K W ev (ret .nx)) := PS.imp ps_pass fun D σ H q => by
  obtain ⟨σD, T, F, gd, f, σD', ec, kk⟩ := q
  obtain ⟨rfl, rfl⟩ := ret_ok ec
  exact kk σ H F gd
theorem ss_break : PS X (.Break pos) (tS X.K W ev (ret .bk)) := PS.imp ps_break fun D σ H q => by
  obtain ⟨σD, T, F, gd, f, σD', ec, kk⟩ := q
  obtain ⟨rfl, rfl⟩ := ret_ok ec
  exact kk σ H F gd
theorem ss_continue : PS X (.Continue pos) (tS X.K W ev (ret .ct)) := PS.imp ps_continue fun D σ H q => by
  obtain ⟨σD, T, F, gd, f, σD', ec, kk⟩ := q
  obtain ⟨rfl, rfl⟩ := ret_ok ec
  exact kk σ H F gd
/-- what is in hand is dropped -/
theorem Good.drop {K : PySem.W.Frag} {H : Hp} {σD : S} {σV : L2.St} {T : List (D × V)} {F : Ct} {d : D} {v : V} (g : Good K W H σD σV ((d, v) :: T) F) : ∃ F', Good K W H σD σV T F' := by
  obtain ⟨G, F', _, g', _⟩ := g.pop
  exact ⟨F', g'⟩
theorem ss_expr (he : PE X e (tE X.K W ev ca ga)) (hs : swapsWith e none pos.line X.env = pure false) : PS X (.Expr e pos) (tS X.K W ev (expS ca)) := PS.imp (ps_expr he hs) fun D σ H q => by
  obtain ⟨σD, T, F, gd, f, σD', ec, kk⟩ := q
  obtain ⟨d, s1, e1, ec⟩ := bnd_ok ec
  obtain ⟨rfl, rfl⟩ := ret_ok ec
  exact ⟨σD, T, F, gd, d, _, e1, fun v H' F' g' _ => let ⟨F2, g2⟩ := g'.drop; kk σ H' F2 g2⟩
theorem fzAt_good {K : PySem.W.Frag} {W : Wd} {H : Hp} {σD s' : S} {σV : L2.St} {T : List (D × V)} {F : Ct} {ev : Env} {i : Nat} {u : Unit} (e : fzAt i ev σD = .ok u s') (g : Good K W H σD σV T F) : ∃ F', Good K W H s' σV T F' := by
  unfold fzAt at e
  split at e
  · rename_i d hd
    cases e
    obtain ⟨v, F', _, g', _⟩ := g.frzVar hd
    exact g'.drop
  · cases e
theorem ss_fz {X : Cx} {st : Stmt} {W : Wd} {ev : Env} {c : Sm Fl} (i : Nat) (h : PS X st (tS X.K W ev c)) : PS X st (tS X.K W ev (fzS i c)) := PS.imp h fun D σ H q => by
  obtain ⟨σD, T, F, gd, f, σD', ec, kk⟩ := q
  obtain ⟨f1, s1, e1, ec⟩ := bnd_ok ec
  obtain ⟨u, s2, e2, ec⟩ := bnd_ok ec
  obtain ⟨rfl, rfl⟩ := ret_ok ec
  refine ⟨σD, T, F, gd, f, s1, e1, ?_⟩
  cases f with
  | nx => exact fun σV' H' F' g => let ⟨F2, g2⟩ := fzAt_good e2 g; kk σV' H' F2 g2
  | bk => exact fun σV' H' F' g => let ⟨F2, g2⟩ := fzAt_good e2 g; kk σV' H' F2 g2
  | ct => exact fun σV' H' F' g => let ⟨F2, g2⟩ := fzAt_good e2 g; kk σV' H' F2 g2
  | rt d => exact fun v σV' H' F' g => let ⟨F2, g2⟩ := fzAt_good e2 g; kk v σV' H' F2 g2
theorem ss_bad {X : Cx} {st : Stmt} {W : Wd} {ev : Env} (hs : PS X st fun _ _ _ => False) : PS X st (tS X.K W ev (bad : Sm Fl)) := PS.imp hs fun D σ H q => by
  obtain ⟨σD, T, F, gd, f, σD', ec, kk⟩ := q
  cases ec
theorem ps_false {X : Cx} {st : Stmt} : PS X st fun _ _ _ => False := ⟨fun pins s σ H D I q => q.elim⟩
theorem ss_ret (he : PE X e (tE X.K W ev ca ga)) : PS X (.Return (some e) pos) (tS X.K W ev (rtS ca)) := PS.imp (ps_ret he) fun D σ H q => by
  obtain ⟨σD, T, F, gd, f, σD', ec, kk⟩ := q
  obtain ⟨d, s1, e1, ec⟩ := bnd_ok ec
  obtain ⟨rfl, rfl⟩ := ret_ok ec
  exact ⟨σD, T, F, gd, d, _, e1, fun v H' F' g' _ => kk v σ H' F' g'⟩
theorem ss_retN : PS X (.Return none pos) (tS X.K W ev (ret (.rt .non))) := PS.imp ps_retN fun D σ H q => by
  obtain ⟨σD, T, F, gd, f, σD', ec, kk⟩ := q
  obtain ⟨rfl, rfl⟩ := ret_ok ec
  exact kk .non σ H F (gd.scal ⟨rfl, fun _ => rfl⟩)
/-- a name's thing is handed out -/
theorem Good.move {K : PySem.W.Frag} {H : Hp} {σD : S} {σV : L2.St} {T : List (D × V)} {F : Ct} {d : D} {i : Nat} (g : Good K W H σD σV T F) (e : σD[i]? = some (some d)) (hr : ∀ p ∈ W.refs, p.1 ≠ i) : ∃ v, σV[i]? = some (some v) ∧ Good K W H (σD.set i none) σV ((d, v) :: T) F := by
  obtain ⟨Fs, Ft, r1, r2, z⟩ := g.rep
  obtain ⟨v, G1, G2, a1, a2, a3, a4⟩ := r1.get e
  refine ⟨v, a1, ⟨⟨G2, fun a => G1 a + Ft a, a3, ⟨G1, Ft, a2, r2, fun _ => rfl⟩, fun a => by dsimp only; rw [z a, a4 a]; omega⟩, g.one, g.new, g.old, g.bw, fun p hp => ?_⟩⟩
  obtain ⟨q1, d', q2⟩ := g.rf p hp
  exact ⟨q1, d', by rw [List.getElem?_set_ne (Ne.symm (hr p hp))]; exact q2⟩
theorem s_vR {i : Nat} {x : Str} (rs : Rfs W ev) (hN : X.N[i]? = some x) (hv : Vis X.env.scope x) (hd : (x == ("__debug__" : Str)) = false) (hcd : (x == ("__classdict__" : Str)) = false) : PE X (.Name x pos) (tE X.K W ev (vR i) false) :=
  PE.imp (pe_var (i := i) hN hv hd hcd) fun σ H Q q => by
    obtain ⟨σD, T, F, gd, d, σD', ec, k⟩ := q
    unfold vR at ec
    split at ec
    · rename_i d' e
      split at ec
      · rename_i hz
        cases ec
        obtain ⟨v, e2, p⟩ := gd.var e
        exact ⟨v, e2, k v H F (gd.pushP p hz) fun h => by cases h⟩
      · split at ec
        · cases ec
          obtain ⟨v, F', e2, g2, l⟩ := gd.frzVar e
          exact ⟨v, e2, k v H F' g2 fun h => by cases h⟩
        · rename_i hn
          cases ec
          obtain ⟨v, e2, g2⟩ := gd.move e fun p hp z => hn (by rw [← z]; exact rs.rf p hp)
          exact ⟨v, e2, k v H F g2 fun h => by cases h⟩
    · cases ec
/-! ### targets -/
theorem setv_ok {i : Nat} {d : D} {ev : Env} {s s' : S} {u : Unit} (h : setv i d ev s = .ok u s') : ev.refs.contains i = false ∧ s' = s.set i (some d) := by
  unfold setv at h
  split at h
  · cases h
  · rename_i hn
    cases h
    exact ⟨by simpa using hn, rfl⟩
theorem Rfs.ne (rs : Rfs W ev) {i : Nat} (h : ev.refs.contains i = false) : ∀ p ∈ W.refs, p.1 ≠ i := fun p hp z => by
  have := rs.rf p hp
  rw [z, h] at this; cases this
theorem sg_name {i : Nat} {x : Str} (rs : Rfs W ev) (hN : X.N.Nodup) (hi : X.N[i]? = some x) (hx : Loc X.env.scope x) (hf : X.fn x = true ∨ X.env.scope.names.lookup x = some .local) : PG X (.Name x pos) (tG X.K W ev (.nm i)) :=
  PG.imp (pg_name hN hi hx hf) fun v σ H Q q => by
    obtain ⟨σD, T, F, d, gd, ⟨pr, hz⟩, σD', ec, kk⟩ := q
    obtain ⟨hn, rfl⟩ := setv_ok (show setv i d ev σD = .ok () σD' from ec)
    obtain ⟨F', g', _⟩ := (gd.pushP pr hz).setv' (rs.ne hn)
    exact kk _ H F' g' fun vs h => wipe_set (h i (by show i ∈ [i]; exact List.mem_cons_self))
/-- several targets -/
def tGs (K : PySem.W.Frag) (W : Wd) (ev : Env) (ts : List Tg) : TGs := fun vs σV H Q => ∃ σD T F ds, Good K W H σD σV T F ∧ RepL K H (Own W F) ds vs z0 ∧ ds.length = ts.length ∧ ∃ σD', setTs ts ds ev σD = .ok () σD' ∧
  ∀ σV' H' F', Good K W H' σD' σV' T F' → (∀ vs : List Nat, (∀ i ∈ slotsL ts, i ∈ vs) → wipe σV' vs = wipe σV vs) → Q σV' H'
theorem sgs_nil : PGs X [] (tGs X.K W ev []) := ⟨fun pins s σ H vs us Q I r q => by
  obtain ⟨σD, T, F, ds, gd, rl, hl, σD', ec, kk⟩ := q
  cases ds with
  | nil =>
    obtain ⟨_, rfl⟩ := ret_ok (show ret () ev σD = .ok () σD' from ec)
    exact pgs_nil.run pins s σ H vs us Q I r ⟨rl.1, kk σ H F gd fun _ _ => rfl⟩
  | cons d ds => cases hl⟩
/-- values that nobody changes are taken in hand -/
theorem Good.pushL {K : PySem.W.Frag} {H : Hp} {σD : S} {σV : L2.St} : ∀ {ds : List D} {vs : List V} {T : List (D × V)} {F : Ct}, Good K W H σD σV T F → RepL K H (Own W F) ds vs z0 → Good K W H σD σV ((ds.zip vs).reverse ++ T) F
  | [], vs, T, F, g, h => by
    rw [h.1]; exact g
  | d :: ds, vs, T, F, g, h => by
    obtain ⟨v, vs', G1, G2, rfl, r1, r2, z⟩ := h
    have k1 : ∀ a, G1 a = 0 := fun a => by have : 0 = G1 a + G2 a := z a; omega
    have k2 : ∀ a, G2 a = 0 := fun a => by have : 0 = G1 a + G2 a := z a; omega
    rw [List.zip_cons_cons, List.reverse_cons, List.append_assoc]
    exact Good.pushL (g.push0 r1 k1) (RepL.ct r2 fun a => (k2 a).symm)
theorem sgs_cons {e : Expr} {t : Tg} {ts : List Tg} {es : List Expr} (hg : PG X e (tG X.K W ev t)) (hs : PGs X es (tGs X.K W ev ts)) (hh : (assignEach (e :: es) X.env).map (·.2) = assign e X.env :: (assignEach es X.env).map (·.2)) :
    PGs X (e :: es) (tGs X.K W ev (t :: ts)) := ⟨fun pins s σ H vs us Q I r q => by
  obtain ⟨σD, T, F, ds, gd, rl, hl, σD', ec, kk⟩ := q
  cases ds with
  | nil => cases hl
  | cons d ds =>
    obtain ⟨v, vs', G1, G2, rfl, r1, r2, z⟩ := rl
    obtain ⟨u, s1, e1, ec⟩ := bnd_ok (show bnd (setT t d) (fun _ => setTs ts ds) ev σD = .ok () σD' from ec)
    have k1 : ∀ a, G1 a = 0 := fun a => by have : 0 = G1 a + G2 a := z a; omega
    have k2 : ∀ a, G2 a = 0 := fun a => by have : 0 = G1 a + G2 a := z a; omega
    have hz : frz d = true := Rep.of0 d v G1 r1 k1
    have r2' : RepL X.K H (Own W F) ds vs' z0 := RepL.ct r2 fun a => (k2 a).symm
    have hzl := r2'.frz_of
    have lv := r2'.length
    refine (pgs_cons hg hs hh).run pins s σ H _ us Q I r ⟨v, vs', rfl, ?_⟩
    refine ⟨σD, (ds.zip vs').reverse ++ T, F, d, gd.pushL r2', ⟨⟨G1, r1⟩, hz⟩, s1, e1, fun σV' H' F' g' hw => ?_⟩
    obtain ⟨G, F2, rl2, g2, _⟩ := g'.popL lv
    exact ⟨s1, T, F2, ds, g2, rl2.z hzl, by simpa using hl, σD', ec, fun σV2 H2 F3 g3 hw2 => kk σV2 H2 F3 g3 fun ws h => (hw2 ws fun j hj => h j (by unfold slotsL; exact List.mem_append_right _ hj)).trans (hw ws fun j hj => h j (by unfold slotsL; exact List.mem_append_left _ hj))⟩⟩
theorem sg_tup {ts : List Tg} {es : List Expr} {k : Nat} (hc : X.calm = true) (h : PGs X es (tGs X.K W ev ts)) (hn : (assignEach es X.env).length = ts.length) (hst : (assignEach es X.env).findIdx? (·.1) = none) :
    PG X (.Tuple es k pos) (tG X.K W ev (.tp ts)) :=
  ⟨fun pins s σ H v u Q I r q => by
    obtain ⟨σD, T, F, d, gd, ⟨pr, hz⟩, σD', ec, kk⟩ := q
    cases d with
    | tup ds =>
      have ec : (if ds.length = ts.length then setTs ts ds else bad) ev σD = .ok () σD' := ec
      split at ec
      · rename_i hl
        obtain ⟨a, vs, rfl, h1, r1⟩ := pr.tup
        exact (pg_tup hc h hn hst).run pins s σ H _ u Q I r ⟨a, vs, rfl, h1, by rw [r1.length, hl], ⟨σD, T, F, ds, gd, r1, hl, σD', ec, kk⟩⟩
      · cases ec
    | _ => cases ec⟩
/-! ### assignments -/
theorem asg_read {K : PySem.W.Frag} {D : Ends} {σ : L2.St} {H : Hp} {i : Nat} (rs : Rfs W ev) (q : tS K W ev (asg i ca) D σ H) : tAsg (tE K W ev ca ga) (gName i) D σ H := by
  obtain ⟨σD, T, F, gd, f, σD', ec, kk⟩ := q
  obtain ⟨d, s1, e1, ec⟩ := bnd_ok ec
  obtain ⟨u, s2, e2, ec⟩ := bnd_ok ec
  obtain ⟨rfl, rfl⟩ := ret_ok ec
  obtain ⟨hn, rfl⟩ := setv_ok e2
  refine ⟨σD, T, F, gd, d, s1, e1, fun v H' F' g' _ => ?_⟩
  obtain ⟨F2, g2, _⟩ := g'.setv' (rs.ne hn)
  exact kk _ H' F2 g2
theorem ss_set {i : Nat} {x : Str} {px : Pos} (rs : Rfs W ev) (hN : X.N.Nodup) (hi : X.N[i]? = some x) (hx : Loc X.env.scope x) (hf : X.fn x = true ∨ X.env.scope.names.lookup x = some .local) (he : PE X e (tE X.K W ev ca ga)) (hs : swapsWith e (some (.Name x px)) pos.line X.env = pure false) :
    PS X (.Assign [.Name x px] e pos) (tS X.K W ev (asg i ca)) := PS.imp (ps_set hN hi hx he hs hf) fun D σ H q => asg_read rs q
theorem ss_asgT {t : Tg} {tg : Expr} (hg : PG X tg (tG X.K W ev t)) (he : PE X e (tP X.K W ev ca ga)) (hs : swapsWithSole [tg] e pos.line X.env = pure false) (hw : swappedStores [tg] e X.env = pure none) (h1 : (assignEach [tg] X.env).map (·.2) = [assign tg X.env]) : PS X (.Assign [tg] e pos) (tS X.K W ev (asgT t ca)) :=
  PS.imp (ps_asg he hg hs hw h1) fun D σ H q => by
    obtain ⟨σD, T, F, gd, f, σD', ec, kk⟩ := q
    obtain ⟨d, s1, e1, ec⟩ := bnd_ok ec
    obtain ⟨hz, ec⟩ := grd_ok ec
    obtain ⟨u, s2, e2, ec⟩ := bnd_ok ec
    obtain ⟨rfl, rfl⟩ := ret_ok ec
    exact ⟨σD, T, F, gd, d, s1, e1, fun v H' F' g' p' _ => ⟨s1, T, F', d, g', ⟨p', hz⟩, σD', e2, fun σV' H2 F2 g2 _ => kk σV' H2 F2 g2⟩⟩
/-- a, b = x, y -/
def par2 (i j : Nat) (a b : Sm D) : Sm Fl := bnd (sq [a, b]) fun ds => match ds with
  | [d, d'] => bnd (setv i d) fun _ => bnd (setv j d') fun _ => ret .nx
  | _ => bad
theorem ss_par {i j : Nat} {x y : Str} {px py pt : Pos} {kt k2 pt2} (rs : Rfs W ev) (hc : X.calm = true) (hN : X.N.Nodup) (hi : X.N[i]? = some x) (hj : X.N[j]? = some y) (hij : i ≠ j)
    (hx : X.env.scope.names.lookup x = some .local) (hy : X.env.scope.names.lookup y = some .local) (ha : PA X [a, b] (tEs X.K W ev (sq [ca, cb]) ga))
    (hw : swappedStores [.Tuple [.Name x px, .Name y py] kt pt] (.Tuple [a, b] k2 pt2) X.env = pure (some [x, y]))
    (hs : swapsWithSole [.Tuple [.Name x px, .Name y py] kt pt] (.Tuple [a, b] k2 pt2) pos.line X.env = pure false) :
    PS X (.Assign [.Tuple [.Name x px, .Name y py] kt pt] (.Tuple [a, b] k2 pt2) pos) (tS X.K W ev (par2 i j ca cb)) :=
  PS.imp (ps_par hc hN hi hj hij hx hy ha hw hs) fun D σ H q => by
    obtain ⟨σD, T, F, gd, f, σD', ec, kk⟩ := q
    obtain ⟨ds, s1, e1, ec⟩ := bnd_ok ec
    refine ⟨σD, T, F, gd, ds, s1, e1, fun vs H' F' hl g' _ => ?_⟩
    match ds, vs, hl, ec, g' with
    | [d, d'], [v, v'], _, ec, g' =>
      obtain ⟨u, s2, e2, ec⟩ := bnd_ok ec
      obtain ⟨u2, s3, e3, ec⟩ := bnd_ok ec
      obtain ⟨rfl, rfl⟩ := ret_ok ec
      obtain ⟨hn, rfl⟩ := setv_ok e2
      obtain ⟨hn2, rfl⟩ := setv_ok e3
      -- the second one is on top: stored first, the slots differ
      obtain ⟨F2, g2, _⟩ := (show Good X.K W H' s1 σ ((d', v') :: (d, v) :: T) F' from g').setv' (rs.ne hn2)
      obtain ⟨F3, g3, _⟩ := g2.setv' (rs.ne hn)
      rw [List.set_comm _ _ (Ne.symm hij), List.set_comm _ _ (Ne.symm hij)] at g3
      exact ⟨v, v', rfl, kk _ H' F3 g3⟩
    | [], _, _, ec, _ => cases ec
    | [_], _, _, ec, _ => cases ec
    | _ :: _ :: _ :: _, _, _, ec, _ => cases ec
    | [_, _], [], hl, _, _ => cases hl
    | [_, _], [_], hl, _, _ => cases hl
    | [_, _], _ :: _ :: _ :: _, hl, _, _ => cases hl
/-- name op= e, of ints -/
def augOk : Operator → Bool
  | .Add => true | .Sub => true | .Mult => true | .FloorDiv => true | .Mod => true
  | _ => false
theorem aug_rule {X : Cx} {op : Operator} (h : augOk op = true) : ∃ r, OpR X (inplaceOp op) r ∧ ∀ i j z H Q, augI op (.int i) (.int j) = some (.int z) → Q (.int z) H → r (.int i) (.int j) H Q := by
  cases op
  case Add => exact ⟨_, iop_add, fun i j z H Q e q => by cases e; exact ⟨i, j, rfl, rfl, q⟩⟩
  case Sub => exact ⟨_, iop_sub, fun i j z H Q e q => by cases e; exact ⟨i, j, rfl, rfl, q⟩⟩
  case Mult =>
    refine ⟨_, iop_mul, fun i j z H Q e q => ?_⟩
    have e : (if mulOk i j = true then some (D.int (i * j)) else none) = some (.int z) := e
    split at e
    · rename_i hm
      cases e
      unfold mulOk at hm
      rw [Bool.or_eq_true, decide_eq_true_eq, decide_eq_true_eq] at hm
      refine ⟨i, j, rfl, rfl, ?_, q⟩
      rcases hm with hm | hm
      · left; omega
      · right; omega
    · cases e
  case FloorDiv =>
    refine ⟨_, iop_fdiv, fun i j z H Q e q => ?_⟩
    have e : (if (decide (0 < j) && decide (j < 1073741824)) = true then some (D.int (i / j)) else none) = some (.int z) := e
    split at e
    · rename_i hm
      cases e
      rw [Bool.and_eq_true, decide_eq_true_eq, decide_eq_true_eq] at hm
      exact ⟨i, j, rfl, rfl, hm, q⟩
    · cases e
  case Mod =>
    refine ⟨_, iop_mod, fun i j z H Q e q => ?_⟩
    have e : (if decide (0 < j) = true then some (D.int (i % j)) else none) = some (.int z) := e
    split at e
    · rename_i hm
      cases e
      rw [decide_eq_true_eq] at hm
      exact ⟨i, j, rfl, rfl, hm, q⟩
    · cases e
  all_goals exact absurd (show false = true from h) Bool.false_ne_true
theorem augI_int {op : Operator} {x y d : D} (h : augI op x y = some d) : ∃ i j z, x = .int i ∧ y = .int j ∧ d = .int z := by
  unfold augI at h
  split at h
  · rename_i i j
    refine ⟨i, j, ?_⟩
    cases op <;> simp only at h <;> first
      | (cases h; exact ⟨_, rfl, rfl, rfl⟩)
      | (split at h
         · cases h; exact ⟨_, rfl, rfl, rfl⟩
         · cases h)
      | cases h
  · cases h
theorem ss_aug {op : Operator} {i : Nat} {x : Str} {px : Pos} (h : augOk op = true) (rs : Rfs W ev) (hN : X.N.Nodup) (hi : X.N[i]? = some x) (hx : Loc X.env.scope x) (hf : X.fn x = true ∨ X.env.scope.names.lookup x = some .local) (he : PE X e (tP X.K W ev ca ga)) :
    PS X (.AugAssign (.Name x px) op e pos) (tS X.K W ev (aug op i ca)) := by
  obtain ⟨r, ho, hr⟩ := aug_rule (X := X) h
  refine PS.imp (ps_aug hN hi hx he ho hf) fun D σ H q => ?_
  obtain ⟨σD, T, F, gd, f, σD', ec, kk⟩ := q
  obtain ⟨dx, s1, e1, ec⟩ := bnd_ok ec
  obtain ⟨dy, s2, e2, ec⟩ := bnd_ok ec
  obtain ⟨hz, ec⟩ := grd_ok ec
  obtain ⟨z, s3, e3, ec⟩ := bnd_ok ec
  obtain ⟨u, s4, e4, ec⟩ := bnd_ok ec
  obtain ⟨rfl, rfl⟩ := ret_ok ec
  obtain ⟨e5, rfl⟩ := lift_ok e3
  obtain ⟨hn, rfl⟩ := setv_ok e4
  obtain ⟨j, k, zz, rfl, rfl, rfl⟩ := augI_int e5
  unfold vP at e1
  split at e1
  · rename_i d' ed
    cases e1
    obtain ⟨v, ev', pv⟩ := gd.var ed
    rw [pv.int] at ev'
    refine ⟨_, ev', σD, T, F, gd, _, s3, e2, fun y H1 F1 g1 p1 _ => ?_⟩
    rw [p1.int]
    refine hr j k zz H1 _ e5 ?_
    obtain ⟨F2, g2, _⟩ := (g1.scal (d := .int zz) (v := .int zz) ⟨rfl, fun _ => rfl⟩).setv' (rs.ne hn)
    exact kk _ H1 F2 g2
  · cases e1
theorem ss_if {cd : Expr} {cT : Sm Bool} {g : Bool} {sa sb : List Stmt} (hc : PT X cd (tB X.K W ev cT g)) (ha : PSs X sa (tS X.K W ev c1)) (hb : PSs X sb (tS X.K W ev c2)) : PS X (.If cd sa sb pos) (tS X.K W ev (iteS cT c1 c2)) :=
  PS.imp (ps_if hc ha hb) fun D σ H q => by
    obtain ⟨σD, T, F, gd, f, σD', ec, kk⟩ := q
    obtain ⟨t, s1, e1, ec⟩ := bnd_ok ec
    refine ⟨σD, T, F, gd, t, s1, e1, fun H1 F1 g1 _ => ?_⟩
    cases t with
    | true => rw [if_pos rfl] at ec ⊢; exact ⟨s1, T, F1, g1, f, σD', ec, kk⟩
    | false => rw [if_neg Bool.false_ne_true] at ec ⊢; exact ⟨s1, T, F1, g1, f, σD', ec, kk⟩
end
end Tw

set_option Elab.async false
set_option linter.all false
set_option maxRecDepth 100000
set_option maxHeartbeats 4000000
/-! Tw.EvS: enumerate of a tuple. -/
namespace Tw
open PySem PySem.Spec PyProof.Rows L2

theorem meets_enum1 {v : Value} {o : Obj} {H : Heap → Prop} (B : Begins v o H) :
    Meets (Builtin.«enumerate.__new__» ⟨[.type "enumerate", v], []⟩) (fun _ R s => H s.heap ∧
      R (.ok (.ret (.ref (s.heap.push o).objs.size))) { s with heap := (s.heap.push o).push { cls := .type "enumerate", data := .fields #[.none, .bool false, .ref s.heap.objs.size, rawInt 0, .none, .none] } }) :=
  .of_wp fun prog w A R s h => by
    obtain ⟨hp, g, d, tk, os⟩ := s; obtain ⟨h1, h⟩ := h
    have hsub := sub_enumerate
    have q1 : ∀ {A' : Around} {E : Value → Shared → Prop} {Q : Value → Shared → Prop}, Q (.ref hp.objs.size) ⟨hp.push o, g, d, tk, os⟩ → wpAny (model prog w) A' (pyIter v) Q E ⟨hp, g, d, tk, os⟩ :=
      fun q => B.iter prog w _ _ ⟨hp, g, d, tk, os⟩ _ h1 q
    wp_walk using q1
    refine wpAny_stack_any fun st => wpAny_pure ?_
    split
    · rename_i c _ _ _ _ _
      cases (c == Value.type "enumerate")
      · wp_walk using q1
        exact ⟨_, rfl, h⟩
      · wp_walk using q1
        exact ⟨_, rfl, h⟩
    · wp_walk using q1
      exact ⟨_, rfl, h⟩
section
variable {prog : Program} {w : World} {A : Around} {E : Value → Shared → Prop} {s : Shared}
/-- enumerate(v): its two new cells -/
theorem enum_begins1 {v : Value} {o : Obj} {H : Heap → Prop} {Q : Value → Shared → Prop} (B : Begins v o H) (h1 : H s.heap)
    (h : ∀ h', IsEnum h' (s.heap.objs.size + 1) s.heap.objs.size 0 .none → h'.get? s.heap.objs.size = some o → h'.objs.size = s.heap.objs.size + 2 →
      (∀ b o, s.heap.get? b = some o → h'.get? b = some o) → Q (.ref (s.heap.objs.size + 1)) { s with heap := h' }) :
    wpAny (model prog w) A (PySem.call (.type "enumerate") [v]) Q E s := by
  refine callType_new F.called_enumerate (by decide) (F.typeCall_enumerate_1 _) (F.newCall_enumerate_1 _) (fun obj => F.args_object_init_2 obj _) F.entry_enumerate_new
    (meets_enum1 B) ⟨h1, ?_⟩
  have hz : (s.heap.push o).objs.size = s.heap.objs.size + 1 := Heap.size_push ..
  show _ ∧ _
  rw [hz]
  have he : IsEnum ((s.heap.push o).push { cls := .type "enumerate", data := .fields #[.none, .bool false, .ref s.heap.objs.size, rawInt 0, .none, .none] }) (s.heap.objs.size + 1) s.heap.objs.size 0 .none := by
    have := Heap.get?_push_size (s.heap.push o) (o := { cls := .type "enumerate", data := .fields #[.none, .bool false, .ref s.heap.objs.size, rawInt 0, .none, .none] }) rfl
    rw [hz] at this; exact this
  refine ⟨⟨_, he, rfl⟩, h _ he (Heap.get?_push_of_some _ (Heap.get?_push_size _ B.free)) (by rw [Heap.size_push, hz]) fun b o x => Heap.get?_push_of_some _ (Heap.get?_push_of_some _ x)⟩
end
/-- the tuple at a as it stands at each turn, each item in a new pair -/
def IteT (K : PySem.W.Frag) (a : Addr) : It :=
  ⟨fun i H => ∃ (xs : List V) (x : V), SqT K H a xs ∧ xs[i]? = some x, fun i H v H' => ∃ T x, v = .ref T ∧ H T = none ∧ H' = upd H T (.tup [.int (i : Nat), x]) ∧ ∀ xs, SqT K H a xs → xs[i]? = some x, fun i H => ∃ xs : List V, SqT K H a xs ∧ xs.length ≤ i⟩
theorem turn_enumT {P : Program} {w : World} {K : PySem.W.Frag} {elts : List Expr} {kk : Nat} {tpos : Pos} (a e it : Addr) (ha : a ≠ it) :
    Turn P w K (.Tuple elts kk tpos) (IteT K a) [e, it] e (fun i h => (∃ old, IsEnum h e it ((i : Nat) : Int) old) ∧ h.IsTupleIter it a i ∧ e ≠ it) where
  mem := by simp
  obj := fun i h st b hb => by
    obtain ⟨⟨old, he⟩, ⟨o, ho, hc, hd⟩, _⟩ := st
    have e' : b = e ∨ b = it := by simpa using hb
    rcases e' with z | z
    · rw [z]; exact ⟨_, he, fun v q => nomatch q⟩
    · rw [z]; exact ⟨o, ho, fun v q => by rw [hd] at q; cases q⟩
  keep := fun i h h' st k => let ⟨⟨old, he⟩, hi, hne⟩ := st; ⟨⟨old, k e (by simp) _ he⟩, hi.at fun o q => k it (by simp) o q, hne⟩
  item := by
    intro X hP hw hK hc i pins s σ H E I hf st hg
    subst hP hw hK
    obtain ⟨⟨old, he⟩, hit, hne⟩ := st
    obtain ⟨xs, x, hq, hx⟩ := hg
    obtain ⟨its, rv, p, hz⟩ := I.tuple hq
    obtain ⟨u, hu, ru⟩ := rv.get hx
    have hel : e < s.heap.objs.size := Heap.lt_size he
    have hil : it < s.heap.objs.size := by obtain ⟨_, q, _⟩ := hit; exact Heap.lt_size q
    have hea : e ≠ a := fun q => by
      subst q
      obtain ⟨o, ho, hc, _⟩ := p
      rw [he] at ho
      cases ho
      exact absurd (show Value.type "enumerate" = .type "tuple" from hc) (by decide)
    have hlt : i < its.toArray.size := by
      rw [List.size_toArray]
      exact (List.getElem?_eq_some_iff.mp hu).1
    refine wpAny_pyNext_enum_itemD (Draws.tuple (A := X.A.in1) (show X.A.in1.handled = none from I.ok.hd hc) it a ha its.toArray) he ⟨hit, p⟩ hlt hne (by simp [hne, hea]) fun u' h' tk hu' ho hit' hT hsz hk => ?_
    have hu'' : its[i]? = some u' := by simpa using hu'
    rw [hu] at hu''
    cases hu''
    refine ⟨_, rfl, wpAny_letOwnedTupleGo_enum (s := { s with heap := h', toks := tk + 1 }) ho fun h'' he' sb => ?_⟩
    have hT2 : h''.get? s.heap.objs.size = some { cls := .type "tuple", data := .seq #[.int i tk, u] } := (sb.2 _ (Nat.ne_of_gt hel)).trans hT
    have new : ObjOk X.prog X.w (upd H s.heap.objs.size (.tup [.int (i : Nat), x])) h'' s.heap.objs.size (.tup [.int (i : Nat), x]) :=
      ⟨by show 2 ≤ sizeLine; decide, [.int i tk, u], .cons ⟨_, rfl⟩ (.cons ru .nil), ⟨_, hT2, rfl, _, rfl⟩⟩
    have I1 : Inv X pins σ (upd H s.heap.objs.size (.tup [.int (i : Nat), x])) { s with heap := h'', toks := tk + 1 } :=
      I.turnedNew (ch := [e, it]) (fun b ob hb q => (sb.2 b (fun z => hb (by simp [z]))).trans (hk b ob (fun z => hb (by simp [z])) (fun z => hb (by simp [z])) q)) hf (Nat.le_refl _) new
    refine ⟨.ref s.heap.objs.size, _, I1, rfl, ⟨_, x, rfl, I.hok.fresh (Nat.le_refl _), rfl, fun ys hy => by rw [I.tuple_inj hy hq]; exact hx⟩, ⟨⟨u, ?_⟩, hit'.1.at fun o q => (sb.2 it (Ne.symm hne)).trans q, hne⟩, fun b hb => ?_⟩
    · have e1 : ((i + 1 : Nat) : Int) = (i : Int) + 1 := by omega
      rw [e1]; exact he'
    · have hb' : b < s.heap.objs.size := by
        have e' : b = e ∨ b = it := by simpa using hb
        rcases e' with z | z
        · rw [z]; exact hel
        · rw [z]; exact hil
      rw [upd_ne (Nat.ne_of_lt hb')]
      exact (hf b hb).1
  done := by
    intro X hP hw hK hc i pins s σ H E I hf st hg
    subst hP hw hK
    obtain ⟨⟨old, he⟩, hit, hne⟩ := st
    obtain ⟨xs, hq, hx⟩ := hg
    obtain ⟨its, rv, p, hz⟩ := I.tuple hq
    obtain ⟨f0, f1, f2, f3, f4, f5⟩ := hf it (by simp)
    have hl := rv.length
    have hT : s.TypeIs (.ref e) "enumerate" := ⟨_, he, rfl⟩
    unfold pyNext
    refine wpAny_bind (wpAny_attempt (wpAny_callSpecial?_slot (name := Str.ofString "__next__") hT F.slot_enumerate_next
      (wpAny_call_entry F.slot_enumerate_next hT F.entry_enumerate_next ?_ (F.args_enumerate_next_1 _))))
    show wpAny _ _ (field (.ref e) 2 >>= _) _ _ _
    refine wpAny_bind (wpAny_field he rfl (x := .ref it) rfl ?_)
    refine wpAny_bind (wpAny_nextOf_tuple_end (I.ok.hd hc) hit p (by simp; omega) fun h' x he' hx' => ?_)
    obtain ⟨o, ho, hc⟩ := hx'
    refine wpAny_bind (wpAny_isInstance (T := "StopIteration") (b := true) ⟨o, ho, hc⟩ isSubtype_stop ?_)
    exact wpAny_pure ⟨rfl, I.turned (t' := s.toks) (fun b o hb q => he' b o hb q) f0 f1 f3 f4 f5⟩
  self := fun A i s Q E st h => let ⟨⟨_, he⟩, _⟩ := st; wpAny_pyIter_enum he h
def iEnumA (K : PySem.W.Frag) (ta : TA) : TI := fun σ H R => ta σ H fun vs H1 => ∃ a xs, vs = [.ref a] ∧ ((SqL K H1 a xs ∧ R (Ite K a) H1) ∨ (SqT K H1 a xs ∧ R (IteT K a) H1))
theorem pi_enumA {X : Cx} {e : Expr} {ta : TA} {p pos tpos : Pos} {elts : List Expr} {kk : Nat} (hg : Gl X "enumerate") (hm : X.mg "enumerate" = none) (ha : PA X [e] ta) (hs : starEach [e] X.env = [(false, eval e X.env)]) :
    PI X (.Tuple elts kk tpos) (.Call (.Name "enumerate" p) [e] [] pos) (iEnumA X.K ta) := by
  refine ⟨fun pins s σ H R I h => ?_⟩
  refine Call_ (ld_blt I hg hm boot_enumerate (PyProof.Rows.callWith_type1 (thn (ha.run pos pins s σ H _ I h) fun us s1 ⟨vs, H1, I1, r1, q1⟩ => ?_) hs rfl))
  obtain ⟨a, xs, ex, q1⟩ := q1
  subst ex
  cases r1 with
  | cons r rr =>
    cases rr
    cases r
    have fp : ∀ (hs : Heap), ∀ b ∈ [s1.heap.objs.size + 1, s1.heap.objs.size], FpOk X pins H1 b := fun _ b hb => by
      have e' : b = s1.heap.objs.size + 1 ∨ b = s1.heap.objs.size := by simpa using hb
      have hle : s1.heap.objs.size ≤ b := by
        rcases e' with z | z
        · rw [z]; exact Nat.le_add_right _ _
        · rw [z]; exact Nat.le_refl _
      exact I1.fpOk hle (I1.hok.fresh hle)
    rcases q1 with ⟨hq, q⟩ | ⟨hq, q⟩
    · obtain ⟨its, rv, p', hz⟩ := I1.list hq
      refine call_enumerate_list p'.isList fun h' he hit hsz hk => wpAny_pyIter_enum he ?_
      have I2 : Inv X pins σ H1 { s1 with heap := h' } := I1.kept (t' := s1.toks) hk
      exact ⟨s1.heap.objs.size + 1, [s1.heap.objs.size + 1, s1.heap.objs.size], _, _, H1, rfl, I2, turn_enum a (s1.heap.objs.size + 1) s1.heap.objs.size, ⟨⟨.none, he⟩, hit, Nat.succ_ne_self _⟩, fp h', q⟩
    · obtain ⟨its, rv, p', hz⟩ := I1.tuple hq
      have hlt : a < s1.heap.objs.size := by obtain ⟨o, ho, _⟩ := p'; exact Heap.lt_size ho
      refine enum_begins1 (begins_tuple a its.toArray) p' fun h' he hit hsz hk => wpAny_pyIter_enum he ?_
      have I2 : Inv X pins σ H1 { s1 with heap := h' } := I1.kept (t' := s1.toks) hk
      exact ⟨s1.heap.objs.size + 1, [s1.heap.objs.size + 1, s1.heap.objs.size], _, _, H1, rfl, I2, turn_enumT a (s1.heap.objs.size + 1) s1.heap.objs.size (Nat.ne_of_lt hlt), ⟨⟨.none, he⟩, ⟨_, hit, rfl, rfl⟩, Nat.succ_ne_self _⟩, fp h', q⟩
end Tw

set_option Elab.async false
set_option linter.all false
set_option maxRecDepth 100000
set_option maxHeartbeats 4000000
/-! Tw.EvS2: enumerate of a zip. -/
namespace Tw
open PySem PySem.Spec PyProof.Rows L2

abbrev IsZ (h : Heap) (z TI TO : Addr) (f0 : Value) (f1 : Bool) : Prop :=
  h.get? z = some { cls := .type "zip", dict := none, data := .fields #[f0, .bool f1, .bool false, .ref TI, .ref TO], slots := #[] }
def ZOk (f0 : Value) : Prop := f0 = .none ∨ ∃ a : Nat, f0 = rawInt a
section
variable {prog : Program} {w : World} {A : Around} {E : Value → Shared → Prop} {s : Shared} {z TI TO i1 i2 : Addr} {fp1 fp2 : List Addr} {n1 n2 i : Nat} {P1 P2 : Nat → Value → Prop} {St1 St2 : Nat → Heap → Prop} {a1 a2 f0 : Value} {f1 : Bool}
theorem wpAny_alive {M : Model} {a : Addr} {Q : Option Obj → Shared → Prop} (h : Q (s.heap.get? a) s) : wpAny M A (loadIfAlive a) Q E s := fun Γ p hΓ => by
  unfold loadIfAlive
  rw [Sem.wp_loadIfAlive]
  exact (wpAny_pure (M := M) (A := A) (E := E) (Q := Q) h) Γ p hΓ
theorem wpAny_ownFree {Q : Bool → Shared → Prop} (hz : IsZ s.heap z TI TO f0 f1) (h0 : ZOk f0) (ht : Q true s) (hf : ∀ h', IsZ h' z TI TO f0 true → Heap.SameBut z s.heap h' → Q false { s with heap := h' }) :
    wpAny (model prog w) A (Builtin.SmallTypes.ownedTupleIsFree (.ref z)) Q E s := by
  unfold Builtin.SmallTypes.ownedTupleIsFree
  rcases h0 with rfl | ⟨a, rfl⟩
  · exact wpAny_bind (wpAny_field hz rfl (x := .none) rfl (wpAny_pure ht))
  · refine wpAny_bind (wpAny_field hz rfl (x := rawInt a) rfl ?_)
    show wpAny _ _ (loadIfAlive _ >>= _) _ _ s
    refine wpAny_bind (wpAny_alive ?_)
    cases s.heap.get? ((a : Int).toNat) with
    | none => exact wpAny_pure ht
    | some o =>
      show wpAny _ _ (field (.ref z) 1 >>= _) _ _ s
      refine wpAny_bind (wpAny_field hz rfl (x := .bool f1) rfl ?_)
      cases f1 with
      | true => exact wpAny_pure (hf s.heap hz ⟨rfl, fun _ _ => rfl⟩)
      | false => exact wpAny_bind (wpAny_setField_rec hz (by simp) fun h' h1 h2 => wpAny_pure (hf h' h1 h2))
theorem zipG_next_item {Q : Value → Shared → Prop} (S : ZipSep2 z TI TO i1 i2 fp1 fp2) (D1 : Draws prog w A i1 fp1 n1 P1 St1) (D2 : Draws prog w A i2 fp2 n2 P2 St2)
    (hz : IsZ s.heap z TI TO f0 f1) (h0 : ZOk f0) (hTI : IsTupOf2 s.heap TI (.ref i1) (.ref i2)) (hTO : IsTupOf2 s.heap TO a1 a2) (st1 : St1 i s.heap) (st2 : St2 i s.heap) (hlt1 : i < n1) (hlt2 : i < n2)
    (hQ : ∀ x1 x2 h' tk b1 b2 g0 g1, P1 i x1 → P2 i x2 → IsZ h' z TI TO g0 g1 → ZOk g0 → IsTupOf2 h' TO b1 b2 → St1 (i + 1) h' → St2 (i + 1) h' → IsTupOf2 h' s.heap.objs.size x1 x2 → h'.objs.size = s.heap.objs.size + 1 →
      (∀ c o, c ≠ z → c ≠ TO → c ≠ i1 → c ≠ i2 → s.heap.get? c = some o → h'.get? c = some o) → Q (.ref s.heap.objs.size) { s with heap := h', toks := tk }) :
    wpAny (model prog w) A (Builtin.«zip.__next__» ⟨[.ref z], []⟩) (fun fin s' => ∃ v, fin = .done (.ret v) ∧ Q v s') E s := by
  obtain ⟨hp, g, d, tk0, os⟩ := s
  show wpAny _ _ (field (.ref z) 2 >>= _) _ _ _
  refine wpAny_bind (wpAny_field hz rfl (x := .bool false) rfl ?_)
  show wpAny _ _ (field (.ref z) 3 >>= _) _ _ _
  refine wpAny_bind (wpAny_field hz rfl (x := .ref TI) rfl ?_)
  refine wpAny_bind (wpAny_seqItems hTI rfl ?_)
  show wpAny _ _ (Builtin.SmallTypes.ownedTupleIsFree (.ref z) >>= _) _ _ _
  refine wpAny_bind (wpAny_ownFree hz h0 ?_ fun gg hzg hsg => ?_)
  · simp only [if_true]
    refine wpAny_bind (wpAny_rule ?_)
    refine wpAny_bind (wpAny_field hz rfl (x := .ref TO) rfl ?_)
    refine wpAny_bind (wpAny_setField_rec hz (by simp) fun g0 hz0 hs0 => ?_)
    replace hz0 : IsZ g0 z TI TO .ellipsis f1 := hz0
    replace hs0 : Heap.SameBut z hp g0 := hs0
    refine wpAny_bind ?_
    simp only [List.zipIdx_cons, List.zipIdx_nil, List.forIn_cons, List.forIn_nil]
    refine wpAny_bind (wpAny_bind (wpAny_onRaise ?_))
    show wpAny _ _ (Builtin.SmallTypes.nextOf (.ref i1) >>= _) _ _ ⟨g0, g, d, tk0, os⟩
    refine wpAny_bind (D1.item i _ _ _ hlt1 (D1.over st1 hs0 S.zf1) fun x1 p1 tk1 hx1 sn1 hp1 => wpAny_pure ?_)
    replace hp1 : Heap.SameBut i1 g0 p1 := hp1
    have hU1 : IsTupOf2 p1 TO a1 a2 := hp1.extBut _ _ S.Ti1 (hs0.extBut _ _ S.TOz hTO)
    refine wpAny_bind (wpAny_seqItems (s := ⟨p1, g, d, tk1, os⟩) hU1 rfl ?_)
    refine wpAny_bind (updateSeq_IsTupOf2 (s := ⟨p1, g, d, tk1, os⟩) hU1 fun g1 hT1 hs1 => ?_)
    replace hT1 : IsTupOf2 g1 TO x1 a2 := hT1
    replace hs1 : Heap.SameBut TO p1 g1 := hs1
    refine wpAny_bind (wpAny_letGo (wpAny_pure ?_))
    refine wpAny_bind (wpAny_bind (wpAny_onRaise ?_))
    show wpAny _ _ (Builtin.SmallTypes.nextOf (.ref i2) >>= _) _ _ ⟨g1, g, d, tk1, os⟩
    refine wpAny_bind (D2.item i _ _ _ hlt2 (D2.over (D2.over (D2.over st2 hs0 S.zf2) hp1 S.sep1_2) hs1 S.Tf2) fun x2 p2 tk2 hx2 sn2 hp2 => wpAny_pure ?_)
    replace hp2 : Heap.SameBut i2 g1 p2 := hp2
    have hU2 : IsTupOf2 p2 TO x1 a2 := hp2.extBut _ _ S.Ti2 hT1
    refine wpAny_bind (wpAny_seqItems (s := ⟨p2, g, d, tk2, os⟩) hU2 rfl ?_)
    refine wpAny_bind (updateSeq_IsTupOf2 (s := ⟨p2, g, d, tk2, os⟩) hU2 fun g2 hT2 hs2 => ?_)
    replace hT2 : IsTupOf2 g2 TO x1 x2 := hT2
    replace hs2 : Heap.SameBut TO p2 g2 := hs2
    refine wpAny_bind (wpAny_letGo (wpAny_pure (wpAny_pure ?_)))
    refine wpAny_bind (wpAny_seqItems (s := ⟨g2, g, d, tk2, os⟩) hT2 rfl ?_)
    refine wpAny_bind (wpAny_newTuple ?_)
    have hsz : g2.objs.size = hp.objs.size := by rw [hs2.1, hp2.1, hs1.1, hp1.1, hs0.1]
    have hzz : IsZ g2 z TI TO .ellipsis f1 := (hs2.extBut _ _ S.TOz.symm (hp2.extBut _ _ S.zi2 (hs1.extBut _ _ S.TOz.symm (hp1.extBut _ _ S.zi1 hz0))))
    have hkk : ∀ c o, c ≠ z → c ≠ TO → c ≠ i1 → c ≠ i2 → hp.get? c = some o → g2.get? c = some o := fun c o cz cT c1 c2 e =>
      (hs2.extBut _ _ cT (hp2.extBut _ _ c2 (hs1.extBut _ _ cT (hp1.extBut _ _ c1 (hs0.extBut _ _ cz e)))))
    have hj1 : St1 (i + 1) g2 := (D1.over (D1.over (D1.over sn1 hs1 S.Tf1) hp2 S.sep2_1) hs2 S.Tf1)
    have hj2 : St2 (i + 1) g2 := (D2.over sn2 hs2 S.Tf2)
    have hzlt : z < g2.objs.size := Heap.lt_size hzz
    show wpAny _ _ (Builtin.SmallTypes.ownedTupleHandOut (.ref z) (.ref g2.objs.size) >>= _) _ _ ⟨g2.push { cls := .type "tuple", data := .seq #[x1, x2] }, g, d, tk2, os⟩
    refine wpAny_bind ?_
    unfold Builtin.SmallTypes.ownedTupleHandOut
    have hz₆ : IsZ (g2.push { cls := .type "tuple", data := .seq #[x1, x2] }) z TI TO .ellipsis f1 := Heap.get?_push_of_some _ hzz
    refine wpAny_bind (wpAny_setField_rec hz₆ (by simp) fun h₇ hz₇ hs₇ => ?_)
    replace hz₇ : IsZ h₇ z TI TO (rawInt g2.objs.size) f1 := hz₇
    refine wpAny_setField_rec hz₇ (by simp) fun h₈ hz₈ hs₈ => ?_
    replace hz₈ : IsZ h₈ z TI TO (rawInt g2.objs.size) false := hz₈
    replace hs₇ : Heap.SameBut z (g2.push { cls := .type "tuple", data := .seq #[x1, x2] }) h₇ := hs₇
    replace hs₈ : Heap.SameBut z h₇ h₈ := hs₈
    have up : ∀ c o, c ≠ z → g2.get? c = some o → h₈.get? c = some o := fun c o c1 e => hs₈.extBut _ _ c1 (hs₇.extBut _ _ c1 (Heap.get?_push_of_some _ e))
    have hT₈ : IsTupOf2 h₈ g2.objs.size x1 x2 := hs₈.extBut _ _ (Nat.ne_of_gt hzlt) (hs₇.extBut _ _ (Nat.ne_of_gt hzlt) (Heap.get?_push_size _ rfl))
    have hz8 : h₈.objs.size = g2.objs.size + 1 := by rw [hs₈.1, hs₇.1, Heap.size_push]
    rw [hsz] at hz₈ hT₈ hz8
    refine wpAny_pure ⟨_, rfl, ?_⟩
    show Q (.ref g2.objs.size) ⟨h₈, g, d, tk2, os⟩
    rw [hsz]
    exact hQ x1 x2 h₈ tk2 x1 x2 _ _ hx1 hx2 hz₈ (.inr ⟨_, rfl⟩) (up _ _ S.TOz hT2) (D1.frame _ _ _ hj1 fun b hb o e => up b o (fun q => S.zf1 (q ▸ hb)) e) (D2.frame _ _ _ hj2 fun b hb o e => up b o (fun q => S.zf2 (q ▸ hb)) e) hT₈ hz8 fun c o cz cT c1 c2 e => up c o cz (hkk c o cz cT c1 c2 e)
  · replace hzg : IsZ gg z TI TO f0 true := hzg
    replace hsg : Heap.SameBut z hp gg := hsg
    simp only [Bool.false_eq_true, if_false]
    refine wpAny_bind ?_
    simp only [← Array.forIn_toList, List.forIn_cons, List.forIn_nil]
    refine wpAny_bind (wpAny_bind (wpAny_holding ?_))
    show wpAny _ _ (Builtin.SmallTypes.nextOf (.ref i1) >>= _) _ _ ⟨gg, g, d, tk0, os⟩
    refine wpAny_bind (D1.item i _ _ _ hlt1 (D1.over st1 hsg S.zf1) fun x1 p1 tk1 hx1 sn1 hp1 => wpAny_pure (wpAny_pure ?_))
    replace hp1 : Heap.SameBut i1 gg p1 := hp1
    refine wpAny_bind (wpAny_bind (wpAny_holding ?_))
    show wpAny _ _ (Builtin.SmallTypes.nextOf (.ref i2) >>= _) _ _ ⟨p1, g, d, tk1, os⟩
    refine wpAny_bind (D2.item i _ _ _ hlt2 (D2.over (D2.over st2 hsg S.zf2) hp1 S.sep1_2) fun x2 p2 tk2 hx2 sn2 hp2 => wpAny_pure (wpAny_pure (wpAny_pure ?_)))
    replace hp2 : Heap.SameBut i2 p1 p2 := hp2
    show wpAny _ _ (newTuple [x1, x2] >>= _) _ _ ⟨p2, g, d, tk2, os⟩
    refine wpAny_bind (wpAny_newTuple ?_)
    have hsz : p2.objs.size = hp.objs.size := by rw [hp2.1, hp1.1, hsg.1]
    have hzz : IsZ p2 z TI TO f0 true := hp2.extBut _ _ S.zi2 (hp1.extBut _ _ S.zi1 hzg)
    have hkk : ∀ c o, c ≠ z → c ≠ i1 → c ≠ i2 → hp.get? c = some o → p2.get? c = some o := fun c o cz c1 c2 e =>
      hp2.extBut _ _ c2 (hp1.extBut _ _ c1 (hsg.extBut _ _ cz e))
    have hTO2 : IsTupOf2 p2 TO a1 a2 := hkk _ _ S.TOz S.Ti1 S.Ti2 hTO
    have hj1 : St1 (i + 1) p2 := D1.over sn1 hp2 S.sep2_1
    refine wpAny_pure ⟨_, rfl, ?_⟩
    show Q (.ref p2.objs.size) ⟨p2.push { cls := .type "tuple", data := .seq #[x1, x2] }, g, d, tk2, os⟩
    have up : ∀ c o, p2.get? c = some o → (p2.push { cls := .type "tuple", data := .seq #[x1, x2] }).get? c = some o := fun c o e => Heap.get?_push_of_some _ e
    have hT8 : IsTupOf2 (p2.push { cls := .type "tuple", data := .seq #[x1, x2] }) p2.objs.size x1 x2 := Heap.get?_push_size _ rfl
    rw [hsz] at hT8 ⊢
    exact hQ x1 x2 _ tk2 a1 a2 f0 true hx1 hx2 (up _ _ hzz) h0 (up _ _ hTO2) (D1.frame _ _ _ hj1 fun b hb o e => up b o e) (D2.frame _ _ _ sn2 fun b hb o e => up b o e) hT8 (by rw [Heap.size_push, hsz]) fun c o cz cT c1 c2 e => up c o (hkk c o cz c1 c2 e)
theorem zipG_next_end {Q : Fin → Shared → Prop} (S : ZipSep2 z TI TO i1 i2 fp1 fp2) (D1 : Draws prog w A i1 fp1 n1 P1 St1) (D2 : Draws prog w A i2 fp2 n2 P2 St2)
    (hz : IsZ s.heap z TI TO f0 f1) (h0 : ZOk f0) (hTI : IsTupOf2 s.heap TI (.ref i1) (.ref i2)) (hTO : IsTupOf2 s.heap TO a1 a2) (st1 : St1 i s.heap) (st2 : St2 i s.heap) (hle1 : i ≤ n1) (hle2 : i ≤ n2) (hend : i = n1 ∨ i = n2)
    (hE : ∀ h' tk e, (∀ c o, c ≠ z → c ≠ TO → c ≠ i1 → c ≠ i2 → s.heap.get? c = some o → h'.get? c = some o) → (∃ o, h'.get? e = some o ∧ o.cls = .type "StopIteration") → E (.ref e) { s with heap := h', toks := tk }) :
    wpAny (model prog w) A (Builtin.«zip.__next__» ⟨[.ref z], []⟩) Q E s := by
  obtain ⟨hp, g, d, tk0, os⟩ := s
  show wpAny _ _ (field (.ref z) 2 >>= _) _ _ _
  refine wpAny_bind (wpAny_field hz rfl (x := .bool false) rfl ?_)
  show wpAny _ _ (field (.ref z) 3 >>= _) _ _ _
  refine wpAny_bind (wpAny_field hz rfl (x := .ref TI) rfl ?_)
  refine wpAny_bind (wpAny_seqItems hTI rfl ?_)
  show wpAny _ _ (Builtin.SmallTypes.ownedTupleIsFree (.ref z) >>= _) _ _ _
  refine wpAny_bind (wpAny_ownFree hz h0 ?_ fun gg hzg hsg => ?_)
  · simp only [if_true]
    refine wpAny_bind (wpAny_rule ?_)
    refine wpAny_bind (wpAny_field hz rfl (x := .ref TO) rfl ?_)
    refine wpAny_bind (wpAny_setField_rec hz (by simp) fun g0 hz0 hs0 => ?_)
    replace hz0 : IsZ g0 z TI TO .ellipsis f1 := hz0
    replace hs0 : Heap.SameBut z hp g0 := hs0
    refine wpAny_bind ?_
    simp only [List.zipIdx_cons, List.zipIdx_nil, List.forIn_cons, List.forIn_nil]
    refine wpAny_bind (wpAny_bind (wpAny_onRaise ?_))
    show wpAny _ _ (Builtin.SmallTypes.nextOf (.ref i1) >>= _) _ _ ⟨g0, g, d, tk0, os⟩
    by_cases hlt1 : i < n1
    · refine wpAny_bind (D1.item i _ _ _ hlt1 (D1.over st1 hs0 S.zf1) fun x1 p1 tk1 hx1 sn1 hp1 => wpAny_pure ?_)
      replace hp1 : Heap.SameBut i1 g0 p1 := hp1
      have hU1 : IsTupOf2 p1 TO a1 a2 := hp1.extBut _ _ S.Ti1 (hs0.extBut _ _ S.TOz hTO)
      refine wpAny_bind (wpAny_seqItems (s := ⟨p1, g, d, tk1, os⟩) hU1 rfl ?_)
      refine wpAny_bind (updateSeq_IsTupOf2 (s := ⟨p1, g, d, tk1, os⟩) hU1 fun g1 hT1 hs1 => ?_)
      replace hT1 : IsTupOf2 g1 TO x1 a2 := hT1
      replace hs1 : Heap.SameBut TO p1 g1 := hs1
      refine wpAny_bind (wpAny_letGo (wpAny_pure ?_))
      have hi2 : i = n2 := by omega
      refine wpAny_bind (wpAny_bind (wpAny_onRaise ?_))
      show wpAny _ _ (Builtin.SmallTypes.nextOf (.ref i2) >>= _) _ _ ⟨g1, g, d, tk1, os⟩
      refine wpAny_bind (D2.done ⟨g1, g, d, tk1, os⟩ _ _ (by rw [← hi2]; exact (D2.over (D2.over (D2.over st2 hs0 S.zf2) hp1 S.sep1_2) hs1 S.Tf2)) fun q e hq he => ?_)
      replace hq : Heap.ExtBut i2 g1 q := hq
      obtain ⟨oe, hoe, hce⟩ := he
      replace hoe : q.get? e = some oe := hoe
      have hzq : IsZ q z TI TO .ellipsis f1 := hq _ _ S.zi2 (hs1.extBut _ _ S.TOz.symm (hp1.extBut _ _ S.zi1 hz0))
      have hez : e ≠ z := fun x => by subst x; rw [hzq] at hoe; cases hoe; simp at hce
      refine wpAny_setField_rec (s := ⟨q, g, d, tk1, os⟩) hzq (by simp) fun q' _ hq' => ?_
      replace hq' : Heap.SameBut z q q' := hq'
      exact hE q' tk1 e (fun c o cz cT c1 c2 x => hq'.extBut _ _ cz (hq _ _ c2 (hs1.extBut _ _ cT (hp1.extBut _ _ c1 (hs0.extBut _ _ cz x))))) ⟨oe, hq'.extBut _ _ hez hoe, hce⟩
    · have hi1 : i = n1 := by omega
      refine wpAny_bind (D1.done ⟨g0, g, d, tk0, os⟩ _ _ (by rw [← hi1]; exact (D1.over st1 hs0 S.zf1)) fun q e hq he => ?_)
      replace hq : Heap.ExtBut i1 g0 q := hq
      obtain ⟨oe, hoe, hce⟩ := he
      replace hoe : q.get? e = some oe := hoe
      have hzq : IsZ q z TI TO .ellipsis f1 := hq _ _ S.zi1 hz0
      have hez : e ≠ z := fun x => by subst x; rw [hzq] at hoe; cases hoe; simp at hce
      refine wpAny_setField_rec (s := ⟨q, g, d, tk0, os⟩) hzq (by simp) fun q' _ hq' => ?_
      replace hq' : Heap.SameBut z q q' := hq'
      exact hE q' tk0 e (fun c o cz cT c1 c2 x => hq'.extBut _ _ cz (hq _ _ c1 (hs0.extBut _ _ cz x))) ⟨oe, hq'.extBut _ _ hez hoe, hce⟩
  · replace hzg : IsZ gg z TI TO f0 true := hzg
    replace hsg : Heap.SameBut z hp gg := hsg
    simp only [Bool.false_eq_true, if_false]
    refine wpAny_bind ?_
    simp only [← Array.forIn_toList, List.forIn_cons, List.forIn_nil]
    refine wpAny_bind (wpAny_bind (wpAny_holding ?_))
    show wpAny _ _ (Builtin.SmallTypes.nextOf (.ref i1) >>= _) _ _ ⟨gg, g, d, tk0, os⟩
    by_cases hlt1 : i < n1
    · refine wpAny_bind (D1.item i _ _ _ hlt1 (D1.over st1 hsg S.zf1) fun x1 p1 tk1 hx1 sn1 hp1 => wpAny_pure (wpAny_pure ?_))
      replace hp1 : Heap.SameBut i1 gg p1 := hp1
      have hi2 : i = n2 := by omega
      refine wpAny_bind (wpAny_bind (wpAny_holding ?_))
      show wpAny _ _ (Builtin.SmallTypes.nextOf (.ref i2) >>= _) _ _ ⟨p1, g, d, tk1, os⟩
      refine wpAny_bind (D2.done ⟨p1, g, d, tk1, os⟩ _ _ (by rw [← hi2]; exact (D2.over (D2.over st2 hsg S.zf2) hp1 S.sep1_2)) fun q e hq he => ?_)
      replace hq : Heap.ExtBut i2 p1 q := hq
      exact hE q tk1 e (fun c o cz cT c1 c2 x => hq _ _ c2 (hp1.extBut _ _ c1 (hsg.extBut _ _ cz x))) he
    · have hi1 : i = n1 := by omega
      refine wpAny_bind (D1.done ⟨gg, g, d, tk0, os⟩ _ _ (by rw [← hi1]; exact (D1.over st1 hsg S.zf1)) fun q e hq he => ?_)
      replace hq : Heap.ExtBut i1 gg q := hq
      exact hE q tk0 e (fun c o cz cT c1 c2 x => hq _ _ c1 (hsg.extBut _ _ cz x)) he
/-- the next one of a zip, by its iterator's own step -/
theorem zipG_nextOf {Q : Value → Shared → Prop} (S : ZipSep2 z TI TO i1 i2 fp1 fp2) (D1 : Draws prog w A.in1 i1 fp1 n1 P1 St1) (D2 : Draws prog w A.in1 i2 fp2 n2 P2 St2)
    (hz : IsZ s.heap z TI TO f0 f1) (h0 : ZOk f0) (hTI : IsTupOf2 s.heap TI (.ref i1) (.ref i2)) (hTO : IsTupOf2 s.heap TO a1 a2) (st1 : St1 i s.heap) (st2 : St2 i s.heap) (hlt1 : i < n1) (hlt2 : i < n2)
    (hQ : ∀ x1 x2 h' tk b1 b2 g0 g1, P1 i x1 → P2 i x2 → IsZ h' z TI TO g0 g1 → ZOk g0 → IsTupOf2 h' TO b1 b2 → St1 (i + 1) h' → St2 (i + 1) h' → IsTupOf2 h' s.heap.objs.size x1 x2 → h'.objs.size = s.heap.objs.size + 1 →
      (∀ c o, c ≠ z → c ≠ TO → c ≠ i1 → c ≠ i2 → s.heap.get? c = some o → h'.get? c = some o) → Q (.ref s.heap.objs.size) { s with heap := h', toks := tk }) :
    wpAny (model prog w) A (Builtin.SmallTypes.nextOf (.ref z)) Q E s := by
  have hT : s.TypeIs (.ref z) "zip" := ⟨_, hz, rfl⟩
  unfold Builtin.SmallTypes.nextOf
  exact wpAny_bind (wpAny_callSpecial?_slot (name := Str.ofString "__next__") hT F.slot_zip_next
    (wpAny_call_entry F.slot_zip_next hT F.entry_zip_next
      (zipG_next_item S D1 D2 hz h0 hTI hTO st1 st2 hlt1 hlt2 fun x1 x2 h' tk b1 b2 g0 g1 y1 y2 c1 c2 c3 d1 d2 b5 b6 b7 => wpAny_pure (hQ x1 x2 h' tk b1 b2 g0 g1 y1 y2 c1 c2 c3 d1 d2 b5 b6 b7)) (F.args_zip_next_1 _)))
theorem zipG_nextOf_end {Q : Value → Shared → Prop} (S : ZipSep2 z TI TO i1 i2 fp1 fp2) (D1 : Draws prog w A.in1 i1 fp1 n1 P1 St1) (D2 : Draws prog w A.in1 i2 fp2 n2 P2 St2)
    (hz : IsZ s.heap z TI TO f0 f1) (h0 : ZOk f0) (hTI : IsTupOf2 s.heap TI (.ref i1) (.ref i2)) (hTO : IsTupOf2 s.heap TO a1 a2) (st1 : St1 i s.heap) (st2 : St2 i s.heap) (hle1 : i ≤ n1) (hle2 : i ≤ n2) (hend : i = n1 ∨ i = n2)
    (hE : ∀ h' tk e, (∀ c o, c ≠ z → c ≠ TO → c ≠ i1 → c ≠ i2 → s.heap.get? c = some o → h'.get? c = some o) → (∃ o, h'.get? e = some o ∧ o.cls = .type "StopIteration") → E (.ref e) { s with heap := h', toks := tk }) :
    wpAny (model prog w) A (Builtin.SmallTypes.nextOf (.ref z)) Q E s := by
  have hT : s.TypeIs (.ref z) "zip" := ⟨_, hz, rfl⟩
  unfold Builtin.SmallTypes.nextOf
  exact wpAny_bind (wpAny_callSpecial?_slot (name := Str.ofString "__next__") hT F.slot_zip_next
    (wpAny_call_entry F.slot_zip_next hT F.entry_zip_next
      (zipG_next_end S D1 D2 hz h0 hTI hTO st1 st2 hle1 hle2 hend hE) (F.args_zip_next_1 _)))
/-- enumerate's next over anything that draws one thing and may make new ones -/
theorem enumG_next {e it : Addr} {c : Int} {old : Value} {Q : Value → Shared → Prop} {R : Value → Heap → Prop} (he : IsEnum s.heap e it c old)
    (hin : ∀ Q' : Value → Shared → Prop, (∀ x h' tk, R x h' → Q' x { s with heap := h', toks := tk }) → wpAny (model prog w) A (Builtin.SmallTypes.nextOf (.ref it)) Q' E s)
    (hR : ∀ x h', R x h' → IsEnum h' e it c old)
    (hQ : ∀ x h₁ h' tk, R x h₁ → IsEnumOut h' e it (c + 1) x h₁.objs.size → h'.get? h₁.objs.size = some { cls := .type "tuple", data := .seq #[.int c tk, x] } → h'.objs.size = h₁.objs.size + 1 →
      (∀ b o, b ≠ e → h₁.get? b = some o → h'.get? b = some o) → Q (.ref h₁.objs.size) { s with heap := h', toks := tk + 1 }) :
    wpAny (model prog w) A (Builtin.«enumerate.__next__» ⟨[.ref e], []⟩) (fun fin s' => ∃ v, fin = .done (.ret v) ∧ Q v s') E s := by
  obtain ⟨hp, g, d, tk₀, os⟩ := s
  show wpAny _ _ (field (.ref e) 2 >>= _) _ _ _
  refine wpAny_bind (wpAny_field he rfl (x := .ref it) rfl ?_)
  refine wpAny_bind (hin _ fun x h₁ tk hr => ?_)
  have he₁ : IsEnum h₁ e it c old := hR x h₁ hr
  show wpAny _ _ (field (.ref e) 3 >>= _) _ _ ⟨h₁, g, d, tk, os⟩
  refine wpAny_bind (wpAny_field he₁ rfl (x := rawInt c) rfl ?_)
  show wpAny _ _ (field (.ref e) 4 >>= _) _ _ ⟨h₁, g, d, tk, os⟩
  refine wpAny_bind (wpAny_field he₁ rfl (x := .none) rfl ?_)
  show wpAny _ _ (mkInt c >>= _) _ _ ⟨h₁, g, d, tk, os⟩
  refine wpAny_bind (wpAny_mkInt ?_)
  show wpAny _ _ (setField (.ref e) 3 (rawInt (c + 1)) >>= _) _ _ ⟨h₁, g, d, tk + 1, os⟩
  refine wpAny_bind (wpAny_setField_rec he₁ (by simp) fun h₂ he₂ hs₂ => ?_)
  replace hs₂ : Heap.SameBut e h₁ h₂ := hs₂
  replace he₂ : IsEnum h₂ e it (c + 1) old := he₂
  show wpAny _ _ (setField (.ref e) 4 .none >>= _) _ _ ⟨h₂, g, d, tk + 1, os⟩
  refine wpAny_bind (wpAny_setField_rec he₂ (by simp) fun h₃ he₃ hs₃ => ?_)
  replace hs₃ : Heap.SameBut e h₂ h₃ := hs₃
  replace he₃ : IsEnum h₃ e it (c + 1) old := he₃
  show wpAny _ _ (newTuple [.int c tk, x] >>= _) _ _ ⟨h₃, g, d, tk + 1, os⟩
  refine wpAny_bind (wpAny_newTuple ?_)
  have he₄ : IsEnum (h₃.push { cls := .type "tuple", data := .seq #[.int c tk, x] }) e it (c + 1) old := Heap.get?_push_of_some _ he₃
  generalize hh₄ : h₃.push { cls := .type "tuple", data := .seq #[.int c tk, x] } = h₄ at he₄
  have hsz : h₃.objs.size = h₁.objs.size := by rw [hs₃.1, hs₂.1]
  have hel : e < h₁.objs.size := Heap.lt_size he₁
  have ht₄ : h₄.get? h₁.objs.size = some { cls := .type "tuple", data := .seq #[.int c tk, x] } := by rw [← hh₄, ← hsz]; exact Heap.get?_push_size _ rfl
  have hz₄ : h₄.objs.size = h₁.objs.size + 1 := by rw [← hh₄, Heap.size_push, hsz]
  have hk₄ : ∀ b o, b ≠ e → h₁.get? b = some o → h₄.get? b = some o := fun b o hbe hb => by
    rw [← hh₄]; exact Heap.get?_push_of_some _ (hs₃.extBut b o hbe (hs₂.extBut b o hbe hb))
  show wpAny _ _ (Builtin.SmallTypes.ownedTupleIsFree (.ref e) >>= _) _ _ ⟨h₄, g, d, tk + 1, os⟩
  rw [hsz]
  clear hh₄ he₃ hs₃ he₂ hs₂ hsz h₃ h₂
  refine wpAny_bind ?_
  · unfold Builtin.SmallTypes.ownedTupleIsFree
    refine wpAny_bind (wpAny_field he₄ rfl (x := .none) rfl (wpAny_pure ?_))
    simp only [if_true]
    refine wpAny_bind (wpAny_rule ?_)
    refine wpAny_bind (wpAny_field he₄ rfl (x := old) rfl ?_)
    refine wpAny_bind (wpAny_setField_rec he₄ (by simp) fun h₅ he₅ hs₅ => ?_)
    replace hs₅ : Heap.SameBut e h₄ h₅ := hs₅
    replace he₅ : IsEnum h₅ e it (c + 1) x := he₅
    show wpAny _ _ (Builtin.SmallTypes.ownedTupleHandOut (.ref e) (.ref h₁.objs.size) >>= _) _ _ ⟨h₅, g, d, tk + 1, os⟩
    refine wpAny_bind ?_
    · unfold Builtin.SmallTypes.ownedTupleHandOut
      refine wpAny_bind (wpAny_setField_rec he₅ (by simp) fun h₆ he₆ hs₆ => ?_)
      replace hs₆ : Heap.SameBut e h₅ h₆ := hs₆
      replace he₆ : IsEnumOut h₆ e it (c + 1) x h₁.objs.size := he₆
      refine wpAny_setField_rec he₆ (by simp) fun h₇ he₇ hs₇ => ?_
      replace hs₇ : Heap.SameBut e h₆ h₇ := hs₇
      replace he₇ : IsEnumOut h₇ e it (c + 1) x h₁.objs.size := he₇
      refine wpAny_bind (wpAny_letGo (wpAny_pure ⟨_, rfl, hQ x h₁ h₇ tk hr he₇ ?_ ?_ ?_⟩))
      · exact hs₇.extBut _ _ (Nat.ne_of_gt hel) (hs₆.extBut _ _ (Nat.ne_of_gt hel) (hs₅.extBut _ _ (Nat.ne_of_gt hel) ht₄))
      · rw [hs₇.1, hs₆.1, hs₅.1, hz₄]
      · exact fun b o hbe hb => hs₇.extBut b o hbe (hs₆.extBut b o hbe (hs₅.extBut b o hbe (hk₄ b o hbe hb)))
end
end Tw

set_option Elab.async false
set_option linter.all false
set_option maxRecDepth 100000
set_option maxHeartbeats 4000000
/-! Tw.EvS3: enumerate(zip(a, b)) of tuples, as it is walked. -/
namespace Tw
open PySem PySem.Spec PyProof.Rows L2

structure EzSep (e z TI TO i1 i2 a b : Addr) : Prop where
  S : ZipSep2 z TI TO i1 i2 [i1, a] [i2, b]
  ai : a ≠ i1
  bi : b ≠ i2
  ez : e ≠ z
  eTI : e ≠ TI
  eTO : e ≠ TO
  e1 : e ≠ i1
  e2 : e ≠ i2
/-- the tuples at a and b as they stand at each turn: new pairs of the place and a new pair of the items -/
def Ienz (K : PySem.W.Frag) (a b : Addr) : It :=
  ⟨fun i H => ∃ (xs ys : List V) (x y : V), SqT K H a xs ∧ SqT K H b ys ∧ xs[i]? = some x ∧ ys[i]? = some y,
    fun i H v H' => ∃ T0 T x y, v = .ref T ∧ H T0 = none ∧ H T = none ∧ T0 ≠ T ∧ H' = upd (upd H T0 (.tup [x, y])) T (.tup [.int (i : Nat), .ref T0]) ∧ (∀ xs, SqT K H a xs → xs[i]? = some x) ∧ ∀ ys, SqT K H b ys → ys[i]? = some y,
    fun i H => ∃ xs ys : List V, SqT K H a xs ∧ SqT K H b ys ∧ i ≤ xs.length ∧ i ≤ ys.length ∧ (i = xs.length ∨ i = ys.length)⟩
theorem turn_enz {P : Program} {w : World} {K : PySem.W.Frag} {elts : List Expr} {kk : Nat} {tpos : Pos} {e z TI TO i1 i2 a b : Addr} (A : EzSep e z TI TO i1 i2 a b) :
    Turn P w K (.Tuple elts kk tpos) (Ienz K a b) [e, z, TI, TO, i1, i2] e (fun i h => (∃ old, IsEnum h e z ((i : Nat) : Int) old) ∧ (∃ f0 f1, IsZ h z TI TO f0 f1 ∧ ZOk f0) ∧ IsTupOf2 h TI (.ref i1) (.ref i2) ∧ (∃ x y, IsTupOf2 h TO x y) ∧ h.IsTupleIter i1 a i ∧ h.IsTupleIter i2 b i) where
  mem := by simp
  obj := fun i h st c hc => by
    obtain ⟨⟨old, he⟩, ⟨f0, f1, hz, _⟩, hTI, ⟨x, y, hTO⟩, ⟨o1, e1, _, d1⟩, ⟨o2, e2, _, d2⟩⟩ := st
    have e' : c = e ∨ c = z ∨ c = TI ∨ c = TO ∨ c = i1 ∨ c = i2 := by simpa using hc
    rcases e' with q | q | q | q | q | q
    · rw [q]; exact ⟨_, he, fun v q => nomatch q⟩
    · rw [q]; exact ⟨_, hz, fun v q => nomatch q⟩
    · rw [q]; exact ⟨_, hTI, fun v q => nomatch q⟩
    · rw [q]; exact ⟨_, hTO, fun v q => nomatch q⟩
    · rw [q]; exact ⟨o1, e1, fun v q => by rw [d1] at q; cases q⟩
    · rw [q]; exact ⟨o2, e2, fun v q => by rw [d2] at q; cases q⟩
  keep := fun i h h' st k => by
    obtain ⟨⟨old, he⟩, ⟨f0, f1, hz, h0⟩, hTI, ⟨x, y, hTO⟩, h1, h2⟩ := st
    exact ⟨⟨old, k e (by simp) _ he⟩, ⟨f0, f1, k z (by simp) _ hz, h0⟩, k TI (by simp) _ hTI, ⟨x, y, k TO (by simp) _ hTO⟩, h1.at fun o q => k i1 (by simp) o q, h2.at fun o q => k i2 (by simp) o q⟩
  item := by
    intro X hP hw hK hc i pins s σ H E I hf st hg
    subst hP hw hK
    obtain ⟨⟨old, he⟩, ⟨f0, f1, hz, h0⟩, hTI, ⟨x0, y0, hTO⟩, h1, h2⟩ := st
    obtain ⟨xs, ys, x, y, hqx, hqy, hx, hy⟩ := hg
    obtain ⟨its, rv, p, hz1⟩ := I.tuple hqx
    obtain ⟨its2, rv2, p2, hz2⟩ := I.tuple hqy
    obtain ⟨u, hu, ru⟩ := rv.get hx
    obtain ⟨u2, hu2, ru2⟩ := rv2.get hy
    have hel : e < s.heap.objs.size := Heap.lt_size he
    have D1 := Draws.tuple (prog := X.prog) (w := X.w) (A := X.A.in1.in1) (show X.A.in1.in1.handled = none from I.ok.hd hc) i1 a A.ai its.toArray
    have D2 := Draws.tuple (prog := X.prog) (w := X.w) (A := X.A.in1.in1) (show X.A.in1.in1.handled = none from I.ok.hd hc) i2 b A.bi its2.toArray
    have hl1 : i < its.toArray.size := by rw [List.size_toArray]; exact (List.getElem?_eq_some_iff.mp hu).1
    have hl2 : i < its2.toArray.size := by rw [List.size_toArray]; exact (List.getElem?_eq_some_iff.mp hu2).1
    have hT : s.TypeIs (.ref e) "enumerate" := ⟨_, he, rfl⟩
    unfold pyNext
    refine wpAny_bind (wpAny_attempt (wpAny_callSpecial?_slot (name := Str.ofString "__next__") hT F.slot_enumerate_next
      (wpAny_call_entry F.slot_enumerate_next hT F.entry_enumerate_next
        (enumG_next (R := fun v h1 => v = .ref s.heap.objs.size ∧ (∃ f0 f1, IsZ h1 z TI TO f0 f1 ∧ ZOk f0) ∧ (∃ x y, IsTupOf2 h1 TO x y) ∧ h1.IsTupleIter i1 a (i + 1) ∧ h1.IsTupleIter i2 b (i + 1) ∧ IsTupOf2 h1 s.heap.objs.size u u2 ∧ h1.objs.size = s.heap.objs.size + 1 ∧
            (∀ c o, c ≠ z → c ≠ TO → c ≠ i1 → c ≠ i2 → s.heap.get? c = some o → h1.get? c = some o)) he (fun Q' hQ' => ?_) (fun v h1 r => ?_) fun v h₁ h' tk r ho hT' hsz hk => ?_) (F.args_enumerate_next_1 _))))
    · refine zipG_nextOf A.S D1 D2 hz h0 hTI hTO ⟨h1, p⟩ ⟨h2, p2⟩ hl1 hl2 fun x1 x2 h' tk b1 b2 g0 g1 y1 y2 c1 c2 c3 d1 d2 b5 b6 b7 => ?_
      have y1' : its[i]? = some x1 := by simpa using y1
      have y2' : its2[i]? = some x2 := by simpa using y2
      rw [hu] at y1'; cases y1'
      rw [hu2] at y2'; cases y2'
      exact hQ' _ _ _ ⟨rfl, ⟨g0, g1, c1, c2⟩, ⟨b1, b2, c3⟩, d1.1, d2.1, b5, b6, b7⟩
    · exact r.2.2.2.2.2.2.2 e _ A.ez A.eTO A.e1 A.e2 he
    · obtain ⟨rfl, ⟨g0, g1, c1, c2⟩, ⟨b1, b2, c3⟩, d1, d2, b5, b6, b7⟩ := r
      refine wpAny_pure ?_
      refine ⟨_, rfl, wpAny_letOwnedTupleGo_enum (s := { s with heap := h', toks := tk + 1 }) ho fun h'' he' sb => ?_⟩
      have hf' := hf
      have up : ∀ c o, c ≠ e → h₁.get? c = some o → h''.get? c = some o := fun c o ce q => (sb.2 c ce).trans (hk c o ce q)
      -- the inner pair
      have new1 : ObjOk X.prog X.w (upd H s.heap.objs.size (.tup [x, y])) h₁ s.heap.objs.size (.tup [x, y]) :=
        ⟨by show 2 ≤ sizeLine; decide, [u, u2], .cons ru (.cons ru2 .nil), ⟨_, b5, rfl, _, rfl⟩⟩
      have I1 : Inv X pins σ (upd H s.heap.objs.size (.tup [x, y])) { s with heap := h₁, toks := tk } :=
        I.turnedNew (ch := [e, z, TI, TO, i1, i2]) (fun c o hb q => b7 c o (fun q' => hb (by simp [q'])) (fun q' => hb (by simp [q'])) (fun q' => hb (by simp [q'])) (fun q' => hb (by simp [q'])) q) hf (Nat.le_refl _) new1
      have fp1 : ∀ c ∈ [e, z, TI, TO, i1, i2], FpOk X pins (upd H s.heap.objs.size (.tup [x, y])) c ∧ c ≠ s.heap.objs.size := fun c hcm => by
        have hlt : c < s.heap.objs.size := by
          have e' : c = e ∨ c = z ∨ c = TI ∨ c = TO ∨ c = i1 ∨ c = i2 := by simpa using hcm
          rcases e' with q | q | q | q | q | q
          · rw [q]; exact hel
          · rw [q]; exact Heap.lt_size hz
          · rw [q]; exact Heap.lt_size hTI
          · rw [q]; exact Heap.lt_size hTO
          · rw [q]; obtain ⟨_, q1, _⟩ := h1; exact Heap.lt_size q1
          · rw [q]; obtain ⟨_, q1, _⟩ := h2; exact Heap.lt_size q1
        have hne := Nat.ne_of_lt hlt
        obtain ⟨f1', f2⟩ := hf c hcm
        exact ⟨⟨by rw [upd_ne hne]; exact f1', f2⟩, hne⟩
      rw [b6] at ho hT' hsz ⊢
      have hT2 : h''.get? (s.heap.objs.size + 1) = some { cls := .type "tuple", data := .seq #[.int i tk, .ref s.heap.objs.size] } := (sb.2 _ (Nat.ne_of_gt (Nat.lt_succ_of_lt hel))).trans hT'
      have new2 : ObjOk X.prog X.w (upd (upd H s.heap.objs.size (.tup [x, y])) (s.heap.objs.size + 1) (.tup [.int (i : Nat), .ref s.heap.objs.size])) h'' (s.heap.objs.size + 1) (.tup [.int (i : Nat), .ref s.heap.objs.size]) :=
        ⟨by show 2 ≤ sizeLine; decide, [.int i tk, .ref s.heap.objs.size], .cons ⟨_, rfl⟩ (.cons rfl .nil), ⟨_, hT2, rfl, _, rfl⟩⟩
      have I2 : Inv X pins σ (upd (upd H s.heap.objs.size (.tup [x, y])) (s.heap.objs.size + 1) (.tup [.int (i : Nat), .ref s.heap.objs.size])) { s with heap := h'', toks := tk + 1 } :=
        I1.turnedNew (ch := [e]) (fun c o hb q => up c o (fun q' => hb (by simp [q'])) q) (fun c hcm => (fp1 c (by rw [List.mem_singleton.mp hcm]; simp)).1) (by show h₁.objs.size ≤ _; rw [b6]; exact Nat.le_refl _) new2
      refine ⟨.ref (s.heap.objs.size + 1), _, I2, rfl, ⟨s.heap.objs.size, s.heap.objs.size + 1, x, y, rfl, I.hok.fresh (Nat.le_refl _), I.hok.fresh (Nat.le_succ _), Nat.ne_of_lt (Nat.lt_succ_self _), rfl, fun l hl => by rw [I.tuple_inj hl hqx]; exact hx, fun l hl => by rw [I.tuple_inj hl hqy]; exact hy⟩,
        ⟨⟨.ref s.heap.objs.size, ?_⟩, ⟨g0, g1, up _ _ (Ne.symm A.ez) c1, c2⟩, up _ _ (Ne.symm A.eTI) (b7 _ _ A.S.TIz A.S.TITO A.S.TIi1 A.S.TIi2 hTI), ⟨b1, b2, up _ _ (Ne.symm A.eTO) c3⟩, d1.at fun o q => up _ _ (Ne.symm A.e1) q, d2.at fun o q => up _ _ (Ne.symm A.e2) q⟩, fun c hcm => ?_⟩
      · have e1 : ((i + 1 : Nat) : Int) = (i : Int) + 1 := by omega
        rw [e1]; exact he'
      · have hlt : c ≠ s.heap.objs.size + 1 := fun q => by
          have e' : c = e ∨ c = z ∨ c = TI ∨ c = TO ∨ c = i1 ∨ c = i2 := by simpa using hcm
          have hlt : c < s.heap.objs.size := by
            rcases e' with q | q | q | q | q | q
            · rw [q]; exact hel
            · rw [q]; exact Heap.lt_size hz
            · rw [q]; exact Heap.lt_size hTI
            · rw [q]; exact Heap.lt_size hTO
            · rw [q]; obtain ⟨_, q1, _⟩ := h1; exact Heap.lt_size q1
            · rw [q]; obtain ⟨_, q1, _⟩ := h2; exact Heap.lt_size q1
          rw [q] at hlt
          exact absurd hlt (Nat.not_lt.mpr (Nat.le_succ _))
        rw [upd_ne hlt]
        exact (fp1 c hcm).1.1
  done := by
    intro X hP hw hK hc i pins s σ H E I hf st hg
    subst hP hw hK
    obtain ⟨⟨old, he⟩, ⟨f0, f1, hz, h0⟩, hTI, ⟨x0, y0, hTO⟩, h1, h2⟩ := st
    obtain ⟨xs, ys, hqx, hqy, l1, l2, hend⟩ := hg
    obtain ⟨its, rv, p, _⟩ := I.tuple hqx
    obtain ⟨its2, rv2, p2, _⟩ := I.tuple hqy
    have v1 := rv.length
    have v2 := rv2.length
    have D1 := Draws.tuple (prog := X.prog) (w := X.w) (A := X.A.in1.in1) (show X.A.in1.in1.handled = none from I.ok.hd hc) i1 a A.ai its.toArray
    have D2 := Draws.tuple (prog := X.prog) (w := X.w) (A := X.A.in1.in1) (show X.A.in1.in1.handled = none from I.ok.hd hc) i2 b A.bi its2.toArray
    have hT : s.TypeIs (.ref e) "enumerate" := ⟨_, he, rfl⟩
    unfold pyNext
    refine wpAny_bind (wpAny_attempt (wpAny_callSpecial?_slot (name := Str.ofString "__next__") hT F.slot_enumerate_next
      (wpAny_call_entry F.slot_enumerate_next hT F.entry_enumerate_next ?_ (F.args_enumerate_next_1 _))))
    show wpAny _ _ (field (.ref e) 2 >>= _) _ _ _
    refine wpAny_bind (wpAny_field he rfl (x := .ref z) rfl ?_)
    refine wpAny_bind (zipG_nextOf_end A.S D1 D2 hz h0 hTI hTO ⟨h1, p⟩ ⟨h2, p2⟩ (by rw [List.size_toArray]; omega) (by rw [List.size_toArray]; omega) (by rw [List.size_toArray, List.size_toArray]; omega) fun h' tk x hk hx' => ?_)
    obtain ⟨o, ho, hc⟩ := hx'
    refine wpAny_bind (wpAny_isInstance (T := "StopIteration") (b := true) ⟨o, ho, hc⟩ isSubtype_stop ?_)
    exact wpAny_pure ⟨rfl, I.turnedL (t' := tk) (ch := [e, z, TI, TO, i1, i2]) (fun c o hb q => hk c o (fun q' => hb (by simp [q'])) (fun q' => hb (by simp [q'])) (fun q' => hb (by simp [q'])) (fun q' => hb (by simp [q'])) q) hf⟩
  self := fun A i s Q E st h => let ⟨⟨_, he⟩, _⟩ := st; wpAny_pyIter_enum he h
def iEnz (K : PySem.W.Frag) (ta : TA) : TI := fun σ H R => ta σ H fun vs H1 => ∃ a b xs ys, vs = [.ref a, .ref b] ∧ SqT K H1 a xs ∧ SqT K H1 b ys ∧ R (Ienz K a b) H1
/-- the built-in zip's iterator begins by itself -/
theorem meets_enumZ {z TI TO : Addr} {f0 : Value} :
    Meets (Builtin.«enumerate.__new__» ⟨[.type "enumerate", .ref z], []⟩) (fun _ R s => IsZip s.heap z TI TO f0 ∧
      R (.ok (.ret (.ref s.heap.objs.size))) { s with heap := s.heap.push { cls := .type "enumerate", data := .fields #[.none, .bool false, .ref z, rawInt 0, .none, .none] } }) :=
  .of_wp fun prog w A R s h => by
    obtain ⟨hp, g, d, tk, os⟩ := s; obtain ⟨h1, h⟩ := h
    have hsub := sub_enumerate
    have q1 : ∀ {A' : Around} {E : Value → Shared → Prop} {Q : Value → Shared → Prop}, Q (.ref z) ⟨hp, g, d, tk, os⟩ → wpAny (model prog w) A' (pyIter (.ref z)) Q E ⟨hp, g, d, tk, os⟩ :=
      fun q => wpAny_pyIter_zip h1 q
    wp_walk using q1
    refine wpAny_stack_any fun st => wpAny_pure ?_
    split
    · rename_i c _ _ _ _ _
      cases (c == Value.type "enumerate")
      · wp_walk using q1
        exact ⟨_, rfl, h⟩
      · wp_walk using q1
        exact ⟨_, rfl, h⟩
    · wp_walk using q1
      exact ⟨_, rfl, h⟩
section
variable {prog : Program} {w : World} {A : Around} {E : Value → Shared → Prop} {s : Shared}
theorem enum_beginsZ {z TI TO : Addr} {f0 : Value} {Q : Value → Shared → Prop} (h1 : IsZip s.heap z TI TO f0)
    (h : ∀ h', IsEnum h' s.heap.objs.size z 0 .none → h'.objs.size = s.heap.objs.size + 1 → (∀ b o, s.heap.get? b = some o → h'.get? b = some o) → Q (.ref s.heap.objs.size) { s with heap := h' }) :
    wpAny (model prog w) A (PySem.call (.type "enumerate") [.ref z]) Q E s := by
  refine callType_new F.called_enumerate (by decide) (F.typeCall_enumerate_1 _) (F.newCall_enumerate_1 _) (fun obj => F.args_object_init_2 obj _) F.entry_enumerate_new
    meets_enumZ ⟨h1, ?_⟩
  show _ ∧ _
  have he : IsEnum (s.heap.push { cls := .type "enumerate", data := .fields #[.none, .bool false, .ref z, rawInt 0, .none, .none] }) s.heap.objs.size z 0 .none := Heap.get?_push_size _ rfl
  exact ⟨⟨_, he, rfl⟩, h _ he (by rw [Heap.size_push]) fun b o x => Heap.get?_push_of_some _ x⟩
end
theorem ne_nat {x y : Nat} (h : ¬ x = y) : (x : Addr) ≠ y := h
theorem nin2 {x a b : Nat} (h1 : ¬ x = a) (h2 : ¬ x = b) : (x : Addr) ∉ ([a, b] : List Addr) := by
  intro q
  rcases List.mem_cons.mp q with q | q
  · exact h1 q
  · exact h2 (List.mem_singleton.mp q)
theorem pi_enz {X : Cx} {e1 e2 : Expr} {ta : TA} {p pos p2 pos2 tpos : Pos} {elts : List Expr} {kk : Nat} (hg : Gl X "enumerate") (hm : X.mg "enumerate" = none) (hg2 : Gl X "zip") (hm2 : X.mg "zip" = none) (ha : PA X [e1, e2] ta)
    (hs : starEach [e1, e2] X.env = (false, eval e1 X.env) :: starEach [e2] X.env) (hpl : (backTo pos2 (starEach [e2] X.env)).any (·.1) = false) :
    PI X (.Tuple elts kk tpos) (.Call (.Name "enumerate" p) [.Call (.Name "zip" p2) [e1, e2] [] pos2] [] pos) (iEnz X.K ta) := by
  refine ⟨fun pins s σ H R I h => ?_⟩
  refine Call_ (ld_blt I hg hm boot_enumerate (PyProof.Rows.callWith_type1 ?_ rfl rfl))
  refine spliced_more (Call_ (ld_blt I hg2 hm2 PyProof.Rows.boot_zip (PyProof.Rows.callWith_type1 (thn (ha.run pos2 pins s σ H _ I h) fun us s1 ⟨vs, H1, I1, r1, q1⟩ => ?_) hs hpl)))
  obtain ⟨a, b, xs, ys, ex, hqx, hqy, q⟩ := q1
  subst ex
  cases r1 with
  | cons r rr =>
    cases rr with
    | cons r' rr =>
      cases rr
      cases r
      cases r'
      obtain ⟨its, rv, p1, _⟩ := I1.tuple hqx
      obtain ⟨its2, rv2, p2, _⟩ := I1.tuple hqy
      have la : a < s1.heap.objs.size := by obtain ⟨o, ho, _⟩ := id p1; exact Heap.lt_size ho
      have lb : b < s1.heap.objs.size := by obtain ⟨o, ho, _⟩ := id p2; exact Heap.lt_size ho
      refine zip_begins2 (begins_tuple a its.toArray) (begins_tuple b its2.toArray) p1 p2 fun h' hz hTI hTO h1 h2 hsz hk => spliced_none ?_
      refine enum_beginsZ hz fun h'' he hsz2 hk2 => wpAny_pyIter_enum he ?_
      have I2 : Inv X pins σ H1 { s1 with heap := h'' } := I1.kept (t' := s1.toks) fun c o e => hk2 c o (hk c o e)
      have hsz : h'.objs.size = s1.heap.objs.size + 5 := hsz
      generalize hn : s1.heap.objs.size = n at *
      have la2 : @LT.lt Nat _ a n := la
      have lb2 : @LT.lt Nat _ b n := lb
      have A : EzSep h'.objs.size (n + 4) (n + 2) (n + 3) n (n + 1) a b := by
        rw [hsz]
        refine ⟨?_, ?_, ?_, ?_, ?_, ?_, ?_, ?_⟩
        · exact ⟨ne_nat (by omega), ne_nat (by omega), ne_nat (by omega), ne_nat (by omega), by simp, nin2 (by omega) (by omega), nin2 (by omega) (by omega), ne_nat (by omega), by simp, nin2 (by omega) (by omega), nin2 (by omega) (by omega), nin2 (by omega) (by omega), nin2 (by omega) (by omega)⟩
        all_goals (show ¬ ((_ : Nat) = _); omega)
      refine ⟨h'.objs.size, [h'.objs.size, n + 4, n + 2, n + 3, n, n + 1], _, _, H1, rfl, I2, turn_enz A, ⟨⟨.none, he⟩, ⟨.none, false, hk2 _ _ hz, .inl rfl⟩, hk2 _ _ hTI, ⟨_, _, hk2 _ _ hTO⟩, ⟨_, hk2 _ _ h1, rfl, rfl⟩, ⟨_, hk2 _ _ h2, rfl, rfl⟩⟩, fun c hcm => ?_, q⟩
      have hle : s1.heap.objs.size ≤ c := by
        rw [hn]
        simp only [List.mem_cons, List.not_mem_nil, or_false] at hcm
        show (n : Nat) ≤ c
        rcases hcm with q | q | q | q | q | q <;> (rw [q]; first | (rw [hsz]; omega) | omega)
      exact I1.fpOk hle (I1.hok.fresh hle)
end Tw

set_option Elab.async false
set_option linter.all false
set_option maxRecDepth 100000
/-! Tw.EvM: while, for. -/
namespace Tw
open PySem PySem.Spec PyProof.Rows L2

theorem bnd_nb {α β : Type} {m : Sm α} {f : α → Sm β} {e : Env} {s : S} (h : ¬ isBad (bnd m f e s)) : ¬ isBad (m e s) := by
  intro q
  unfold bnd at h
  cases h1 : m e s with
  | ok a s' => rw [h1] at q; exact q
  | exc x s' => rw [h1] at q; exact q
  | bad => rw [h1] at h; exact h trivial
theorem bnd_congr {α β : Type} {m : Sm α} {f g : α → Sm β} {e : Env} {s : S} (h : ∀ a s', m e s = .ok a s' → f a e s' = g a e s') : bnd m f e s = bnd m g e s := by
  unfold bnd
  cases h1 : m e s with
  | ok a s' => exact h a s' h1
  | exc x s' => rfl
  | bad => rfl
theorem whileN_mono {c : Sm Bool} {b : Sm Fl} : ∀ (n : Nat) (e : Env) (s : S), ¬ isBad (whileN c b n e s) → whileN c b (n + 1) e s = whileN c b n e s
  | 0, e, s, h => absurd trivial h
  | n + 1, e, s, h => by
    show bnd c _ e s = bnd c _ e s
    refine bnd_congr fun t s1 e1 => ?_
    cases t with
    | false => rfl
    | true =>
      rw [if_pos rfl, if_pos rfl]
      refine bnd_congr fun f s2 e2 => ?_
      have h2 : ¬ isBad ((match f with
        | .nx => whileN c b n
        | .ct => whileN c b n
        | .bk => ret .nx
        | .rt d => ret (.rt d)) e s2) := by
        intro q
        apply h
        show isBad (bnd c _ e s)
        unfold bnd
        rw [e1]
        show isBad ((if true = true then bnd b _ else ret .nx) e s1)
        rw [if_pos rfl]
        unfold bnd
        rw [e2]
        exact q
      cases f with
      | nx => exact whileN_mono n e s2 h2
      | ct => exact whileN_mono n e s2 h2
      | bk => rfl
      | rt d => rfl
theorem whileN_le {c : Sm Bool} {b : Sm Fl} {n : Nat} {e : Env} {s : S} (h : ¬ isBad (whileN c b n e s)) : ∀ {m : Nat}, n ≤ m → whileN c b m e s = whileN c b n e s := by
  intro m hm
  induction m with
  | zero =>
    have : n = 0 := by omega
    rw [this]
  | succ m ih =>
    by_cases q : n = m + 1
    · rw [q]
    · have ih := ih (by omega)
      rw [whileN_mono m e s (by rw [ih]; exact h), ih]
theorem whileS_ok {c : Sm Bool} {b : Sm Fl} {e : Env} {s s' : S} {f : Fl} (h : whileS c b e s = .ok f s') : ∃ n, whileN c b n e s = .ok f s' := by
  unfold whileS at h
  split at h
  · exact ⟨_, h⟩
  · cases h
theorem whileS_of {c : Sm Bool} {b : Sm Fl} {e : Env} {s : S} {n : Nat} (h : ¬ isBad (whileN c b n e s)) : whileS c b e s = whileN c b n e s := by
  have q : ∃ n, ¬ isBad (whileN c b n e s) := ⟨n, h⟩
  unfold whileS
  rw [dif_pos q]
  rcases Nat.le_total n q.choose with l | l
  · exact whileN_le h l
  · exact (whileN_le q.choose_spec l).symm

section
variable {X : Cx} {W : Wd} {ev : Env} {a b e : Expr} {ca cb : Sm D} {ga gb : Bool} {pos p : Pos} {sts : List Stmt} {st : Stmt} {c c1 c2 : Sm Fl}
theorem ss_while {cd : Expr} {cT : Sm Bool} {g : Bool} (hp : PassesOwn (model X.prog X.w) X.A X.env X.xe) (hc : PT X cd (tB X.K W ev cT g)) (hb : PSs X sts (tS X.K W ev c)) : PS X (.While cd sts [] pos) (tS X.K W ev (whileS cT c)) :=
  PS.imp (ps_while hp hc hb) fun D σ H q => by
    obtain ⟨σD, T, F, gd, f, σD', ec, kk⟩ := q
    obtain ⟨n, en⟩ := whileS_ok ec
    refine ⟨fun m σV H => ∃ σD F, Good X.K W H σD σV T F ∧ whileN cT c m ev σD = .ok f σD', ⟨n, σD, F, gd, en⟩, ?_⟩
    rintro m σV H ⟨σD, F, gd, en⟩
    cases m with
    | zero => cases en
    | succ m =>
      obtain ⟨t, s1, e1, ec⟩ := bnd_ok en
      refine ⟨σD, T, F, gd, t, s1, e1, fun H1 F1 g1 _ => ?_⟩
      cases t with
      | false =>
        rw [if_neg Bool.false_ne_true] at ec ⊢
        obtain ⟨rfl, rfl⟩ := ret_ok ec
        exact kk σV H1 F1 g1
      | true =>
        rw [if_pos rfl] at ec ⊢
        refine ⟨fun σV H => ∃ σD F, Good X.K W H σD σV T F ∧ whileN cT c m ev σD = .ok f σD', fun σ' H' h => ⟨m, Nat.lt_succ_self m, h⟩, ?_⟩
        obtain ⟨f1, s2, e2, ec⟩ := bnd_ok ec
        refine ⟨s1, T, F1, g1, f1, s2, e2, ?_⟩
        cases f1 with
        | nx => exact fun σV' H' F' g' => ⟨s2, F', g', ec⟩
        | ct => exact fun σV' H' F' g' => ⟨s2, F', g', ec⟩
        | bk => obtain ⟨rfl, rfl⟩ := ret_ok ec; exact kk
        | rt d => obtain ⟨rfl, rfl⟩ := ret_ok ec; exact kk

/-! ### what is walked -/
/-- an iterator yields these, while cond holds -/
structure ItS (K : PySem.W.Frag) (W : Wd) (J : It) (ds : List D) (cond : Hp → Ct → Prop) : Prop where
  go : ∀ i H F, cond H F → i < ds.length → J.go i H
  yld : ∀ (i : Nat) H F x H' d, cond H F → ds[i]? = some d → frz d = true → J.yld i H x H' → PRep K W H' F d x ∧ ∀ a o, H a = some o → H' a = some o
  stop : ∀ i H F, cond H F → i = ds.length → J.stop i H
/-- what must be as it was, that the walk goes on: what is in hand at Tw, and a name's thing -/
structure WOk (K : PySem.W.Frag) (W : Wd) (σD : S) (σV : L2.St) (J : It) (w : Wk) (Tw : List (D × V)) : Prop where
  ex : ∃ cond, ItS K W J w.1 cond ∧ ∀ (Hc : Hp) (σc : S) (σVc : L2.St) (Tc : List (D × V)) (Fc : Ct), Good K W Hc σc σVc (Tw ++ Tc) Fc → (∀ i d, w.2 = some (i, d) → σc[i]? = some (some d) ∧ σVc[i]? = σV[i]?) → cond Hc Fc
  var : ∀ i d, w.2 = some (i, d) → σD[i]? = some (some d) ∧ ∃ v, σV[i]? = some (some v)
def tW (K : PySem.W.Frag) (W : Wd) (ev : Env) (m : Sm Wk) : TI := fun σV H R => ∃ σD T F, Good K W H σD σV T F ∧ ∃ w σD', m ev σD = .ok w σD' ∧
  ∀ J H' F' Tw, Good K W H' σD' σV (Tw ++ T) F' → WOk K W σD' σV J w Tw → R J H'
/-- walked by its kind -/
def iSeq (K : PySem.W.Frag) (tl : TE) : TI := fun σ H R => tl σ H fun x H1 => (∃ a, x = .ref a ∧ (∃ xs, SqL K H1 a xs) ∧ R (Itl K a) H1) ∨ (∃ a, x = .ref a ∧ (∃ xs, SqT K H1 a xs) ∧ R (Itt K a) H1)
theorem pi_seq {tg l : Expr} {tl : TE} (hl : PE X l tl) : PI X tg l (iSeq X.K tl) := by
  refine ⟨fun pins s σ H R I h => ?_⟩
  refine thn (hl.run pins s σ H _ I h) fun v s1 ⟨x, H1, I1, r1, q1⟩ => ?_
  rcases q1 with ⟨a, e, ⟨xs, hq⟩, q⟩ | ⟨a, e, ⟨xs, hq⟩, q⟩
  · subst e
    cases r1
    obtain ⟨its, rv, p, hz⟩ := I1.list hq
    refine wpAny_pyIter_list p.isList ?_
    refine ⟨s1.heap.objs.size, [s1.heap.objs.size], _, _, H1, rfl, I1.kept (t' := s1.toks) fun b o e => Heap.get?_push_of_some _ e, turn_list a _, ⟨_, Heap.get?_push_size _ rfl, rfl, rfl⟩, fun b hb => ?_, q⟩
    have e : b = s1.heap.objs.size := by simpa using hb
    subst e
    exact I1.fpOk (Nat.le_refl _) (I1.hok.fresh (Nat.le_refl _))
  · subst e
    cases r1
    obtain ⟨its, rv, p, hz⟩ := I1.tuple hq
    refine wpAny_pyIter_tuple (show s1.heap.IsTuple a its.toArray from p) ?_
    refine ⟨s1.heap.objs.size, [s1.heap.objs.size], _, _, H1, rfl, I1.kept (t' := s1.toks) fun b o e => Heap.get?_push_of_some _ e, turn_tuple a _, ⟨_, Heap.get?_push_size _ rfl, rfl, rfl⟩, fun b hb => ?_, q⟩
    have e : b = s1.heap.objs.size := by simpa using hb
    subst e
    exact I1.fpOk (Nat.le_refl _) (I1.hok.fresh (Nat.le_refl _))
theorem its_lst {K : PySem.W.Frag} {o : Bool} {xs : List D} {p : Addr} : ItS K W (Itl K p) xs fun H F => PRep K W H F (.lst o xs) (.ref p) where
  go := fun i H F h hi => by
    obtain ⟨a, vs, G, e, h1, r1⟩ := h.lst
    cases e
    have hi2 : i < vs.length := by rw [r1.length]; exact hi
    exact ⟨vs, vs[i], .inl (.inl h1), by simp [hi2]⟩
  yld := fun i H F x H' d h hd hz y => by
    obtain ⟨a, vs, G, e, h1, r1⟩ := h.lst
    cases e
    obtain ⟨rfl, y⟩ := y
    obtain ⟨v, G', e1, r2, _⟩ := r1.get hd
    have := y vs (.inl (.inl h1))
    rw [e1] at this; cases this
    exact ⟨⟨G', r2⟩, fun _ _ h => h⟩
  stop := fun i H F h hi' => by
    have hi := Nat.le_of_eq hi'.symm
    obtain ⟨a, vs, G, e, h1, r1⟩ := h.lst
    cases e
    exact ⟨vs, .inl (.inl h1), by rw [r1.length]; exact hi⟩
theorem its_tup {K : PySem.W.Frag} {xs : List D} {p : Addr} : ItS K W (Itt K p) xs fun H F => PRep K W H F (.tup xs) (.ref p) where
  go := fun i H F h hi => by
    obtain ⟨a, vs, e, h1, r1⟩ := h.tup
    cases e
    have hi2 : i < vs.length := by rw [r1.length]; exact hi
    exact ⟨vs, vs[i], h1, by simp [hi2]⟩
  yld := fun i H F x H' d h hd hz y => by
    obtain ⟨a, vs, e, h1, r1⟩ := h.tup
    cases e
    obtain ⟨rfl, y⟩ := y
    obtain ⟨v, G', e1, r2, _⟩ := r1.get hd
    have := y vs h1
    rw [e1] at this; cases this
    exact ⟨⟨G', r2⟩, fun _ _ h => h⟩
  stop := fun i H F h hi' => by
    have hi := Nat.le_of_eq hi'.symm
    obtain ⟨a, vs, e, h1, r1⟩ := h.tup
    cases e
    exact ⟨vs, h1, by rw [r1.length]; exact hi⟩
theorem its_rng {K : PySem.W.Frag} {lo hi : Int} : ItS K W (Itr lo (hi - lo).toNat) (rng lo hi) fun _ _ => True where
  go := fun i H F h hi => by unfold rng at hi; rw [List.length_map, List.length_range] at hi; exact hi
  yld := fun i H F x H' d h hd hz y => by
    obtain ⟨rfl, rfl⟩ := y
    unfold rng at hd
    rw [List.getElem?_map] at hd
    obtain ⟨k, e1, rfl⟩ := Option.map_eq_some_iff.mp hd
    obtain ⟨hk, e2⟩ := List.getElem?_eq_some_iff.mp e1
    rw [List.getElem_range] at e2
    subst e2
    exact ⟨⟨z0, rfl, fun _ => rfl⟩, fun _ _ h => h⟩
  stop := fun i H F h hi' => by
    have hi := Nat.le_of_eq hi'.symm
    unfold rng at hi; rw [List.length_map, List.length_range] at hi; exact hi
theorem enumD_get : ∀ {xs : List D} {n i : Nat} {d : D}, (enumD n xs)[i]? = some d → ∃ x, xs[i]? = some x ∧ d = .tup [.int ((n + i : Nat) : Int), x]
  | [], _, _, _, h => by simp [enumD] at h
  | x :: xs, n, 0, d, h => by
    simp [enumD] at h
    exact ⟨x, rfl, by rw [← h]; rfl⟩
  | x :: xs, n, i + 1, d, h => by
    obtain ⟨y, e1, e2⟩ := enumD_get (show (enumD (n + 1) xs)[i]? = some d by simpa [enumD] using h)
    exact ⟨y, by simpa using e1, by rw [e2, show n + 1 + i = n + (i + 1) by omega]⟩
theorem enumD_len : ∀ {xs : List D} {n : Nat}, (enumD n xs).length = xs.length
  | [], _ => rfl
  | x :: xs, n => by show (enumD (n + 1) xs).length + 1 = xs.length + 1; rw [enumD_len]
theorem zipD_get : ∀ {xs ys : List D} {i : Nat} {d : D}, (zipD xs ys)[i]? = some d → ∃ x y, xs[i]? = some x ∧ ys[i]? = some y ∧ d = .tup [x, y]
  | [], ys, _, _, h => by simp [zipD] at h
  | x :: xs, [], _, _, h => by simp [zipD] at h
  | x :: xs, y :: ys, 0, d, h => by
    simp [zipD] at h
    exact ⟨x, y, rfl, rfl, h.symm⟩
  | x :: xs, y :: ys, i + 1, d, h => by
    obtain ⟨a, b, e1, e2, e3⟩ := zipD_get (show (zipD xs ys)[i]? = some d by simpa [zipD] using h)
    exact ⟨a, b, by simpa using e1, by simpa using e2, e3⟩
theorem zipD_len : ∀ {xs ys : List D}, (zipD xs ys).length = min xs.length ys.length
  | [], ys => by simp [zipD]
  | x :: xs, [] => by simp [zipD]
  | x :: xs, y :: ys => by show (zipD xs ys).length + 1 = min (xs.length + 1) (ys.length + 1); rw [zipD_len]; omega
/-- a new pair of two things -/
theorem PRep.pair {K : PySem.W.Frag} {W : Wd} {H : Hp} {F : Ct} {a b : D} {x y : V} {T : Addr} (p : PRep K W H F a x) (q : PRep K W H F b y) (hz : frz (.tup [a, b]) = true) (hT : H T = none) : PRep K W (upd H T (.tup [x, y])) F (.tup [a, b]) (.ref T) := by
  have k := upd_keep (H := H) (o := .tup [x, y]) hT
  have t : Tr H (Own W F) (upd H T (.tup [x, y])) (Own W F) := ⟨fun _ _ h => k _ _ h, fun _ _ _ h => k _ _ h, fun a _ n h => ⟨k _ _ h, n⟩⟩
  obtain ⟨G1, r1⟩ := p
  obtain ⟨G2, r2⟩ := q
  have hz : (frz a && (frz b && true)) = true := by unfold frz frzL frzL frzL at hz; exact hz
  rw [Bool.and_eq_true, Bool.and_eq_true] at hz
  have q1 := Rep.tr t _ _ _ (r1.z hz.1) (fun _ _ _ h => k _ _ h)
  have q2 := Rep.tr t _ _ _ (r2.z hz.2.1) (fun _ _ _ h => k _ _ h)
  exact .ofT (.inl (.inl upd_same)) ⟨x, [y], z0, z0, rfl, q1, ⟨y, [], z0, z0, rfl, q2, ⟨rfl, fun _ => rfl⟩, fun _ => rfl⟩, fun _ => rfl⟩
theorem frz_pair {a b : D} (h : frz (.tup [a, b]) = true) : frz a = true ∧ frz b = true := by
  have h : (frz a && (frz b && true)) = true := by unfold frz frzL frzL frzL at h; exact h
  rw [Bool.and_eq_true, Bool.and_eq_true] at h
  exact ⟨h.1, h.2.1⟩
theorem PRep.nat {K : PySem.W.Frag} {W : Wd} {H : Hp} {F : Ct} {i : Int} : PRep K W H F (.int i) (.int i) := ⟨z0, rfl, fun _ => rfl⟩
theorem its_enumL {K : PySem.W.Frag} {o : Bool} {xs : List D} {p : Addr} : ItS K W (Ite K p) (enumD 0 xs) fun H F => PRep K W H F (.lst o xs) (.ref p) where
  go := fun i H F h hi => by
    rw [enumD_len] at hi
    obtain ⟨a, vs, G, e, h1, r1⟩ := h.lst
    cases e
    have hi2 : i < vs.length := by rw [r1.length]; exact hi
    exact ⟨vs, vs[i], .inl (.inl h1), by simp [hi2]⟩
  yld := fun i H F x H' d h hd hz y => by
    obtain ⟨a, vs, G, e, h1, r1⟩ := h.lst
    cases e
    obtain ⟨T, v, rfl, hT, rfl, y⟩ := y
    obtain ⟨dx, e1, rfl⟩ := enumD_get hd
    obtain ⟨v', G', e2, r2, _⟩ := r1.get e1
    have := y vs (.inl (.inl h1))
    rw [e2] at this; cases this
    rw [Nat.zero_add] at hz ⊢
    exact ⟨PRep.nat.pair ⟨G', r2⟩ hz hT, upd_keep hT⟩
  stop := fun i H F h hi' => by
    have hi := Nat.le_of_eq hi'.symm
    rw [enumD_len] at hi
    obtain ⟨a, vs, G, e, h1, r1⟩ := h.lst
    cases e
    exact ⟨vs, .inl (.inl h1), by rw [r1.length]; exact hi⟩
theorem its_enumT {K : PySem.W.Frag} {xs : List D} {p : Addr} : ItS K W (IteT K p) (enumD 0 xs) fun H F => PRep K W H F (.tup xs) (.ref p) where
  go := fun i H F h hi => by
    rw [enumD_len] at hi
    obtain ⟨a, vs, e, h1, r1⟩ := h.tup
    cases e
    have hi2 : i < vs.length := by rw [r1.length]; exact hi
    exact ⟨vs, vs[i], h1, by simp [hi2]⟩
  yld := fun i H F x H' d h hd hz y => by
    obtain ⟨a, vs, e, h1, r1⟩ := h.tup
    cases e
    obtain ⟨T, v, rfl, hT, rfl, y⟩ := y
    obtain ⟨dx, e1, rfl⟩ := enumD_get hd
    obtain ⟨v', G', e2, r2, _⟩ := r1.get e1
    have := y vs h1
    rw [e2] at this; cases this
    rw [Nat.zero_add] at hz ⊢
    exact ⟨PRep.nat.pair ⟨G', r2⟩ hz hT, upd_keep hT⟩
  stop := fun i H F h hi' => by
    have hi := Nat.le_of_eq hi'.symm
    rw [enumD_len] at hi
    obtain ⟨a, vs, e, h1, r1⟩ := h.tup
    cases e
    exact ⟨vs, h1, by rw [r1.length]; exact hi⟩
theorem its_zipL {K : PySem.W.Frag} {o o2 : Bool} {xs ys : List D} {p q : Addr} : ItS K W (Itz K p q) (zipD xs ys) fun H F => PRep K W H F (.lst o xs) (.ref p) ∧ PRep K W H F (.lst o2 ys) (.ref q) where
  go := fun i H F h hi => by
    rw [zipD_len] at hi
    obtain ⟨a, vs, G, e, h1, r1⟩ := h.1.lst
    obtain ⟨b, us, G2, e2, h2, r2⟩ := h.2.lst
    cases e
    cases e2
    have hi1 : i < vs.length := by rw [r1.length]; omega
    have hi2 : i < us.length := by rw [r2.length]; omega
    exact ⟨vs, us, vs[i], us[i], .inl (.inl h1), .inl (.inl h2), by simp [hi1], by simp [hi2]⟩
  yld := fun i H F x H' d h hd hz y => by
    obtain ⟨a, vs, G, e, h1, r1⟩ := h.1.lst
    obtain ⟨b, us, G2, e2, h2, r2⟩ := h.2.lst
    cases e
    cases e2
    obtain ⟨T, v, u, rfl, hT, rfl, y1, y2⟩ := y
    obtain ⟨dx, dy, e1, e2, rfl⟩ := zipD_get hd
    obtain ⟨v', G', e3, r3, _⟩ := r1.get e1
    obtain ⟨u', G4, e4, r4, _⟩ := r2.get e2
    have := y1 vs (.inl (.inl h1))
    rw [e3] at this; cases this
    have := y2 us (.inl (.inl h2))
    rw [e4] at this; cases this
    exact ⟨PRep.pair ⟨G', r3⟩ ⟨G4, r4⟩ hz hT, upd_keep hT⟩
  stop := fun i H F h hi' => by
    have hi := Nat.le_of_eq hi'.symm
    rw [zipD_len] at hi
    obtain ⟨a, vs, G, e, h1, r1⟩ := h.1.lst
    obtain ⟨b, us, G2, e2, h2, r2⟩ := h.2.lst
    cases e
    cases e2
    have l1 := r1.length
    have l2 := r2.length
    exact ⟨vs, us, .inl (.inl h1), .inl (.inl h2), by omega⟩
theorem its_zipT {K : PySem.W.Frag} {xs ys : List D} {p q : Addr} : ItS K W (RZ.ItzT K p q) (zipD xs ys) fun H F => PRep K W H F (.tup xs) (.ref p) ∧ PRep K W H F (.tup ys) (.ref q) where
  go := fun i H F h hi => by
    rw [zipD_len] at hi
    obtain ⟨a, vs, e, h1, r1⟩ := h.1.tup
    obtain ⟨b, us, e2, h2, r2⟩ := h.2.tup
    cases e
    cases e2
    have hi1 : i < vs.length := by rw [r1.length]; omega
    have hi2 : i < us.length := by rw [r2.length]; omega
    exact ⟨vs, us, vs[i], us[i], h1, h2, by simp [hi1], by simp [hi2]⟩
  yld := fun i H F x H' d h hd hz y => by
    obtain ⟨a, vs, e, h1, r1⟩ := h.1.tup
    obtain ⟨b, us, e2, h2, r2⟩ := h.2.tup
    cases e
    cases e2
    obtain ⟨T, v, u, rfl, hT, rfl, y1, y2⟩ := y
    obtain ⟨dx, dy, e1, e2, rfl⟩ := zipD_get hd
    obtain ⟨v', G', e3, r3, _⟩ := r1.get e1
    obtain ⟨u', G4, e4, r4, _⟩ := r2.get e2
    have := y1 vs h1
    rw [e3] at this; cases this
    have := y2 us h2
    rw [e4] at this; cases this
    exact ⟨PRep.pair ⟨G', r3⟩ ⟨G4, r4⟩ hz hT, upd_keep hT⟩
  stop := fun i H F h hi' => by
    have hi := Nat.le_of_eq hi'.symm
    rw [zipD_len] at hi
    obtain ⟨a, vs, e, h1, r1⟩ := h.1.tup
    obtain ⟨b, us, e2, h2, r2⟩ := h.2.tup
    cases e
    cases e2
    have l1 := r1.length
    have l2 := r2.length
    exact ⟨vs, us, h1, h2, by omega⟩
theorem its_enz {K : PySem.W.Frag} {xs ys : List D} {p q : Addr} : ItS K W (Ienz K p q) (enumD 0 (zipD xs ys)) fun H F => PRep K W H F (.tup xs) (.ref p) ∧ PRep K W H F (.tup ys) (.ref q) where
  go := fun i H F h hi => by
    rw [enumD_len, zipD_len] at hi
    obtain ⟨a, vs, e, h1, r1⟩ := h.1.tup
    obtain ⟨b, us, e2, h2, r2⟩ := h.2.tup
    cases e
    cases e2
    have hi1 : i < vs.length := by rw [r1.length]; omega
    have hi2 : i < us.length := by rw [r2.length]; omega
    exact ⟨vs, us, vs[i], us[i], h1, h2, by simp [hi1], by simp [hi2]⟩
  yld := fun i H F x H' d h hd hz y => by
    obtain ⟨a, vs, e, h1, r1⟩ := h.1.tup
    obtain ⟨b, us, e2, h2, r2⟩ := h.2.tup
    cases e
    cases e2
    obtain ⟨T0, T, v, u, rfl, hT0, hT, hne, rfl, y1, y2⟩ := y
    obtain ⟨dz, e0, rfl⟩ := enumD_get hd
    obtain ⟨dx, dy, e1, e2, rfl⟩ := zipD_get e0
    obtain ⟨v', G', e3, r3, _⟩ := r1.get e1
    obtain ⟨u', G4, e4, r4, _⟩ := r2.get e2
    have := y1 vs h1
    rw [e3] at this; cases this
    have := y2 us h2
    rw [e4] at this; cases this
    rw [Nat.zero_add] at hz ⊢
    have hz2 := (frz_pair hz).2
    have p1 : PRep K W (upd H T0 (.tup [v, u])) F (.tup [dx, dy]) (.ref T0) := PRep.pair ⟨G', r3⟩ ⟨G4, r4⟩ hz2 hT0
    have hT' : (upd H T0 (.tup [v, u])) T = none := by rw [upd_ne (Ne.symm hne)]; exact hT
    exact ⟨PRep.nat.pair p1 hz hT', fun a o h => upd_keep hT' a o (upd_keep hT0 a o h)⟩
  stop := fun i H F h hi => by
    rw [enumD_len, zipD_len] at hi
    obtain ⟨a, vs, e, h1, r1⟩ := h.1.tup
    obtain ⟨b, us, e2, h2, r2⟩ := h.2.tup
    cases e
    cases e2
    have l1 := r1.length
    have l2 := r2.length
    exact ⟨vs, us, h1, h2, by omega, by omega, by omega⟩
/-! ### things that are walked -/
/-- v holds these, while .. -/
structure SOk (K : PySem.W.Frag) (W : Wd) (σD : S) (σV : L2.St) (v : V) (w : Sc) (Tw : List (D × V)) : Prop where
  ex : ∃ x, rows x = some w.2.1 ∧ w.1 = isT x ∧ ∀ (Hc : Hp) (σc : S) (σVc : L2.St) (Tc : List (D × V)) (Fc : Ct), Good K W Hc σc σVc (Tw ++ Tc) Fc → (∀ i d, w.2.2 = some (i, d) → σc[i]? = some (some d) ∧ σVc[i]? = σV[i]?) → PRep K W Hc Fc x v
  var : ∀ i d, w.2.2 = some (i, d) → σD[i]? = some (some d) ∧ ∃ v, σV[i]? = some (some v)
def tI (K : PySem.W.Frag) (W : Wd) (ev : Env) (m : Sm Sc) : TE := fun σV H Q => ∃ σD T F, Good K W H σD σV T F ∧ ∃ w σD', m ev σD = .ok w σD' ∧
  ∀ v H' F' Tw, Good K W H' σD' σV (Tw ++ T) F' → SOk K W σD' σV v w Tw → Q v H'
theorem rows_ok {x : D} {xs : List D} (h : rows x = some xs) : (x = .tup xs) ∨ ∃ o, x = .lst o xs ∧ frzL xs = true := by
  unfold rows at h
  split at h
  · cases h; exact .inl rfl
  · split at h
    · rename_i o ys hz; cases h; exact .inr ⟨o, rfl, hz⟩
    · cases h
  · cases h
theorem se_E (ha : PE X a (tE X.K W ev ca ga)) : PE X a (tI X.K W ev (itE ca)) := PE.imp ha fun σ H Q q => by
  obtain ⟨σD, T, F, gd, w, σD', ec, kk⟩ := q
  obtain ⟨d, s1, e1, ec⟩ := bnd_ok ec
  obtain ⟨xs, s2, e2, ec⟩ := bnd_ok ec
  obtain ⟨rfl, rfl⟩ := ret_ok ec
  obtain ⟨e3, rfl⟩ := lift_ok e2
  exact ⟨σD, T, F, gd, d, _, e1, fun v H' F' g' _ => kk v H' F' [(d, v)] g' ⟨⟨d, e3, rfl, fun Hc σc σVc Tc Fc gc _ => gc.top⟩, fun i d h => by cases h⟩⟩
theorem se_V {i : Nat} {x : Str} (hN : X.N[i]? = some x) (hv : Vis X.env.scope x) (hd : (x == ("__debug__" : Str)) = false) (hcd : (x == ("__classdict__" : Str)) = false) : PE X (.Name x p) (tI X.K W ev (itV i)) := PE.imp (pe_var (i := i) hN hv hd hcd) fun σ H Q q => by
  obtain ⟨σD, T, F, gd, w, σD', ec, kk⟩ := q
  obtain ⟨d, s1, e1, ec⟩ := bnd_ok ec
  obtain ⟨xs, s2, e2, ec⟩ := bnd_ok ec
  obtain ⟨rfl, rfl⟩ := ret_ok ec
  obtain ⟨e3, rfl⟩ := lift_ok e2
  unfold vP at e1
  split at e1
  · rename_i d' ed
    cases e1
    obtain ⟨v, ev', pd⟩ := gd.var ed
    refine ⟨v, ev', ?_⟩
    by_cases hz : frz d = true
    · refine kk v H F [(d, v)] (gd.pushP pd hz) ⟨⟨d, e3, rfl, fun Hc σc σVc Tc Fc gc _ => gc.top⟩, fun i d h => ?_⟩
      simp only [hz, if_true] at h; cases h
    · have hz' : frz d = false := by simpa using hz
      refine kk v H F [] gd ⟨⟨d, e3, rfl, fun Hc σc σVc Tc Fc gc hs => ?_⟩, fun j d2 h => ?_⟩
      · obtain ⟨q1, q2⟩ := hs i d (by simp [hz'])
        obtain ⟨v2, e4, p4⟩ := gc.var q1
        rw [q2, ev'] at e4
        cases e4
        exact p4
      · simp only [hz', Bool.false_eq_true, if_false, Option.some.injEq, Prod.mk.injEq] at h
        obtain ⟨rfl, rfl⟩ := h
        exact ⟨ed, v, ev'⟩
  · cases e1
theorem si_S {tg : Expr} {m : Sm Sc} (ha : PE X a (tI X.K W ev m)) : PI X tg a (tW X.K W ev (itS m)) := ⟨fun pins s σ H R I q => (pi_seq ha).run pins s σ H R I (by
    obtain ⟨σD, T, F, gd, w, σD', ec, kk⟩ := q
    obtain ⟨sc, s1, e1, ec⟩ := bnd_ok ec
    obtain ⟨rfl, rfl⟩ := ret_ok ec
    refine ⟨σD, T, F, gd, sc, _, e1, fun v H' F' Tw g' so => ?_⟩
    obtain ⟨x, hr, _, hx⟩ := so.ex
    have pd := hx H' _ σ T F' g' fun i d h => ⟨(so.var i d h).1, rfl⟩
    rcases rows_ok hr with rfl | ⟨o, rfl, hz⟩
    · obtain ⟨p, vs, rfl, h1, r1⟩ := pd.tup
      exact .inr ⟨p, rfl, ⟨vs, h1⟩, kk _ H' F' Tw g' ⟨⟨_, its_tup, hx⟩, so.var⟩⟩
    · obtain ⟨p, vs, G, rfl, h1, r1⟩ := pd.lst
      exact .inl ⟨p, rfl, ⟨vs, .inl (.inl h1)⟩, kk _ H' F' Tw g' ⟨⟨_, its_lst, hx⟩, so.var⟩⟩)⟩
theorem si_N {elts : List Expr} {kk : Nat} {tpos : Pos} {m : Sm Sc} (hg : Gl X "enumerate") (hm : X.mg "enumerate" = none) (hs : noStar a = true) (ha : PE X a (tI X.K W ev m)) : PI X (.Tuple elts kk tpos) (.Call (.Name "enumerate" p) [a] [] pos) (tW X.K W ev (itN m)) := ⟨fun pins s σ H R I q => (pi_enumA hg hm (pa_cons ha pa_nil (noStar_each hs)) (noStar_each hs)).run pins s σ H R I (by
    obtain ⟨σD, T, F, gd, w, σD', ec, kk⟩ := q
    obtain ⟨sc, s1, e1, ec⟩ := bnd_ok ec
    obtain ⟨rfl, rfl⟩ := ret_ok ec
    refine ⟨σD, T, F, gd, sc, _, e1, fun v H' F' Tw g' so => ?_⟩
    obtain ⟨x, hr, _, hx⟩ := so.ex
    have pd := hx H' _ σ T F' g' fun i d h => ⟨(so.var i d h).1, rfl⟩
    rcases rows_ok hr with rfl | ⟨o, rfl, hz⟩
    · obtain ⟨p, vs, rfl, h1, r1⟩ := pd.tup
      exact ⟨p, vs, rfl, .inr ⟨h1, kk _ H' F' Tw g' ⟨⟨_, its_enumT, hx⟩, so.var⟩⟩⟩
    · obtain ⟨p, vs, G, rfl, h1, r1⟩ := pd.lst
      exact ⟨p, vs, rfl, .inl ⟨.inl (.inl h1), kk _ H' F' Tw g' ⟨⟨_, its_enumL, hx⟩, so.var⟩⟩⟩)⟩
theorem noW_ok {o : Option (Nat × D)} (h : noW o = true) : o = none := by
  cases o with
  | none => rfl
  | some _ => cases h
/-- two things walked side by side -/
theorem zip_read {K : PySem.W.Frag} {m n : Sm Sc} {σ : L2.St} {H : Hp} {R : It → Hp → Prop} (q : tW K W ev (itZ m n) σ H R) :
    tI K W ev m σ H fun x H1 => tI K W ev n σ H1 fun y H2 => ∃ a b xs ys, [x, y] = [V.ref a, .ref b] ∧ ((SqL K H2 a xs ∧ SqL K H2 b ys ∧ R (Itz K a b) H2) ∨ (SqT K H2 a xs ∧ SqT K H2 b ys ∧ R (RZ.ItzT K a b) H2)) := by
  obtain ⟨σD, T, F, gd, w, σD', ec, kk⟩ := q
  obtain ⟨s, s1, e1, ec⟩ := bnd_ok ec
  obtain ⟨t, s2, e2, ec⟩ := bnd_ok ec
  obtain ⟨hz, ec⟩ := grd_ok ec
  obtain ⟨rfl, rfl⟩ := ret_ok ec
  simp only [Bool.and_eq_true] at hz
  have n1 := noW_ok hz.1
  have n2 := noW_ok hz.2.1
  have hk := eq_of_beq hz.2.2
  refine ⟨σD, T, F, gd, s, s1, e1, fun v H1 F1 Tw g1 so => ⟨s1, Tw ++ T, F1, g1, t, _, e2, fun u H2 F2 Tv g2 so2 => ?_⟩⟩
  obtain ⟨x, hr, hT, hx⟩ := so.ex
  obtain ⟨y, hr2, hT2, hy⟩ := so2.ex
  have hc : ∀ (Hc : Hp) (σc : S) (σVc : L2.St) (Tc : List (D × V)) (Fc : Ct), Good K W Hc σc σVc ((Tv ++ Tw) ++ Tc) Fc → PRep K W Hc Fc x v ∧ PRep K W Hc Fc y u := fun Hc σc σVc Tc Fc gc => by
    rw [List.append_assoc] at gc
    refine ⟨hx Hc σc σVc (Tv ++ Tc) Fc (gc.perm ?_) (fun i d h => by rw [n1] at h; cases h), hy Hc σc σVc (Tw ++ Tc) Fc gc (fun i d h => by rw [n2] at h; cases h)⟩
    rw [← List.append_assoc, ← List.append_assoc]
    exact List.perm_append_comm.append_right Tc
  have g2' : Good K W H2 σD' σ ((Tv ++ Tw) ++ T) F2 := by rw [List.append_assoc]; exact g2
  obtain ⟨px, py⟩ := hc H2 _ σ T F2 g2'
  have fin : ∀ J, (ItS K W J (zipD s.2.1 t.2.1) fun H F => PRep K W H F x v ∧ PRep K W H F y u) → R J H2 := fun J hJ => kk J H2 F2 (Tv ++ Tw) g2' ⟨⟨_, hJ, fun Hc σc σVc Tc Fc gc _ => hc Hc σc σVc Tc Fc gc⟩, fun i d h => by cases h⟩
  rcases rows_ok hr with rfl | ⟨o, rfl, _⟩
  · rcases rows_ok hr2 with rfl | ⟨o2, rfl, _⟩
    · obtain ⟨a, vs, rfl, h1, r1⟩ := px.tup
      obtain ⟨b, us, rfl, h2, r2⟩ := py.tup
      exact ⟨a, b, vs, us, rfl, .inr ⟨h1, h2, fin _ its_zipT⟩⟩
    · rw [hT, hT2] at hk; cases hk
  · rcases rows_ok hr2 with rfl | ⟨o2, rfl, _⟩
    · rw [hT, hT2] at hk; cases hk
    · obtain ⟨a, vs, G1, rfl, h1, r1⟩ := px.lst
      obtain ⟨b, us, G2, rfl, h2, r2⟩ := py.lst
      exact ⟨a, b, vs, us, rfl, .inl ⟨.inl (.inl h1), .inl (.inl h2), fin _ its_zipL⟩⟩
theorem enz_read {K : PySem.W.Frag} {m n : Sm Sc} {σ : L2.St} {H : Hp} {R : It → Hp → Prop} (q : tW K W ev (itNZ m n) σ H R) :
    tI K W ev m σ H fun x H1 => tI K W ev n σ H1 fun y H2 => ∃ a b xs ys, [x, y] = [V.ref a, .ref b] ∧ SqT K H2 a xs ∧ SqT K H2 b ys ∧ R (Ienz K a b) H2 := by
  obtain ⟨σD, T, F, gd, w, σD', ec, kk⟩ := q
  obtain ⟨s, s1, e1, ec⟩ := bnd_ok ec
  obtain ⟨t, s2, e2, ec⟩ := bnd_ok ec
  obtain ⟨hz, ec⟩ := grd_ok ec
  obtain ⟨rfl, rfl⟩ := ret_ok ec
  simp only [Bool.and_eq_true] at hz
  have n1 := noW_ok hz.1
  have n2 := noW_ok hz.2.1
  refine ⟨σD, T, F, gd, s, s1, e1, fun v H1 F1 Tw g1 so => ⟨s1, Tw ++ T, F1, g1, t, _, e2, fun u H2 F2 Tv g2 so2 => ?_⟩⟩
  obtain ⟨x, hr, hT, hx⟩ := so.ex
  obtain ⟨y, hr2, hT2, hy⟩ := so2.ex
  have hc : ∀ (Hc : Hp) (σc : S) (σVc : L2.St) (Tc : List (D × V)) (Fc : Ct), Good K W Hc σc σVc ((Tv ++ Tw) ++ Tc) Fc → PRep K W Hc Fc x v ∧ PRep K W Hc Fc y u := fun Hc σc σVc Tc Fc gc => by
    rw [List.append_assoc] at gc
    refine ⟨hx Hc σc σVc (Tv ++ Tc) Fc (gc.perm ?_) (fun i d h => by rw [n1] at h; cases h), hy Hc σc σVc (Tw ++ Tc) Fc gc (fun i d h => by rw [n2] at h; cases h)⟩
    rw [← List.append_assoc, ← List.append_assoc]
    exact List.perm_append_comm.append_right Tc
  have g2' : Good K W H2 σD' σ ((Tv ++ Tw) ++ T) F2 := by rw [List.append_assoc]; exact g2
  obtain ⟨px, py⟩ := hc H2 _ σ T F2 g2'
  have fin : ∀ J, (ItS K W J (enumD 0 (zipD s.2.1 t.2.1)) fun H F => PRep K W H F x v ∧ PRep K W H F y u) → R J H2 := fun J hJ => kk J H2 F2 (Tv ++ Tw) g2' ⟨⟨_, hJ, fun Hc σc σVc Tc Fc gc _ => hc Hc σc σVc Tc Fc gc⟩, fun i d h => by cases h⟩
  rcases rows_ok hr with rfl | ⟨o, rfl, _⟩
  · rcases rows_ok hr2 with rfl | ⟨o2, rfl, _⟩
    · obtain ⟨a, vs, rfl, h1, r1⟩ := px.tup
      obtain ⟨b, us, rfl, h2, r2⟩ := py.tup
      exact ⟨a, b, vs, us, rfl, h1, h2, fin _ its_enz⟩
    · have := hz.2.2.2; rw [hT2] at this; cases this
  · have := hz.2.2.1; rw [hT] at this; cases this
theorem si_NZ {elts : List Expr} {kk : Nat} {tpos p2 pos2 : Pos} {m n : Sm Sc} (hg : Gl X "enumerate") (hm : X.mg "enumerate" = none) (hg2 : Gl X "zip") (hm2 : X.mg "zip" = none) (hs : noStar a = true) (hs2 : noStar b = true) (ha : PE X a (tI X.K W ev m)) (hb : PE X b (tI X.K W ev n)) :
    PI X (.Tuple elts kk tpos) (.Call (.Name "enumerate" p) [.Call (.Name "zip" p2) [a, b] [] pos2] [] pos) (tW X.K W ev (itNZ m n)) := ⟨fun pins s σ H R I q => (pi_enz hg hm hg2 hm2 (pa_cons ha (pa_cons hb pa_nil (noStar_each hs2)) (noStar_each hs)) (noStar_each hs) (by rw [noStar_each hs2]; rfl)).run pins s σ H R I (enz_read q)⟩
theorem si_Z {elts : List Expr} {kk : Nat} {tpos : Pos} {m n : Sm Sc} (hg : Gl X "zip") (hm : X.mg "zip" = none) (hs : noStar a = true) (hs2 : noStar b = true) (ha : PE X a (tI X.K W ev m)) (hb : PE X b (tI X.K W ev n)) : PI X (.Tuple elts kk tpos) (.Call (.Name "zip" p) [a, b] [] pos) (tW X.K W ev (itZ m n)) := ⟨fun pins s σ H R I q => (RZ.pi_zipA hg hm (pa_cons ha (pa_cons hb pa_nil (noStar_each hs2)) (noStar_each hs)) (noStar_each hs) (by rw [noStar_each hs2]; rfl)).run pins s σ H R I (zip_read q)⟩
theorem rngOk_ok {i : Int} (h : rngOk i = true) : -(2 ^ 62) ≤ i ∧ i < 2 ^ 62 := by
  unfold rngOk at h
  rw [Bool.and_eq_true, decide_eq_true_eq, decide_eq_true_eq] at h
  exact h
theorem si_R1 {tg : Expr} (hg : Gl X "range") (hm : X.mg "range" = none) (hs : noStar a = true) (ha : PE X a (tP X.K W ev ca ga)) : PI X tg (.Call (.Name "range" p) [a] [] pos) (tW X.K W ev (itR1 ca)) :=
  ⟨fun pins s σ H R I q => (pi_range1 hg hm (pa_cons ha pa_nil (noStar_each hs)) (noStar_each hs)).run pins s σ H R I (by
    obtain ⟨σD, T, F, gd, w, σD', ec, kk⟩ := q
    obtain ⟨j, s1, e1, ec⟩ := bnd_ok ec
    obtain ⟨hz, ec⟩ := grd_ok ec
    obtain ⟨rfl, rfl⟩ := ret_ok ec
    obtain ⟨d, s2, e2, e1⟩ := bnd_ok e1
    refine ⟨σD, T, F, gd, d, s2, e2, fun v H' F' g' p' _ => ?_⟩
    cases d with
    | int j' =>
      obtain ⟨rfl, rfl⟩ := ret_ok e1
      obtain ⟨l, u⟩ := rngOk_ok hz
      refine ⟨_, by rw [p'.int], l, u, ?_⟩
      have := its_rng (W := W) (K := X.K) (lo := 0) (hi := j)
      rw [Int.sub_zero] at this
      exact kk _ H' F' [] g' ⟨⟨_, this, fun _ _ _ _ _ _ _ => trivial⟩, fun i d h => by cases h⟩
    | _ => cases e1)⟩
theorem si_R2 {tg : Expr} (hg : Gl X "range") (hm : X.mg "range" = none) (hs : noStar a = true) (hs2 : noStar b = true) (ha : PE X a (tP X.K W ev ca ga)) (hb : PE X b (tP X.K W ev cb gb)) : PI X tg (.Call (.Name "range" p) [a, b] [] pos) (tW X.K W ev (itR2 ca cb)) :=
  ⟨fun pins s σ H R I q => (pi_range2 hg hm (pa_cons ha (pa_cons hb pa_nil (noStar_each hs2)) (noStar_each hs)) (by rw [noStar_each hs, noStar_each hs2]; rfl) (noStar_each hs2)).run pins s σ H R I (by
    obtain ⟨σD, T, F, gd, w, σD', ec, kk⟩ := q
    obtain ⟨j, s1, e1, ec⟩ := bnd_ok ec
    obtain ⟨k, s3, e3, ec⟩ := bnd_ok ec
    obtain ⟨hz, ec⟩ := grd_ok ec
    obtain ⟨rfl, rfl⟩ := ret_ok ec
    obtain ⟨d, s2, e2, e1⟩ := bnd_ok e1
    obtain ⟨d3, s4, e4, e3⟩ := bnd_ok e3
    rw [Bool.and_eq_true] at hz
    refine ⟨σD, T, F, gd, d, s2, e2, fun v H' F' g' p' _ => ?_⟩
    cases d with
    | int j' =>
      obtain ⟨rfl, rfl⟩ := ret_ok e1
      refine ⟨s1, T, F', g', d3, s4, e4, fun v2 H2 F2 g2 p2 _ => ?_⟩
      cases d3 with
      | int k' =>
        obtain ⟨rfl, rfl⟩ := ret_ok e3
        obtain ⟨l, u⟩ := rngOk_ok hz.1
        obtain ⟨l2, u2⟩ := rngOk_ok hz.2
        exact ⟨_, _, by rw [p'.int, p2.int], ⟨l, u, l2, u2⟩, kk _ H2 F2 [] g2 ⟨⟨_, its_rng, fun _ _ _ _ _ _ _ => trivial⟩, fun i d h => by cases h⟩⟩
      | _ => cases e3
    | _ => cases e1)⟩
end
end Tw

set_option Elab.async false
set_option linter.all false
set_option maxRecDepth 100000
/-! Tw.EvN: for. -/
namespace Tw
open PySem PySem.Spec PyProof.Rows L2

section
variable {K : PySem.W.Frag} {H : Hp} {O : Addr → Prop}
theorem RepT.cut : ∀ {A B T : List (D × V)} {F : Ct}, RepT K H O (A ++ (B ++ T)) F → ∃ G, RepT K H O (A ++ T) G ∧ ∀ a, G a ≤ F a
  | [], [], T, F, h => ⟨F, h, fun a => Nat.le_refl _⟩
  | [], b :: B, T, F, h => by
    obtain ⟨G1, G2, h1, h2, z⟩ := h
    obtain ⟨G, q1, q2⟩ := RepT.cut (A := []) (B := B) (T := T) h2
    exact ⟨G, q1, fun a => by rw [z a]; have := q2 a; omega⟩
  | x :: A, B, T, F, h => by
    obtain ⟨G1, G2, h1, h2, z⟩ := h
    obtain ⟨G, q1, q2⟩ := RepT.cut (A := A) (B := B) (T := T) h2
    exact ⟨fun a => G1 a + G a, ⟨G1, G, h1, q1, fun _ => rfl⟩, fun a => by dsimp only; rw [z a]; have := q2 a; omega⟩
end
theorem Good.cut {K : PySem.W.Frag} {W : Wd} {H : Hp} {σD : S} {σV : L2.St} {A B T : List (D × V)} {F : Ct} (g : Good K W H σD σV (A ++ (B ++ T)) F) : ∃ F', Good K W H σD σV (A ++ T) F' := by
  obtain ⟨Fs, Ft, r1, r2, z⟩ := g.rep
  obtain ⟨G, q1, q2⟩ := r2.cut
  have l : ∀ a, (fun a => Fs a + G a) a ≤ F a := fun a => by dsimp only; rw [z a]; have := q2 a; omega
  have t := own_sub (H := H) (W := W) l
  exact ⟨_, ⟨⟨Fs, G, RepS.tr t r1 (fun _ _ _ h => h), RepT.tr t q1 (fun _ _ _ h => h), fun _ => rfl⟩, fun a => Nat.le_trans (l a) (g.one a), fun a q => g.new a (Nat.le_trans q (l a)), g.old, g.bw, g.rf⟩⟩
/-- one more slot that stays -/
abbrev Wd.add (W : Wd) (i : Nat) (v : V) : Wd := { W with refs := (i, v) :: W.refs }
abbrev Env.add (ev : Env) (i : Nat) : Env := { ev with refs := i :: ev.refs }
theorem Good.add {K : PySem.W.Frag} {W : Wd} {H : Hp} {σD : S} {σV : L2.St} {T : List (D × V)} {F : Ct} {i : Nat} {v : V} {d : D} (g : Good K W H σD σV T F) (e1 : σV[i]? = some (some v)) (e2 : σD[i]? = some (some d)) : Good K (W.add i v) H σD σV T F :=
  ⟨g.rep, g.one, g.new, g.old, g.bw, fun p hp => by
    rcases List.mem_cons.mp hp with rfl | hp
    · exact ⟨e1, d, e2⟩
    · exact g.rf p hp⟩
theorem Good.unadd {K : PySem.W.Frag} {W : Wd} {H : Hp} {σD : S} {σV : L2.St} {T : List (D × V)} {F : Ct} {i : Nat} {v : V} (g : Good K (W.add i v) H σD σV T F) : Good K W H σD σV T F :=
  ⟨g.rep, g.one, g.new, g.old, g.bw, fun p hp => g.rf p (List.mem_cons_of_mem _ hp)⟩
theorem Rfs.add {W : Wd} {ev : Env} (rs : Rfs W ev) (i : Nat) (v : V) : Rfs (W.add i v) (ev.add i) := ⟨fun p hp => by
  rcases List.mem_cons.mp hp with rfl | hp
  · exact by simp
  · have := rs.rf p hp
    show (i :: ev.refs).contains p.1 = true
    rw [List.contains_cons, this, Bool.or_true]⟩
theorem PG.ex {X : Cx} {tg : Expr} {P : Wd → Env → Prop} {t : Wd → Env → TG} (h : ∀ W ev, P W ev → PG X tg (t W ev)) : PG X tg (fun v σ H Q => ∃ W ev, P W ev ∧ t W ev v σ H Q) := ⟨fun pins s σ H v u Q I r ⟨W, ev, p, q⟩ => (h W ev p).run pins s σ H v u Q I r q⟩
theorem PSs.ex {X : Cx} {sts : List Stmt} {P : Wd → Env → Prop} {t : Wd → Env → TS} (h : ∀ W ev, P W ev → PSs X sts (t W ev)) : PSs X sts (fun D σ H => ∃ W ev, P W ev ∧ t W ev D σ H) := ⟨fun pins s σ H D I ⟨W, ev, p, q⟩ => (h W ev p).run pins s σ H D I q⟩
/-- the same calls, the slots kept -/
def Kin (ev : Env) (W' : Wd) (ev' : Env) : Prop := Rfs W' ev' ∧ ev'.call = ev.call
theorem still_ok {k : Option (Nat × D)} {ev : Env} {s s' : S} {u : Unit} (h : still k ev s = .ok u s') : s' = s ∧ ∀ i d, k = some (i, d) → ∃ d', s[i]? = some (some d') ∧ sameD d d' = true := by
  unfold still at h
  split at h
  · cases h; exact ⟨rfl, fun i d e => by cases e⟩
  · rename_i i d
    split at h
    · rename_i d' e
      split at h
      · rename_i hz
        cases h
        exact ⟨rfl, fun i' d2 e2 => by cases e2; exact ⟨d', e, hz⟩⟩
      · cases h
    · cases h
mutual
theorem sameD_eq : ∀ (a b : D), sameD a b = true → a = b
  | .non, b, h => by cases b <;> first | rfl | cases h
  | .bl x, b, h => by cases b with
    | bl y => rw [eq_of_beq (show (x == y) = true from h)]
    | _ => cases h
  | .int x, b, h => by cases b with
    | int y => rw [of_decide_eq_true (show decide (x = y) = true from h)]
    | _ => cases h
  | .str x, b, h => by cases b with
    | str y => rw [of_decide_eq_true (show decide (x = y) = true from h)]
    | _ => cases h
  | .tup x, b, h => by cases b with
    | tup y => rw [sameL_eq x y (by unfold sameD at h; exact h)]
    | _ => unfold sameD at h; cases h
  | .lst o x, b, h => by cases b with
    | lst p y =>
      unfold sameD at h
      rw [Bool.and_eq_true] at h
      rw [eq_of_beq h.1, sameL_eq x y h.2]
    | _ => unfold sameD at h; cases h
  | .dic o x y, b, h => by cases b with
    | dic p x' y' =>
      unfold sameD at h
      simp only [Bool.and_eq_true] at h
      rw [eq_of_beq h.1, sameL_eq x x' h.2.1, sameL_eq y y' h.2.2]
    | _ => unfold sameD at h; cases h
  | .scr x, b, h => by cases b with
    | scr y => rw [of_decide_eq_true (show decide (x = y) = true from h)]
    | _ => cases h
theorem sameL_eq : ∀ (a b : List D), sameL a b = true → a = b
  | [], b, h => by cases b with
    | nil => rfl
    | cons _ _ => unfold sameL at h; cases h
  | x :: a, b, h => by cases b with
    | nil => unfold sameL at h; cases h
    | cons y b =>
      unfold sameL at h
      rw [Bool.and_eq_true] at h
      rw [sameD_eq x y h.1, sameL_eq a b h.2]
end
section
variable {X : Cx} {W : Wd} {ev : Env} {a b e : Expr} {ca cb : Sm D} {ga gb : Bool} {pos p : Pos} {sts : List Stmt} {st : Stmt} {c c1 c2 : Sm Fl}
/-- one walk, the slots that stay being told -/
theorem for_walk {K : PySem.W.Frag} {t : Tg} {Dn : Ends} {J : It} {ds : List D} {k : Option (Nat × D)} {cond : Hp → Ct → Prop} {Tw T : List (D × V)} {f : Fl} {σD σD' : S} {σV : L2.St} {H : Hp} {F : Ct} (kin : Kin ev W ev) (hI : ItS K W J ds cond)
    (hcond : ∀ (Hc : Hp) (σc : S) (σVc : L2.St) (Tc : List (D × V)) (Fc : Ct), Good K W Hc σc σVc (Tw ++ Tc) Fc → (∀ i d, k = some (i, d) → σc[i]? = some (some d)) → cond Hc Fc)
    (hk : ∀ i d, k = some (i, d) → σD[i]? = some (some d)) (gd : Good K W H σD σV (Tw ++ T) F) (ec : forGo t c k ds ev σD = .ok f σD') (kk : EndS K W (Tw ++ T) Dn f σD') :
    ∃ Wv : Nat → Nat → L2.St → Hp → Prop, (∃ m, Wv 0 m σV H) ∧ ∀ i m σ H, Wv i m σ H →
      (J.stop i H ∧ Dn.nx σ H) ∨ (J.go i H ∧ ∃ N : L2.St → Hp → Prop, (∀ σ' H', N σ' H' → ∃ m', m' < m ∧ Wv (i + 1) m' σ' H') ∧ ∀ x H', J.yld i H x H' → (∃ W' ev', Kin ev W' ev' ∧ tG K W' ev' t x σ H' fun σ2 H2 => ∃ W' ev', Kin ev W' ev' ∧ tS K W' ev' c { Dn with nx := N, ct := N, bk := Dn.nx } σ2 H2)) := by
  refine ⟨fun i m σV H => i + m = ds.length ∧ ∃ σD F, Good K W H σD σV (Tw ++ T) F ∧ (∀ i d, k = some (i, d) → σD[i]? = some (some d)) ∧ forGo t c k (ds.drop i) ev σD = .ok f σD', ⟨ds.length, by omega, σD, F, gd, hk, by rw [List.drop_zero]; exact ec⟩, ?_⟩
  rintro i m σ H ⟨him, σD, F, gd, hk, ec⟩
  have hc := hcond H σD σ T F gd hk
  cases m with
  | zero =>
    have : i = ds.length := by omega
    subst this
    rw [List.drop_length] at ec
    obtain ⟨rfl, rfl⟩ := ret_ok (show ret Fl.nx ev σD = .ok f σD' from ec)
    exact .inl ⟨hI.stop _ H F hc rfl, kk σ H F gd⟩
  | succ m =>
    have hlt : i < ds.length := by omega
    rw [List.drop_eq_getElem_cons hlt] at ec
    obtain ⟨hz, ec⟩ := grd_ok (show grd (frz ds[i]) (bnd (setT t ds[i]) fun _ => bnd c fun f => match f with
      | .nx => bnd (still k) fun _ => forGo t c k (ds.drop (i + 1))
      | .ct => bnd (still k) fun _ => forGo t c k (ds.drop (i + 1))
      | .bk => ret .nx
      | .rt d => ret (.rt d)) ev σD = .ok f σD' from ec)
    obtain ⟨u, s1, e1, ec⟩ := bnd_ok ec
    obtain ⟨f1, s2, e2, ec⟩ := bnd_ok ec
    refine .inr ⟨hI.go i H F hc hlt, fun σV H => i + 1 + m = ds.length ∧ ∃ σD F, Good K W H σD σV (Tw ++ T) F ∧ (∀ i d, k = some (i, d) → σD[i]? = some (some d)) ∧ forGo t c k (ds.drop (i + 1)) ev σD = .ok f σD', fun σ' H' h => ⟨m, Nat.lt_succ_self m, h⟩, fun x H' y => ?_⟩
    obtain ⟨px, keep⟩ := hI.yld i H F x H' ds[i] hc (List.getElem?_eq_getElem hlt) hz y
    refine ⟨W, ev, kin, σD, Tw ++ T, F, ds[i], gd.ext keep, ⟨px, hz⟩, s1, e1, fun σV' H2 F2 g2 _ => ⟨W, ev, kin, s1, Tw ++ T, F2, g2, f1, s2, e2, ?_⟩⟩
    have nxt : ∀ {s3 : S} {u : Unit}, still k ev s2 = .ok u s3 → forGo t c k (ds.drop (i + 1)) ev s3 = .ok f σD' → ∀ σV' H' F', Good K W H' s2 σV' (Tw ++ T) F' → i + 1 + m = ds.length ∧ ∃ σD F, Good K W H' σD σV' (Tw ++ T) F ∧ (∀ i d, k = some (i, d) → σD[i]? = some (some d)) ∧ forGo t c k (ds.drop (i + 1)) ev σD = .ok f σD' := by
      intro s3 u h1 h2 σV' H' F' g'
      obtain ⟨rfl, h3⟩ := still_ok h1
      refine ⟨by omega, s3, F', g', fun j d e => ?_, h2⟩
      obtain ⟨d', e3, e4⟩ := h3 j d e
      rw [sameD_eq d d' e4]; exact e3
    cases f1 with
    | nx =>
      obtain ⟨u2, s3, e3, ec⟩ := bnd_ok ec
      exact nxt e3 ec
    | ct =>
      obtain ⟨u2, s3, e3, ec⟩ := bnd_ok ec
      exact nxt e3 ec
    | bk => obtain ⟨rfl, rfl⟩ := ret_ok ec; exact kk
    | rt d => obtain ⟨rfl, rfl⟩ := ret_ok ec; exact kk
theorem ss_for {tg it : Expr} {t : Tg} {m : Sm Wk} (hp : PassesOwn (model X.prog X.w) X.A X.env X.xe) (hc : X.calm = true) (rs : Rfs W ev) (hi : PI X tg it (tW X.K W ev m)) (hg : ∀ W' ev', Kin ev W' ev' → PG X tg (tG X.K W' ev' t)) (hb : ∀ W' ev', Kin ev W' ev' → PSs X sts (tS X.K W' ev' c))
    (hs : ∀ x, foldedSetIterable it X.env x = pure x) : PS X (.For tg it sts [] pos) (tS X.K W ev (forS t m c)) :=
  PS.imp (ps_for hp hc hi (PG.ex hg) (PSs.ex hb) hs) fun D σ H q => by
    obtain ⟨σD, T, F, gd, f, σD', ec, kk⟩ := q
    obtain ⟨w, s1, e1, ec⟩ := bnd_ok ec
    refine ⟨σD, T, F, gd, w, s1, e1, fun J H1 F1 Tw g1 wok => ?_⟩
    obtain ⟨cond, hI, hcd⟩ := wok.ex
    -- the ends, without what was in hand for the walk
    have ends : EndS X.K W (Tw ++ T) D f σD' := by
      cases f with
      | nx => exact fun σV' H' F' g' => let ⟨F2, g2⟩ := Good.cut (A := []) g'; kk σV' H' F2 g2
      | bk => exact fun σV' H' F' g' => let ⟨F2, g2⟩ := Good.cut (A := []) g'; kk σV' H' F2 g2
      | ct => exact fun σV' H' F' g' => let ⟨F2, g2⟩ := Good.cut (A := []) g'; kk σV' H' F2 g2
      | rt d => exact fun v σV' H' F' g' => let ⟨F2, g2⟩ := Good.cut (A := [(d, v)]) g'; kk v σV' H' F2 g2
    cases hw : w.2 with
    | none =>
      rw [hw] at ec
      exact for_walk (ev := ev) ⟨rs, rfl⟩ hI (fun Hc σc σVc Tc Fc gc _ => hcd Hc σc σVc Tc Fc gc fun i d e => by rw [hw] at e; cases e) (fun i d e => by cases e) g1 ec ends
    | some q =>
      obtain ⟨i, d⟩ := q
      rw [hw] at ec
      have ec : forGo t c (some (i, d)) w.1 (ev.add i) s1 = .ok f σD' := ec
      obtain ⟨ed, v, ev'⟩ := wok.var i d hw
      have kin : Kin (ev.add i) (W.add i v) (ev.add i) := ⟨rs.add i v, rfl⟩
      have hI' : ItS X.K (W.add i v) J w.1 cond := ⟨hI.go, hI.yld, hI.stop⟩
      have ends' : EndS X.K (W.add i v) (Tw ++ T) D f σD' := by
        cases f with
        | nx => exact fun σV' H' F' g' => ends σV' H' F' g'.unadd
        | bk => exact fun σV' H' F' g' => ends σV' H' F' g'.unadd
        | ct => exact fun σV' H' F' g' => ends σV' H' F' g'.unadd
        | rt d => exact fun v σV' H' F' g' => ends v σV' H' F' g'.unadd
      exact for_walk (ev := ev.add i) kin hI' (fun Hc σc σVc Tc Fc gc h => hcd Hc σc σVc Tc Fc gc.unadd fun j d' e => by
        rw [hw] at e
        cases e
        exact ⟨h i d rfl, by rw [(gc.rf (i, v) List.mem_cons_self).1]; exact ev'.symm⟩) (fun j d' e => by cases e; exact ed) (g1.add ev' ed) ec ends'
end
end Tw

set_option Elab.async false
set_option linter.all false
set_option maxRecDepth 100000
/-! Tw.EvO: list comprehensions. -/
namespace Tw
open PySem PySem.Spec PyProof.Rows L2

section
variable {K : PySem.W.Frag} {H H' : Hp} {O : Addr → Prop} {W : Wd} {σD : S} {σV : L2.St} {T T' : List (D × V)} {F : Ct} {d : D} {v : V}
/-- what the block's names held -/
def asideT : List Nat → S → L2.St → List (D × V)
  | [], _, _ => []
  | i :: is, s, σ => asideT is s σ ++ (match s[i]?, σ[i]? with
    | some (some d), some (some v) => [(d, v)]
    | _, _ => [])
theorem Good.aside (g : Good K W H σD σV T F) : ∀ (is : List Nat), (∀ i ∈ is, ∀ d, σD[i]? = some (some d) → frz d = true) → Good K W H σD σV (asideT is σD σV ++ T) F
  | [], _ => g
  | i :: is, h => by
    have ih := Good.aside g is fun j hj => h j (List.mem_cons_of_mem _ hj)
    unfold asideT
    rw [List.append_assoc]
    split
    · rename_i d v e1 e2
      obtain ⟨v', e3, p⟩ := ih.var e1
      rw [e2] at e3
      cases e3
      refine (ih.pushP p (h i List.mem_cons_self d e1)).perm ?_
      exact List.perm_middle.symm
    · exact ih
theorem RepS.unk : ∀ {ds : S} {vs : L2.St} {F : Ct} (i : Nat) (x : Option V), RepS K H O (ds.set i none) vs F → RepS K H O (ds.set i none) (vs.set i x) F
  | [], [], _, _, _, h => h
  | [], _ :: _, _, _, _, h => by rw [List.set_nil] at h; unfold RepS at h; exact h.elim
  | y :: ds, [], _, 0, _, h => by rw [List.set_cons_zero] at h; unfold RepS at h; exact h.elim
  | y :: ds, [], _, i + 1, _, h => by rw [List.set_cons_succ] at h; cases y <;> (unfold RepS at h; exact h.elim)
  | y :: ds, z :: vs, F, 0, x, h => by
    rw [List.set_cons_zero] at h ⊢
    rw [List.set_cons_zero]
    unfold RepS at h ⊢
    exact h
  | none :: ds, z :: vs, F, i + 1, x, h => by
    rw [List.set_cons_succ] at h ⊢
    rw [List.set_cons_succ]
    unfold RepS at h ⊢
    exact RepS.unk i x h
  | some y :: ds, none :: vs, F, i + 1, x, h => by
    rw [List.set_cons_succ] at h; unfold RepS at h; exact h.elim
  | some y :: ds, some z :: vs, F, i + 1, x, h => by
    rw [List.set_cons_succ] at h ⊢
    rw [List.set_cons_succ]
    obtain ⟨G1, G2, h1, h2, z⟩ := h
    exact ⟨G1, G2, h1, RepS.unk i x h2, z⟩
/-- a slot forgotten, on both sides -/
theorem Good.forget {i : Nat} (x : Option V) (g : Good K W H σD σV T F) (hr : ∀ p ∈ W.refs, p.1 ≠ i) : ∃ F', Good K W H (σD.set i none) (σV.set i x) T F' := by
  obtain ⟨Fs, Ft, r1, r2, z⟩ := g.rep
  obtain ⟨G, gs, l1⟩ := r1.forget i
  have l : ∀ a, (fun a => G a + Ft a) a ≤ F a := fun a => by dsimp only; rw [z a]; have := l1 a; omega
  have t := own_sub (H := H) (W := W) l
  refine ⟨_, ⟨⟨G, Ft, RepS.tr t (gs.unk i x) (fun _ _ _ h => h), RepT.tr t r2 (fun _ _ _ h => h), fun _ => rfl⟩, fun a => Nat.le_trans (l a) (g.one a), fun a q => g.new a (Nat.le_trans q (l a)), g.old, g.bw, fun p hp => ?_⟩⟩
  obtain ⟨q1, d', q2⟩ := g.rf p hp
  exact ⟨by rw [List.getElem?_set_ne (Ne.symm (hr p hp))]; exact q1, d', by rw [List.getElem?_set_ne (Ne.symm (hr p hp))]; exact q2⟩
theorem Good.wipe : ∀ {is : List Nat} {F : Ct}, Good K W H σD σV T F → (∀ i ∈ is, ∀ p ∈ W.refs, p.1 ≠ i) → ∃ F', Good K W H (wipeD is σD) (L2.wipe σV is) T F'
  | [], F, g, _ => ⟨F, g⟩
  | i :: is, F, g, h => by
    obtain ⟨F', g'⟩ := Good.wipe g fun j hj => h j (List.mem_cons_of_mem _ hj)
    exact g'.forget none (h i List.mem_cons_self)
/-- the slots given back -/
def putV : List Nat → L2.St → L2.St → L2.St
  | [], _, s => s
  | i :: is, s0, s => (putV is s0 s).set i ((s0[i]?).join)
theorem putV_get {s0 s : L2.St} {j : Nat} : ∀ {is : List Nat}, s.length = s0.length → (∀ k, k ∉ is → s[k]? = s0[k]?) → (putV is s0 s)[j]? = s0[j]?
  | [], _, h => h j (by simp)
  | i :: is, hl, h => by
    have len : ∀ is : List Nat, (putV is s0 s).length = s.length := fun is => by
      induction is with
      | nil => rfl
      | cons i is ih => unfold putV; rw [List.length_set, ih]
    unfold putV
    by_cases e : i = j
    · subst e
      by_cases hi : i < (putV is s0 s).length
      · rw [List.getElem?_set_self hi]
        have : i < s0.length := by rw [← hl, ← len is]; exact hi
        rw [List.getElem?_eq_getElem this]
        rfl
      · rw [List.getElem?_eq_none (by rw [List.length_set]; omega), List.getElem?_eq_none (by rw [← hl, ← len is]; omega)]
    · rw [List.getElem?_set_ne e]
      by_cases hm : i ∈ is
      · exact putV_get hl fun k hk => h k (fun q => by
          rcases List.mem_cons.mp q with q | q
          · subst q; exact hk hm
          · exact hk q)
      · -- i itself may differ: put it aside
        have key : ∀ is : List Nat, j ∉ is → (putV is s0 s)[j]? = s[j]? := fun is hj => by
          induction is with
          | nil => rfl
          | cons k is ih =>
            rw [List.mem_cons, not_or] at hj
            unfold putV
            rw [List.getElem?_set_ne (Ne.symm hj.1)]
            exact ih hj.2
        have key2 : ∀ is : List Nat, j ∈ is → (putV is s0 s)[j]? = s0[j]? := fun is hj => by
          induction is with
          | nil => cases hj
          | cons k is ih =>
            unfold putV
            by_cases ek : k = j
            · subst ek
              by_cases hi : k < (putV is s0 s).length
              · rw [List.getElem?_set_self hi]
                have : k < s0.length := by rw [← hl, ← len is]; exact hi
                rw [List.getElem?_eq_getElem this]
                rfl
              · rw [List.getElem?_eq_none (by rw [List.length_set]; omega), List.getElem?_eq_none (by rw [← hl, ← len is]; omega)]
            · rw [List.getElem?_set_ne ek]
              exact ih (by
                rcases List.mem_cons.mp hj with q | q
                · exact absurd q.symm ek
                · exact q)
        by_cases hj : j ∈ is
        · exact key2 is hj
        · rw [key is hj]
          exact h j fun q => by
            rcases List.mem_cons.mp q with q | q
            · exact e q.symm
            · exact hj q
theorem putV_wipe {σ : L2.St} {is : List Nat} : putV is σ (L2.wipe σ is) = σ := by
  apply List.ext_getElem?
  intro j
  exact putV_get (wipe_length σ is) fun k hk => wipe_out hk
theorem Good.putB {s0 : S} {σ0 : L2.St} : ∀ {is : List Nat} {T : List (D × V)} {F : Ct}, Good K W H σD σV (asideT is s0 σ0 ++ T) F → (∀ i ∈ is, ∀ p ∈ W.refs, p.1 ≠ i) → (∀ i ∈ is, ∀ d, s0[i]? = some (some d) → ∃ v, σ0[i]? = some (some v)) → ∃ F', Good K W H (putB is s0 σD) (putV is σ0 σV) T F'
  | [], T, F, g, _, _ => ⟨F, g⟩
  | i :: is, T, F, g, h, hv => by
    unfold asideT at g
    rw [List.append_assoc] at g
    obtain ⟨F', g'⟩ := Good.putB g (fun j hj => h j (List.mem_cons_of_mem _ hj)) (fun j hj => hv j (List.mem_cons_of_mem _ hj))
    unfold Tw.putB putV
    cases e : s0[i]? with
    | none =>
      rw [e] at g'
      exact g'.forget _ (h i List.mem_cons_self)
    | some o =>
      cases o with
      | none =>
        rw [e] at g'
        exact g'.forget _ (h i List.mem_cons_self)
      | some d =>
        obtain ⟨v, ev⟩ := hv i List.mem_cons_self d e
        rw [e, ev] at g'
        rw [ev]
        obtain ⟨F2, g2, _⟩ := (show Good K W H _ _ ((d, v) :: T) F' from g').setv' (h i List.mem_cons_self)
        exact ⟨F2, g2⟩
/-- a list of ours in hand, changed: what else is known stays -/
theorem tr_chg {H : Hp} {F : Ct} {p : Addr} {vs us : List V} (hp : H p = some (.lst vs)) (h1 : 1 ≤ F p) : Tr H (Own W F) (upd H p (.lst us)) (Own W F) := by
  have ne : ∀ a o, H a = some o → (∀ xs, o ≠ .lst xs) → a ≠ p := fun a o e h q => by subst q; rw [hp] at e; cases e; exact h _ rfl
  refine ⟨fun a xs h => by rw [upd_ne (ne a _ h fun _ e => by cases e)]; exact h, fun a o u h => by rw [upd_ne (ne a _ h fun _ e => by cases e)]; exact h, fun a xs n h => ?_⟩
  have : a ≠ p := fun q => by subst q; exact n (.inl h1)
  exact ⟨by rw [upd_ne this]; exact h, n⟩
theorem Good.app {p : Addr} {acc : List D} {d : D} {y : V} (g : Good K W H σD σV ((d, y) :: (.lst true acc, .ref p) :: T) F) :
    ∃ vs, H p = some (.lst vs) ∧ vs.length = acc.length ∧ Good K W (upd H p (.lst (vs ++ [y]))) σD σV ((.lst true (acc ++ [d]), .ref p) :: T) F := by
  obtain ⟨Fs, Ft, r1, r2, z⟩ := g.rep
  obtain ⟨G1, G2, h1, h2, z2⟩ := r2
  obtain ⟨G3, G4, h3, h4, z3⟩ := h2
  obtain ⟨q, vs, G5, e, e2, r5, z5⟩ := h3
  cases e
  have hF : F p = 1 := by
    have := g.one p
    have q1 := z p; have q2 := z2 p; have q3 := z3 p; have q4 := z5 p
    rw [if_pos rfl] at q4
    omega
  have hz : Fs p = 0 ∧ G1 p = 0 ∧ G4 p = 0 ∧ G5 p = 0 := by
    have q1 := z p; have q2 := z2 p; have q3 := z3 p; have q4 := z5 p
    rw [if_pos rfl] at q4
    omega
  have t := tr_chg (W := W) (us := vs ++ [y]) e2 (F := F) (by omega)
  have k : ∀ (G : Ct), G p = 0 → ∀ a o, 1 ≤ G a → H a = some o → upd H p (.lst (vs ++ [y])) a = some o := fun G hG a xs ha h => by
    rw [upd_ne (fun q => by subst q; omega)]; exact h
  refine ⟨vs, e2, r5.length, ⟨⟨Fs, fun a => (G5 a + G1 a + if a = p then 1 else 0) + G4 a, r1.tr t (k Fs hz.1), ⟨_, G4, ⟨p, vs ++ [y], fun a => G5 a + G1 a, rfl, upd_same, (RepL.tr t _ _ _ r5 (k G5 hz.2.2.2)).append ⟨y, [], G1, z0, rfl, Rep.tr t _ _ _ h1 (k G1 hz.2.1), ⟨rfl, fun _ => rfl⟩, fun _ => rfl⟩, fun _ => rfl⟩, h4.tr t (k G4 hz.2.2.1), fun _ => rfl⟩, fun a => ?_⟩, g.one, g.new, fun a o e n => ?_, g.bw, g.rf⟩⟩
  · dsimp only
    rw [z a, z2 a, z3 a, z5 a]
    omega
  · have : a ≠ p := fun q => by
      subst q
      rcases g.new a (by omega) with h | h
      · omega
      · rw [e] at h; cases h
    rw [upd_ne this]
    exact g.old a o e n
end

theorem wipeD_out {s : S} {i : Nat} : ∀ {is : List Nat}, i ∉ is → (wipeD is s)[i]? = s[i]?
  | [], _ => rfl
  | v :: vs, h => by
    rw [List.mem_cons, not_or] at h
    show ((wipeD vs s).set v none)[i]? = _
    rw [List.getElem?_set_ne (Ne.symm h.1)]
    exact wipeD_out h.2
theorem wipe_idem {σ : L2.St} {is : List Nat} : L2.wipe (L2.wipe σ is) is = L2.wipe σ is := by
  apply List.ext_getElem?
  intro j
  by_cases hj : j ∈ is
  · have key : ∀ (σ : L2.St) (is : List Nat), j ∈ is → (L2.wipe σ is)[j]? = if j < σ.length then some none else none := by
      intro σ is
      induction is with
      | nil => intro h; cases h
      | cons v vs ih =>
        intro h
        unfold L2.wipe
        by_cases e : v = j
        · subst e
          rw [List.getElem?_set_self']
          by_cases hl : v < σ.length
          · rw [if_pos hl, List.getElem?_eq_getElem (by rw [wipe_length]; exact hl)]; rfl
          · rw [if_neg hl, List.getElem?_eq_none (by rw [wipe_length]; omega)]; rfl
        · rw [List.getElem?_set_ne e]
          exact ih (by
            rcases List.mem_cons.mp h with q | q
            · exact absurd q.symm e
            · exact q)
    rw [key _ is hj, key _ is hj, wipe_length]
  · rw [wipe_out hj]
theorem PTs.imp {X : Cx} {es : List Expr} {t t' : TT} (h : PTs X es t) (i : ∀ σ H Q, t' σ H Q → t σ H Q) : PTs X es t' := ⟨fun pins s σ H Q I q => h.run pins s σ H Q I (i σ H Q q)⟩
theorem PTs.ex {X : Cx} {es : List Expr} {P : Wd → Env → Prop} {t : Wd → Env → TT} (h : ∀ W ev, P W ev → PTs X es (t W ev)) : PTs X es (fun σ H Q => ∃ W ev, P W ev ∧ t W ev σ H Q) := ⟨fun pins s σ H Q I ⟨W, ev, p, q⟩ => (h W ev p).run pins s σ H Q I q⟩
theorem PE.ex {X : Cx} {e : Expr} {P : Wd → Env → Prop} {t : Wd → Env → TE} (h : ∀ W ev, P W ev → PE X e (t W ev)) : PE X e (fun σ H Q => ∃ W ev, P W ev ∧ t W ev σ H Q) := ⟨fun pins s σ H Q I ⟨W, ev, p, q⟩ => (h W ev p).run pins s σ H Q I q⟩
theorem sts_nil {X : Cx} {W : Wd} {ev : Env} : PTs X [] (tB X.K W ev (allT []) false) := PTs.imp pts_nil fun σ H Q q => by
  obtain ⟨σD, T, F, gd, b, σD', ec, kk⟩ := q
  obtain ⟨rfl, rfl⟩ := ret_ok (show ret true ev σD = .ok b σD' from ec)
  exact kk H F gd fun h => by cases h
theorem sts_one {X : Cx} {W : Wd} {ev : Env} {e : Expr} {c : Sm Bool} {g : Bool} (h : PT X e (tB X.K W ev c g)) : PTs X [e] (tB X.K W ev (allT [c]) false) := PTs.imp (pts_one h) fun σ H Q q => by
  obtain ⟨σD, T, F, gd, b, σD', ec, kk⟩ := q
  obtain ⟨b1, s1, e1, ec⟩ := bnd_ok (show bnd c (fun b => if b = true then allT [] else ret false) ev σD = .ok b σD' from ec)
  refine ⟨σD, T, F, gd, b1, s1, e1, fun H' F' g' _ => ?_⟩
  cases b1 with
  | true =>
    obtain ⟨rfl, rfl⟩ := ret_ok (show ret true ev s1 = .ok b σD' from ec)
    exact kk H' F' g' fun h => by cases h
  | false =>
    obtain ⟨rfl, rfl⟩ := ret_ok (show ret false ev s1 = .ok b σD' from ec)
    exact kk H' F' g' fun h => by cases h
theorem lcGo_nil {own : List Nat} {tg : Tg} {ifs : List (Sm Bool)} {elt : Sm D} {k : Option (Nat × D)} {acc : List D} : lcGo own tg ifs elt k acc [] = bnd (wipeS own) fun _ => ret acc := rfl
theorem lcGo_cons {own : List Nat} {tg : Tg} {ifs : List (Sm Bool)} {elt : Sm D} {k : Option (Nat × D)} {acc xs : List D} {x : D} : lcGo own tg ifs elt k acc (x :: xs) = (grd (frz x) <| bnd (wipeS own) fun _ => bnd (setT tg x) fun _ => bnd (allT ifs) fun b => if b = true
      then bnd elt fun d => bnd (still k) fun _ => grd (szOk (acc.length + 1)) (lcGo own tg ifs elt k (acc ++ [d]) xs)
      else bnd (still k) fun _ => lcGo own tg ifs elt k acc xs) := rfl

/-- the block, the slots that stay being told -/
theorem lc_walk {K : PySem.W.Frag} {W : Wd} {ev0 ev : Env} {t : Tg} {is : List Nat} {ifs : List (Sm Bool)} {elt : Sm D} {ge : Bool} {J : It} {ds res : List D} {k : Option (Nat × D)} {cond : Hp → Ct → Prop} {Tw T : List (D × V)} {s1 sm : S} {σ : L2.St} {H1 : Hp} {F1 : Ct} {Q : VK} (kin : Kin ev0 W ev) (hI : ItS K W J ds cond)
    (hcond : ∀ (Hc : Hp) (σc : S) (σVc : L2.St) (Tc : List (D × V)) (Fc : Ct), Good K W Hc σc σVc (Tw ++ Tc) Fc → (∀ i d, k = some (i, d) → σc[i]? = some (some d) ∧ σVc[i]? = σ[i]?) → cond Hc Fc)
    (hk : ∀ i d, k = some (i, d) → s1[i]? = some (some d) ∧ i ∉ is) (hts : ∀ i ∈ t.slots, i ∈ is) (gd : Good K W H1 s1 σ (Tw ++ T) F1)
    (hz : ownOk is s1 = true) (hr : ∀ i ∈ is, ev.refs.contains i = false) (ec : lcGo is t ifs elt k [] ds ev (wipeD is s1) = .ok res sm)
    (kk : ∀ A H' F', Good K W H' (putB is s1 sm) σ ((.lst true res, .ref A) :: T) F' → Q (.ref A) H') :
    ∀ A, H1 A = none → ∃ Wv : Nat → Nat → Hp → Prop, (∃ m, Wv 0 m (upd H1 A (.lst []))) ∧ ∀ i m H, Wv i m H →
      (J.stop i H ∧ Q (.ref A) H) ∨ (J.go i H ∧ ∃ Nx : Hp → Prop, (∀ H', Nx H' → ∃ m', m' < m ∧ Wv (i + 1) m' H') ∧ ∀ x H', J.yld i H x H' →
        (∃ W ev, Kin ev0 W ev ∧ tG K W ev t x (L2.wipe σ is) H' fun σ2 H2 => L2.wipe σ2 is = L2.wipe σ is ∧ ∃ W ev, Kin ev0 W ev ∧ tB K W ev (allT ifs) false σ2 H2 fun b H3 =>
          if b = true then ∃ W ev, Kin ev0 W ev ∧ tE K W ev elt ge σ2 H3 fun y H4 => ∃ acc, H4 A = some (.lst acc) ∧ acc.length < sizeLine ∧ Nx (upd H4 A (.lst (acc ++ [y]))) else Nx H3)) := by
  intro A hD
  have hne : ∀ i ∈ is, ∀ p ∈ W.refs, p.1 ≠ i := fun i hi => kin.1.ne (hr i hi)
  have hz' : ∀ i ∈ is, ∀ d, s1[i]? = some (some d) → frz d = true := fun i hi d e => by
    have := List.all_eq_true.mp hz i hi
    rw [e] at this
    exact this
  have hv' : ∀ i ∈ is, ∀ d, s1[i]? = some (some d) → ∃ v, σ[i]? = some (some v) := fun i hi d e => let ⟨v, q, _⟩ := gd.var e; ⟨v, q⟩
  refine ⟨fun i m H => i + m = ds.length ∧ ∃ s acc F, Good K W H (wipeD is s) (L2.wipe σ is) (Tw ++ ((.lst true acc, .ref A) :: (asideT is s1 σ ++ T))) F ∧ (∀ i d, k = some (i, d) → (wipeD is s)[i]? = some (some d)) ∧ lcGo is t ifs elt k acc (ds.drop i) ev s = .ok res sm, ⟨ds.length, by omega, wipeD is s1, [], ?_⟩, ?_⟩
  · obtain ⟨F2, g2⟩ := ((gd.aside is hz').newL hD (ds := []) (vs := []) (G := z0) ⟨rfl, fun _ => rfl⟩ fun _ => rfl).wipe hne
    have wi : wipeD is (wipeD is s1) = wipeD is s1 := by
      apply List.ext_getElem?
      intro j
      by_cases hj : j ∈ is
      · have ln : ∀ (is : List Nat) (s : S), (wipeD is s).length = s.length := fun is s => by
          induction is with
          | nil => rfl
          | cons i is ih => show ((wipeD is s).set i none).length = _; rw [List.length_set, ih]
        have key : ∀ (s : S) (is : List Nat), j ∈ is → (wipeD is s)[j]? = if j < s.length then some none else none := by
          intro s is
          induction is with
          | nil => intro h; cases h
          | cons v vs ih =>
            intro h
            show ((wipeD vs s).set v none)[j]? = _
            by_cases e : v = j
            · subst e
              rw [List.getElem?_set_self']
              by_cases hl : v < s.length
              · rw [if_pos hl, List.getElem?_eq_getElem (by rw [ln]; exact hl)]; rfl
              · rw [if_neg hl, List.getElem?_eq_none (by rw [ln]; omega)]; rfl
            · rw [List.getElem?_set_ne e]
              exact ih (by
                rcases List.mem_cons.mp h with q | q
                · exact absurd q.symm e
                · exact q)
        rw [key _ is hj, key _ is hj, ln]
      · rw [wipeD_out hj]
    refine ⟨F2, ?_, fun i d e => ?_, by rw [List.drop_zero]; exact ec⟩
    · rw [wi]
      refine g2.perm ?_
      refine List.Perm.trans ?_ List.perm_middle.symm
      refine .cons _ ?_
      rw [← List.append_assoc, ← List.append_assoc]
      exact List.perm_append_comm.append_right T
    · rw [wi, wipeD_out (hk i d e).2]
      exact (hk i d e).1
  · rintro i m H ⟨him, s, acc, F, gs, hs, el⟩
    have hc := hcond H _ _ _ F gs fun j d e => ⟨hs j d e, wipe_out (hk j d e).2⟩
    cases m with
    | zero =>
      have : i = ds.length := by omega
      subst this
      rw [List.drop_length, lcGo_nil] at el
      obtain ⟨u, s2, e2, el⟩ := bnd_ok el
      obtain ⟨rfl, rfl⟩ := ret_ok el
      cases e2
      refine .inl ⟨hI.stop _ H F hc rfl, ?_⟩
      obtain ⟨F2, g2⟩ := Good.cut (A := []) gs
      have g3 := g2.perm (T' := asideT is s1 σ ++ ((.lst true res, .ref A) :: T)) List.perm_middle.symm
      obtain ⟨F3, g4⟩ := g3.putB hne hv'
      rw [putV_wipe] at g4
      exact kk A H F3 g4
    | succ m =>
      have hlt : i < ds.length := by omega
      rw [List.drop_eq_getElem_cons hlt, lcGo_cons] at el
      obtain ⟨hzx, el⟩ := grd_ok el
      obtain ⟨u, s2, e2, el⟩ := bnd_ok el
      cases e2
      obtain ⟨u, s3, e3, el⟩ := bnd_ok el
      obtain ⟨b, s4, e4, el⟩ := bnd_ok el
      refine .inr ⟨hI.go i H F hc hlt, fun H => i + 1 + m = ds.length ∧ ∃ s acc F, Good K W H (wipeD is s) (L2.wipe σ is) (Tw ++ ((.lst true acc, .ref A) :: (asideT is s1 σ ++ T))) F ∧ (∀ i d, k = some (i, d) → (wipeD is s)[i]? = some (some d)) ∧ lcGo is t ifs elt k acc (ds.drop (i + 1)) ev s = .ok res sm, fun H' h => ⟨m, Nat.lt_succ_self m, h⟩, fun x H' y => ?_⟩
      obtain ⟨px, keep⟩ := hI.yld i H F x H' ds[i] hc (List.getElem?_eq_getElem hlt) hzx y
      refine ⟨W, ev, kin, _, _, F, ds[i], gs.ext keep, ⟨px, hzx⟩, s3, e3, fun σ2 H2 F2 g2 hw => ⟨(hw is hts).trans wipe_idem, W, ev, kin, s3, _, F2, g2, b, s4, e4, fun H3 F3 g3 _ => ?_⟩⟩
      have hw' : L2.wipe σ2 is = L2.wipe σ is := (hw is hts).trans wipe_idem
      have nxt : ∀ {acc2 : List D} {s5 s6 : S} {u : Unit} {H5 : Hp} {F5 : Ct}, Good K W H5 s5 σ2 (Tw ++ ((.lst true acc2, .ref A) :: (asideT is s1 σ ++ T))) F5 → still k ev s5 = .ok u s6 → lcGo is t ifs elt k acc2 (ds.drop (i + 1)) ev s6 = .ok res sm →
          i + 1 + m = ds.length ∧ ∃ s acc F, Good K W H5 (wipeD is s) (L2.wipe σ is) (Tw ++ ((.lst true acc, .ref A) :: (asideT is s1 σ ++ T))) F ∧ (∀ i d, k = some (i, d) → (wipeD is s)[i]? = some (some d)) ∧ lcGo is t ifs elt k acc (ds.drop (i + 1)) ev s = .ok res sm := by
        intro acc2 s5 s6 u H5 F5 g5 h1 h2
        obtain ⟨rfl, h3⟩ := still_ok h1
        obtain ⟨F6, g6⟩ := g5.wipe hne
        rw [hw'] at g6
        refine ⟨by omega, s6, acc2, F6, g6, fun j d e => ?_, h2⟩
        obtain ⟨d', e5, e6⟩ := h3 j d e
        rw [wipeD_out (hk j d e).2, e5, sameD_eq d d' e6]
      cases b with
      | false =>
        rw [if_neg Bool.false_ne_true] at el
        dsimp only
        rw [if_neg Bool.false_ne_true]
        obtain ⟨u2, s5, e5, el⟩ := bnd_ok el
        exact nxt g3 e5 el
      | true =>
        rw [if_pos rfl] at el
        dsimp only
        rw [if_pos rfl]
        obtain ⟨de, s5, e5, el⟩ := bnd_ok el
        obtain ⟨u2, s6, e6, el⟩ := bnd_ok el
        obtain ⟨hsz, el⟩ := grd_ok el
        refine ⟨W, ev, kin, s4, _, F3, g3, de, s5, e5, fun yv H4 F4 g4 _ => ?_⟩
        obtain ⟨vs, a1, a2, g5⟩ := (g4.perm (T' := (de, yv) :: (.lst true acc, .ref A) :: (Tw ++ (asideT is s1 σ ++ T))) (.cons _ List.perm_middle)).app
        refine ⟨vs, a1, by rw [a2]; exact Nat.lt_of_succ_le (of_decide_eq_true hsz), ?_⟩
        exact nxt (g5.perm List.perm_middle.symm) e6 el

theorem inBlk_ok {α : Type} {own : List Nat} {m : Sm α} {e : Env} {s s' : S} {a : α} (h : inBlk own m e s = .ok a s') : ownOk own s = true ∧ (∀ i ∈ own, e.refs.contains i = false) ∧ ∃ s2, m e (wipeD own s) = .ok a s2 ∧ s' = putB own s s2 := by
  unfold inBlk at h
  split at h
  · rename_i hc
    rw [Bool.and_eq_true] at hc
    split at h
    · rename_i a' s2 e2
      cases h
      exact ⟨hc.1, fun i hi => by have := List.all_eq_true.mp hc.2 i hi; simpa using this, s2, e2, rfl⟩
    · cases h
    · cases h
  · cases h
theorem lc_read {K : PySem.W.Frag} {W : Wd} {ev : Env} {t : Tg} {is : List Nat} {m : Sm Wk} {ifs : List (Sm Bool)} {elt : Sm D} {ge : Bool} {σ : L2.St} {H : Hp} {Q : VK} (rs : Rfs W ev) (hts : ∀ i ∈ t.slots, i ∈ is) (q : tE K W ev (lc is t m ifs elt) false σ H Q) :
    tLc (tW K W ev m) (fun v σ H Q => ∃ W' ev', Kin ev W' ev' ∧ tG K W' ev' t v σ H Q) (fun σ H Q => ∃ W' ev', Kin ev W' ev' ∧ tB K W' ev' (allT ifs) false σ H Q) (fun σ H Q => ∃ W' ev', Kin ev W' ev' ∧ tE K W' ev' elt ge σ H Q) is σ H Q := by
  obtain ⟨σD, T, F, gd, d, σD', ec, kk⟩ := q
  obtain ⟨w, s1, e1, ec⟩ := bnd_ok ec
  refine ⟨σD, T, F, gd, w, s1, e1, fun J H1 F1 Tw g1 wok => ?_⟩
  obtain ⟨cond, hI, hcd⟩ := wok.ex
  cases hw : w.2 with
  | none =>
    rw [hw] at ec
    obtain ⟨hz, hr, s2, e2, rfl⟩ := inBlk_ok (show inBlk is (bnd (lcGo is t ifs elt none [] w.1) fun ds => ret (.lst true ds)) ev s1 = .ok d σD' from ec)
    obtain ⟨res, s3, e3, e2⟩ := bnd_ok e2
    obtain ⟨rfl, rfl⟩ := ret_ok e2
    exact lc_walk (ev := ev) ⟨rs, rfl⟩ hI (fun Hc σc σVc Tc Fc gc _ => hcd Hc σc σVc Tc Fc gc fun i d e => by rw [hw] at e; cases e) (fun i d e => by cases e) hts g1 hz hr e3 fun A H' F' g' => kk (.ref A) H' F' g' fun h => by cases h
  | some q =>
    obtain ⟨i, dv⟩ := q
    rw [hw] at ec
    obtain ⟨hz, hr, s2, e2, rfl⟩ := inBlk_ok (show inBlk is (bnd (lcGo is t ifs elt (some (i, dv)) [] w.1) fun ds => ret (.lst true ds)) (ev.add i) s1 = .ok d σD' from ec)
    obtain ⟨res, s3, e3, e2⟩ := bnd_ok e2
    obtain ⟨rfl, rfl⟩ := ret_ok e2
    obtain ⟨ed, v, ev'⟩ := wok.var i dv hw
    have kin : Kin ev (W.add i v) (ev.add i) := ⟨rs.add i v, rfl⟩
    have hI' : ItS K (W.add i v) J w.1 cond := ⟨hI.go, hI.yld, hI.stop⟩
    have hni : i ∉ is := fun h => by
      have := hr i h
      rw [show (ev.add i).refs = i :: ev.refs from rfl, List.contains_cons] at this
      simp at this
    exact lc_walk (ev := ev.add i) kin hI' (fun Hc σc σVc Tc Fc gc h => hcd Hc σc σVc Tc Fc gc.unadd fun j d' e => by
        rw [hw] at e
        cases e
        exact h i dv rfl) (fun j d' e => by cases e; exact ⟨ed, hni⟩) hts (g1.add ev' ed) hz hr e3 fun A H' F' g' => kk (.ref A) H' F' g'.unadd fun h => by cases h
section
variable {X : Cx} {W : Wd} {ev : Env} {elt tg iter : Expr} {ifs : List Expr} {scope : Scope} {own : List (Str × Nat)} {pos spos : Pos} {t : Tg} {m : Sm Wk} {cs : List (Sm Bool)} {ce : Sm D} {ge : Bool}
theorem s_lc (hc : X.calm = true) (hN : X.N.Nodup) (rs : Rfs W ev) (hts : ∀ i ∈ t.slots, i ∈ own.map (·.2)) (hi : PI X tg iter (tW X.K W ev m)) (ok : BlkOk X.N X.env.scope scope own)
    (hg : ∀ (s : Shared) (H : Hp) (C : Addr) (cl : List (Str × Addr)) (fp : List Addr) W' ev', Kin ev W' ev' → PG (X.blk s H scope (compEnvC scope cl C X.env) fp) tg (tG X.K W' ev' t))
    (ht : ∀ (s : Shared) (H : Hp) (C : Addr) (cl : List (Str × Addr)) (fp : List Addr) W' ev', Kin ev W' ev' → PTs (X.blk s H scope (compEnvC scope cl C X.env) fp) ifs (tB X.K W' ev' (allT cs) false))
    (he : ∀ (s : Shared) (H : Hp) (C : Addr) (cl : List (Str × Addr)) (fp : List Addr) W' ev', Kin ev W' ev' → PE (X.blk s H scope (compEnvC scope cl C X.env) fp) elt (tE X.K W' ev' ce ge))
    (hs : ∀ x, foldedSetIterable iter X.env x = pure x) :
    PE X (.ListComp elt [⟨tg, iter, ifs, 0⟩] scope pos) (tE X.K W ev (lc (own.map (·.2)) t m cs ce) false) :=
  PE.imp (pe_lc hc hN hi ok (fun s H C cl fp => PG.ex (hg s H C cl fp)) (fun s H C cl fp => PTs.ex (ht s H C cl fp)) (fun s H C cl fp => PE.ex (he s H C cl fp)) hs) fun σ H Q q => lc_read rs hts q
theorem ss_setLc {i : Nat} {y : Str} {py : Pos} (hc : X.calm = true) (hN : X.N.Nodup) (hy : X.N[i]? = some y) (hyl : X.env.scope.names.lookup y = some .local) (hsw : swapsWith (.ListComp elt [⟨tg, iter, ifs, 0⟩] scope pos) (some (.Name y py)) spos.line X.env = pure true) (rs : Rfs W ev) (hts : ∀ i ∈ t.slots, i ∈ own.map (·.2)) (hi : PI X tg iter (tW X.K W ev m)) (ok : BlkOk X.N X.env.scope scope own)
    (hg : ∀ (s : Shared) (H : Hp) (C : Addr) (cl : List (Str × Addr)) (fp : List Addr) W' ev', Kin ev W' ev' → PG (X.blk s H scope (compEnvC scope cl C X.env) fp) tg (tG X.K W' ev' t))
    (ht : ∀ (s : Shared) (H : Hp) (C : Addr) (cl : List (Str × Addr)) (fp : List Addr) W' ev', Kin ev W' ev' → PTs (X.blk s H scope (compEnvC scope cl C X.env) fp) ifs (tB X.K W' ev' (allT cs) false))
    (he : ∀ (s : Shared) (H : Hp) (C : Addr) (cl : List (Str × Addr)) (fp : List Addr) W' ev', Kin ev W' ev' → PE (X.blk s H scope (compEnvC scope cl C X.env) fp) elt (tE X.K W' ev' ce ge))
    (hs : ∀ x, foldedSetIterable iter X.env x = pure x) :
    PS X (.Assign [.Name y py] (.ListComp elt [⟨tg, iter, ifs, 0⟩] scope pos) spos) (tS X.K W ev (asg i (lc (own.map (·.2)) t m cs ce))) :=
  PS.imp (ps_setLc hc hN hy hyl hsw hi ok (fun s H C cl fp => PG.ex (hg s H C cl fp)) (fun s H C cl fp => PTs.ex (ht s H C cl fp)) (fun s H C cl fp => PE.ex (he s H C cl fp)) hs) fun D σ H q => by
    have q := asg_read (ga := false) rs q
    exact lc_read rs hts q
end
end Tw

set_option Elab.async false
set_option linter.all false
set_option maxRecDepth 100000
/-! Tw.EvP: changes in place. -/
namespace Tw
open PySem PySem.Spec PyProof.Rows L2

/-- from a thing along places to another one -/
def AtV (H : Hp) : V → List D → V → Prop
  | v, [], u => u = v
  | v, .int i :: r, u => ∃ p vs j w, v = .ref p ∧ H p = some (.lst vs) ∧ ixN vs.length i = some j ∧ vs[j]? = some w ∧ AtV H w r u
  | _, _ :: _, _ => False
theorem AtV.keep {H H' : Hp} (k : ∀ a o, H a = some o → H' a = some o) : ∀ {qs : List D} {v u : V}, AtV H v qs u → AtV H' v qs u
  | [], _, _, h => h
  | .int i :: r, _, _, h => let ⟨p, vs, j, w, a, b, c, d, e⟩ := h; ⟨p, vs, j, w, a, k _ _ b, c, d, AtV.keep k e⟩
  | .non :: _, _, _, h => h.elim
  | .bl _ :: _, _, _, h => h.elim
  | .str _ :: _, _, _, h => h.elim
  | .tup _ :: _, _, _, h => h.elim
  | .lst _ _ :: _, _, _, h => h.elim
  | .dic _ _ _ :: _, _, _, h => h.elim
  | .scr _ :: _, _, _, h => h.elim
theorem AtV.snoc {H : Hp} : ∀ {qs : List D} {v u : V} {i : Int}, AtV H v (qs ++ [.int i]) u → ∃ w, AtV H v qs w ∧ AtV H w [.int i] u
  | [], v, u, i, h => ⟨v, rfl, h⟩
  | .int k :: r, v, u, i, h => by
    obtain ⟨p, vs, j, w, a, b, c, d, e⟩ := h
    obtain ⟨w', e1, e2⟩ := AtV.snoc e
    exact ⟨w', ⟨p, vs, j, w, a, b, c, d, e1⟩, e2⟩
  | .non :: _, _, _, _, h => h.elim
  | .bl _ :: _, _, _, _, h => h.elim
  | .str _ :: _, _, _, _, h => h.elim
  | .tup _ :: _, _, _, _, h => h.elim
  | .lst _ _ :: _, _, _, _, h => h.elim
  | .dic _ _ _ :: _, _, _, _, h => h.elim
  | .scr _ :: _, _, _, _, h => h.elim
theorem AtV.app {H : Hp} : ∀ {qs : List D} {v w u : V} {rs : List D}, AtV H v qs w → AtV H w rs u → AtV H v (qs ++ rs) u
  | [], v, w, u, rs, h, g => by cases h; exact g
  | .int k :: r, v, w, u, rs, h, g => by
    obtain ⟨p, vs, j, x, a, b, c, d, e⟩ := h
    exact ⟨p, vs, j, x, a, b, c, d, AtV.app e g⟩
  | .non :: _, _, _, _, _, h, _ => h.elim
  | .bl _ :: _, _, _, _, _, h, _ => h.elim
  | .str _ :: _, _, _, _, _, h, _ => h.elim
  | .tup _ :: _, _, _, _, _, h, _ => h.elim
  | .lst _ _ :: _, _, _, _, _, h, _ => h.elim
  | .dic _ _ _ :: _, _, _, _, _, h, _ => h.elim
  | .scr _ :: _, _, _, _, _, h, _ => h.elim
theorem AtV.det {H : Hp} : ∀ {qs : List D} {v u u' : V}, AtV H v qs u → AtV H v qs u' → u = u'
  | [], _, _, _, h, g => by rw [show _ = _ from h, show _ = _ from g]
  | .int i :: r, _, _, _, h, g => by
    obtain ⟨p, vs, j, w, a, b, c, d, e⟩ := h
    obtain ⟨p', vs', j', w', a', b', c', d', e'⟩ := g
    subst a
    cases a'
    rw [b] at b'; cases b'
    rw [c] at c'; cases c'
    rw [d] at d'; cases d'
    exact AtV.det e e'
  | .non :: _, _, _, _, h, _ => h.elim
  | .bl _ :: _, _, _, _, h, _ => h.elim
  | .str _ :: _, _, _, _, h, _ => h.elim
  | .tup _ :: _, _, _, _, h, _ => h.elim
  | .lst _ _ :: _, _, _, _, h, _ => h.elim
  | .dic _ _ _ :: _, _, _, _, h, _ => h.elim
  | .scr _ :: _, _, _, _, h, _ => h.elim

theorem atP_cons {d x q : D} {qs : List D} (e : atP d (q :: qs) = some x) : ∃ xs i j y, d = .lst true xs ∧ q = .int i ∧ ixOf xs.length i = some j ∧ xs[j]? = some y ∧ atP y qs = some x := by
  cases d with
  | lst o xs =>
    cases o with
    | true =>
      cases q with
      | int i =>
        obtain ⟨e1, b1, b2⟩ := Option.bind_eq_some_iff.mp (show ((ixOf xs.length i).bind fun j => xs[j]?).bind (fun d => atP d qs) = some x from e)
        obtain ⟨j, b3, b4⟩ := Option.bind_eq_some_iff.mp b1
        exact ⟨xs, i, j, e1, rfl, rfl, b3, b4, b2⟩
      | _ => cases e
    | false => simp [atP] at e
  | _ => simp [atP] at e
theorem putP_cons {q n d' : D} {zs qs : List D} {i : Int} (e : putP (.lst true zs) (.int i :: qs) n = some d') : ∃ j y y', ixOf zs.length i = some j ∧ zs[j]? = some y ∧ putP y qs n = some y' ∧ d' = .lst true (zs.set j y') := by
  obtain ⟨j, e3, e4⟩ := Option.bind_eq_some_iff.mp (show (ixOf zs.length i).bind (fun j => (zs[j]?).bind fun d => (putP d qs n).map fun d' => D.lst true (zs.set j d')) = some d' from e)
  obtain ⟨x', e5, e6⟩ := Option.bind_eq_some_iff.mp e4
  obtain ⟨x'', e7, rfl⟩ := Option.map_eq_some_iff.mp e6
  exact ⟨j, x', x'', e3, e5, e7, rfl⟩

section
variable {K : PySem.W.Frag} {H : Hp} {O : Addr → Prop}
/-- one of several, the others with another one at its place -/
theorem RepL.at : ∀ {ds : List D} {vs : List V} {F : Ct} {j : Nat} {d : D}, RepL K H O ds vs F → ds[j]? = some d → ∃ (v : V) (G Rm : Ct), vs[j]? = some v ∧ Rep K H O d v G ∧ (∀ a, F a = G a + Rm a) ∧
    ∀ (H' : Hp) (O' : Addr → Prop) (d' : D) (v' : V) (G' : Ct), Tr H O H' O' → (∀ a o, 1 ≤ Rm a → H a = some o → H' a = some o) → Rep K H' O' d' v' G' → RepL K H' O' (ds.set j d') (vs.set j v') fun a => G' a + Rm a
  | [], _, _, _, _, _, e => by simp at e
  | d :: ds, vs, F, 0, d0, h, e => by
    obtain ⟨v, vs', G1, G2, e1, h1, h2, z⟩ := h
    simp at e
    subst e e1
    exact ⟨v, G1, G2, rfl, h1, z, fun H' O' d' v' G' t k r => ⟨v', vs', G', G2, rfl, r, RepL.tr t _ _ _ h2 k, fun _ => rfl⟩⟩
  | d :: ds, vs, F, j + 1, d0, h, e => by
    obtain ⟨v, vs', G1, G2, e1, h1, h2, z⟩ := h
    simp at e
    subst e1
    obtain ⟨v0, G, R, a1, a2, a3, a4⟩ := RepL.at h2 e
    refine ⟨v0, G, fun a => G1 a + R a, by simpa using a1, a2, fun a => by dsimp only; rw [z a, a3 a]; omega, fun H' O' d' v' G' t k r => ?_⟩
    rw [List.set_cons_succ, List.set_cons_succ]
    exact ⟨v, vs'.set j v', G1, fun a => G' a + R a, rfl, Rep.tr t _ _ _ h1 (fun a xs q => k a xs (by show 1 ≤ G1 a + R a; omega)), a4 H' O' d' v' G' t (fun a xs q => k a xs (by show 1 ≤ G1 a + R a; omega)) r, fun a => by dsimp only; omega⟩
theorem tr_upd {p : Addr} {vs us : List V} (hp : H p = some (.lst vs)) (h1 : O p) : Tr H O (upd H p (.lst us)) O := by
  have ne : ∀ a o, H a = some o → (∀ xs, o ≠ .lst xs) → a ≠ p := fun a o e h q => by subst q; rw [hp] at e; cases e; exact h _ rfl
  refine ⟨fun a xs h => by rw [upd_ne (ne a _ h fun _ e => by cases e)]; exact h, fun a o u h => by rw [upd_ne (ne a _ h fun _ e => by cases e)]; exact h, fun a xs n h => ?_⟩
  have : a ≠ p := fun q => by subst q; exact n h1
  exact ⟨by rw [upd_ne this]; exact h, n⟩
/-- the thing at places within -/
theorem Rep.atV : ∀ {qs : List D} {d x : D} {v : V} {G : Ct}, Rep K H O d v G → atP d qs = some x → ∃ u G', AtV H v qs u ∧ Rep K H O x u G'
  | [], d, x, v, G, h, e => by cases e; exact ⟨v, G, rfl, h⟩
  | q :: qs, d, x, v, G, h, e => by
    obtain ⟨xs, i, j, y, rfl, rfl, b3, b4, b2⟩ := atP_cons e
    obtain ⟨p, vs, G0, rfl, h1, h2, z⟩ := h
    obtain ⟨w, G1, R, a1, a2, _, _⟩ := RepL.at h2 b4
    obtain ⟨u, G2, c1, c2⟩ := Rep.atV a2 b2
    exact ⟨u, G2, ⟨p, vs, j, w, rfl, h1, by rw [h2.length]; exact b3, a1, c1⟩, c2⟩
/-- a list of ours at places within, changed -/
theorem Rep.focus : ∀ {qs : List D} {d : D} {xs : List D} {v : V} {G : Ct}, Rep K H O d v G → (∀ a, G a ≤ 1) → (∀ a, 1 ≤ G a → O a) → atP d qs = some (.lst true xs) →
    ∃ (p : Addr) (vs : List V) (Gx Rm : Ct), AtV H v qs (.ref p) ∧ H p = some (.lst vs) ∧ RepL K H O xs vs Gx ∧ (∀ a, G a = Rm a + Gx a + (if a = p then 1 else 0)) ∧
      ∀ (us : List V) (ys : List D) (Gy : Ct) (d' : D), putP d qs (.lst true ys) = some d' → RepL K (upd H p (.lst us)) O ys us Gy → Rep K (upd H p (.lst us)) O d' v fun a => Rm a + Gy a + (if a = p then 1 else 0)
  | [], d, xs, v, G, h, one, hO, e => by
    cases e
    obtain ⟨p, vs, Gx, rfl, h1, h2, z⟩ := h
    refine ⟨p, vs, Gx, z0, rfl, h1, h2, fun a => by rw [z a]; show _ = 0 + Gx a + _; omega, fun us ys Gy d' e r => ?_⟩
    cases e
    exact ⟨p, us, Gy, rfl, upd_same, r, fun a => by show 0 + Gy a + _ = _; omega⟩
  | q :: qs, d, xs, v, G, h, one, hO, e => by
    obtain ⟨zs, i, j, y, rfl, rfl, b3, b4, b2⟩ := atP_cons e
    obtain ⟨p0, vs0, G0, rfl, h1, h2, z⟩ := h
    obtain ⟨w, G1, R1, a1, a2, a3, a4⟩ := RepL.at h2 b4
    obtain ⟨p, vs, Gx, Rm, c1, c2, c3, c4, c5⟩ := Rep.focus a2 (fun a => by have := one a; rw [z a, a3 a] at this; omega) (fun a q => hO a (by rw [z a, a3 a]; omega)) b2
    have hp : 1 ≤ G p := by have := z p; have := a3 p; have := c4 p; rw [if_pos rfl] at this; omega
    have np : p0 ≠ p := fun q => by
      subst q
      have o := one p0
      have q1 := z p0; have q2 := a3 p0; have q3 := c4 p0
      rw [if_pos rfl] at q1 q3
      omega
    refine ⟨p, vs, Gx, fun a => Rm a + R1 a + (if a = p0 then 1 else 0), ⟨p0, vs0, j, w, rfl, h1, by rw [h2.length]; exact b3, a1, c1⟩, c2, c3, fun a => by dsimp only; rw [z a, a3 a, c4 a]; omega, fun us ys Gy d' e2 r2 => ?_⟩
    obtain ⟨j', y', y'', e3, e5, e7, rfl⟩ := putP_cons (q := .non) e2
    rw [b3] at e3
    cases e3
    rw [b4] at e5
    cases e5
    have r3 := c5 us ys Gy y'' e7 r2
    have t := tr_upd (us := us) c2 (hO p hp)
    have r4 := a4 (upd H p (.lst us)) O y'' w _ t (fun a xs q h => by
      have : a ≠ p := fun q2 => by
        subst q2
        have o := one a
        have q1 := z a; have q2 := a3 a; have q3 := c4 a
        rw [if_pos rfl] at q3
        omega
      rw [upd_ne this]; exact h) r3
    rw [set_self a1] at r4
    refine ⟨p0, vs0, _, rfl, by rw [upd_ne np]; exact h1, r4, fun a => ?_⟩
    dsimp only
    omega
end

section
variable {K : PySem.W.Frag} {H : Hp} {W : Wd} {σD : S} {σV : L2.St} {T : List (D × V)} {F : Ct} {d : D}
theorem Good.atV {i : Nat} {qs : List D} {x : D} (g : Good K W H σD σV T F) (e : σD[i]? = some (some d)) (ha : atP d qs = some x) : ∃ v u, σV[i]? = some (some v) ∧ AtV H v qs u ∧ PRep K W H F x u := by
  obtain ⟨v, e1, G, r⟩ := g.var e
  obtain ⟨u, G', a1, a2⟩ := r.atV ha
  exact ⟨v, u, e1, a1, G', a2⟩
/-- a list of ours at a name and places, changed -/
theorem Good.mut {i : Nat} {qs xs : List D} (g : Good K W H σD σV T F) (e : σD[i]? = some (some d)) (ha : atP d qs = some (.lst true xs)) :
    ∃ (v : V) (p : Addr) (vs : List V) (Gx Ft : Ct), σV[i]? = some (some v) ∧ AtV H v qs (.ref p) ∧ H p = some (.lst vs) ∧ RepL K H (Own W F) xs vs Gx ∧ RepT K H (Own W F) T Ft ∧ Gx p = 0 ∧ Ft p = 0 ∧ 1 ≤ F p ∧
      ∀ (us : List V) (ys : List D) (Gy : Ct) (T' : List (D × V)) (Ft' : Ct) (d' : D), putP d qs (.lst true ys) = some d' → (∀ a, Gy a + Ft' a ≤ Gx a + Ft a) → RepL K (upd H p (.lst us)) (Own W F) ys us Gy → RepT K (upd H p (.lst us)) (Own W F) T' Ft' →
        ∃ F', Good K W (upd H p (.lst us)) (σD.set i (some d')) σV T' F' := by
  obtain ⟨Fs, Ft, r1, r2, z⟩ := g.rep
  obtain ⟨v, G1, G2, a1, a2, a3, a4⟩ := r1.get e
  obtain ⟨p, vs, Gx, Rm, c1, c2, c3, c4, c5⟩ := a2.focus (fun a => by have := g.one a; rw [z a, a4 a] at this; omega) (fun a q => .inl (by rw [z a, a4 a]; omega)) ha
  have hp : 1 ≤ F p := by have q1 := z p; have q2 := a4 p; have q3 := c4 p; rw [if_pos rfl] at q3; omega
  have hz : Gx p = 0 ∧ Ft p = 0 ∧ G2 p = 0 := by have o := g.one p; have q1 := z p; have q2 := a4 p; have q3 := c4 p; rw [if_pos rfl] at q3; omega
  refine ⟨v, p, vs, Gx, Ft, a1, c1, c2, c3, r2, hz.1, hz.2.1, hp, fun us ys Gy T' Ft' d' e2 l rl rt => ?_⟩
  have t := tr_upd (O := Own W F) (us := us) c2 (.inl hp)
  have s1 := RepS.put (RepS.tr t a3 fun a xs q h => by
    rw [upd_ne (fun q2 => by subst q2; omega)]; exact h) (List.getElem?_eq_some_iff.mp e).1 (c5 us ys Gy d' e2 rl)
  rw [set_self a1] at s1
  have l2 : ∀ a, (fun a => (Rm a + Gy a + (if a = p then 1 else 0)) + G2 a + Ft' a) a ≤ F a := fun a => by
    dsimp only
    have := l a
    rw [z a, a4 a, c4 a]; omega
  have t2 := own_sub (H := upd H p (.lst us)) (W := W) l2
  refine ⟨_, ⟨⟨_, Ft', RepS.tr t2 s1 (fun _ _ _ h => h), RepT.tr t2 rt (fun _ _ _ h => h), fun _ => rfl⟩, fun a => Nat.le_trans (l2 a) (g.one a), fun a q => g.new a (Nat.le_trans q (l2 a)), fun a o e n => ?_, g.bw, fun q hq => ?_⟩⟩
  · have : a ≠ p := fun q => by
      subst q
      rcases g.new a hp with h | h
      · omega
      · rw [e] at h; cases h
    rw [upd_ne this]
    exact g.old a o e n
  · obtain ⟨q1, d2, q2⟩ := g.rf q hq
    refine ⟨q1, ?_⟩
    by_cases hpi : i = q.1
    · rw [← hpi]; exact ⟨d', List.getElem?_set_self (List.getElem?_eq_some_iff.mp e).1⟩
    · exact ⟨d2, by rw [List.getElem?_set_ne hpi]; exact q2⟩
end
/-! ### the same for a dict of ours -/
section
variable {K : PySem.W.Frag} {H : Hp} {O : Addr → Prop}
theorem tr_updX {p : Addr} {o0 o1 : HO} (hp : H p = some o0) (hw : Ownd o0) (h1 : O p) : Tr H O (upd H p o1) O := by
  have ne : ∀ a o, H a = some o → ¬ Ownd o → a ≠ p := fun a o e h q => by subst q; rw [hp] at e; cases e; exact h hw
  refine ⟨fun a xs h => by rw [upd_ne (ne a _ h (by rintro (⟨_, q⟩ | ⟨_, q⟩) <;> cases q))]; exact h, fun a o u h => by rw [upd_ne (ne a _ h (by rintro (⟨_, q⟩ | ⟨_, q⟩) <;> cases q))]; exact h, fun a xs n h => ?_⟩
  have : a ≠ p := fun q => by subst q; exact n h1
  exact ⟨by rw [upd_ne this]; exact h, n⟩
theorem Rep.focusD : ∀ {qs : List D} {d : D} {ks ws : List D} {v : V} {G : Ct}, Rep K H O d v G → (∀ a, G a ≤ 1) → (∀ a, 1 ≤ G a → O a) → atP d qs = some (.dic true ks ws) →
    ∃ (p : Addr) (rows : List Row) (Gx Rm : Ct), AtV H v qs (.ref p) ∧ H p = some (DicO p rows) ∧ nkL ks = some (rows.map (·.1)) ∧ RepL K H O ks (rows.map (·.2.1)) z0 ∧ RepL K H O ws (rows.map (·.2.2)) Gx ∧ (∀ a, G a = Rm a + Gx a + (if a = p then 1 else 0)) ∧
      ∀ (rows' : List Row) (ks' ws' : List D) (Gy : Ct) (d' : D), putP d qs (.dic true ks' ws') = some d' → nkL ks' = some (rows'.map (·.1)) → RepL K (upd H p (DicO p rows')) O ks' (rows'.map (·.2.1)) z0 → RepL K (upd H p (DicO p rows')) O ws' (rows'.map (·.2.2)) Gy →
        Rep K (upd H p (DicO p rows')) O d' v fun a => Rm a + Gy a + (if a = p then 1 else 0)
  | [], d, ks, ws, v, G, h, one, hO, e => by
    cases e
    obtain ⟨p, rows, Gx, rfl, h1, hk, h2, h3, z⟩ := h
    refine ⟨p, rows, Gx, z0, rfl, h1, hk, h2, h3, fun a => by rw [z a]; show _ = 0 + Gx a + _; omega, fun rows' ks' ws' Gy d' e n1 r1 r2 => ?_⟩
    cases e
    exact ⟨p, rows', Gy, rfl, upd_same, n1, r1, r2, fun a => by show 0 + Gy a + _ = _; omega⟩
  | q :: qs, d, ks, ws, v, G, h, one, hO, e => by
    obtain ⟨zs, i, j, y, rfl, rfl, b3, b4, b2⟩ := atP_cons e
    obtain ⟨p0, vs0, G0, rfl, h1, h2, z⟩ := h
    obtain ⟨w, G1, R1, a1, a2, a3, a4⟩ := RepL.at h2 b4
    obtain ⟨p, rows, Gx, Rm, c1, c2, ck, c3, c3', c4, c5⟩ := Rep.focusD a2 (fun a => by have := one a; rw [z a, a3 a] at this; omega) (fun a q => hO a (by rw [z a, a3 a]; omega)) b2
    have hp : 1 ≤ G p := by have := z p; have := a3 p; have := c4 p; rw [if_pos rfl] at this; omega
    have np : p0 ≠ p := fun q => by
      subst q
      have o := one p0
      have q1 := z p0; have q2 := a3 p0; have q3 := c4 p0
      rw [if_pos rfl] at q1 q3
      omega
    refine ⟨p, rows, Gx, fun a => Rm a + R1 a + (if a = p0 then 1 else 0), ⟨p0, vs0, j, w, rfl, h1, by rw [h2.length]; exact b3, a1, c1⟩, c2, ck, c3, c3', fun a => by dsimp only; rw [z a, a3 a, c4 a]; omega, fun rows' ks' ws' Gy d' e2 n1 r1 r2 => ?_⟩
    obtain ⟨j', y', y'', e3, e5, e7, rfl⟩ := putP_cons (q := .non) e2
    rw [b3] at e3
    cases e3
    rw [b4] at e5
    cases e5
    have r3 := c5 rows' ks' ws' Gy y'' e7 n1 r1 r2
    have t := tr_updX (o1 := DicO p rows') c2 (.inr ⟨_, rfl⟩) (hO p hp)
    have r4 := a4 (upd H p (DicO p rows')) O y'' w _ t (fun a xs q h => by
      have : a ≠ p := fun q2 => by
        subst q2
        have o := one a
        have q1 := z a; have q2 := a3 a; have q3 := c4 a
        rw [if_pos rfl] at q3
        omega
      rw [upd_ne this]; exact h) r3
    rw [set_self a1] at r4
    refine ⟨p0, vs0, _, rfl, by rw [upd_ne np]; exact h1, r4, fun a => ?_⟩
    dsimp only
    omega
end
section
variable {K : PySem.W.Frag} {H : Hp} {W : Wd} {σD : S} {σV : L2.St} {T : List (D × V)} {F : Ct} {d : D}
theorem Good.mutD {i : Nat} {qs ks ws : List D} (g : Good K W H σD σV T F) (e : σD[i]? = some (some d)) (ha : atP d qs = some (.dic true ks ws)) :
    ∃ (v : V) (p : Addr) (rows : List Row) (Gx Ft : Ct), σV[i]? = some (some v) ∧ AtV H v qs (.ref p) ∧ H p = some (DicO p rows) ∧ nkL ks = some (rows.map (·.1)) ∧ RepL K H (Own W F) ks (rows.map (·.2.1)) z0 ∧ RepL K H (Own W F) ws (rows.map (·.2.2)) Gx ∧ RepT K H (Own W F) T Ft ∧ Gx p = 0 ∧ Ft p = 0 ∧ 1 ≤ F p ∧
      ∀ (rows' : List Row) (ks' ws' : List D) (Gy : Ct) (T' : List (D × V)) (Ft' : Ct) (d' : D), putP d qs (.dic true ks' ws') = some d' → (∀ a, Gy a + Ft' a ≤ Gx a + Ft a) → nkL ks' = some (rows'.map (·.1)) → RepL K (upd H p (DicO p rows')) (Own W F) ks' (rows'.map (·.2.1)) z0 → RepL K (upd H p (DicO p rows')) (Own W F) ws' (rows'.map (·.2.2)) Gy →
        RepT K (upd H p (DicO p rows')) (Own W F) T' Ft' → ∃ F', Good K W (upd H p (DicO p rows')) (σD.set i (some d')) σV T' F' := by
  obtain ⟨Fs, Ft, r1, r2, z⟩ := g.rep
  obtain ⟨v, G1, G2, a1, a2, a3, a4⟩ := r1.get e
  obtain ⟨p, rows, Gx, Rm, c1, c2, ck, c3, c3', c4, c5⟩ := a2.focusD (fun a => by have := g.one a; rw [z a, a4 a] at this; omega) (fun a q => .inl (by rw [z a, a4 a]; omega)) ha
  have hp : 1 ≤ F p := by have q1 := z p; have q2 := a4 p; have q3 := c4 p; rw [if_pos rfl] at q3; omega
  have hz : Gx p = 0 ∧ Ft p = 0 ∧ G2 p = 0 := by have o := g.one p; have q1 := z p; have q2 := a4 p; have q3 := c4 p; rw [if_pos rfl] at q3; omega
  refine ⟨v, p, rows, Gx, Ft, a1, c1, c2, ck, c3, c3', r2, hz.1, hz.2.1, hp, fun rows' ks' ws' Gy T' Ft' d' e2 l n1 rk rl rt => ?_⟩
  have t := tr_updX (O := Own W F) (o1 := DicO p rows') c2 (.inr ⟨_, rfl⟩) (.inl hp)
  have s1 := RepS.put (RepS.tr t a3 fun a xs q h => by
    rw [upd_ne (fun q2 => by subst q2; omega)]; exact h) (List.getElem?_eq_some_iff.mp e).1 (c5 rows' ks' ws' Gy d' e2 n1 rk rl)
  rw [set_self a1] at s1
  have l2 : ∀ a, (fun a => (Rm a + Gy a + (if a = p then 1 else 0)) + G2 a + Ft' a) a ≤ F a := fun a => by
    dsimp only
    have := l a
    rw [z a, a4 a, c4 a]; omega
  have t2 := own_sub (H := upd H p (DicO p rows')) (W := W) l2
  refine ⟨_, ⟨⟨_, Ft', RepS.tr t2 s1 (fun _ _ _ h => h), RepT.tr t2 rt (fun _ _ _ h => h), fun _ => rfl⟩, fun a => Nat.le_trans (l2 a) (g.one a), fun a q => g.new a (Nat.le_trans q (l2 a)), fun a o e n => ?_, g.bw, fun q hq => ?_⟩⟩
  · have : a ≠ p := fun q => by
      subst q
      rcases g.new a hp with h | h
      · omega
      · rw [e] at h; cases h
    rw [upd_ne this]
    exact g.old a o e n
  · obtain ⟨q1, d2, q2⟩ := g.rf q hq
    refine ⟨q1, ?_⟩
    by_cases hpi : i = q.1
    · rw [← hpi]; exact ⟨d', List.getElem?_set_self (List.getElem?_eq_some_iff.mp e).1⟩
    · exact ⟨d2, by rw [List.getElem?_set_ne hpi]; exact q2⟩
end
/-! ### a store, by rows -/
section
variable {K : PySem.W.Frag} {H : Hp} {O : Addr → Prop}
theorem nk_frz : ∀ {d : D} {k : NestedKey}, nk d = some k → frz d = true
  | .non, _, _ => rfl
  | .bl _, _, _ => rfl
  | .int _, _, _ => rfl
  | .str _, _, _ => rfl
  | .tup xs, k, h => by
    unfold nk at h
    obtain ⟨ks, e, rfl⟩ := Option.map_eq_some_iff.mp h
    unfold frz
    exact nkL_frz e
  | .lst _ _, k, h => by unfold nk at h; cases h
  | .dic _ _ _, k, h => by unfold nk at h; cases h
  | .scr _, k, _ => rfl
where nkL_frz : ∀ {ds : List D} {ks : List NestedKey}, nkL ds = some ks → frzL ds = true
  | [], _, _ => rfl
  | d :: ds, ks, h => by
    unfold nkL at h
    obtain ⟨k, e1, h⟩ := Option.bind_eq_some_iff.mp h
    obtain ⟨ks', e2, rfl⟩ := Option.map_eq_some_iff.mp h
    unfold frzL
    rw [nk_frz e1, nkL_frz e2]; rfl
theorem hasK_any {k : D} {q : NestedKey} (eq : nk k = some q) : ∀ {ks : List D} {rows : List Row}, nkL ks = some (rows.map (·.1)) → hasK ks k = rows.any fun r => decide (r.1 = q)
  | [], rows, h => by rw [rows_nil h]; rfl
  | j :: js, rows, h => by
    obtain ⟨r0, rs, q0, rfl, e1, e2, e3⟩ := rows_cons h
    unfold hasK
    rw [List.any_cons, List.any_cons, sameK_iff e1 eq, e2]
    have := hasK_any eq e3
    unfold hasK at this
    rw [this]
theorem put_vs {k n : D} {q : NestedKey} {y u : V} {Gn : Ct} (eq : nk k = some q) (rn : Rep K H O n u Gn) (zn : ∀ a, Gn a = 0) : ∀ {ks vs : List D} {rows : List Row} {G : Ct}, nkL ks = some (rows.map (·.1)) → RepL K H O vs (rows.map (·.2.2)) G → vs.length = ks.length →
    ∃ G', RepL K H O (putVs ks vs k n) ((rows.map fun r => if r.1 = q then (r.1, r.2.1, u) else r).map (·.2.2)) G' ∧ ∀ a, G' a ≤ G a
  | [], vs, rows, G, h, r, hl => by
    rw [rows_nil h]
    unfold putVs
    exact ⟨z0, ⟨rfl, fun _ => rfl⟩, fun _ => Nat.zero_le _⟩
  | j :: js, [], rows, G, h, r, hl => by cases hl
  | j :: js, d :: ds, rows, G, h, r, hl => by
    obtain ⟨r0, rs, q0, rfl, e1, e2, e3⟩ := rows_cons h
    rw [List.map_cons] at r
    obtain ⟨v, vs', G1, G2, e4, r1, r2, z⟩ := r
    cases e4
    obtain ⟨G', i1, i2⟩ := put_vs (y := y) eq rn zn e3 r2 (by simpa using hl)
    unfold putVs
    rw [List.map_cons, List.map_cons, sameK_iff e1 eq]
    by_cases hq : q0 = q
    · rw [decide_eq_true hq, if_pos rfl, if_pos (e2.trans hq)]
      exact ⟨fun a => Gn a + G' a, ⟨u, _, Gn, G', rfl, rn, i1, fun _ => rfl⟩, fun a => by dsimp only; rw [zn a, z a]; have := i2 a; omega⟩
    · rw [decide_eq_false hq, if_neg Bool.false_ne_true, if_neg (fun h => hq (e2.symm.trans h))]
      exact ⟨fun a => G1 a + G' a, ⟨_, _, G1, G', rfl, r1, i1, fun _ => rfl⟩, fun a => by dsimp only; rw [z a]; have := i2 a; omega⟩
theorem nkL_snoc {k : D} {q : NestedKey} (eq : nk k = some q) : ∀ {ks : List D} {qs : List NestedKey}, nkL ks = some qs → nkL (ks ++ [k]) = some (qs ++ [q])
  | [], qs, h => by unfold nkL at h; cases h; show (nk k).bind _ = _; rw [eq]; rfl
  | j :: js, qs, h => by
    unfold nkL at h
    obtain ⟨q0, e1, h⟩ := Option.bind_eq_some_iff.mp h
    obtain ⟨ks', e2, rfl⟩ := Option.map_eq_some_iff.mp h
    rw [List.cons_append]
    unfold nkL
    rw [e1, nkL_snoc eq e2]; rfl
theorem put_rows {k n : D} {q : NestedKey} {y u : V} {Gk Gn : Ct} (eq : nk k = some q) (rk : Rep K H O k y Gk) (rn : Rep K H O n u Gn) (zn : ∀ a, Gn a = 0) {ks vs : List D} {rows : List Row} {G : Ct} (h : nkL ks = some (rows.map (·.1))) (h1 : RepL K H O ks (rows.map (·.2.1)) z0) (h2 : RepL K H O vs (rows.map (·.2.2)) G) :
    ∃ G', nkL (putK ks vs k n).1 = some ((putR rows q y u).map (·.1)) ∧ RepL K H O (putK ks vs k n).1 ((putR rows q y u).map (·.2.1)) z0 ∧ RepL K H O (putK ks vs k n).2 ((putR rows q y u).map (·.2.2)) G' ∧ ∀ a, G' a ≤ G a := by
  have hl : vs.length = ks.length := by
    have l1 := h2.length
    have l2 := nkL_len h
    rw [List.length_map] at l1 l2
    omega
  have zk : ∀ a, Gk a = 0 := Rep.frz0 _ _ _ rk (nk_frz eq)
  unfold putK putR
  rw [hasK_any eq h]
  split
  · obtain ⟨G', i1, i2⟩ := put_vs (y := y) eq rn zn h h2 hl
    refine ⟨G', ?_, ?_, i1, i2⟩
    · rw [h, List.map_map]
      congr 1
      refine List.map_congr_left fun r _ => ?_
      show r.1 = (if r.1 = q then (r.1, r.2.1, u) else r).1
      split <;> rfl
    · have : (rows.map fun r => if r.1 = q then (r.1, r.2.1, u) else r).map (·.2.1) = rows.map (·.2.1) := by
        rw [List.map_map]
        refine List.map_congr_left fun r _ => ?_
        show (if r.1 = q then (r.1, r.2.1, u) else r).2.1 = r.2.1
        split <;> rfl
      rw [this]
      exact h1
  · refine ⟨fun a => G a + Gn a, ?_, ?_, ?_, fun a => by dsimp only; rw [zn a]; omega⟩
    · rw [List.map_append]; exact nkL_snoc eq h
    · rw [List.map_append]
      exact RepL.ct (h1.append ⟨y, [], Gk, z0, rfl, rk, ⟨rfl, fun _ => rfl⟩, fun a => rfl⟩) fun a => by show 0 = 0 + (Gk a + 0); rw [zk a]
    · rw [List.map_append]
      exact RepL.ct (h2.append ⟨u, [], Gn, z0, rfl, rn, ⟨rfl, fun _ => rfl⟩, fun a => rfl⟩) fun a => rfl
end
end Tw

set_option Elab.async false
set_option linter.all false
set_option maxRecDepth 100000
/-! Tw.EvQ: changes in place: the code. -/
namespace Tw
open PySem PySem.Spec PyProof.Rows L2

/-- a thing at a name and places -/
def tO (K : PySem.W.Frag) (W : Wd) (ev : Env) (i : Nat) (m : Sm (List D)) (cb : Bool) : TE := fun σV H Q => ∃ σD T F, Good K W H σD σV T F ∧ ∃ qs σD', m ev σD = .ok qs σD' ∧
  ∀ v0 v H' F', σV[i]? = some (some v0) → AtV H' v0 qs v → Good K W H' σD' σV T F' → (cb = true → Ext H H' F F') → Q v H'
theorem chkP_ok {i : Nat} {qs rs : List D} {ev : Env} {s s' : S} (h : chkP i qs ev s = .ok rs s') : rs = qs ∧ s' = s ∧ ∃ d x, s[i]? = some (some d) ∧ atP d qs = some x := by
  unfold chkP at h
  split at h
  · rename_i d e
    split at h
    · rename_i x e2
      cases h
      exact ⟨rfl, rfl, d, x, e, e2⟩
    · cases h
  · cases h
theorem AtV.last {H : Hp} {q : D} : ∀ {qs : List D} {v u : V}, AtV H v (qs ++ [q]) u → ∃ i, q = .int i
  | [], v, u, h => by
    cases q with
    | int i => exact ⟨i, rfl⟩
    | _ => exact h.elim
  | .int k :: r, v, u, h => by
    obtain ⟨p, vs, j, w, a, b, c, d, e⟩ := h
    exact AtV.last e
  | .non :: _, _, _, h => h.elim
  | .bl _ :: _, _, _, h => h.elim
  | .str _ :: _, _, _, h => h.elim
  | .tup _ :: _, _, _, h => h.elim
  | .lst _ _ :: _, _, _, h => h.elim
  | .dic _ _ _ :: _, _, _, h => h.elim
  | .scr _ :: _, _, _, h => h.elim
section
variable {X : Cx} {W : Wd} {ev : Env} {a b e o : Expr} {ca cb ck : Sm D} {ga gb gk g : Bool} {pos p : Pos} {i : Nat} {ps : List (Sm D)} {m : Sm (List D)}
theorem so_name {x : Str} (hN : X.N[i]? = some x) (hv : Vis X.env.scope x) (hd : (x == ("__debug__" : Str)) = false) (hcd : (x == ("__classdict__" : Str)) = false) : PE X (.Name x pos) (tO X.K W ev i (pthR i []) true) :=
  PE.imp (pe_var (i := i) hN hv hd hcd) fun σ H Q q => by
    obtain ⟨σD, T, F, gd, qs, σD', ec, k⟩ := q
    obtain ⟨rfl, rfl, d, x', e1, e2⟩ := chkP_ok (show chkP i [] ev σD = .ok qs σD' from ec)
    obtain ⟨v, e3, _⟩ := gd.var e1
    exact ⟨v, e3, k v v H F e3 rfl gd fun _ => Ext.refl⟩
theorem so_sub (hb0 : ixPlain b = true) (ho : PE X o (tO X.K W ev i (pthR i ps) g)) (hb : PE X b (tP X.K W ev cb true)) : PE X (.Subscript o b pos) (tO X.K W ev i (pthR i (cb :: ps)) g) :=
  PE.imp (pe_ix ix_seq ho hb (ixPlain_ok hb0)) fun σ H Q q => by
    obtain ⟨σD, T, F, gd, qs0, σD', ec, kk⟩ := q
    obtain ⟨qs, s1, e1, ec⟩ := bnd_ok (show bnd (pthR i ps) (fun qs => bnd cb fun q => chkP i (qs ++ [q])) ev σD = .ok qs0 σD' from ec)
    obtain ⟨q, s2, e2, ec⟩ := bnd_ok ec
    obtain ⟨rfl, rfl, d, x, e3, e4⟩ := chkP_ok ec
    refine ⟨σD, T, F, gd, qs, s1, e1, fun v0 v H1 F1 ev' hat g1 x1 => ⟨s1, T, F1, g1, q, σD', e2, fun y H2 F2 g2 p2 x2 => ?_⟩⟩
    obtain ⟨v0', u, e5, hat2, pu⟩ := g2.atV e3 e4
    rw [ev'] at e5
    cases e5
    obtain ⟨k, rfl⟩ := hat2.last
    obtain ⟨w, h1, h2⟩ := hat2.snoc
    have : w = v := h1.det (hat.keep (x2 rfl).keep)
    subst this
    obtain ⟨p, vs, j, w', rfl, h3, h4, h5, h6⟩ := h2
    cases h6
    refine .inl ⟨p, vs, k, u, rfl, p2.int, .inl (.inl h3), ?_, kk v0 u H2 F2 ev' hat2 g2 fun h => (x1 h).trans (x2 rfl)⟩
    unfold atI
    rw [h4]
    exact h5
theorem pthL_ok {qs : List D} {s s' : S} (h : pthL i ps ev s = .ok qs s') : pthR i ps ev s = .ok qs s' ∧ ∃ d xs, s'[i]? = some (some d) ∧ atP d qs = some (.lst true xs) := by
  obtain ⟨qs', s1, e1, h⟩ := bnd_ok h
  split at h
  · rename_i d e
    split at h
    · rename_i xs e2
      cases h
      exact ⟨e1, d, xs, e, e2⟩
    · cases h
  · cases h
theorem updP_ok {f : D → Option (D × D)} {qs : List D} {r : D} {s s' : S} (h : updP i qs f ev s = .ok r s') : ∃ d x n d', s[i]? = some (some d) ∧ atP d qs = some x ∧ f x = some (n, r) ∧ putP d qs n = some d' ∧ s' = s.set i (some d') := by
  unfold updP at h
  split at h
  · rename_i d e
    split at h
    · rename_i n r' e2
      split at h
      · rename_i d' e3
        cases h
        obtain ⟨x, e4, e5⟩ := Option.bind_eq_some_iff.mp e2
        exact ⟨d, x, n, d', e, e4, e5, e3, rfl⟩
      · cases h
    · cases h
  · cases h
theorem pthR_nil {qs : List D} {s s' : S} (h : pthR i [] ev s = .ok qs s') : qs = [] := (chkP_ok (show chkP i [] ev s = .ok qs s' from h)).1
/-- o.m(e): of a list of ours -/
theorem meth_read {K : PySem.W.Frag} {f : D → D → Option (D × D)} {r : V → List V → Hp → VK → Prop} {σ : L2.St} {H : Hp} {Q : VK} (hg : ga = true ∨ ps = [])
    (hr : ∀ (H : Hp) (σD : S) (T : List (D × V)) (F : Ct) (v0 : V) (y : V) (dv d d' x n rr : D) (qs : List D) (v : V), Good K W H σD σ ((dv, y) :: T) F → σD[i]? = some (some d) → atP d qs = some x → f dv x = some (n, rr) → putP d qs n = some d' → σ[i]? = some (some v0) → AtV H v0 qs v →
      (∀ u H' F', Good K W H' (σD.set i (some d')) σ ((rr, u) :: T) F' → Q u H') → r v [y] H Q)
    (q : tE K W ev (bnd (pthL i ps) fun qs => bnd ca fun v => updP i qs (f v)) false σ H Q) : tBM K "list" r (tO K W ev i (pthR i ps) g) (tEs K W ev (sq [ca]) ga) σ H Q := by
  obtain ⟨σD, T, F, gd, rr, σD', ec, kk⟩ := q
  obtain ⟨qs, s1, e1, ec⟩ := bnd_ok ec
  obtain ⟨dv, s2, e2, ec⟩ := bnd_ok ec
  obtain ⟨e3, dl, xl, e4, e5⟩ := pthL_ok e1
  obtain ⟨d, x, n, d', e6, e7, e8, e9, rfl⟩ := updP_ok ec
  refine ⟨σD, T, F, gd, qs, s1, e3, fun v0 v H1 F1 ev' hat g1 _ => ⟨?_, s1, T, F1, g1, [dv], s2, ?_, fun vs H2 F2 hl g2 x2 => ?_⟩⟩
  · obtain ⟨v0', u, e10, hat2, pu⟩ := g1.atV e4 e5
    rw [ev'] at e10
    cases e10
    have := hat2.det hat
    subst this
    obtain ⟨p, vs, _, rfl, h1, _⟩ := pu.lst
    exact .inl ⟨rfl, vs, .inl (.inl h1)⟩
  · show bnd ca (fun x => bnd (sq []) fun xs => ret (x :: xs)) ev s1 = .ok [dv] s2
    unfold bnd
    rw [e2]
    rfl
  · match vs, hl, g2 with
    | [y], _, g2 =>
      have hat2 : AtV H2 v0 qs v := by
        rcases hg with hg | hg
        · exact hat.keep (x2 hg).keep
        · subst hg
          rw [pthR_nil e3] at hat ⊢
          exact hat
      exact hr H2 s2 T F2 v0 y dv d d' x n rr qs v g2 e6 e7 e8 e9 ev' hat2 fun u H' F' g' => kk u H' F' g' fun h => by cases h
    | [], hl, _ => cases hl
    | _ :: _ :: _, hl, _ => cases hl
theorem appD_ok {v x n r : D} (h : appD v x = some (n, r)) : ∃ xs, x = .lst true xs ∧ xs.length + 1 ≤ sizeLine ∧ n = .lst true (xs ++ [v]) ∧ r = .non := by
  unfold appD at h
  split at h
  · split at h
    · rename_i xs hz
      cases h
      exact ⟨xs, rfl, of_decide_eq_true hz, rfl, rfl⟩
    · cases h
  · cases h
theorem extD_ok {v x n r : D} (h : extD v x = some (n, r)) : ∃ xs o ys, x = .lst true xs ∧ v = .lst o ys ∧ xs.length + ys.length ≤ sizeLine ∧ frzL ys = true ∧ n = .lst true (xs ++ ys) ∧ r = .non := by
  unfold extD at h
  split at h
  · split at h
    · split at h
      · rename_i xs _ o ys hz
        cases h
        rw [Bool.and_eq_true] at hz
        exact ⟨xs, o, ys, rfl, rfl, of_decide_eq_true hz.1, hz.2, rfl, rfl⟩
      · cases h
    · cases h
  · cases h
theorem s_append {apos : Pos} (hbase : attributeBase o "append" X.env (eval o X.env) = eval o X.env) (hline : (apos.endLine == pos.line) = true) (hs : noStar e = true) (hg : ga = true ∨ ps = []) (ho : PE X o (tO X.K W ev i (pthR i ps) g)) (ha : PA X [e] (tEs X.K W ev (sq [ca]) ga)) :
    PE X (.Call (.Attribute o "append" apos) [e] [] pos) (tE X.K W ev (append i ps ca) false) :=
  PE.imp (pe_bm F.plainAttrs_list F.slot_list_append F.type_list_append mt_append ho ha hbase (by
      rw [show (backTo pos (starEach [e] X.env)) = _ from rfl, noStar_each hs]; rfl) hline (noStar_each hs)) fun σ H Q q => meth_read hg (fun H σD T F v0 y dv d d' x n rr qs v gd e1 e2 e3 e4 e5 hat kk => by
    obtain ⟨xs, rfl, hz, rfl, rfl⟩ := appD_ok e3
    obtain ⟨v1, p, vs, Gx, Ft, a1, a2, a3, a4, a5, a6, a7, a8, a9⟩ := gd.mut e1 e2
    rw [e5] at a1
    cases a1
    have := a2.det hat
    subst this
    refine ⟨p, vs, y, rfl, rfl, a3, by rw [a4.length]; exact hz, ?_⟩
    obtain ⟨G1, G2, h1, h2, z⟩ := a5
    have hz0 : G1 p = 0 ∧ G2 p = 0 := by have := z p; omega
    have t := tr_upd (O := Own W F) (us := vs ++ [y]) a3 (.inl a8)
    have k : ∀ (G : Ct), G p = 0 → ∀ a o, 1 ≤ G a → H a = some o → upd H p (.lst (vs ++ [y])) a = some o := fun G hG a xs ha h => by
      rw [upd_ne (fun q => by subst q; omega)]; exact h
    obtain ⟨F', g'⟩ := a9 (vs ++ [y]) (xs ++ [dv]) (fun a => Gx a + G1 a) T G2 d' e4 (fun a => by rw [z a]; omega) ((RepL.tr t _ _ _ a4 (k Gx a6)).append ⟨y, [], G1, z0, rfl, Rep.tr t _ _ _ h1 (k G1 hz0.1), ⟨rfl, fun _ => rfl⟩, fun _ => rfl⟩) (h2.tr t (k G2 hz0.2))
    exact kk .non _ F' (g'.scal ⟨rfl, fun _ => rfl⟩)) q
theorem s_extend {apos : Pos} (hbase : attributeBase o "extend" X.env (eval o X.env) = eval o X.env) (hline : (apos.endLine == pos.line) = true) (hs : noStar e = true) (hg : ga = true ∨ ps = []) (ho : PE X o (tO X.K W ev i (pthR i ps) g)) (ha : PA X [e] (tEs X.K W ev (sq [ca]) ga)) :
    PE X (.Call (.Attribute o "extend" apos) [e] [] pos) (tE X.K W ev (extend i ps ca) false) :=
  PE.imp (pe_bm F.plainAttrs_list F.slot_list_extend F.type_list_extend mt_extend ho ha hbase (by
      rw [show (backTo pos (starEach [e] X.env)) = _ from rfl, noStar_each hs]; rfl) hline (noStar_each hs)) fun σ H Q q => meth_read hg (fun H σD T F v0 y dv d d' x n rr qs v gd e1 e2 e3 e4 e5 hat kk => by
    obtain ⟨xs, o, ys, rfl, rfl, hz, hy, rfl, rfl⟩ := extD_ok e3
    obtain ⟨v1, p, vs, Gx, Ft, a1, a2, a3, a4, a5, a6, a7, a8, a9⟩ := gd.mut e1 e2
    rw [e5] at a1
    cases a1
    have := a2.det hat
    subst this
    obtain ⟨q, us, Gq, rfl, b1, b2⟩ := gd.top.lst
    have bz : ∀ a, Gq a = 0 := RepL.frz0 _ _ _ b2 hy
    refine ⟨p, q, vs, us, rfl, rfl, a3, b1, by rw [a4.length, b2.length]; exact hz, ?_⟩
    obtain ⟨G1, G2, h1, h2, z⟩ := a5
    have hz0 : G1 p = 0 ∧ G2 p = 0 := by have := z p; omega
    have t := tr_upd (O := Own W F) (us := vs ++ us) a3 (.inl a8)
    have k : ∀ (G : Ct), G p = 0 → ∀ a o, 1 ≤ G a → H a = some o → upd H p (.lst (vs ++ us)) a = some o := fun G hG a xs ha h => by
      rw [upd_ne (fun q => by subst q; omega)]; exact h
    obtain ⟨F', g'⟩ := a9 (vs ++ us) (xs ++ ys) (fun a => Gx a + Gq a) T G2 d' e4 (fun a => by rw [z a, bz a]; omega) ((RepL.tr t _ _ _ a4 (k Gx a6)).append (RepL.tr t _ _ _ b2 (k Gq (bz p)))) (h2.tr t (k G2 hz0.2))
    exact kk .non _ F' (g'.scal ⟨rfl, fun _ => rfl⟩)) q
theorem RepL.unsnoc {K : PySem.W.Frag} {H : Hp} {O : Addr → Prop} {d : D} : ∀ {as : List D} {vs : List V} {G : Ct}, RepL K H O (as ++ [d]) vs G → ∃ vs' v G1 G2, vs = vs' ++ [v] ∧ RepL K H O as vs' G1 ∧ Rep K H O d v G2 ∧ ∀ a, G a = G1 a + G2 a
  | [], vs, G, h => by
    obtain ⟨v, vs', G1, G2, rfl, h1, h2, z⟩ := h
    obtain ⟨rfl, z2⟩ := h2
    exact ⟨[], v, z0, G1, rfl, ⟨rfl, fun _ => rfl⟩, h1, fun a => by rw [z a, z2 a]; show _ = 0 + G1 a; omega⟩
  | e :: as, vs, G, h => by
    obtain ⟨v, vs', G1, G2, rfl, h1, h2, z⟩ := h
    obtain ⟨us, u, G3, G4, rfl, h3, h4, z2⟩ := RepL.unsnoc h2
    exact ⟨v :: us, u, fun a => G1 a + G3 a, G4, rfl, ⟨v, us, G1, G3, rfl, h1, h3, fun _ => rfl⟩, h4, fun a => by dsimp only; rw [z a, z2 a]; omega⟩
theorem popD_ok {x n r : D} (h : popD x = some (n, r)) : ∃ xs, x = .lst true (xs ++ [r]) ∧ n = .lst true xs := by
  cases x with
  | lst o xs =>
    cases o with
    | true =>
      cases e : xs[xs.length - 1]? with
      | none => simp only [popD, e] at h; cases h
      | some d =>
        simp only [popD, e] at h
        cases h
        refine ⟨xs.dropLast, ?_, rfl⟩
        have hl : xs ≠ [] := fun q => by subst q; simp at e
        have e2 : xs.getLast? = some r := by rw [List.getLast?_eq_getElem?]; exact e
        rw [List.getLast?_eq_some_getLast hl] at e2
        cases e2
        rw [List.dropLast_concat_getLast hl]
    | false => cases h
  | _ => cases h
theorem s_pop {apos : Pos} (hbase : attributeBase o "pop" X.env (eval o X.env) = eval o X.env) (hline : (apos.endLine == pos.line) = true) (ho : PE X o (tO X.K W ev i (pthR i ps) g)) :
    PE X (.Call (.Attribute o "pop" apos) [] [] pos) (tE X.K W ev (pop i ps) false) :=
  PE.imp (pe_bm0 F.plainAttrs_list F.slot_list_pop F.type_list_pop mt_pop ho hbase hline) fun σ H Q q => by
    obtain ⟨σD, T, F, gd, rr, σD', ec, kk⟩ := q
    obtain ⟨qs, s1, e1, ec⟩ := bnd_ok ec
    obtain ⟨e3, dl, xl, e4, e5⟩ := pthL_ok e1
    obtain ⟨d, x, n, d', e6, e7, e8, e9, rfl⟩ := updP_ok ec
    refine ⟨σD, T, F, gd, qs, s1, e3, fun v0 v H1 F1 ev' hat g1 _ => ⟨?_, ?_⟩⟩
    · obtain ⟨v0', u, e10, hat2, pu⟩ := g1.atV e4 e5
      rw [ev'] at e10
      cases e10
      have := hat2.det hat
      subst this
      obtain ⟨p, vs, _, rfl, h1, _⟩ := pu.lst
      exact .inl ⟨rfl, vs, .inl (.inl h1)⟩
    · obtain ⟨xs, rfl, rfl⟩ := popD_ok e8
      obtain ⟨v1, p, vs, Gx, Ft, a1, a2, a3, a4, a5, a6, a7, a8, a9⟩ := g1.mut e6 e7
      rw [ev'] at a1
      cases a1
      have := a2.det hat
      subst this
      obtain ⟨us, u, G1, G2, rfl, b1, b2, z⟩ := a4.unsnoc
      refine ⟨p, _, u, rfl, rfl, a3, by simp, ?_⟩
      rw [List.dropLast_concat]
      have t := tr_upd (O := Own W F1) (us := us) a3 (.inl a8)
      have hz0 : G1 p = 0 ∧ G2 p = 0 := by have := z p; omega
      have k : ∀ (G : Ct), G p = 0 → ∀ a o, 1 ≤ G a → H1 a = some o → upd H1 p (.lst us) a = some o := fun G hG a xs ha h => by
        rw [upd_ne (fun q => by subst q; omega)]; exact h
      obtain ⟨F', g'⟩ := a9 us xs G1 ((rr, u) :: T) (fun a => G2 a + Ft a) d' e9 (fun a => by rw [z a]; omega) (RepL.tr t _ _ _ b1 (k G1 hz0.1)) ⟨G2, Ft, Rep.tr t _ _ _ b2 (k G2 hz0.2), a5.tr t (k Ft a7), fun _ => rfl⟩
      exact kk u _ F' g' fun h => by cases h
theorem setAt_ok {k v x n r : D} (h : setAt k v x = some (n, r)) : (∃ xs i j, x = .lst true xs ∧ k = .int i ∧ ixOf xs.length i = some j ∧ n = .lst true (xs.set j v)) ∨
    (∃ ks vs, x = .dic true ks vs ∧ homK ks k = true ∧ ks.length + 1 ≤ sizeLine ∧ n = .dic true (putK ks vs k v).1 (putK ks vs k v).2) := by
  cases x with
  | lst o xs =>
    cases o with
    | false => cases h
    | true =>
      cases k with
      | int i =>
        obtain ⟨j, e1, e2⟩ := Option.map_eq_some_iff.mp (show (ixOf xs.length i).map (fun j => (D.lst true (xs.set j v), D.non)) = some (n, r) from h)
        cases e2
        exact .inl ⟨xs, i, j, rfl, rfl, e1, rfl⟩
      | _ => cases h
  | dic o ks vs =>
    cases o with
    | false => cases h
    | true =>
      have h : (if (homK ks k && szOk (ks.length + 1)) = true then some (D.dic true (putK ks vs k v).1 (putK ks vs k v).2, D.non) else none) = some (n, r) := h
      split at h
      · rename_i hz
        rw [Bool.and_eq_true] at hz
        cases h
        exact .inr ⟨ks, vs, rfl, hz.1, of_decide_eq_true hz.2, rfl⟩
      · cases h
  | _ => cases h
theorem ixOf_lt {n : Nat} {i : Int} {j : Nat} (h : ixOf n i = some j) : j < n := by
  have h : ixN n i = some j := h
  unfold ixN at h
  split at h
  · split at h
    · cases h; omega
    · cases h
  · split at h
    · cases h; omega
    · cases h
theorem ss_asgP {k : Expr} {spos : Pos} (hu : X.A.units + 80 < cLine) (hb0 : ixPlain k = true) (hg : gk = true ∨ ps = []) (ho : PE X o (tO X.K W ev i (pthR i ps) g)) (hk : PE X k (tP X.K W ev ck gk)) (he : PE X e (tE X.K W ev ca ga))
    (hs : swapsWithSole [.Subscript o k pos] e spos.line X.env = pure false) (hw : swappedStores [.Subscript o k pos] e X.env = pure none) (h1 : (assignEach [.Subscript o k pos] X.env).map (·.2) = [assign (.Subscript o k pos) X.env]) :
    PS X (.Assign [.Subscript o k pos] e spos) (tS X.K W ev (asgP i ps ck ca)) :=
  PS.imp (ps_asg he (pg_sub ho hk (set_all (by omega)) (by cases k <;> first | (intro _; rfl) | exact absurd (show false = true from hb0) Bool.false_ne_true)) hs hw h1) fun D σ H q => by
    obtain ⟨σD, T, F, gd, f, σD', ec, kk⟩ := q
    obtain ⟨dv, s0, e0, ec⟩ := bnd_ok ec
    obtain ⟨qs, s1, e1, ec⟩ := bnd_ok ec
    obtain ⟨dj, s2, e2, ec⟩ := bnd_ok ec
    obtain ⟨hz, ec⟩ := grd_ok ec
    obtain ⟨r, s3, e3, ec⟩ := bnd_ok ec
    obtain ⟨rfl, rfl⟩ := ret_ok ec
    obtain ⟨d, x, n, d', e6, e7, e8, e9, rfl⟩ := updP_ok e3
    refine ⟨σD, T, F, gd, dv, s0, e0, fun xv H0 F0 g0 _ => ⟨s0, (dv, xv) :: T, F0, g0, qs, s1, e1, fun v0 v H1 F1 ev' hat g1 _ => ⟨s1, _, F1, g1, dj, s2, e2, fun y H2 F2 g2 p2 x2 => ?_⟩⟩⟩
    have hat2 : AtV H2 v0 qs v := by
      rcases hg with hg | hg
      · exact hat.keep (x2 hg).keep
      · subst hg
        rw [pthR_nil e1] at hat ⊢
        exact hat
    rcases setAt_ok e8 with ⟨xs, kk', jj, rfl, rfl, hjj, rfl⟩ | ⟨ks, ws, rfl, hom, hsz, rfl⟩
    · obtain ⟨v1, p, vs, Gx, Ft, a1, a2, a3, a4, a5, a6, a7, a8, a9⟩ := g2.mut e6 e7
      rw [ev'] at a1
      cases a1
      have := a2.det hat2
      subst this
      refine .inl ⟨p, vs, kk', jj, rfl, p2.int, a3, by rw [a4.length]; exact hjj, ?_⟩
      obtain ⟨G1, G2, h1, h2, z⟩ := a5
      have z1 : ∀ a, G1 a = 0 := Rep.frz0 _ _ _ h1 hz
      have hz0 : G2 p = 0 := by have := z p; omega
      have t := tr_upd (O := Own W F2) (us := vs.set jj xv) a3 (.inl a8)
      have k : ∀ (G : Ct), G p = 0 → ∀ a o, 1 ≤ G a → H2 a = some o → upd H2 p (.lst (vs.set jj xv)) a = some o := fun G hG a xs ha h => by
        rw [upd_ne (fun q => by subst q; omega)]; exact h
      have hlt := ixOf_lt hjj
      obtain ⟨w, Gw, Rm, b1, b2, b3, b4⟩ := RepL.at a4 (List.getElem?_eq_getElem hlt)
      have hR : Rm p = 0 := by have := b3 p; omega
      obtain ⟨F', g'⟩ := a9 (vs.set jj xv) (xs.set jj dv) (fun a => G1 a + Rm a) T G2 d' e9 (fun a => by rw [z1 a, z a, b3 a]; omega) (b4 _ _ dv xv G1 t (k Rm hR) (Rep.tr t _ _ _ h1 (k G1 (z1 p)))) (h2.tr t (k G2 hz0))
      exact kk _ _ F' g'
    · obtain ⟨v1, p, rows, Gx, Ft, a1, a2, a3, ak, a4, a4', a5, a6, a7, a8, a9⟩ := g2.mutD e6 e7
      rw [ev'] at a1
      cases a1
      have := a2.det hat2
      subst this
      obtain ⟨Gy, p2⟩ := p2
      obtain ⟨q, eq, ko⟩ := kok_of hom ak a4 p2
      have hlen : rows.length = ks.length := by
        have l2 := nkL_len ak
        rw [List.length_map] at l2
        exact l2
      refine .inr ⟨p, rows, q, rfl, a3, ko, by omega, ?_⟩
      obtain ⟨G1, G2, h1, h2, z⟩ := a5
      have z1 : ∀ a, G1 a = 0 := Rep.frz0 _ _ _ h1 hz
      have zy : ∀ a, Gy a = 0 := Rep.frz0 _ _ _ p2 (nk_frz eq)
      have hz0 : G2 p = 0 := by have := z p; omega
      obtain ⟨G', i1, i2, i3, i4⟩ := put_rows eq p2 h1 z1 ak a4 a4'
      have t := tr_updX (O := Own W F2) (o1 := DicO p (putR rows q y xv)) a3 (.inr ⟨_, rfl⟩) (.inl a8)
      have k : ∀ (G : Ct), G p = 0 → ∀ a o, 1 ≤ G a → H2 a = some o → upd H2 p (DicO p (putR rows q y xv)) a = some o := fun G hG a xs ha h => by
        rw [upd_ne (fun q => by subst q; omega)]; exact h
      obtain ⟨F', g'⟩ := a9 (putR rows q y xv) _ _ G' T G2 d' e9 (fun a => by have := i4 a; rw [z a]; omega) i1 (RepL.tr t _ _ _ i2 (k z0 rfl)) (RepL.tr t _ _ _ i3 (k G' (by have := i4 p; omega))) (h2.tr t (k G2 hz0))
      exact kk _ _ F' g'
end
end Tw

set_option Elab.async false
set_option linter.all false
set_option maxRecDepth 100000
/-! Tw.EvDD: dicts: displays, get. -/
namespace Tw
open PySem PySem.Spec PyProof.Rows L2

/-! ### {k: v} -/
/-- a display, the keys' own addresses told -/
theorem dictH_exact {prog : Program} {w : World} {A : Around} {E : Value → Shared → Prop} {s : Shared} {env : PySem.Env} {k v : Expr} {pos : Pos} {Q : Value → Shared → Prop} (hu : (nestedKind prog w).room A)
    (h : wpAny (model prog w) A (evalPairs (pairTrees [some k] [v] env pos)) (fun vs s₁ => ∃ ps, CarriesH (nestedKind prog w) s₁.heap vs ps ∧ s₁.heap.DictOfH (nestedKind prog w) s.heap.objs.size [] ∧
      ∀ h' tk, h'.DictOfH (nestedKind prog w) s.heap.objs.size (storedAllH [] ps) → Heap.SameBut s.heap.objs.size s₁.heap h' → Q (.ref s.heap.objs.size) { s₁ with heap := h', toks := tk }) E
      { s with heap := s.heap.push { cls := .type "dict", data := .dict #[] } }) :
    wpAny (model prog w) A (eval (.Dict [some k] [v] pos) env) Q E s := by
  have hp := zip_pairTrees [some k] [v] env pos rfl rfl
  have h0 : pairTrees [some k] [v] env pos ≠ [] := by simp [pairTrees]
  have hl : (pairTrees [some k] [v] env pos).length ≤ 15 := by simp [pairTrees]
  rw [arm_eval_Dict, hp, dictDisplay_pairs _ h0 (by omega)]
  exact wpAny_bind (wpAny_standAt (wpAny_bind (wpAny_subDictH (knd := nestedKind prog w) (Q := fun d s' => wpAny (model prog w) A (pure (Value.ref d)) Q E s') hu hl
    (wpAny_mono h (fun vs s₁ h₁ => by obtain ⟨ps, hc, hm, hq⟩ := h₁; exact ⟨ps, hc, hm, fun h' tk a b => wpAny_pure (hq h' tk a b)⟩) fun _ _ e => e))))
def tDisp1 (K : PySem.W.Frag) (tk tv : TE) : TE := fun σ H Q =>
  (∀ p, H p = none → tk σ (upd H p (DicO p [])) fun x H1 => tv σ H1 fun y H2 => H2 p = some (DicO p []) ∧ ∃ i, x = .int i ∧ Q (.ref p) (upd H2 p (DicO p [(.num i, x, y)]))) ∨
  (∀ p, H p = none → tk σ (upd H p (DicO p [])) fun x H1 => tv σ H1 fun y H2 => H2 p = some (DicO p []) ∧ ∃ k, TpK K H2 k x ∧ Q (.ref p) (upd H2 p (DicO p [(k, x, y)])))
theorem pe_disp1 {X : Cx} {pos : Pos} {k v : Expr} {tk tv : TE} (hu : X.A.units + 64 < cLine) (hk : PE X k tk) (hv : PE X v tv) : PE X (.Dict [some k] [v] pos) (tDisp1 X.K tk tv) := by
  refine ⟨fun pins s σ H Q I q => ?_⟩
  have hn := I.hok.fresh (Nat.le_refl s.heap.objs.size)
  have I1 := I.laid (a := s.heap.objs.size) (o := DicO s.heap.objs.size []) (h' := s.heap.push { cls := .type "dict", data := .dict #[] }) (t' := s.toks) (fun _ _ q => Heap.get?_push_of_some _ q) (Nat.le_refl _) (DicP.ok (dicP_new s.heap I.big X.w))
  rcases q with q | q
  · refine wpAny_Dict_walk (knd := mixKind X.prog X.w) rfl rfl (by simp) (by simp) (pairTrees_cons_walk (thn (hk.run pins _ σ _ _ I1 (q _ hn)) fun u s1 ⟨x, H1, I1', rx, q1⟩ => thn (hv.run pins s1 σ H1 _ I1' q1) fun w2 s2 ⟨y, H2, I2, ry, e, i, ex, q2⟩ => pairTrees_nil_walk ?_))
    subst ex
    obtain ⟨t, rfl⟩ := rx
    have dp := (show DicAt H2 _ [] from .inl e).dp I2
    obtain ⟨us, p1, dd⟩ := leaf_to (P := X.prog) (w := X.w) dp fun _ h => nomatch h
    cases p1
    refine ⟨[(.inl i, w2)], ⟨keyIs_int i t, rfl, trivial⟩, dd, fun h' dd' hs => ⟨.ref s.heap.objs.size, _, ?_, rfl, q2⟩⟩
    have he : ∃ q, h'.get? s.heap.objs.size = some q := let ⟨q, _, _, hq, _⟩ := dd'; ⟨q, hq⟩
    exact d_write I2 (by rw [e]; exact True.intro) hs he (DicP.ok (leaf_of (rows := [(.num i, .int i, y)]) (us := [(.inl i, w2)]) (.cons ⟨i, rfl, rfl, rfl, ry⟩ .nil) dd' dp.1 (by rw [sizeLine_eq]; simp)))
  · refine dictH_exact (by show X.A.units + 8 < cLine; omega)
      (pairTrees_cons_walk (thn (hk.run pins _ σ _ _ I1 (q _ hn)) fun u s1 ⟨x, H1, I1', rx, q1⟩ => thn (hv.run pins s1 σ H1 _ I1' q1) fun w2 s2 ⟨y, H2, I2, ry, e, kk, tk, q2⟩ => pairTrees_nil_walk ?_))
    have dp := (show DicAt H2 _ [] from .inl e).dp I2
    obtain ⟨b, rfl, h1, h2⟩ := tpk_heap I2 tk
    obtain ⟨us, p1, dd⟩ := tup_to (P := X.prog) (w := X.w) dp fun _ h => nomatch h
    cases p1
    cases (show u = Value.ref b from rx)
    refine ⟨[(kk, b, w2)], ⟨rfl, rfl, h1, trivial⟩, dd, fun h' tok dd' hs => ⟨.ref s.heap.objs.size, _, ?_, rfl, q2⟩⟩
    have he : ∃ q, h'.get? s.heap.objs.size = some q := let ⟨q, _, _, hq, _⟩ := dd'; ⟨q, hq⟩
    exact d_write I2 (by rw [e]; exact True.intro) hs he (DicP.ok (tup_of (rows := [(kk, .ref b, y)]) (xs := [(kk, b, w2)]) (.cons ⟨rfl, rfl, ry⟩ .nil) dd' dp.1 (by rw [sizeLine_eq]; simp)))
/-! ### d.get -/
def IsDX (H : Hp) (a : Addr) : Prop := ∃ rows, DicAt H a rows
theorem isDX_at {X : Cx} {pins : List (Addr × Obj)} {σ : L2.St} {H : Hp} {s : Shared} {a : Addr} (I : Inv X pins σ H s) (d : IsDX H a) :
    s.TypeIs (.ref a) "dict" ∧ (∀ b, Value.ref a = .ref b → ∃ ob, s.heap.get? b = some ob ∧ ob.dict = none) ∧ (a == sysModules) = false := by
  obtain ⟨rows, d⟩ := d
  obtain ⟨hd, _, _, ob, es, ep, w, h1, h2, _⟩ := d.dp I
  exact ⟨⟨ob, h1, h2.1⟩, fun b q => by cases q; exact ⟨ob, h1, h2.2.1⟩, hd⟩
def tDGetX1 (K : PySem.W.Frag) (td ty : TE) : TE := fun σ H Q => td σ H fun x H1 => ∃ a, x = .ref a ∧ IsDX H1 a ∧ ty σ H1 fun y H2 => ∃ o, DGetX K H2 a y o ∧ Q (o.getD .non) H2
def tDGetX2 (K : PySem.W.Frag) (td ty tx : TE) : TE := fun σ H Q => td σ H fun x H1 => ∃ a, x = .ref a ∧ IsDX H1 a ∧ ty σ H1 fun y H2 => tx σ H2 fun z H3 => ∃ o, DGetX K H3 a y o ∧ Q (o.getD z) H3
section
variable {X : Cx} {o e f : Expr} {apos cpos : Pos} {td ty tx : TE}
theorem pe_dgetX1 (hu : X.A.units + 64 < cLine) (ho : PE X o td) (he : PE X e ty) (m : M1 X o "get" apos e cpos) : PE X (.Call (.Attribute o "get" apos) [e] [] cpos) (tDGetX1 X.K td ty) := by
  refine ⟨fun pins s σ H Q I h => ?_⟩
  refine wpAny_Call_method m.base m.few m.line PySem.F.plainAttrs_dict PySem.F.slot_dict_get PySem.F.type_dict_get (thn (ho.run pins s σ H _ I h) fun u s1 ⟨x, H1, I1, rx, a, ex, d, q1⟩ => ?_)
  subst ex
  obtain rfl : u = Value.ref a := rx
  obtain ⟨t1, t2, _⟩ := isDX_at I1 d
  refine ⟨t1, t2, ?_⟩
  rw [m.trees]
  refine Calls.callWith_builtin rfl (Calls.evalArgs_plain (Calls.spliced_cons (thn (he.run pins s1 σ H1 _ I1 q1) fun iv s2 ⟨y, H2, I2, ry, ov, g, q2⟩ => Calls.spliced_nil ?_)))
  exact dx_get1 hu I2 g ry fun w' s3 I3 rw' => ⟨_, H2, I3, rw', q2⟩
theorem pe_dgetX2 (hu : X.A.units + 64 < cLine) (ho : PE X o td) (he : PE X e ty) (hf : PE X f tx) (m : M2 X o "get" apos e f cpos) : PE X (.Call (.Attribute o "get" apos) [e, f] [] cpos) (tDGetX2 X.K td ty tx) := by
  refine ⟨fun pins s σ H Q I h => ?_⟩
  refine wpAny_Call_method m.base m.few m.line PySem.F.plainAttrs_dict PySem.F.slot_dict_get PySem.F.type_dict_get (thn (ho.run pins s σ H _ I h) fun u s1 ⟨x, H1, I1, rx, a, ex, d, q1⟩ => ?_)
  subst ex
  obtain rfl : u = Value.ref a := rx
  obtain ⟨t1, t2, _⟩ := isDX_at I1 d
  refine ⟨t1, t2, ?_⟩
  rw [m.trees]
  refine Calls.callWith_builtin rfl (Calls.evalArgs_plain (Calls.spliced_cons (thn (he.run pins s1 σ H1 _ I1 q1) fun iv s2 ⟨y, H2, I2, ry, q2⟩ =>
    Calls.spliced_cons (thn (hf.run pins s2 σ H2 _ I2 q2) fun fv s3 ⟨z, H3, I3, rz, ov, g, q3⟩ => Calls.spliced_nil ?_))))
  exact dx_get2 hu I3 g ry rz fun w' s4 I4 rw' => ⟨_, H3, I4, rw', q3⟩
end
end Tw

set_option Elab.async false
set_option linter.all false
set_option maxRecDepth 100000
/-! Tw.EvDE: sorted, min, max; dicts as rows. -/
namespace Tw
open PySem PySem.Spec PyProof.Rows L2
open PySem.W (dataLt dataLe alike alikeAll AllAlike Sortable EachIs sortVals dataKind SortsAt sortingHeap sortingHeap_old bound_map each_map sortVals_data minD maxD)

def tupNE : D → Bool
  | .tup (_ :: _) => true
  | _ => false
def notTN : D → Bool
  | .tup _ => false
  | .non => false
  | _ => true
/-- what may be sorted -/
def okS (xs : List D) : Bool := frzL xs && (szOk xs.length && (xs.all (shp 60) && (xs.all (fun x => xs.all fun y => alike (toPy x) (toPy y)) && (decide (xs.length ≤ 1) || (xs.all tupNE || xs.all notTN)))))
def srtL (xs : List D) : List D := xs.mergeSort (dataLe false toPy)
def sortD : D → Option D
  | .lst _ xs => if okS xs = true then some (.lst true (srtL xs)) else none
  | .dic _ ks _ => if okS ks = true then some (.lst true (srtL ks)) else none
  | _ => none
structure OkS (xs : List D) : Prop where
  z : frzL xs = true
  len : xs.length ≤ sizeLine
  shp : ∀ x ∈ xs, shp 60 x = true
  alike : AllAlike (xs.map toPy)
  sort : xs.length ≤ 1 ∨ Sortable (xs.map toPy)
theorem OkS.of {xs : List D} (h : okS xs = true) : OkS xs := by
  unfold okS at h
  rw [Bool.and_eq_true, Bool.and_eq_true, Bool.and_eq_true, Bool.and_eq_true, List.all_eq_true, List.all_eq_true] at h
  obtain ⟨h1, h2, h3, h4, h5⟩ := h
  refine ⟨h1, of_decide_eq_true h2, h3, fun d hd d' hd' => ?_, ?_⟩
  · obtain ⟨x, hx, rfl⟩ := List.mem_map.mp hd
    obtain ⟨y, hy, rfl⟩ := List.mem_map.mp hd'
    exact List.all_eq_true.mp (h4 x hx) y hy
  · rw [Bool.or_eq_true, Bool.or_eq_true, decide_eq_true_eq, List.all_eq_true, List.all_eq_true] at h5
    refine h5.imp id fun h5 => h5.imp (fun h d hd => ?_) (fun h d hd => ?_)
    · obtain ⟨x, hx, rfl⟩ := List.mem_map.mp hd
      have q := h x hx
      cases x with
      | tup l => cases l with
        | nil => cases q
        | cons y r => exact ⟨_, _, by unfold toPy toPyL; rfl⟩
      | _ => cases q
    · obtain ⟨x, hx, rfl⟩ := List.mem_map.mp hd
      have q := h x hx
      cases x <;> first | (cases q; done) | exact And.intro (fun e => by unfold toPy at e; exact nomatch e) (fun xs e => by unfold toPy at e; exact nomatch e)

/-! ### the heap -/
section
variable {prog : Program} {w : World} {A : Around} {E : Value → Shared → Prop} {s : Shared} {β : Type} {bs : List β} {enc : β → PyData} {R : Value → β → Prop}
theorem sorted_col {l : Addr} {Q : Value → Shared → Prop}
    (hc : ∀ (E' : Value → Shared → Prop) (P : List Value → Shared → Prop), (∀ h' tk vs, (∀ b o, s.heap.get? b = some o → h'.get? b = some o) → EachIs R vs bs → EachIs (fun v b => ∃ as, Reads s.heap v (enc b) as) vs bs → P vs { s with heap := h', toks := tk }) → wpAny (model prog w) A.in1 (collect (.ref l)) P E' s)
    (hal : AllAlike (bs.map enc)) (hk : bs.length ≤ 1 ∨ Sortable (bs.map enc)) (hL : bs.length ≤ sizeLine) (hu : ∀ b, b ∈ bs → A.units + 2 + (enc b).depth < cLine)
    (h : ∀ (h1 h2 : Heap) tk out c, (∀ b o, s.heap.get? b = some o → h1.get? b = some o) → (∀ b o, h1.get? b = some o → h2.get? b = some o) → h2.get? h1.objs.size = some (seqObj "list" (List.toArray out) c) → EachIs R out (bs.mergeSort (dataLe false enc)) → Q (.ref h1.objs.size) { s with heap := h2, toks := tk }) :
    wpAny (model prog w) A (PySem.call (Value.builtin "sorted") [Value.ref l]) Q E s := by
  refine Calls.call_function_entry PyProof.Rows.kind_sorted PyProof.Rows.plain_sorted PyProof.Rows.entry_sorted (PyProof.Rows.args_sorted1 _) ?_
  unfold Builtin.«sorted»
  refine wpAny_bind (m := checkCount "sorted" 1 1 _) (wpAny_pure ?_)
  refine wpAny_bind (hc _ _ fun h' tk vs kp e er => ?_)
  have hz : vs.length ≤ sizeLine := by rw [e.length]; exact hL
  refine wpAny_bind (wpAny_newList ?_ hz)
  show wpAny _ _ _ _ _ { s with heap := h'.push (seqObj "list" vs.toArray 0), toks := tk }
  have ho : (h'.push (seqObj "list" vs.toArray 0)).get? h'.objs.size = some (seqObj "list" vs.toArray 0) := Heap.get?_push_size _ rfl
  rcases hk with h1 | hk
  · have O : SrtO.Swo (fun _ _ : Value => false) := SrtO.Swo.mk (fun _ _ _ => rfl) (fun _ _ _ _ _ => rfl)
    refine wpAny_bind (wpAny_holding (wpAny_call_entry PyProof.Rows.slot_list_sort ⟨_, ho, rfl⟩ PyProof.Rows.entry_list_sort
      (SrtO.list_sort_ord (s := { s with heap := h'.push (seqObj "list" vs.toArray 0), toks := tk }) O ho hz (fun h2 => by rw [e.length] at h2; omega) fun out _ hb => ⟨_, rfl, ?_⟩) (PyProof.Rows.args_list_sort _)))
    have eo : out = vs := by
      have hl := hb.len
      have hv : vs.length ≤ 1 := by rw [e.length]; exact h1
      match vs, out, hv, hl, hb.perm with
      | [], [], _, _, _ => rfl
      | [v], [u], _, _, p => rw [List.perm_singleton.mp p]
    subst eo
    obtain ⟨ep, he⟩ := PyProof.Rows.sortedHeap_at (vs := out) (out := out.toArray) ho
    have em : bs.mergeSort (dataLe false enc) = bs := by
      match bs, h1 with
      | [], _ => exact List.mergeSort_nil
      | [b], _ => exact List.mergeSort_singleton b
    refine wpAny_pure ⟨_, rfl, h h' _ tk _ ep kp (fun b o q' => ?_) he (by rw [em]; exact e)⟩
    rw [PyProof.Rows.sortedHeap_old (Nat.ne_of_lt (Heap.lt_size q')) (by rw [size_push']; exact Nat.lt_succ_of_lt (Heap.lt_size q'))]
    exact Heap.get?_push_of_some _ q'
  have er' : EachIs (fun v b => ∃ as, Reads (sortingHeap (h'.push (seqObj "list" vs.toArray 0)) h'.objs.size vs) v (enc b) as) vs bs := er.mono fun _ _ ⟨as, r⟩ => ⟨as, PyProof.Rows.Reads.keeps (fun b o q => by
    have q' := kp _ _ q
    exact sortingHeap_old (Nat.ne_of_lt (Heap.lt_size q')) (Heap.get?_push_of_some _ q')) r⟩
  have S : SortsAt prog w A.in1.in1 { s with heap := sortingHeap (h'.push (seqObj "list" vs.toArray 0)) h'.objs.size vs, toks := tk } (dataKind (sortingHeap (h'.push (seqObj "list" vs.toArray 0)) h'.objs.size vs) (bs.map enc)) vs :=
    SortsAt.data (each_map (R := fun v d => ∃ as, Reads (sortingHeap (h'.push (seqObj "list" vs.toArray 0)) h'.objs.size vs) v d as) enc er') hal hk (bound_map hu)
  obtain ⟨ep, he⟩ := PyProof.Rows.sortedHeap_at (vs := vs) (out := (sortVals (dataKind (sortingHeap (h'.push (seqObj "list" vs.toArray 0)) h'.objs.size vs) (bs.map enc)) false vs vs).toArray) ho
  refine wpAny_bind (wpAny_holding (wpAny_call_entry PyProof.Rows.slot_list_sort ⟨_, ho, rfl⟩ PyProof.Rows.entry_list_sort
    (PySem.W.list_sort_vals (s := { s with heap := h'.push (seqObj "list" vs.toArray 0), toks := tk }) ho S hz ⟨_, rfl, ?_⟩) (PyProof.Rows.args_list_sort _)))
  refine wpAny_pure ⟨_, rfl, h h' _ tk _ ep kp (fun b o q' => ?_) he (sortVals_data false e er' hal)⟩
  rw [PyProof.Rows.sortedHeap_old (Nat.ne_of_lt (Heap.lt_size q')) (by rw [size_push']; exact Nat.lt_succ_of_lt (Heap.lt_size q'))]
  exact Heap.get?_push_of_some _ q'
end

/-! ### what stands, as data -/
theorem each_rep {K : PySem.W.Frag} {H : Hp} {O : Addr → Prop} : ∀ {ds : List D} {vs : List V}, RepL K H O ds vs z0 → EachIs (fun v d => Rep K H O d v z0) vs ds
  | [], vs, r => by
    unfold RepL at r
    rw [r.1]; exact .nil
  | d :: ds, vs, r => by
    unfold RepL at r
    obtain ⟨v, vs', G1, G2, rfl, h1, h2, z⟩ := r
    have z1 : ∀ a, G1 a = z0 a := fun a => by have := z a; show G1 a = 0; unfold z0 at this; omega
    have z2 : ∀ a, G2 a = z0 a := fun a => by have := z a; show G2 a = 0; unfold z0 at this; omega
    exact .cons (Rep.ct h1 fun a => (z1 a).symm) (each_rep (RepL.ct h2 fun a => (z2 a).symm))
theorem rep_each {K : PySem.W.Frag} {H : Hp} {O : Addr → Prop} : ∀ {ds : List D} {vs : List V}, EachIs (fun v d => Rep K H O d v z0) vs ds → RepL K H O ds vs z0
  | _, _, .nil => by unfold RepL; exact ⟨rfl, fun _ => rfl⟩
  | _, _, .cons h t => by unfold RepL; exact ⟨_, _, z0, z0, rfl, h, rep_each t, fun _ => rfl⟩
/-- the values that stand for them -/
theorem each_split {R : V → D → Prop} : ∀ {out : List Value} {ds : List D}, EachIs (fun v d => ∃ x, RelV x v ∧ R x d) out ds → ∃ xs, Vals xs out ∧ EachIs R xs ds
  | _, _, .nil => ⟨[], .nil, .nil⟩
  | _, _, .cons ⟨x, h1, h2⟩ t => by
    obtain ⟨xs, e1, e2⟩ := each_split t
    exact ⟨x :: xs, .cons h1 e1, .cons h2 e2⟩
theorem each_join {R : V → D → Prop} : ∀ {xs : List V} {out : List Value} {ds : List D}, Vals xs out → EachIs R xs ds → EachIs (fun v d => ∃ x, RelV x v ∧ R x d) out ds
  | _, _, _, .nil, .nil => .nil
  | _, _, _, .cons r1 r2, .cons h t => .cons ⟨_, r1, h⟩ (each_join r2 t)
theorem each_imp {α β : Type} {R S : α → β → Prop} (i : ∀ a b, R a b → S a b) {as : List α} {bs : List β} (h : EachIs R as bs) : EachIs S as bs := h.mono fun a b => i a b
/-- rows that stand, told as their keys do -/
def rSrt (K : PySem.W.Frag) : List V → Hp → VK → Prop := fun xs H Q => ∃ (p : Addr) (vs : List V) (ds : List D), xs = [.ref p] ∧ (SqL K H p vs ∨ ∃ rows, DicAt H p rows ∧ vs = rows.map (·.2.1)) ∧ OkS ds ∧
  ∃ R : V → D → Prop, EachIs R vs ds ∧ (∀ v d, R v d → ∃ O : Addr → Prop, Rep K H O d v z0 ∧ shp 60 d = true) ∧ ∀ q out, EachIs R out (srtL ds) → H q = none → Q (.ref q) (upd H q (.lst out))
section
variable {X : Cx}
theorem depth_room {d : D} (hu : X.A.units + 80 < cLine) (h : shp 60 d = true) : X.A.units + 2 + (toPy d).depth < cLine := by
  have := (shp_lay d 60 h).2
  omega
/-- a dict's keys, gathered -/
theorem dict_src {pins : List (Addr × Obj)} {σ : L2.St} {H : Hp} {s : Shared} {p : Addr} {rows : List Row} (I : Inv X pins σ H s) (h : DicAt H p rows) :
    ∃ (o : Obj) (es : Array DictEntry) (ep : Nat) (w' : World), s.heap.get? p = some o ∧ o.ExactDict ∧ o.data = .dict es ep ∧ Paired (EntIs w') rows es.toList ∧ (p == sysModules) = false ∧ es.size = rows.length ∧ rows.length ≤ sizeLine := by
  obtain ⟨lo, hz, hn, o, es, ep, w', h1, h2, h3, pr⟩ := h.dp I
  refine ⟨o, es, ep, w', h1, h2, h3, pr, lo, ?_, hz⟩
  have := Paired.length pr
  rw [this, Array.length_toList]
theorem paired_vals {w' : World} : ∀ {rows : List Row} {es : List DictEntry}, Paired (EntIs w') rows es → Vals (rows.map (·.2.1)) (es.map (·.key))
  | _, _, .nil => .nil
  | _, _, .cons h t => .cons h.2.1 (paired_vals t)
theorem items_keys {es : Array DictEntry} {acc : Array Value} (h : PySem.ItemsOf (fun i v => ∃ en : DictEntry, es[i]? = some en ∧ v = en.key) acc es.size) : acc.toList = es.toList.map (·.key) := by
  apply List.ext_getElem?
  intro j
  rw [List.getElem?_map]
  cases hj : acc.toList[j]? with
  | none =>
    have h1 := List.getElem?_eq_none_iff.mp hj
    rw [Array.length_toList, h.1] at h1
    rw [List.getElem?_eq_none (by rw [Array.length_toList]; exact h1)]
    rfl
  | some v =>
    obtain ⟨en, hen, hv⟩ := h.2 j v (by rw [← Array.getElem?_toList]; exact hj)
    rw [Array.getElem?_toList, hen, hv]; rfl
theorem cr_srt (hc : X.calm = true) (hu : X.A.units + 80 < cLine) : CallR X (.builtin "sorted") (rSrt X.K) := by
  intro pins s σ H xs us Q I r q
  obtain ⟨p, vs, ds, rfl, hs, ok, R, eR, hR, q⟩ := q
  obtain ⟨u, rfl, rx⟩ := r.one
  cases rx
  have rd : ∀ v d u, R v d → RelV v u → ∃ as, Reads s.heap u (toPy d) as := fun v d u h ru => by
    obtain ⟨O, rp, sh⟩ := hR v d h
    exact Dp.reads I _ v u (Rep.dp d v z0 60 rp sh) ru
  refine sorted_col (enc := toPy) (bs := ds) (R := fun v d => ∃ x, RelV x v ∧ R x d) (fun E' P k => ?_) ok.alike ok.sort ok.len (fun d hd => depth_room hu (ok.shp d hd)) fun h1 h2 tk out c k1 k2 he eo => ?_
  · have fin : ∀ h' tk (its : List Value), (∀ b o, s.heap.get? b = some o → h'.get? b = some o) → Vals vs its → P its { s with heap := h', toks := tk } := fun h' tk its kp rv =>
      k h' tk its kp (each_join rv eR) (each_imp (fun v d ⟨x, r1, r2⟩ => rd x d v r2 r1) (each_join rv eR))
    rcases hs with hs | ⟨rows, hs, rfl⟩
    · obtain ⟨its, rv, hl, hz⟩ := I.list hs
      refine PyProof.Rows.collect_list hl.isList (fin _ s.toks its (fun b o e => ?_) rv) (by rw [← rv.length]; exact hz)
      rw [Heap.get?_update_ne _ _ _ _ (Nat.ne_of_lt (Heap.lt_size e))]
      exact Heap.get?_push_of_some _ e
    · obtain ⟨o, es, ep, w', h1, h2, h3, pr, lo, hsz, hz⟩ := dict_src I hs
      refine PySem.W.kdu_collect (A := X.A.in1) (kdl_raw lo h2 h3) (I.ok.hd hc) h1 (by omega) fun h' tk acc kp it => ?_
      rw [items_keys it]
      exact fin h' tk _ kp (paired_vals pr)
  · obtain ⟨ys, rv, ey⟩ := each_split eo
    have I1 : Inv X pins σ H { s with heap := h1, toks := tk } := I.kept k1
    refine ⟨.ref h1.objs.size, upd H h1.objs.size (.lst ys), I1.laid (t' := tk) k2 (Nat.le_refl _) ?_, rfl, q _ ys ey (I1.hok.fresh (Nat.le_refl _))⟩
    have hlen : ys.length ≤ sizeLine := by rw [ey.length, List.length_mergeSort]; exact ok.len
    exact ⟨hlen, out, c, rv, he⟩
end
theorem b1_srt {K : PySem.W.Frag} : B1S K sortD (rSrt K) := by
  intro W H σD σV T F dx d x Q gd p1 e kk
  have main : ∀ (p : Addr) (vs : List V) (xs : List D), x = .ref p → (SqL K H p vs ∨ ∃ rows, DicAt H p rows ∧ vs = rows.map (·.2.1)) → okS xs = true → RepL K H (Own W F) xs vs z0 → d = .lst true (srtL xs) → rSrt K [x] H Q := by
    intro p vs xs ex hs ok rp ed
    subst ed ex
    have o := OkS.of ok
    have e1 := each_rep rp
    refine ⟨p, vs, xs, rfl, hs, o, fun v d => (Rep K H (Own W F) d v z0 ∧ shp 60 d = true), ?_, fun v d h => ⟨_, h⟩, fun q out eo hq => ?_⟩
    · exact (PySem.W.each_mem e1).mono fun v d ⟨h1, h2⟩ => ⟨h1, o.shp d h2⟩
    · exact kk _ _ _ (gd.newL hq (rep_each (eo.mono fun v d h => h.1)) fun _ => rfl) (ext_newL hq)
  cases dx with
  | lst ow xs =>
    have e : (if okS xs = true then some (D.lst true (srtL xs)) else none) = some d := e
    split at e
    · rename_i ok
      obtain ⟨a, vs, G, rfl, h1, r1⟩ := p1.lst
      exact main a vs xs rfl (.inl (.inl (.inl h1))) ok (r1.z (OkS.of ok).z) (Option.some.inj e).symm
    · cases e
  | dic ow ks us =>
    have e : (if okS ks = true then some (D.lst true (srtL ks)) else none) = some d := e
    split at e
    · rename_i ok
      obtain ⟨a, rows, G, rfl, h1, hk, r1, r2⟩ := p1.dic
      exact main a _ ks rfl (.inr ⟨rows, h1, rfl⟩) ok r1 (Option.some.inj e).symm
    · cases e
  | _ => cases e
def srt (a : Sm D) : Sm D := bnd a fun x => lift (sortD x)
section
variable {X : Cx} {W : Wd} {ev : Env} {a : Expr} {ca : Sm D} {ga : Bool} {p pos : Pos}
theorem s_srt (hc : X.calm = true) (hu : X.A.units + 80 < cLine) (hg : Gl X "sorted") (hm : X.mg "sorted" = none) (h : noStar a = true) (ha : PE X a (tP X.K W ev ca ga)) : PE X (.Call (.Name "sorted" p) [a] [] pos) (tE X.K W ev (srt ca) ga) :=
  s_b1 (cr_srt hc hu) b1_srt rfl hg hm (by decide) rfl h ha
end

/-! ### min, max of a row -/
def minL (x : D) (xs : List D) : D := xs.foldl (fun a y => if dataLt (toPy y) (toPy a) = true then y else a) x
def maxL (x : D) (xs : List D) : D := xs.foldl (fun a y => if dataLt (toPy a) (toPy y) = true then y else a) x
def notNon : D → Bool
  | .non => false
  | _ => true
def okM (xs : List D) : Bool := frzL xs && (xs.all (shp 60) && (xs.all (fun x => xs.all fun y => alike (toPy x) (toPy y)) && xs.all notNon))
def minD1 (mx : Bool) : D → Option D
  | .lst _ (x :: xs) => if okM (x :: xs) = true then some (if mx = true then maxL x xs else minL x xs) else none
  | .tup (x :: xs) => if okM (x :: xs) = true then some (if mx = true then maxL x xs else minL x xs) else none
  | _ => none
mutual
theorem toPy_inj : ∀ {a b : D} {n m : Nat}, frz a = true → frz b = true → shp n a = true → shp m b = true → toPy a = toPy b → a = b
  | .non, b, n, m, h1, h2, h3, h4, e => by cases b <;> first | rfl | (unfold toPy at e; exact nomatch e) | (unfold shp at h4; exact nomatch h4)
  | .bl _, b, n, m, h1, h2, h3, h4, e => by cases b <;> first | (unfold toPy at e; cases e; rfl) | (unfold toPy at e; exact nomatch e) | (unfold shp at h4; exact nomatch h4)
  | .int _, b, n, m, h1, h2, h3, h4, e => by cases b <;> first | (unfold toPy at e; cases e; rfl) | (unfold toPy at e; exact nomatch e) | (unfold shp at h4; exact nomatch h4)
  | .str _, b, n, m, h1, h2, h3, h4, e => by cases b <;> first | (unfold toPy at e; cases e; rfl) | (unfold toPy at e; exact nomatch e) | (unfold shp at h4; exact nomatch h4)
  | .tup xs, b, n, m, h1, h2, h3, h4, e => by
    cases b with
    | tup ys =>
      cases n with
      | zero => unfold shp at h3; exact nomatch h3
      | succ n => cases m with
        | zero => unfold shp at h4; exact nomatch h4
        | succ m =>
          unfold toPy at e
          unfold shp at h3 h4
          unfold frz at h1 h2
          rw [toPyL_inj h1 h2 h3 h4 (by injection e)]
    | dic o ks vs => unfold shp at h4; exact nomatch h4
    | scr ns => unfold shp at h4; exact nomatch h4
    | _ => unfold toPy at e; exact nomatch e
  | .lst o xs, b, n, m, h1, h2, h3, h4, e => by
    cases b with
    | lst o2 ys =>
      cases n with
      | zero => unfold shp at h3; exact nomatch h3
      | succ n => cases m with
        | zero => unfold shp at h4; exact nomatch h4
        | succ m =>
          unfold toPy at e
          unfold shp at h3 h4
          unfold frz at h1 h2
          rw [Bool.and_eq_true, Bool.not_eq_true'] at h1 h2
          rw [toPyL_inj h1.2 h2.2 h3 h4 (by injection e), h1.1, h2.1]
    | dic o ks vs => unfold shp at h4; exact nomatch h4
    | scr ns => unfold shp at h4; exact nomatch h4
    | _ => unfold toPy at e; exact nomatch e
  | .dic _ _ _, b, n, m, h1, h2, h3, h4, e => by unfold shp at h3; exact nomatch h3
  | .scr _, b, n, m, h1, h2, h3, h4, e => by unfold shp at h3; exact nomatch h3
theorem toPyL_inj : ∀ {a b : List D} {n m : Nat}, frzL a = true → frzL b = true → shpL n a = true → shpL m b = true → toPyL a = toPyL b → a = b
  | [], [], _, _, _, _, _, _, _ => rfl
  | [], _ :: _, _, _, _, _, _, _, e => by unfold toPyL at e; exact nomatch e
  | _ :: _, [], _, _, _, _, _, _, e => by unfold toPyL at e; exact nomatch e
  | x :: xs, y :: ys, n, m, h1, h2, h3, h4, e => by
    unfold toPyL at e
    unfold shpL at h3 h4
    unfold frzL at h1 h2
    rw [Bool.and_eq_true] at h1 h2 h3 h4
    injection e with e1 e2
    rw [toPy_inj h1.1 h2.1 h3.1 h4.1 e1, toPyL_inj h1.2 h2.2 h3.2 h4.2 e2]
end
theorem minL_py : ∀ (xs : List D) (x : D), minD (toPy x) (xs.map toPy) = toPy (minL x xs)
  | [], x => rfl
  | y :: ys, x => by
    show minD (if dataLt (toPy y) (toPy x) = true then toPy y else toPy x) (ys.map toPy) = toPy (minL (if dataLt (toPy y) (toPy x) = true then y else x) ys)
    rw [← minL_py ys]
    cases dataLt (toPy y) (toPy x) <;> rfl
theorem maxL_py : ∀ (xs : List D) (x : D), maxD (toPy x) (xs.map toPy) = toPy (maxL x xs)
  | [], x => rfl
  | y :: ys, x => by
    show maxD (if dataLt (toPy x) (toPy y) = true then toPy y else toPy x) (ys.map toPy) = toPy (maxL (if dataLt (toPy x) (toPy y) = true then y else x) ys)
    rw [← maxL_py ys]
    cases dataLt (toPy x) (toPy y) <;> rfl
theorem minL_mem : ∀ (xs : List D) (x : D), minL x xs ∈ x :: xs
  | [], x => List.mem_cons_self
  | y :: ys, x => by
    show minL (if dataLt (toPy y) (toPy x) = true then y else x) ys ∈ _
    cases dataLt (toPy y) (toPy x)
    · rcases List.mem_cons.mp (minL_mem ys x) with h | h
      · exact List.mem_cons.mpr (.inl h)
      · exact List.mem_cons_of_mem _ (List.mem_cons_of_mem _ h)
    · exact List.mem_cons_of_mem _ (minL_mem ys y)
theorem maxL_mem : ∀ (xs : List D) (x : D), maxL x xs ∈ x :: xs
  | [], x => List.mem_cons_self
  | y :: ys, x => by
    show maxL (if dataLt (toPy x) (toPy y) = true then y else x) ys ∈ _
    cases dataLt (toPy x) (toPy y)
    · rcases List.mem_cons.mp (maxL_mem ys x) with h | h
      · exact List.mem_cons.mpr (.inl h)
      · exact List.mem_cons_of_mem _ (List.mem_cons_of_mem _ h)
    · exact List.mem_cons_of_mem _ (maxL_mem ys y)
structure OkM (xs : List D) : Prop where
  z : frzL xs = true
  shp : ∀ x ∈ xs, shp 60 x = true
  alike : PySem.W.AlikeAll (xs.map toPy)
theorem OkM.of {xs : List D} (h : okM xs = true) : OkM xs := by
  unfold okM at h
  rw [Bool.and_eq_true, Bool.and_eq_true, Bool.and_eq_true, List.all_eq_true, List.all_eq_true, List.all_eq_true] at h
  obtain ⟨h1, h2, h3, h4⟩ := h
  refine ⟨h1, h2, fun d hd d' hd' => ?_, fun d hd => ?_⟩
  · obtain ⟨x, hx, rfl⟩ := List.mem_map.mp hd
    obtain ⟨y, hy, rfl⟩ := List.mem_map.mp hd'
    exact List.all_eq_true.mp (h3 x hx) y hy
  · obtain ⟨x, hx, rfl⟩ := List.mem_map.mp hd
    have q := h4 x hx
    cases x <;> first | (cases q; done) | (intro e; unfold toPy at e; exact nomatch e)
theorem frzL_mem {xs : List D} (h : frzL xs = true) : ∀ x ∈ xs, frz x = true := by
  induction xs with
  | nil => intro x hx; exact nomatch hx
  | cons y ys ih =>
    unfold frzL at h
    rw [Bool.and_eq_true] at h
    intro x hx
    rcases List.mem_cons.mp hx with rfl | hx
    · exact h.1
    · exact ih h.2 x hx
def rMin (K : PySem.W.Frag) (mx : Bool) : List V → Hp → VK → Prop := fun xs H Q => ∃ (p : Addr) (vs : List V) (x : D) (ds : List D), xs = [.ref p] ∧ (SqL K H p vs ∨ SqT K H p vs) ∧ OkM (x :: ds) ∧
  ∃ O : Addr → Prop, RepL K H O (x :: ds) vs z0 ∧ ∀ v d, d = (if mx = true then maxL x ds else minL x ds) → Rep K H O d v z0 → Q v H
theorem depthAll_of : ∀ {ds : List D} {n : Nat}, (∀ d ∈ ds, (toPy d).depth ≤ n) → PyData.depthAll (ds.map toPy) ≤ n
  | [], _, _ => by unfold List.map PyData.depthAll; exact Nat.zero_le _
  | d :: ds, n, h => by
    rw [List.map_cons]
    unfold PyData.depthAll
    exact Nat.max_le.mpr ⟨h d List.mem_cons_self, depthAll_of fun d hd => h d (List.mem_cons_of_mem _ hd)⟩
theorem each_at {α β : Type} {R : α → β → Prop} : ∀ {as : List α} {bs : List β} {i : Nat} {a : α}, EachIs R as bs → as[i]? = some a → ∃ b, bs[i]? = some b ∧ R a b
  | _, _, 0, a, .cons h t, e => ⟨_, rfl, by cases (Option.some.inj (by simpa using e)); exact h⟩
  | _, _, i + 1, a, .cons h t, e => by
    obtain ⟨b, e1, e2⟩ := each_at (i := i) t (by simpa using e)
    exact ⟨b, by simpa using e1, e2⟩
  | _, _, i, a, .nil, e => by simp at e
theorem cr_min {X : Cx} {mx : Bool} (hc : X.calm = true) (hu : X.A.units + 80 < cLine) : CallR X (.builtin (if mx = true then "max" else "min")) (rMin X.K mx) := by
  intro pins s σ H xs us Q I r q
  obtain ⟨p, vs, x, ds, rfl, hs, ok, O, rp, q⟩ := q
  obtain ⟨u, rfl, rx⟩ := r.one
  cases rx
  have e1 := each_rep rp
  have fin : ∀ its : List Value, Vals vs its → ∀ (i : Nat) v h' tk bs, its.toArray[i]? = some v → Reads h' v (if mx = true then maxD (toPy x) (ds.map toPy) else minD (toPy x) (ds.map toPy)) bs → (∀ b o, s.heap.get? b = some o → h'.get? b = some o) →
      ∃ w H', Inv X pins σ H' { s with heap := h', toks := tk } ∧ RelV w v ∧ Q w H' := by
    intro its rv i v h' tk bs hi hr kp
    have I1 : Inv X pins σ H { s with heap := h', toks := tk } := I.kept kp
    obtain ⟨d, hd, w, rw', rpd⟩ := each_at (i := i) (each_join rv e1) (by simpa using hi)
    have hm : d ∈ x :: ds := List.mem_of_getElem? hd
    have ed : d = (if mx = true then maxL x ds else minL x ds) := by
      have hmem : (if mx = true then maxL x ds else minL x ds) ∈ x :: ds := by
        cases mx
        · exact minL_mem ds x
        · exact maxL_mem ds x
      have epy : (if mx = true then maxD (toPy x) (ds.map toPy) else minD (toPy x) (ds.map toPy)) = toPy (if mx = true then maxL x ds else minL x ds) := by
        cases mx
        · exact minL_py ds x
        · exact maxL_py ds x
      rw [epy] at hr
      obtain ⟨as, r2⟩ := Dp.reads I1 _ w v (Rep.dp d w z0 60 rpd (ok.shp d hm)) rw'
      have := PySem.W.alike_unique _ _ _ _ _ (ok.alike.1 _ (List.mem_map.mpr ⟨d, hm, rfl⟩) _ (List.mem_map.mpr ⟨_, hmem, rfl⟩)) r2 hr
      exact toPy_inj (frzL_mem ok.z d hm) (frzL_mem ok.z _ hmem) (ok.shp d hm) (ok.shp _ hmem) this
    exact ⟨w, H, I1, rw', q w d ed rpd⟩
  have e2 : EachIs (fun v d => Rep X.K H O d v z0 ∧ shp 60 d = true) vs (x :: ds) := (PySem.W.each_mem e1).mono fun v d h => ⟨h.1, ok.shp d h.2⟩
  have er : ∀ its : List Value, Vals vs its → ∃ as, ReadsAll s.heap its ((x :: ds).map toPy) as := fun its rv =>
    PySem.W.each_readsAll toPy (each_imp (fun v d h => by
      obtain ⟨z, r1, r2, h3⟩ := h
      exact Dp.reads I _ z v (Rep.dp d z z0 60 r2 h3) r1) (each_join rv e2))
  have hd : X.A.units + 1 + PyData.depthAll (toPy x :: ds.map toPy) < cLine := by
    have := depthAll_of (ds := x :: ds) (n := 60) fun d hd => (shp_lay d 60 (ok.shp d hd)).2
    rw [List.map_cons] at this
    omega
  rcases hs with hs | hs
  · obtain ⟨its, rv, hl, hz⟩ := I.list hs
    obtain ⟨as, ra⟩ := er its rv
    cases mx
    · exact PySem.W.min_list_data (I.ok.hd hc) hl.isList (by simpa using ra) ok.alike hd fun i v h' tk bs hi r k => fin its rv i v h' tk bs hi r k
    · exact PySem.W.max_list_data (I.ok.hd hc) hl.isList (by simpa using ra) ok.alike hd fun i v h' tk bs hi r k => fin its rv i v h' tk bs hi r k
  · obtain ⟨its, rv, hl, hz⟩ := I.tuple hs
    obtain ⟨as, ra⟩ := er its rv
    cases mx
    · exact PySem.W.min_tuple_data (I.ok.hd hc) hl (by simpa using ra) ok.alike hd fun i v h' tk bs hi r k => fin its rv i v h' tk bs hi r k
    · exact PySem.W.max_tuple_data (I.ok.hd hc) hl (by simpa using ra) ok.alike hd fun i v h' tk bs hi r k => fin its rv i v h' tk bs hi r k
theorem b1_min {K : PySem.W.Frag} {mx : Bool} : B1S K (minD1 mx) (rMin K mx) := by
  intro W H σD σV T F dx d x Q gd p1 e kk
  have main : ∀ (p : Addr) (vs : List V) (y : D) (xs : List D), x = .ref p → (SqL K H p vs ∨ SqT K H p vs) → okM (y :: xs) = true → RepL K H (Own W F) (y :: xs) vs z0 → d = (if mx = true then maxL y xs else minL y xs) → rMin K mx [x] H Q := by
    intro p vs y xs ex hs ok rp ed
    subst ex
    refine ⟨p, vs, y, xs, rfl, hs, OkM.of ok, _, rp, fun v d' e' r => ?_⟩
    have : d' = d := e'.trans ed.symm
    subst this
    exact kk v H F (gd.pushP ⟨z0, r⟩ (Rep.of0 _ _ _ r fun _ => rfl)) Ext.refl
  cases dx with
  | lst ow xs =>
    cases xs with
    | nil => cases e
    | cons y xs =>
      have e : (if okM (y :: xs) = true then some (if mx = true then maxL y xs else minL y xs) else none) = some d := e
      split at e
      · rename_i ok
        obtain ⟨a, vs, G, rfl, h1, r1⟩ := p1.lst
        exact main a vs y xs rfl (.inl (.inl (.inl h1))) ok (r1.z (OkM.of ok).z) (Option.some.inj e).symm
      · cases e
  | tup xs =>
    cases xs with
    | nil => cases e
    | cons y xs =>
      have e : (if okM (y :: xs) = true then some (if mx = true then maxL y xs else minL y xs) else none) = some d := e
      split at e
      · rename_i ok
        obtain ⟨a, vs, rfl, h1, r1⟩ := p1.tup
        exact main a vs y xs rfl (.inr h1) ok r1 (Option.some.inj e).symm
      · cases e
  | _ => cases e
def min1 (mx : Bool) (a : Sm D) : Sm D := bnd a fun x => lift (minD1 mx x)
section
variable {X : Cx} {W : Wd} {ev : Env} {a : Expr} {ca : Sm D} {ga : Bool} {p pos : Pos}
theorem s_min1 (hc : X.calm = true) (hu : X.A.units + 80 < cLine) (hg : Gl X "min") (hm : X.mg "min" = none) (h : noStar a = true) (ha : PE X a (tP X.K W ev ca ga)) : PE X (.Call (.Name "min" p) [a] [] pos) (tE X.K W ev (min1 false ca) ga) :=
  s_b1 (cr_min (mx := false) hc hu) b1_min rfl hg hm (by decide) rfl h ha
theorem s_max1 (hc : X.calm = true) (hu : X.A.units + 80 < cLine) (hg : Gl X "max") (hm : X.mg "max" = none) (h : noStar a = true) (ha : PE X a (tP X.K W ev ca ga)) : PE X (.Call (.Name "max" p) [a] [] pos) (tE X.K W ev (min1 true ca) ga) :=
  s_b1 (cr_min (mx := true) hc hu) b1_min rfl hg hm (by decide) rfl h ha
end
end Tw

set_option Elab.async false
set_option linter.all false
set_option maxRecDepth 100000
/-! Tw.EvDF: dict comprehensions whose keys are numbers or tuples. -/
namespace Tw
open PySem PySem.Spec PyProof.Rows L2
section
variable {X : Cx} {pins : List (Addr × Obj)} {σ : L2.St} {H : Hp} {s : Shared} {a : Addr} {y v : V} {u r : Value} {A : Around} {E : Value → Shared → Prop}
theorem dx_dictSet {rows : List Row} {k : NestedKey} {Q : Unit → Shared → Prop} (hu : A.units + 64 < cLine) (I : Inv X pins σ H s) (e : H a = some (DicO a rows)) (ko : KOk X.K H rows k y) (hl : rows.length < sizeLine) (ry : RelV y u) (rv : RelV v r)
    (h : ∀ s', Inv X pins σ (upd H a (DicO a (putR rows k y v))) s' → Q () s') : wpAny (model X.prog X.w) A (dictSet a u r) Q E s := by
  have dp := (show DicAt H a rows from .inl e).dp I
  have hz' : (putR rows k y v).length ≤ sizeLine := by have := putR_len rows k y v; have := dp.2.1; omega
  rcases ko with ⟨⟨i, rfl, rfl⟩, hl'⟩ | ⟨tk, ht'⟩
  · obtain ⟨us, p1, p2⟩ := leaf_to (P := X.prog) (w := X.w) dp hl'
    obtain ⟨t, rfl⟩ := ry
    refine wpAny_dictSet_pairs (hsz := by rw [← p1.length]; exact dp.2.1) (show (mixKind X.prog X.w).is (.inl i) (.int i t) = true from keyIs_int i t) p2 fun h' dd' hs => h _ ?_
    exact d_write I (by rw [e]; exact True.intro) hs (let ⟨q, _, _, hq, _⟩ := dd'; ⟨q, hq⟩) (DicP.ok (leaf_of (leaf_put p1 rv) dd' dp.1 hz'))
  · obtain ⟨b, rfl, h1, h2⟩ := tpk_heap I tk
    obtain ⟨xs, p1, p2⟩ := tup_to (P := X.prog) (w := X.w) dp fun r hr => tpk_heap I (ht' r hr)
    cases (show u = Value.ref b from ry)
    refine wpAny_dictSet_heap (hsz := by rw [← p1.length]; exact dp.2.1) (by show A.units + 8 < cLine; omega) h1 p2 fun h' dd' hs => h _ ?_
    exact d_write I (by rw [e]; exact True.intro) hs (let ⟨q, _, _, hq, _⟩ := dd'; ⟨q, hq⟩) (DicP.ok (tup_of (tup_put p1 rv) dd' dp.1 hz'))
end
section
variable {X : Cx}
/-- one turn is asked of the block: what comes behind it -/
def dcNext (K : PySem.W.Frag) (D : Addr) (tt : TT) (tk tv : TE) (Nx : Hp → Prop) (σ2 : L2.St) (H2 : Hp) : Prop := tt σ2 H2 fun b H3 =>
  if b = true then tk σ2 H3 fun y H4 => tv σ2 H4 fun z H5 => ∃ rows k, H5 D = some (DicO D rows) ∧ KOk K H5 rows k y ∧ rows.length < sizeLine ∧ Nx (upd H5 D (DicO D (putR rows k y z))) else Nx H3
def tDcX (K : PySem.W.Frag) (wi : TI) (g : TG) (tt : TT) (tk tv : TE) (vs : List Nat) : TE := fun σ H Q => wi σ H fun J H1 => ∀ D, H1 D = none → ∃ W : Nat → Nat → Hp → Prop, (∃ m, W 0 m (upd H1 D (DicO D []))) ∧ ∀ i m H, W i m H →
  (J.stop i H ∧ Q (.ref D) H) ∨ (J.go i H ∧ ∃ Nx : Hp → Prop, (∀ H', Nx H' → ∃ m', m' < m ∧ W (i + 1) m' H') ∧ ∀ x H', J.yld i H x H' → g x (wipe σ vs) H' fun σ2 H2 => wipe σ2 vs = wipe σ vs ∧ dcNext K D tt tk tv Nx σ2 H2)
theorem pe_dcX {kx vx tg iter : Expr} {ifs : List Expr} {scope : Scope} {own : List (Str × Nat)} {pos : Pos} {wi : TI} {g : TG} {tt : TT} {tk tv : TE} (hu : X.A.units + 64 < cLine) (hc : X.calm = true) (hN : X.N.Nodup) (hi : PI X tg iter wi) (ok : BlkOk X.N X.env.scope scope own)
    (hg : ∀ (s : Shared) (H : Hp) (C : Addr) (cl : List (Str × Addr)) (fp : List Addr), PG (X.blk s H scope (compEnvC scope cl C X.env) fp) tg g) (ht : ∀ (s : Shared) (H : Hp) (C : Addr) (cl : List (Str × Addr)) (fp : List Addr), PTs (X.blk s H scope (compEnvC scope cl C X.env) fp) ifs tt)
    (hk : ∀ (s : Shared) (H : Hp) (C : Addr) (cl : List (Str × Addr)) (fp : List Addr), PE (X.blk s H scope (compEnvC scope cl C X.env) fp) kx tk)
    (he : ∀ (s : Shared) (H : Hp) (C : Addr) (cl : List (Str × Addr)) (fp : List Addr), PE (X.blk s H scope (compEnvC scope cl C X.env) fp) vx tv) (hs : ∀ x, foldedSetIterable iter X.env x = pure x) :
    PE X (.DictComp kx vx [⟨tg, iter, ifs, 0⟩] scope pos) (tDcX X.K wi g tt tk tv (own.map (·.2))) := by
  refine ⟨fun pins s σ H Q I h => ?_⟩
  rw [arm_eval_DictComp]
  refine wpAny_comprehension_free rfl hs (closure_ok fun y hy e => (ok.free y hy e).elim (fun k => I.ok.has _ (.inl k)) fun k => I.ok.has _ (.inr k)) ok.kind (fun y hy e => by rw [ok.uniq y hy, e])
    (thn (hi.run pins s σ H _ I h) fun xv s1 hx => thn hx fun itv s2 h2 => ?_)
  obtain ⟨it, fp, tn, J, H2, rfl, I2, T, st2, f2, q⟩ := h2
  refine wpAny_newObj_type (newEnv_comp ?_)
  generalize hD : s2.heap.objs.size = D
  obtain ⟨W, ⟨m0, w0⟩, turn⟩ := q D (I2.hok.fresh (Nat.le_of_eq hD))
  generalize hs3 : ({ s2 with heap := s2.heap.push { cls := .type "dict", data := .dict #[] } } : Shared) = s3
  have h3 : s3.heap = s2.heap.push { cls := .type "dict", data := .dict #[] } := by rw [← hs3]
  have I3 : Inv X pins σ (upd H2 D (DicO D [])) s3 := by
    rw [← hs3, ← hD]
    exact I2.laid (t' := s2.toks) (fun b o e => Heap.get?_push_of_some _ e) (Nat.le_refl _) (DicP.ok (dicP_new s2.heap I2.big X.w))
  have f3 : ∀ b ∈ fp, FpOk X pins (upd H2 D (DicO D [])) b ∧ b < s3.heap.objs.size := fun b hb => by
    obtain ⟨o, e, _⟩ := T.obj _ _ st2 b hb
    have hlt := Heap.lt_size e
    refine ⟨⟨?_, (f2 b hb).2⟩, by rw [h3, Heap.size_push]; exact Nat.lt_succ_of_lt hlt⟩
    rw [upd_ne (by rw [← hD]; exact Nat.ne_of_lt hlt)]
    exact (f2 b hb).1
  have I4 := block_start I3 ok hN f3
  generalize hH3 : upd H2 D (DicO D []) = H3 at I3 I4 w0 f3
  have pg := hg s3 H3 s3.heap.objs.size (cellsFrom (s3.heap.objs.size + 1) scope.names (cloFrom X.env.cells scope.names [])) fp
  have pt := ht s3 H3 s3.heap.objs.size (cellsFrom (s3.heap.objs.size + 1) scope.names (cloFrom X.env.cells scope.names [])) fp
  have pk := hk s3 H3 s3.heap.objs.size (cellsFrom (s3.heap.objs.size + 1) scope.names (cloFrom X.env.cells scope.names [])) fp
  have pe := he s3 H3 s3.heap.objs.size (cellsFrom (s3.heap.objs.size + 1) scope.names (cloFrom X.env.cells scope.names [])) fp
  generalize hce : compEnvC scope (cellsFrom (s3.heap.objs.size + 1) scope.names (cloFrom X.env.cells scope.names [])) s3.heap.objs.size X.env = ce at I4 pg pt pk pe
  have cL : ce.locals = s3.heap.objs.size := by subst hce; rfl
  generalize hs4 : ({ s3 with heap := pushCells (s3.heap.push { cls := .type "dict", data := .dict #[] }) scope.names } : Shared) = s4 at I4
  have st4 : tn 0 s4.heap := T.keep _ _ _ st2 fun b _ o e => by
    rw [← hs4]
    refine pushCells_keeps _ _ _ _ (Heap.get?_push_of_some _ ?_)
    rw [h3]
    exact Heap.get?_push_of_some _ e
  have stat : ∀ {σ' : L2.St} {H' : Hp} {s' : Shared}, Inv (X.blk s3 H3 scope ce fp) [] σ' H' s' → (∀ b ∈ fp, H' b = none) → ∀ b ∈ fp, FpOk (X.blk s3 H3 scope ce fp) [] H' b := fun {σ' H' s'} I' hn b hb =>
    ⟨hn b hb, (I'.ok.exf b hb).1, I'.ok.exfs b hb, .inl hb, fun x c e => (I'.ok.exf b hb).2 x c e, fun p hp => absurd (show p ∈ ([] : List (Addr × Obj)) ++ [] from hp) (by simp)⟩
  have loop : codeAny (model X.prog X.w) X.A (.compLoop (.DictComp kx vx [⟨tg, iter, ifs, 0⟩] scope pos) 0 (.ref it) (.ref D) ce) (compPost (model X.prog X.w) X.A X.xe none (EP X pins σ Q) (.ref D) s3.heap.objs.size) s4 := by
    refine compLoop_anyD (fun n s' => ∃ i H', Inv (X.blk s3 H3 scope ce fp) [] (wipe σ (own.map (·.2))) H' s' ∧ tn i s'.heap ∧ (∀ b ∈ fp, H' b = none) ∧ W i n H') ?_ m0 ⟨0, H3, I4, st4, fun b hb => (f3 b hb).1.1, w0⟩
    rintro n s5 ⟨i, H5, I5, st5, n5, w5⟩
    rcases turn i n H5 w5 with ⟨stop, qq⟩ | ⟨go, Nx, hNx, step⟩
    · refine thnF (T.done (X.blk s3 H3 scope ce fp) rfl rfl rfl hc i [] s5 _ H5 (fun _ _ => False) I5 (stat I5 n5) st5 stop) fun r s6 ⟨hr, I6⟩ => ?_
      subst hr
      have I7 : Inv X pins σ H5 s6 := I3.call' (ch := fp) I6.os I6.base I6.hok I6.bare fun b hb => ⟨(f3 b hb).1.2.2.2.1, (f3 b hb).1.2.1, (f3 b hb).1.2.2.2.2.1, (f3 b hb).1.2.2.2.2.2⟩
      obtain ⟨m, hn, _⟩ := I6.loc
      have hn : s6.heap.Ns ce.locals m := hn
      have nC : H5 ce.locals = none := I6.free
      rw [cL] at hn nC
      obtain ⟨g0, g1, g2, g3, g4, g5⟩ := I3.fpOk (Nat.le_refl _) nC
      exact ⟨m, hn, fun h'' sb => ⟨.ref D, H5, I7.turned (t' := s6.toks) (fun b o hb e => (sb.2 b hb).trans e) g0 g1 g3 g4 g5, rfl, qq⟩⟩
    · refine thnF (T.item (X.blk s3 H3 scope ce fp) rfl rfl rfl hc i [] s5 _ H5 (fun _ _ => False) I5 (stat I5 n5) st5 go) fun r s6 ⟨u, hr, h6⟩ => ?_
      subst hr
      refine thnF h6 fun _ s7 ⟨x, H7, I7, r7, y7, st7, n7⟩ => ?_
      refine thnF (pg.run _ s7 _ H7 x u _ (I7.pinned (stat I7 n7) (T.obj _ _ st7)) r7 (step x H7 y7)) fun _ s8 ⟨σ8, H8, I8, hw8, q8⟩ => ?_
      refine thnF (pt.run _ s8 σ8 H8 _ I8 q8) fun b s9 ⟨H9, I9, q9⟩ => ?_
      have back : ∀ {s' : Shared} {H' : Hp}, Inv (X.blk s3 H3 scope ce fp) ([] ++ pinsAt fp s7.heap) σ8 H' s' → Nx H' → ∃ m, m < n ∧ ∃ i H', Inv (X.blk s3 H3 scope ce fp) [] (wipe σ (own.map (·.2))) H' s' ∧ tn i s'.heap ∧ (∀ b ∈ fp, H' b = none) ∧ W i m H' := by
        intro s' H' I' nx
        obtain ⟨m', hm, w'⟩ := hNx H' nx
        have pin' : ∀ b ∈ fp, ∀ o, s7.heap.get? b = some o → s'.heap.get? b = some o ∧ H' b = none := fun b hb o e =>
          let z := I'.pin (b, o) (List.mem_append_right _ (List.mem_append_right _ (mem_pinsAt hb e)))
          ⟨z.1, z.2.1⟩
        refine ⟨m', hm, i + 1, H', (I'.unpinned (pins := [])).weak (by rw [← hw8, wipe_length]) (fun j v e => ?_), T.keep _ _ _ st7 fun b hb o e => (pin' b hb o e).1, fun b hb => ?_, w'⟩
        · rw [← hw8] at e
          exact (wipe_some e).1
        · obtain ⟨o, e, _⟩ := T.obj _ _ st7 b hb
          exact (pin' b hb o e).2
      cases b with
      | false =>
        rw [if_neg Bool.false_ne_true] at q9 ⊢
        exact back I9 q9
      | true =>
        rw [if_pos rfl] at q9 ⊢
        refine thnF (pk.run _ s9 σ8 H9 _ I9 q9) fun z s10 ⟨yk, H10, I10, r10, q10⟩ => ?_
        refine thnF (pe.run _ s10 σ8 H10 _ I10 q10) fun z2 s11 ⟨yv, H11, I11, r11, rows, k, hD11, ko, hz11, nx⟩ => ?_
        exact dx_dictSet (X := X.blk s3 H3 scope ce fp) hu I11 hD11 ko hz11 r10 r11 fun s12 I12 => back I12 nx
  have fin := codeAny_compStart_dict loop (T.self X.A 0 _ _ _ st4 loop)
  subst hs4 hce
  exact fin
end
end Tw

set_option Elab.async false
set_option linter.all false
set_option maxRecDepth 100000
/-! Tw.EvDG: dict comprehensions: the evaluator's, the walk. -/
namespace Tw
open PySem PySem.Spec PyProof.Rows L2

def dcGo (own : List Nat) (tg : Tg) (ifs : List (Sm Bool)) (ek ev : Sm D) (k : Option (Nat × D)) : List D → List D → List D → Sm (List D × List D)
  | ks, vs, [] => bnd (wipeS own) fun _ => ret (ks, vs)
  | ks, vs, x :: xs => grd (frz x) <| bnd (wipeS own) fun _ => bnd (setT tg x) fun _ => bnd (allT ifs) fun b => if b = true
      then bnd ek fun a => bnd ev fun d => bnd (still k) fun _ => grd (frz d && (homK ks a && szOk (ks.length + 1))) (dcGo own tg ifs ek ev k (putK ks vs a d).1 (putK ks vs a d).2 xs)
      else bnd (still k) fun _ => dcGo own tg ifs ek ev k ks vs xs
def dc (own : List Nat) (tg : Tg) (it : Sm Wk) (ifs : List (Sm Bool)) (ek ev : Sm D) : Sm D := bnd it fun w => withRef w.2 (inBlk own (bnd (dcGo own tg ifs ek ev w.2 [] [] w.1) fun r => ret (.dic true r.1 r.2)))
theorem dcGo_nil {own : List Nat} {tg : Tg} {ifs : List (Sm Bool)} {ek ev : Sm D} {k : Option (Nat × D)} {ks vs : List D} : dcGo own tg ifs ek ev k ks vs [] = bnd (wipeS own) fun _ => ret (ks, vs) := rfl
theorem dcGo_cons {own : List Nat} {tg : Tg} {ifs : List (Sm Bool)} {ek ev : Sm D} {k : Option (Nat × D)} {ks vs xs : List D} {x : D} : dcGo own tg ifs ek ev k ks vs (x :: xs) = (grd (frz x) <| bnd (wipeS own) fun _ => bnd (setT tg x) fun _ => bnd (allT ifs) fun b => if b = true
      then bnd ek fun a => bnd ev fun d => bnd (still k) fun _ => grd (frz d && (homK ks a && szOk (ks.length + 1))) (dcGo own tg ifs ek ev k (putK ks vs a d).1 (putK ks vs a d).2 xs)
      else bnd (still k) fun _ => dcGo own tg ifs ek ev k ks vs xs) := rfl
section
variable {K : PySem.W.Frag} {W : Wd} {H : Hp} {σD : S} {σV : L2.St} {T : List (D × V)} {F : Ct}
/-- a new thing of ours -/
theorem Good.newO {p : Addr} {o : HO} {d : D} (g : Good K W H σD σV T F) (hp : H p = none) (r : Rep K (upd H p o) (Own W fun a => F a + if a = p then 1 else 0) d (.ref p) fun a => if a = p then 1 else 0) :
    Good K W (upd H p o) σD σV ((d, .ref p) :: T) (fun a => F a + if a = p then 1 else 0) := by
  obtain ⟨Fs, Ft, r1, r2, z⟩ := g.rep
  have k := upd_keep (o := o) hp
  have t : Tr H (Own W F) (upd H p o) (Own W fun a => F a + if a = p then 1 else 0) := ⟨fun _ _ h => k _ _ h, fun _ _ _ h => k _ _ h, fun a _ n h => ⟨k _ _ h, fun q => n (q.imp (fun q => by
    have q : 1 ≤ F a + if a = p then 1 else 0 := q
    rw [if_neg (ne_of_none h hp)] at q
    exact q) id)⟩⟩
  have Fp : F p = 0 := by
    rcases Nat.eq_zero_or_pos (F p) with e | e
    · exact e
    · obtain ⟨_, e2, _⟩ := g.there p e
      rw [hp] at e2; cases e2
  refine ⟨⟨Fs, fun a => (if a = p then 1 else 0) + Ft a, RepS.tr t r1 (fun _ _ _ h => k _ _ h), ⟨_, Ft, r, RepT.tr t r2 (fun _ _ _ h => k _ _ h), fun _ => rfl⟩, fun a => ?_⟩, fun a => ?_, fun a q => ?_, fun a o e n => k _ _ (g.old a o e n), g.bw, g.rf⟩
  · show F a + (if a = p then 1 else 0) = Fs a + ((if a = p then 1 else 0) + Ft a)
    rw [z a]; omega
  · show F a + (if a = p then 1 else 0) ≤ 1
    by_cases e : a = p
    · subst e; rw [Fp, if_pos rfl]; omega
    · rw [if_neg e]; exact g.one a
  · have q : 1 ≤ F a + if a = p then 1 else 0 := q
    by_cases e : a = p
    · subst e
      cases q2 : W.H0 a with
      | none => exact .inr rfl
      | some o =>
        left
        rcases Nat.eq_zero_or_pos (W.F0 a) with q3 | q3
        · rw [g.old a o q2 q3] at hp; cases hp
        · exact q3
    · rw [if_neg e] at q
      exact g.new a q
theorem Good.newD {p : Addr} (g : Good K W H σD σV T F) (hp : H p = none) : Good K W (upd H p (DicO p [])) σD σV ((.dic true [] [], .ref p) :: T) (fun a => F a + if a = p then 1 else 0) :=
  g.newO hp ⟨p, [], z0, rfl, upd_same, rfl, ⟨rfl, fun _ => rfl⟩, ⟨rfl, fun _ => rfl⟩, fun a => by show _ = 0 + _; rw [Nat.zero_add]⟩
/-- a dict in hand is given a row -/
theorem Good.putH {p : Addr} {ks ws : List D} {a d : D} {y z : V} (g : Good K W H σD σV ((d, z) :: (a, y) :: (.dic true ks ws, .ref p) :: T) F) (hz : frz d = true) (hom : homK ks a = true) :
    ∃ rows k, H p = some (DicO p rows) ∧ rows.length = ks.length ∧ KOk K H rows k y ∧ ∃ F', Good K W (upd H p (DicO p (putR rows k y z))) σD σV ((.dic true (putK ks ws a d).1 (putK ks ws a d).2, .ref p) :: T) F' := by
  obtain ⟨Fs, Ft, r1, r2, zF⟩ := g.rep
  obtain ⟨Gd, G2, hd, h2, z2⟩ := r2
  obtain ⟨Ga, G3, ha, h3, z3⟩ := h2
  obtain ⟨Gp, G4, hp, h4, z4⟩ := h3
  obtain ⟨q, rows, Gx, e, e2, ek, rk, rw', z5⟩ := hp
  cases e
  obtain ⟨k, eq, ko⟩ := kok_of hom ek rk ha
  have zd : ∀ b, Gd b = 0 := Rep.frz0 _ _ _ hd hz
  have za : ∀ b, Ga b = 0 := Rep.frz0 _ _ _ ha (nk_frz eq)
  have hlen : rows.length = ks.length := by
    have l2 := nkL_len ek
    rw [List.length_map] at l2
    exact l2
  have h1p : F p = 1 ∧ Fs p = 0 ∧ G4 p = 0 ∧ Gx p = 0 := by
    have := g.one p
    have q1 := zF p; have q2 := z2 p; have q3 := z3 p; have q4 := z4 p; have q5 := z5 p
    rw [if_pos rfl] at q5
    omega
  obtain ⟨G', i1, i2, i3, i4⟩ := put_rows eq ha hd zd ek rk rw'
  have t := tr_updX (O := Own W F) (o1 := DicO p (putR rows k y z)) e2 (.inr ⟨_, rfl⟩) (.inl (by omega))
  have kp : ∀ (G : Ct), G p = 0 → ∀ b o, 1 ≤ G b → H b = some o → upd H p (DicO p (putR rows k y z)) b = some o := fun G hG b xs hb h => by
    rw [upd_ne (fun q => by subst q; omega)]; exact h
  have hG' : G' p = 0 := by have := i4 p; omega
  -- what is owned does not grow
  have le : ∀ b, Fs b + ((G' b + if b = p then 1 else 0) + G4 b) ≤ F b := fun b => by
    rw [zF b, z2 b, z3 b, z4 b, z5 b]
    have := i4 b
    omega
  refine ⟨rows, k, e2, hlen, ko, ?_⟩
  have t2 := own_sub (H := upd H p (DicO p (putR rows k y z))) (W := W) (F := F) (F' := fun b => Fs b + ((G' b + if b = p then 1 else 0) + G4 b)) le
  have rt : RepT K (upd H p (DicO p (putR rows k y z))) (Own W F) ((.dic true (putK ks ws a d).1 (putK ks ws a d).2, .ref p) :: T) fun b => (G' b + if b = p then 1 else 0) + G4 b :=
    ⟨fun b => G' b + if b = p then 1 else 0, G4, ⟨p, putR rows k y z, G', rfl, upd_same, i1, RepL.tr t _ _ _ i2 (kp z0 rfl), RepL.tr t _ _ _ i3 (kp G' hG'), fun _ => rfl⟩, RepT.tr t h4 (kp G4 h1p.2.2.1), fun _ => rfl⟩
  refine ⟨_, ⟨⟨Fs, _, RepS.tr t2 (RepS.tr t r1 (kp Fs h1p.2.1)) (fun _ _ _ h => h), RepT.tr t2 rt (fun _ _ _ h => h), fun _ => rfl⟩, fun b => Nat.le_trans (le b) (g.one b), fun b q => g.new b (Nat.le_trans q (le b)), fun b o e n => ?_, g.bw, g.rf⟩⟩
  have : b ≠ p := fun q => by
    subst q
    rcases g.new b (by omega) with h | h
    · omega
    · rw [e] at h; cases h
  rw [upd_ne this]
  exact g.old b o e n
end
/-- the block, the slots that stay being told -/
theorem dc_walk {K : PySem.W.Frag} {W : Wd} {ev0 ev : Env} {t : Tg} {is : List Nat} {ifs : List (Sm Bool)} {ek el0 : Sm D} {gk ge : Bool} {J : It} {ds : List D} {res : List D × List D} {k : Option (Nat × D)} {cond : Hp → Ct → Prop} {Tw T : List (D × V)} {s1 sm : S} {σ : L2.St} {H1 : Hp} {F1 : Ct} {Q : VK} (kin : Kin ev0 W ev) (hI : ItS K W J ds cond)
    (hcond : ∀ (Hc : Hp) (σc : S) (σVc : L2.St) (Tc : List (D × V)) (Fc : Ct), Good K W Hc σc σVc (Tw ++ Tc) Fc → (∀ i d, k = some (i, d) → σc[i]? = some (some d) ∧ σVc[i]? = σ[i]?) → cond Hc Fc)
    (hk : ∀ i d, k = some (i, d) → s1[i]? = some (some d) ∧ i ∉ is) (hts : ∀ i ∈ t.slots, i ∈ is) (gd : Good K W H1 s1 σ (Tw ++ T) F1)
    (hz : ownOk is s1 = true) (hr : ∀ i ∈ is, ev.refs.contains i = false) (ec : dcGo is t ifs ek el0 k [] [] ds ev (wipeD is s1) = .ok res sm)
    (kk : ∀ A H' F', Good K W H' (putB is s1 sm) σ ((.dic true res.1 res.2, .ref A) :: T) F' → Q (.ref A) H') :
    ∀ A, H1 A = none → ∃ Wv : Nat → Nat → Hp → Prop, (∃ m, Wv 0 m (upd H1 A (DicO A []))) ∧ ∀ i m H, Wv i m H →
      (J.stop i H ∧ Q (.ref A) H) ∨ (J.go i H ∧ ∃ Nx : Hp → Prop, (∀ H', Nx H' → ∃ m', m' < m ∧ Wv (i + 1) m' H') ∧ ∀ x H', J.yld i H x H' →
        (∃ W ev, Kin ev0 W ev ∧ tG K W ev t x (L2.wipe σ is) H' fun σ2 H2 => L2.wipe σ2 is = L2.wipe σ is ∧ ∃ W ev, Kin ev0 W ev ∧ tB K W ev (allT ifs) false σ2 H2 fun b H3 =>
          if b = true then ∃ W ev, Kin ev0 W ev ∧ tE K W ev ek gk σ2 H3 fun y H4 => ∃ W ev, Kin ev0 W ev ∧ tE K W ev el0 ge σ2 H4 fun z H5 => ∃ rows q, H5 A = some (DicO A rows) ∧ KOk K H5 rows q y ∧ rows.length < sizeLine ∧ Nx (upd H5 A (DicO A (putR rows q y z))) else Nx H3)) := by
  intro A hD
  have hne : ∀ i ∈ is, ∀ p ∈ W.refs, p.1 ≠ i := fun i hi => kin.1.ne (hr i hi)
  have hz' : ∀ i ∈ is, ∀ d, s1[i]? = some (some d) → frz d = true := fun i hi d e => by
    have := List.all_eq_true.mp hz i hi
    rw [e] at this
    exact this
  have hv' : ∀ i ∈ is, ∀ d, s1[i]? = some (some d) → ∃ v, σ[i]? = some (some v) := fun i hi d e => let ⟨v, q, _⟩ := gd.var e; ⟨v, q⟩
  refine ⟨fun i m H => i + m = ds.length ∧ ∃ s ks ws F, Good K W H (wipeD is s) (L2.wipe σ is) (Tw ++ ((.dic true ks ws, .ref A) :: (asideT is s1 σ ++ T))) F ∧ (∀ i d, k = some (i, d) → (wipeD is s)[i]? = some (some d)) ∧ dcGo is t ifs ek el0 k ks ws (ds.drop i) ev s = .ok res sm, ⟨ds.length, by omega, wipeD is s1, [], [], ?_⟩, ?_⟩
  · obtain ⟨F2, g2⟩ := ((gd.aside is hz').newD hD).wipe hne
    have wi : wipeD is (wipeD is s1) = wipeD is s1 := by
      apply List.ext_getElem?
      intro j
      by_cases hj : j ∈ is
      · have ln : ∀ (is : List Nat) (s : S), (wipeD is s).length = s.length := fun is s => by
          induction is with
          | nil => rfl
          | cons i is ih => show ((wipeD is s).set i none).length = _; rw [List.length_set, ih]
        have key : ∀ (s : S) (is : List Nat), j ∈ is → (wipeD is s)[j]? = if j < s.length then some none else none := by
          intro s is
          induction is with
          | nil => intro h; cases h
          | cons v vs ih =>
            intro h
            show ((wipeD vs s).set v none)[j]? = _
            by_cases e : v = j
            · subst e
              rw [List.getElem?_set_self']
              by_cases hl : v < s.length
              · rw [if_pos hl, List.getElem?_eq_getElem (by rw [ln]; exact hl)]; rfl
              · rw [if_neg hl, List.getElem?_eq_none (by rw [ln]; omega)]; rfl
            · rw [List.getElem?_set_ne e]
              exact ih (by
                rcases List.mem_cons.mp h with q | q
                · exact absurd q.symm e
                · exact q)
        rw [key _ is hj, key _ is hj, ln]
      · rw [wipeD_out hj]
    refine ⟨F2, ?_, fun i d e => ?_, by rw [List.drop_zero]; exact ec⟩
    · rw [wi]
      refine g2.perm ?_
      refine List.Perm.trans ?_ List.perm_middle.symm
      refine .cons _ ?_
      rw [← List.append_assoc, ← List.append_assoc]
      exact List.perm_append_comm.append_right T
    · rw [wi, wipeD_out (hk i d e).2]
      exact (hk i d e).1
  · rintro i m H ⟨him, s, ks, ws, F, gs, hs, el⟩
    have hc := hcond H _ _ _ F gs fun j d e => ⟨hs j d e, wipe_out (hk j d e).2⟩
    cases m with
    | zero =>
      have : i = ds.length := by omega
      subst this
      rw [List.drop_length, dcGo_nil] at el
      obtain ⟨u, s2, e2, el⟩ := bnd_ok el
      obtain ⟨er, rfl⟩ := ret_ok el
      subst er
      cases e2
      refine .inl ⟨hI.stop _ H F hc rfl, ?_⟩
      obtain ⟨F2, g2⟩ := Good.cut (A := []) gs
      have g3 := g2.perm (T' := asideT is s1 σ ++ ((.dic true ks ws, .ref A) :: T)) List.perm_middle.symm
      obtain ⟨F3, g4⟩ := g3.putB hne hv'
      rw [putV_wipe] at g4
      exact kk A H F3 g4
    | succ m =>
      have hlt : i < ds.length := by omega
      rw [List.drop_eq_getElem_cons hlt, dcGo_cons] at el
      obtain ⟨hzx, el⟩ := grd_ok el
      obtain ⟨u, s2, e2, el⟩ := bnd_ok el
      cases e2
      obtain ⟨u, s3, e3, el⟩ := bnd_ok el
      obtain ⟨b, s4, e4, el⟩ := bnd_ok el
      refine .inr ⟨hI.go i H F hc hlt, fun H => i + 1 + m = ds.length ∧ ∃ s ks ws F, Good K W H (wipeD is s) (L2.wipe σ is) (Tw ++ ((.dic true ks ws, .ref A) :: (asideT is s1 σ ++ T))) F ∧ (∀ i d, k = some (i, d) → (wipeD is s)[i]? = some (some d)) ∧ dcGo is t ifs ek el0 k ks ws (ds.drop (i + 1)) ev s = .ok res sm, fun H' h => ⟨m, Nat.lt_succ_self m, h⟩, fun x H' y => ?_⟩
      obtain ⟨px, keep⟩ := hI.yld i H F x H' ds[i] hc (List.getElem?_eq_getElem hlt) hzx y
      refine ⟨W, ev, kin, _, _, F, ds[i], gs.ext keep, ⟨px, hzx⟩, s3, e3, fun σ2 H2 F2 g2 hw => ⟨(hw is hts).trans wipe_idem, W, ev, kin, s3, _, F2, g2, b, s4, e4, fun H3 F3 g3 _ => ?_⟩⟩
      have hw' : L2.wipe σ2 is = L2.wipe σ is := (hw is hts).trans wipe_idem
      have nxt : ∀ {ks2 ws2 : List D} {s5 s6 : S} {u : Unit} {H5 : Hp} {F5 : Ct}, Good K W H5 s5 σ2 (Tw ++ ((.dic true ks2 ws2, .ref A) :: (asideT is s1 σ ++ T))) F5 → still k ev s5 = .ok u s6 → dcGo is t ifs ek el0 k ks2 ws2 (ds.drop (i + 1)) ev s6 = .ok res sm →
          i + 1 + m = ds.length ∧ ∃ s ks ws F, Good K W H5 (wipeD is s) (L2.wipe σ is) (Tw ++ ((.dic true ks ws, .ref A) :: (asideT is s1 σ ++ T))) F ∧ (∀ i d, k = some (i, d) → (wipeD is s)[i]? = some (some d)) ∧ dcGo is t ifs ek el0 k ks ws (ds.drop (i + 1)) ev s = .ok res sm := by
        intro ks2 ws2 s5 s6 u H5 F5 g5 h1 h2
        obtain ⟨rfl, h3⟩ := still_ok h1
        obtain ⟨F6, g6⟩ := g5.wipe hne
        rw [hw'] at g6
        refine ⟨by omega, s6, ks2, ws2, F6, g6, fun j d e => ?_, h2⟩
        obtain ⟨d', e5, e6⟩ := h3 j d e
        rw [wipeD_out (hk j d e).2, e5, sameD_eq d d' e6]
      cases b with
      | false =>
        rw [if_neg Bool.false_ne_true] at el
        dsimp only
        rw [if_neg Bool.false_ne_true]
        obtain ⟨u2, s5, e5, el⟩ := bnd_ok el
        exact nxt g3 e5 el
      | true =>
        rw [if_pos rfl] at el
        dsimp only
        rw [if_pos rfl]
        obtain ⟨da, s5, e5, el⟩ := bnd_ok el
        obtain ⟨de, s6, e6, el⟩ := bnd_ok el
        obtain ⟨u2, s7, e7, el⟩ := bnd_ok el
        obtain ⟨hcd, el⟩ := grd_ok el
        rw [Bool.and_eq_true, Bool.and_eq_true] at hcd
        refine ⟨W, ev, kin, s4, _, F3, g3, da, s5, e5, fun yv H4 F4 g4 _ => ⟨W, ev, kin, s5, _, F4, g4, de, s6, e6, fun zv H5 F5 g5 _ => ?_⟩⟩
        obtain ⟨rows, q, a1, a2, a3, F6, g6⟩ := (g5.perm (T' := (de, zv) :: (da, yv) :: (.dic true ks ws, .ref A) :: (Tw ++ (asideT is s1 σ ++ T))) (.cons _ (.cons _ List.perm_middle))).putH hcd.1 hcd.2.1
        refine ⟨rows, q, a1, a3, by rw [a2]; exact Nat.lt_of_succ_le (of_decide_eq_true hcd.2.2), ?_⟩
        exact nxt (g6.perm List.perm_middle.symm) e7 el

theorem dc_read {K : PySem.W.Frag} {W : Wd} {ev : Env} {t : Tg} {is : List Nat} {m : Sm Wk} {ifs : List (Sm Bool)} {ek el0 : Sm D} {gk ge : Bool} {σ : L2.St} {H : Hp} {Q : VK} (rs : Rfs W ev) (hts : ∀ i ∈ t.slots, i ∈ is) (q : tE K W ev (dc is t m ifs ek el0) false σ H Q) :
    tDcX K (tW K W ev m) (fun v σ H Q => ∃ W' ev', Kin ev W' ev' ∧ tG K W' ev' t v σ H Q) (fun σ H Q => ∃ W' ev', Kin ev W' ev' ∧ tB K W' ev' (allT ifs) false σ H Q) (fun σ H Q => ∃ W' ev', Kin ev W' ev' ∧ tE K W' ev' ek gk σ H Q) (fun σ H Q => ∃ W' ev', Kin ev W' ev' ∧ tE K W' ev' el0 ge σ H Q) is σ H Q := by
  obtain ⟨σD, T, F, gd, d, σD', ec, kk⟩ := q
  obtain ⟨w, s1, e1, ec⟩ := bnd_ok ec
  refine ⟨σD, T, F, gd, w, s1, e1, fun J H1 F1 Tw g1 wok => ?_⟩
  obtain ⟨cond, hI, hcd⟩ := wok.ex
  cases hw : w.2 with
  | none =>
    rw [hw] at ec
    obtain ⟨hz, hr, s2, e2, rfl⟩ := inBlk_ok (show inBlk is (bnd (dcGo is t ifs ek el0 none [] [] w.1) fun r => ret (.dic true r.1 r.2)) ev s1 = .ok d σD' from ec)
    obtain ⟨res, s3, e3, e2⟩ := bnd_ok e2
    obtain ⟨rfl, rfl⟩ := ret_ok e2
    exact dc_walk (ev := ev) ⟨rs, rfl⟩ hI (fun Hc σc σVc Tc Fc gc _ => hcd Hc σc σVc Tc Fc gc fun i d e => by rw [hw] at e; cases e) (fun i d e => by cases e) hts g1 hz hr e3 fun A H' F' g' => kk (.ref A) H' F' g' fun h => by cases h
  | some q =>
    obtain ⟨i, dv⟩ := q
    rw [hw] at ec
    obtain ⟨hz, hr, s2, e2, rfl⟩ := inBlk_ok (show inBlk is (bnd (dcGo is t ifs ek el0 (some (i, dv)) [] [] w.1) fun r => ret (.dic true r.1 r.2)) (ev.add i) s1 = .ok d σD' from ec)
    obtain ⟨res, s3, e3, e2⟩ := bnd_ok e2
    obtain ⟨rfl, rfl⟩ := ret_ok e2
    obtain ⟨ed, v, ev'⟩ := wok.var i dv hw
    have kin : Kin ev (W.add i v) (ev.add i) := ⟨rs.add i v, rfl⟩
    have hI' : ItS K (W.add i v) J w.1 cond := ⟨hI.go, hI.yld, hI.stop⟩
    have hni : i ∉ is := fun h => by
      have := hr i h
      rw [show (ev.add i).refs = i :: ev.refs from rfl, List.contains_cons] at this
      simp at this
    exact dc_walk (ev := ev.add i) kin hI' (fun Hc σc σVc Tc Fc gc h => hcd Hc σc σVc Tc Fc gc.unadd fun j d' e => by
        rw [hw] at e
        cases e
        exact h i dv rfl) (fun j d' e => by cases e; exact ⟨ed, hni⟩) hts (g1.add ev' ed) hz hr e3 fun A H' F' g' => kk (.ref A) H' F' g'.unadd fun h => by cases h
section
variable {X : Cx} {W : Wd} {ev : Env} {kx vx tg iter : Expr} {ifs : List Expr} {scope : Scope} {own : List (Str × Nat)} {pos spos : Pos} {t : Tg} {m : Sm Wk} {cs : List (Sm Bool)} {ck ce : Sm D} {gk ge : Bool}
theorem s_dc (hu : X.A.units + 64 < cLine) (hc : X.calm = true) (hN : X.N.Nodup) (rs : Rfs W ev) (hts : ∀ i ∈ t.slots, i ∈ own.map (·.2)) (hi : PI X tg iter (tW X.K W ev m)) (ok : BlkOk X.N X.env.scope scope own)
    (hg : ∀ (s : Shared) (H : Hp) (C : Addr) (cl : List (Str × Addr)) (fp : List Addr) W' ev', Kin ev W' ev' → PG (X.blk s H scope (compEnvC scope cl C X.env) fp) tg (tG X.K W' ev' t))
    (ht : ∀ (s : Shared) (H : Hp) (C : Addr) (cl : List (Str × Addr)) (fp : List Addr) W' ev', Kin ev W' ev' → PTs (X.blk s H scope (compEnvC scope cl C X.env) fp) ifs (tB X.K W' ev' (allT cs) false))
    (hk : ∀ (s : Shared) (H : Hp) (C : Addr) (cl : List (Str × Addr)) (fp : List Addr) W' ev', Kin ev W' ev' → PE (X.blk s H scope (compEnvC scope cl C X.env) fp) kx (tE X.K W' ev' ck gk))
    (he : ∀ (s : Shared) (H : Hp) (C : Addr) (cl : List (Str × Addr)) (fp : List Addr) W' ev', Kin ev W' ev' → PE (X.blk s H scope (compEnvC scope cl C X.env) fp) vx (tE X.K W' ev' ce ge))
    (hs : ∀ x, foldedSetIterable iter X.env x = pure x) :
    PE X (.DictComp kx vx [⟨tg, iter, ifs, 0⟩] scope pos) (tE X.K W ev (dc (own.map (·.2)) t m cs ck ce) false) :=
  PE.imp (pe_dcX hu hc hN hi ok (fun s H C cl fp => PG.ex (hg s H C cl fp)) (fun s H C cl fp => PTs.ex (ht s H C cl fp)) (fun s H C cl fp => PE.ex (hk s H C cl fp)) (fun s H C cl fp => PE.ex (he s H C cl fp)) hs) fun σ H Q q => dc_read rs hts q
end
end Tw

set_option Elab.async false
set_option linter.all false
set_option maxRecDepth 100000
/-! Tw.EvDH: is not True, is not False. -/
namespace Tw
open PySem PySem.Spec PyProof.Rows L2
theorem isNot_bl_gen {M : Model} {A : Around} {E : Value → Shared → Prop} {s : Shared} {Q : Value → Shared → Prop} {x : V} {v : Value} {c : Bool} (r : RelV x v) (h : Q (.bool (!(v == .bool c))) s) : wpAny M A (compareOp .IsNot v (.bool c)) Q E s := by
  cases x with
  | non => cases r; exact wpAny_pure h
  | bl b => cases r; exact wpAny_pure h
  | int _ => obtain ⟨t, rfl⟩ := r; exact wpAny_pure h
  | str _ => obtain ⟨t, rfl⟩ := r; exact wpAny_pure h
  | byt _ => obtain ⟨t, rfl⟩ := r; exact wpAny_pure h
  | flt _ => obtain ⟨t, rfl⟩ := r; exact wpAny_pure h
  | ref _ => cases r; exact wpAny_pure h
  | ty _ => cases r; exact wpAny_pure h
def tNotIsB (c : Bool) (ta : TE) : TE := fun σ H Q => ta σ H fun x H1 => Q (.bl (!decide (x = .bl c))) H1
section
variable {X : Cx} {W : Wd} {ev : Env} {a : Expr} {ca : Sm D} {ga : Bool} {pos : Pos}
theorem pc_notIsB {k : Bool} {j pos'} {ta : TE} (ha : PE X a ta) : PC X .IsNot a (.Constant (.bool k) j pos') (tNotIsB k ta) := by
  refine ⟨fun pins s σ H Q I h => ?_⟩
  refine thn (ha.run pins s σ H _ I h) fun v s1 ⟨x, H1, I1, r1, q1⟩ => ?_
  exact Constant_bool (isNot_bl_gen r1 ⟨.bl _, H1, I1, by rw [RelV.bl_iff r1]; rfl, q1⟩)
theorem tB_notIsB {K : PySem.W.Frag} {σ : L2.St} {H : Hp} {Q : VK} {k : Bool} (q : tB K W ev (notB (isB k ca)) ga σ H fun b H' => Q (.bl b) H') : tNotIsB k (tP K W ev ca ga) σ H Q := by
  obtain ⟨σD, T, F, gd, d, σD', ec, kk⟩ := q
  obtain ⟨b0, s0, e0, ec0⟩ := bnd_ok ec
  obtain ⟨dx, s1, e1, ec1⟩ := bnd_ok e0
  refine ⟨σD, T, F, gd, dx, s1, e1, fun x H1 F1 g1 p1 x1 => ?_⟩
  dsimp only
  rw [p1.bl_iff]
  obtain ⟨rfl, rfl⟩ := ret_ok ec1
  obtain ⟨rfl, rfl⟩ := ret_ok ec0
  exact kk H1 F1 g1 x1
theorem st_notIsB {k : Bool} {j pos'} (ha : PE X a (tP X.K W ev ca ga)) : PT X (.Compare a [.IsNot] [.Constant (.bool k) j pos'] pos) (tB X.K W ev (notB (isB k ca)) ga) :=
  PT.imp (pt_cmp (pc_notIsB ha) rfl) fun σ H Q q => tB_notIsB (q.imp fun b H' k => ⟨b, rfl, k⟩)
theorem s_notIsB {k : Bool} {j pos'} (ha : PE X a (tP X.K W ev ca ga)) : PE X (.Compare a [.IsNot] [.Constant (.bool k) j pos'] pos) (tE X.K W ev (blE (notB (isB k ca))) ga) :=
  PE.imp (pe_cmp (pc_notIsB ha) rfl) fun σ H Q q => tB_notIsB (tB_E q)
end
end Tw

set_option Elab.async false
set_option linter.all false
set_option maxRecDepth 100000
/-! Tw.EvDI: list comprehensions of two clauses. -/
namespace Tw
open PySem PySem.Spec PyProof.Rows L2

/-- the inner clause -/
def lcIn (vs1 : List Nat) (tg : Tg) (ifs : List (Sm Bool)) (elt : Sm D) (k : Option (Nat × D)) : List D → List D → Sm (List D)
  | acc, [] => ret acc
  | acc, x :: xs => grd (frz x) <| bnd (wipeS vs1) fun _ => bnd (setT tg x) fun _ => bnd (allT ifs) fun b => if b = true
      then bnd elt fun d => bnd (still k) fun _ => grd (szOk (acc.length + 1)) (lcIn vs1 tg ifs elt k (acc ++ [d]) xs)
      else bnd (still k) fun _ => lcIn vs1 tg ifs elt k acc xs
def okW (vs1 : List Nat) : Option (Nat × D) → Bool
  | some (i, _) => !vs1.contains i
  | none => true
def lc2Go (own vs1 : List Nat) (tg : Tg) (ifs : List (Sm Bool)) (m1 : Sm Wk) (tg1 : Tg) (ifs1 : List (Sm Bool)) (elt : Sm D) (k : Option (Nat × D)) : List D → List D → Sm (List D)
  | acc, [] => bnd (wipeS own) fun _ => ret acc
  | acc, x :: xs => grd (frz x) <| bnd (wipeS own) fun _ => bnd (setT tg x) fun _ => bnd (allT ifs) fun b => if b = true
      then bnd m1 fun w => grd (okW vs1 w.2) <| bnd (withRef w.2 (lcIn vs1 tg1 ifs1 elt w.2 acc w.1)) fun acc' => bnd (still k) fun _ => lc2Go own vs1 tg ifs m1 tg1 ifs1 elt k acc' xs
      else bnd (still k) fun _ => lc2Go own vs1 tg ifs m1 tg1 ifs1 elt k acc xs
def lc2 (own vs1 : List Nat) (tg : Tg) (it : Sm Wk) (ifs : List (Sm Bool)) (m1 : Sm Wk) (tg1 : Tg) (ifs1 : List (Sm Bool)) (elt : Sm D) : Sm D := bnd it fun w => withRef w.2 (inBlk own (bnd (lc2Go own vs1 tg ifs m1 tg1 ifs1 elt w.2 [] w.1) fun ds => ret (.lst true ds)))
section
variable {own vs1 : List Nat} {tg tg1 : Tg} {ifs ifs1 : List (Sm Bool)} {m1 : Sm Wk} {elt : Sm D} {k : Option (Nat × D)} {acc xs : List D} {x : D}
theorem lcIn_nil : lcIn vs1 tg ifs elt k acc [] = ret acc := rfl
theorem lcIn_cons : lcIn vs1 tg ifs elt k acc (x :: xs) = (grd (frz x) <| bnd (wipeS vs1) fun _ => bnd (setT tg x) fun _ => bnd (allT ifs) fun b => if b = true
      then bnd elt fun d => bnd (still k) fun _ => grd (szOk (acc.length + 1)) (lcIn vs1 tg ifs elt k (acc ++ [d]) xs)
      else bnd (still k) fun _ => lcIn vs1 tg ifs elt k acc xs) := rfl
theorem lc2Go_nil : lc2Go own vs1 tg ifs m1 tg1 ifs1 elt k acc [] = bnd (wipeS own) fun _ => ret acc := rfl
theorem lc2Go_cons : lc2Go own vs1 tg ifs m1 tg1 ifs1 elt k acc (x :: xs) = (grd (frz x) <| bnd (wipeS own) fun _ => bnd (setT tg x) fun _ => bnd (allT ifs) fun b => if b = true
      then bnd m1 fun w => grd (okW vs1 w.2) <| bnd (withRef w.2 (lcIn vs1 tg1 ifs1 elt w.2 acc w.1)) fun acc' => bnd (still k) fun _ => lc2Go own vs1 tg ifs m1 tg1 ifs1 elt k acc' xs
      else bnd (still k) fun _ => lc2Go own vs1 tg ifs m1 tg1 ifs1 elt k acc xs) := rfl
end
/-- the inner clause's walk: the list that grows lies at A, ahead of Tr -/
theorem lcIn_walk {K : PySem.W.Frag} {W : Wd} {ev0 ev : Env} {t : Tg} {vs1 : List Nat} {ifs : List (Sm Bool)} {elt : Sm D} {ge : Bool} {J : It} {ds acc0 res : List D} {k : Option (Nat × D)} {cond : Hp → Ct → Prop} {Tw Tr : List (D × V)} {s0 sm : S} {σ : L2.St} {H0 : Hp} {F0 : Ct} {A : Addr} {Nx : Hp → Prop}
    (kin : Kin ev0 W ev) (hI : ItS K W J ds cond)
    (hcond : ∀ (Hc : Hp) (σc : S) (σVc : L2.St) (Tc : List (D × V)) (Fc : Ct), Good K W Hc σc σVc (Tw ++ Tc) Fc → (∀ i d, k = some (i, d) → σc[i]? = some (some d) ∧ σVc[i]? = σ[i]?) → cond Hc Fc)
    (hk : ∀ i d, k = some (i, d) → s0[i]? = some (some d) ∧ i ∉ vs1) (hts : ∀ i ∈ t.slots, i ∈ vs1) (hne : ∀ i ∈ vs1, ∀ p ∈ W.refs, p.1 ≠ i)
    (g0 : Good K W H0 s0 σ (Tw ++ ((.lst true acc0, .ref A) :: Tr)) F0) (ec : lcIn vs1 t ifs elt k acc0 ds ev s0 = .ok res sm)
    (fin : ∀ H' σ' F', L2.wipe σ' vs1 = L2.wipe σ vs1 → Good K W H' (wipeD vs1 sm) (L2.wipe σ vs1) (Tw ++ ((.lst true res, .ref A) :: Tr)) F' → Nx H') :
    ∃ W1 : Nat → Nat → Hp → Prop, (∃ m, W1 0 m H0) ∧ ∀ j n H, W1 j n H →
      (J.stop j H ∧ Nx H) ∨ (J.go j H ∧ ∃ Nx1 : Hp → Prop, (∀ H', Nx1 H' → ∃ k', k' < n ∧ W1 (j + 1) k' H') ∧ ∀ x H', J.yld j H x H' →
        (∃ W ev, Kin ev0 W ev ∧ tG K W ev t x (L2.wipe σ vs1) H' fun σ3 H5 => L2.wipe σ3 vs1 = L2.wipe σ vs1 ∧ ∃ W ev, Kin ev0 W ev ∧ tB K W ev (allT ifs) false σ3 H5 fun b H6 =>
          if b = true then ∃ W ev, Kin ev0 W ev ∧ tE K W ev elt ge σ3 H6 fun y H7 => ∃ acc, H7 A = some (.lst acc) ∧ acc.length < sizeLine ∧ Nx1 (upd H7 A (.lst (acc ++ [y]))) else Nx1 H6)) := by
  refine ⟨fun i m H => i + m = ds.length ∧ ∃ s acc F, Good K W H (wipeD vs1 s) (L2.wipe σ vs1) (Tw ++ ((.lst true acc, .ref A) :: Tr)) F ∧ (∀ i d, k = some (i, d) → (wipeD vs1 s)[i]? = some (some d)) ∧ lcIn vs1 t ifs elt k acc (ds.drop i) ev s = .ok res sm, ⟨ds.length, by omega, s0, acc0, ?_⟩, ?_⟩
  · obtain ⟨F2, g2⟩ := g0.wipe hne
    exact ⟨F2, g2, fun i d e => by rw [wipeD_out (hk i d e).2]; exact (hk i d e).1, by rw [List.drop_zero]; exact ec⟩
  · rintro i m H ⟨him, s, acc, F, gs, hs, el⟩
    have hc := hcond H _ _ _ F gs fun j d e => ⟨hs j d e, wipe_out (hk j d e).2⟩
    cases m with
    | zero =>
      have : i = ds.length := by omega
      subst this
      rw [List.drop_length, lcIn_nil] at el
      obtain ⟨rfl, rfl⟩ := ret_ok el
      exact .inl ⟨hI.stop _ H F hc rfl, fin H σ F rfl gs⟩
    | succ m =>
      have hlt : i < ds.length := by omega
      rw [List.drop_eq_getElem_cons hlt, lcIn_cons] at el
      obtain ⟨hzx, el⟩ := grd_ok el
      obtain ⟨u, s2, e2, el⟩ := bnd_ok el
      cases e2
      obtain ⟨u, s3, e3, el⟩ := bnd_ok el
      obtain ⟨b, s4, e4, el⟩ := bnd_ok el
      refine .inr ⟨hI.go i H F hc hlt, fun H => i + 1 + m = ds.length ∧ ∃ s acc F, Good K W H (wipeD vs1 s) (L2.wipe σ vs1) (Tw ++ ((.lst true acc, .ref A) :: Tr)) F ∧ (∀ i d, k = some (i, d) → (wipeD vs1 s)[i]? = some (some d)) ∧ lcIn vs1 t ifs elt k acc (ds.drop (i + 1)) ev s = .ok res sm, fun H' h => ⟨m, Nat.lt_succ_self m, h⟩, fun x H' y => ?_⟩
      obtain ⟨px, keep⟩ := hI.yld i H F x H' ds[i] hc (List.getElem?_eq_getElem hlt) hzx y
      refine ⟨W, ev, kin, _, _, F, ds[i], gs.ext keep, ⟨px, hzx⟩, s3, e3, fun σ2 H2 F2 g2 hw => ⟨(hw vs1 hts).trans wipe_idem, W, ev, kin, s3, _, F2, g2, b, s4, e4, fun H3 F3 g3 _ => ?_⟩⟩
      have hw' : L2.wipe σ2 vs1 = L2.wipe σ vs1 := (hw vs1 hts).trans wipe_idem
      have nxt : ∀ {acc2 : List D} {s5 s6 : S} {u : Unit} {H5 : Hp} {F5 : Ct}, Good K W H5 s5 σ2 (Tw ++ ((.lst true acc2, .ref A) :: Tr)) F5 → still k ev s5 = .ok u s6 → lcIn vs1 t ifs elt k acc2 (ds.drop (i + 1)) ev s6 = .ok res sm →
          i + 1 + m = ds.length ∧ ∃ s acc F, Good K W H5 (wipeD vs1 s) (L2.wipe σ vs1) (Tw ++ ((.lst true acc, .ref A) :: Tr)) F ∧ (∀ i d, k = some (i, d) → (wipeD vs1 s)[i]? = some (some d)) ∧ lcIn vs1 t ifs elt k acc (ds.drop (i + 1)) ev s = .ok res sm := by
        intro acc2 s5 s6 u H5 F5 g5 h1 h2
        obtain ⟨rfl, h3⟩ := still_ok h1
        obtain ⟨F6, g6⟩ := g5.wipe hne
        rw [hw'] at g6
        refine ⟨by omega, s6, acc2, F6, g6, fun j d e => ?_, h2⟩
        obtain ⟨d', e5, e6⟩ := h3 j d e
        rw [wipeD_out (hk j d e).2, e5, sameD_eq d d' e6]
      cases b with
      | false =>
        rw [if_neg Bool.false_ne_true] at el
        dsimp only
        rw [if_neg Bool.false_ne_true]
        obtain ⟨u2, s5, e5, el⟩ := bnd_ok el
        exact nxt g3 e5 el
      | true =>
        rw [if_pos rfl] at el
        dsimp only
        rw [if_pos rfl]
        obtain ⟨de, s5, e5, el⟩ := bnd_ok el
        obtain ⟨u2, s6, e6, el⟩ := bnd_ok el
        obtain ⟨hsz, el⟩ := grd_ok el
        refine ⟨W, ev, kin, s4, _, F3, g3, de, s5, e5, fun yv H4 F4 g4 _ => ?_⟩
        obtain ⟨vs, a1, a2, g5⟩ := (g4.perm (T' := (de, yv) :: (.lst true acc, .ref A) :: (Tw ++ Tr)) (.cons _ List.perm_middle)).app
        refine ⟨vs, a1, by rw [a2]; exact Nat.lt_of_succ_le (of_decide_eq_true hsz), ?_⟩
        exact nxt (g5.perm List.perm_middle.symm) e6 el
theorem wipeD_get : ∀ {is : List Nat} {s : S} {j : Nat}, (wipeD is s)[j]? = if j ∈ is then (if j < s.length then some none else none) else s[j]?
  | [], s, j => by simp [wipeD]
  | i :: is, s, j => by
    show ((wipeD is s).set i none)[j]? = _
    have ih := wipeD_get (is := is) (s := s) (j := j)
    have ln : ∀ (is : List Nat) (s : S), (wipeD is s).length = s.length := fun is s => by
      induction is with
      | nil => rfl
      | cons i is ih => show ((wipeD is s).set i none).length = _; rw [List.length_set, ih]
    by_cases e : i = j
    · subst e
      rw [List.getElem?_set_self', if_pos List.mem_cons_self]
      by_cases hl : i < s.length
      · rw [if_pos hl, List.getElem?_eq_getElem (by rw [ln]; exact hl)]; rfl
      · rw [if_neg hl, List.getElem?_eq_none (by rw [ln]; omega)]; rfl
    · rw [List.getElem?_set_ne e, ih]
      have : (j ∈ i :: is) ↔ j ∈ is := by
        rw [List.mem_cons]
        exact ⟨fun h => h.resolve_left fun q => e q.symm, .inr⟩
      simp only [this]
theorem wipeD_len (is : List Nat) (s : S) : (wipeD is s).length = s.length := by
  induction is with
  | nil => rfl
  | cons i is ih => show ((wipeD is s).set i none).length = _; rw [List.length_set, ih]
theorem wipeD_sub {is vs : List Nat} {s : S} (h : ∀ i ∈ vs, i ∈ is) : wipeD is (wipeD vs s) = wipeD is s := by
  apply List.ext_getElem?
  intro j
  rw [wipeD_get, wipeD_get, wipeD_len, wipeD_get]
  by_cases hj : j ∈ is
  · rw [if_pos hj, if_pos hj]
  · rw [if_neg hj, if_neg hj, if_neg fun q => hj (h j q)]
theorem wipeV_get : ∀ {is : List Nat} {s : L2.St} {j : Nat}, (L2.wipe s is)[j]? = if j ∈ is then (if j < s.length then some none else none) else s[j]?
  | [], s, j => by simp [L2.wipe]
  | i :: is, s, j => by
    unfold L2.wipe
    have ih := wipeV_get (is := is) (s := s) (j := j)
    by_cases e : i = j
    · subst e
      rw [List.getElem?_set_self', if_pos List.mem_cons_self]
      by_cases hl : i < s.length
      · rw [if_pos hl, List.getElem?_eq_getElem (by rw [wipe_length]; exact hl)]; rfl
      · rw [if_neg hl, List.getElem?_eq_none (by rw [wipe_length]; omega)]; rfl
    · rw [List.getElem?_set_ne e, ih]
      have : (j ∈ i :: is) ↔ j ∈ is := by
        rw [List.mem_cons]
        exact ⟨fun h => h.resolve_left fun q => e q.symm, .inr⟩
      simp only [this]
theorem wipeV_sub {is vs : List Nat} {s : L2.St} (h : ∀ i ∈ vs, i ∈ is) : L2.wipe (L2.wipe s vs) is = L2.wipe s is := by
  apply List.ext_getElem?
  intro j
  rw [wipeV_get, wipeV_get, wipe_length, wipeV_get]
  by_cases hj : j ∈ is
  · rw [if_pos hj, if_pos hj]
  · rw [if_neg hj, if_neg hj, if_neg fun q => hj (h j q)]
/-- the block, the slots that stay being told -/
theorem lc2_walk {K : PySem.W.Frag} {W : Wd} {ev0 ev : Env} {t t1 : Tg} {is vs1 : List Nat} {ifs ifs1 : List (Sm Bool)} {m1 : Sm Wk} {elt : Sm D} {ge : Bool} {J : It} {ds res : List D} {k : Option (Nat × D)} {cond : Hp → Ct → Prop} {Tw T : List (D × V)} {s1 sm : S} {σ : L2.St} {H1 : Hp} {F1 : Ct} {Q : VK} (kin : Kin ev0 W ev) (hI : ItS K W J ds cond)
    (hcond : ∀ (Hc : Hp) (σc : S) (σVc : L2.St) (Tc : List (D × V)) (Fc : Ct), Good K W Hc σc σVc (Tw ++ Tc) Fc → (∀ i d, k = some (i, d) → σc[i]? = some (some d) ∧ σVc[i]? = σ[i]?) → cond Hc Fc)
    (hk : ∀ i d, k = some (i, d) → s1[i]? = some (some d) ∧ i ∉ is) (hts : ∀ i ∈ t.slots, i ∈ is) (hv1 : ∀ i ∈ vs1, i ∈ is) (hts1 : ∀ i ∈ t1.slots, i ∈ vs1) (gd : Good K W H1 s1 σ (Tw ++ T) F1)
    (hz : ownOk is s1 = true) (hr : ∀ i ∈ is, ev.refs.contains i = false) (ec : lc2Go is vs1 t ifs m1 t1 ifs1 elt k [] ds ev (wipeD is s1) = .ok res sm)
    (kk : ∀ A H' F', Good K W H' (putB is s1 sm) σ ((.lst true res, .ref A) :: T) F' → Q (.ref A) H') :
    ∀ A, H1 A = none → ∃ Wv : Nat → Nat → Hp → Prop, (∃ m, Wv 0 m (upd H1 A (.lst []))) ∧ ∀ i m H, Wv i m H →
      (J.stop i H ∧ Q (.ref A) H) ∨ (J.go i H ∧ ∃ Nx : Hp → Prop, (∀ H', Nx H' → ∃ m', m' < m ∧ Wv (i + 1) m' H') ∧ ∀ x H', J.yld i H x H' →
        (∃ W ev, Kin ev0 W ev ∧ tG K W ev t x (L2.wipe σ is) H' fun σ2 H2 => L2.wipe σ2 is = L2.wipe σ is ∧ ∃ W ev, Kin ev0 W ev ∧ tB K W ev (allT ifs) false σ2 H2 fun b H3 =>
          if b = true then ∃ W ev, Kin ev0 W ev ∧ tW K W ev m1 σ2 H3 fun J1 H4 => ∃ W1 : Nat → Nat → Hp → Prop, (∃ m, W1 0 m H4) ∧ ∀ j n H, W1 j n H →
            (J1.stop j H ∧ Nx H) ∨ (J1.go j H ∧ ∃ Nx1 : Hp → Prop, (∀ H', Nx1 H' → ∃ k', k' < n ∧ W1 (j + 1) k' H') ∧ ∀ x H', J1.yld j H x H' →
              (∃ W ev, Kin ev0 W ev ∧ tG K W ev t1 x (L2.wipe σ2 vs1) H' fun σ3 H5 => L2.wipe σ3 vs1 = L2.wipe σ2 vs1 ∧ ∃ W ev, Kin ev0 W ev ∧ tB K W ev (allT ifs1) false σ3 H5 fun b H6 =>
                if b = true then ∃ W ev, Kin ev0 W ev ∧ tE K W ev elt ge σ3 H6 fun y H7 => ∃ acc, H7 A = some (.lst acc) ∧ acc.length < sizeLine ∧ Nx1 (upd H7 A (.lst (acc ++ [y]))) else Nx1 H6))
          else Nx H3)) := by
  intro A hD
  have hne : ∀ i ∈ is, ∀ p ∈ W.refs, p.1 ≠ i := fun i hi => kin.1.ne (hr i hi)
  have hz' : ∀ i ∈ is, ∀ d, s1[i]? = some (some d) → frz d = true := fun i hi d e => by
    have := List.all_eq_true.mp hz i hi
    rw [e] at this
    exact this
  have hv' : ∀ i ∈ is, ∀ d, s1[i]? = some (some d) → ∃ v, σ[i]? = some (some v) := fun i hi d e => let ⟨v, q, _⟩ := gd.var e; ⟨v, q⟩
  refine ⟨fun i m H => i + m = ds.length ∧ ∃ s acc F, Good K W H (wipeD is s) (L2.wipe σ is) (Tw ++ ((.lst true acc, .ref A) :: (asideT is s1 σ ++ T))) F ∧ (∀ i d, k = some (i, d) → (wipeD is s)[i]? = some (some d)) ∧ lc2Go is vs1 t ifs m1 t1 ifs1 elt k acc (ds.drop i) ev s = .ok res sm, ⟨ds.length, by omega, wipeD is s1, [], ?_⟩, ?_⟩
  · obtain ⟨F2, g2⟩ := ((gd.aside is hz').newL hD (ds := []) (vs := []) (G := z0) ⟨rfl, fun _ => rfl⟩ fun _ => rfl).wipe hne
    have wi : wipeD is (wipeD is s1) = wipeD is s1 := by
      apply List.ext_getElem?
      intro j
      by_cases hj : j ∈ is
      · have ln : ∀ (is : List Nat) (s : S), (wipeD is s).length = s.length := fun is s => by
          induction is with
          | nil => rfl
          | cons i is ih => show ((wipeD is s).set i none).length = _; rw [List.length_set, ih]
        have key : ∀ (s : S) (is : List Nat), j ∈ is → (wipeD is s)[j]? = if j < s.length then some none else none := by
          intro s is
          induction is with
          | nil => intro h; cases h
          | cons v vs ih =>
            intro h
            show ((wipeD vs s).set v none)[j]? = _
            by_cases e : v = j
            · subst e
              rw [List.getElem?_set_self']
              by_cases hl : v < s.length
              · rw [if_pos hl, List.getElem?_eq_getElem (by rw [ln]; exact hl)]; rfl
              · rw [if_neg hl, List.getElem?_eq_none (by rw [ln]; omega)]; rfl
            · rw [List.getElem?_set_ne e]
              exact ih (by
                rcases List.mem_cons.mp h with q | q
                · exact absurd q.symm e
                · exact q)
        rw [key _ is hj, key _ is hj, ln]
      · rw [wipeD_out hj]
    refine ⟨F2, ?_, fun i d e => ?_, by rw [List.drop_zero]; exact ec⟩
    · rw [wi]
      refine g2.perm ?_
      refine List.Perm.trans ?_ List.perm_middle.symm
      refine .cons _ ?_
      rw [← List.append_assoc, ← List.append_assoc]
      exact List.perm_append_comm.append_right T
    · rw [wi, wipeD_out (hk i d e).2]
      exact (hk i d e).1
  · rintro i m H ⟨him, s, acc, F, gs, hs, el⟩
    have hc := hcond H _ _ _ F gs fun j d e => ⟨hs j d e, wipe_out (hk j d e).2⟩
    cases m with
    | zero =>
      have : i = ds.length := by omega
      subst this
      rw [List.drop_length, lc2Go_nil] at el
      obtain ⟨u, s2, e2, el⟩ := bnd_ok el
      obtain ⟨rfl, rfl⟩ := ret_ok el
      cases e2
      refine .inl ⟨hI.stop _ H F hc rfl, ?_⟩
      obtain ⟨F2, g2⟩ := Good.cut (A := []) gs
      have g3 := g2.perm (T' := asideT is s1 σ ++ ((.lst true res, .ref A) :: T)) List.perm_middle.symm
      obtain ⟨F3, g4⟩ := g3.putB hne hv'
      rw [putV_wipe] at g4
      exact kk A H F3 g4
    | succ m =>
      have hlt : i < ds.length := by omega
      rw [List.drop_eq_getElem_cons hlt, lc2Go_cons] at el
      obtain ⟨hzx, el⟩ := grd_ok el
      obtain ⟨u, s2, e2, el⟩ := bnd_ok el
      cases e2
      obtain ⟨u, s3, e3, el⟩ := bnd_ok el
      obtain ⟨b, s4, e4, el⟩ := bnd_ok el
      refine .inr ⟨hI.go i H F hc hlt, fun H => i + 1 + m = ds.length ∧ ∃ s acc F, Good K W H (wipeD is s) (L2.wipe σ is) (Tw ++ ((.lst true acc, .ref A) :: (asideT is s1 σ ++ T))) F ∧ (∀ i d, k = some (i, d) → (wipeD is s)[i]? = some (some d)) ∧ lc2Go is vs1 t ifs m1 t1 ifs1 elt k acc (ds.drop (i + 1)) ev s = .ok res sm, fun H' h => ⟨m, Nat.lt_succ_self m, h⟩, fun x H' y => ?_⟩
      obtain ⟨px, keep⟩ := hI.yld i H F x H' ds[i] hc (List.getElem?_eq_getElem hlt) hzx y
      refine ⟨W, ev, kin, _, _, F, ds[i], gs.ext keep, ⟨px, hzx⟩, s3, e3, fun σ2 H2 F2 g2 hw => ⟨(hw is hts).trans wipe_idem, W, ev, kin, s3, _, F2, g2, b, s4, e4, fun H3 F3 g3 _ => ?_⟩⟩
      have hw' : L2.wipe σ2 is = L2.wipe σ is := (hw is hts).trans wipe_idem
      have nxt : ∀ {acc2 : List D} {s5 s6 : S} {u : Unit} {H5 : Hp} {F5 : Ct}, Good K W H5 s5 σ2 (Tw ++ ((.lst true acc2, .ref A) :: (asideT is s1 σ ++ T))) F5 → still k ev s5 = .ok u s6 → lc2Go is vs1 t ifs m1 t1 ifs1 elt k acc2 (ds.drop (i + 1)) ev s6 = .ok res sm →
          i + 1 + m = ds.length ∧ ∃ s acc F, Good K W H5 (wipeD is s) (L2.wipe σ is) (Tw ++ ((.lst true acc, .ref A) :: (asideT is s1 σ ++ T))) F ∧ (∀ i d, k = some (i, d) → (wipeD is s)[i]? = some (some d)) ∧ lc2Go is vs1 t ifs m1 t1 ifs1 elt k acc (ds.drop (i + 1)) ev s = .ok res sm := by
        intro acc2 s5 s6 u H5 F5 g5 h1 h2
        obtain ⟨rfl, h3⟩ := still_ok h1
        obtain ⟨F6, g6⟩ := g5.wipe hne
        rw [hw'] at g6
        refine ⟨by omega, s6, acc2, F6, g6, fun j d e => ?_, h2⟩
        obtain ⟨d', e5, e6⟩ := h3 j d e
        rw [wipeD_out (hk j d e).2, e5, sameD_eq d d' e6]
      cases b with
      | false =>
        rw [if_neg Bool.false_ne_true] at el
        dsimp only
        rw [if_neg Bool.false_ne_true]
        obtain ⟨u2, s5, e5, el⟩ := bnd_ok el
        exact nxt g3 e5 el
      | true =>
        rw [if_pos rfl] at el
        dsimp only
        rw [if_pos rfl]
        obtain ⟨w, s5, e5, el⟩ := bnd_ok el
        obtain ⟨hok, el⟩ := grd_ok el
        obtain ⟨acc', s6, e6, el⟩ := bnd_ok el
        obtain ⟨u2, s7, e7, el3⟩ := bnd_ok el
        refine ⟨W, ev, kin, s4, _, F3, g3, w, s5, e5, fun J1 H4 F4 Tw1 g4 wok => ?_⟩
        obtain ⟨cond1, hI1, hcd1⟩ := wok.ex
        have hv : ∀ i ∈ vs1, ev.refs.contains i = false := fun i hi => hr i (hv1 i hi)
        have gp : Good K W H4 s5 σ2 (Tw1 ++ ((.lst true acc, .ref A) :: (Tw ++ (asideT is s1 σ ++ T)))) F4 := g4.perm (List.perm_middle.append_left Tw1)
        have done : ∀ H' F', Good K W H' (wipeD vs1 s6) (L2.wipe σ2 vs1) (Tw1 ++ ((.lst true acc', .ref A) :: (Tw ++ (asideT is s1 σ ++ T)))) F' →
            i + 1 + m = ds.length ∧ ∃ s acc F, Good K W H' (wipeD is s) (L2.wipe σ is) (Tw ++ ((.lst true acc, .ref A) :: (asideT is s1 σ ++ T))) F ∧ (∀ i d, k = some (i, d) → (wipeD is s)[i]? = some (some d)) ∧ lc2Go is vs1 t ifs m1 t1 ifs1 elt k acc (ds.drop (i + 1)) ev s = .ok res sm := by
          intro H' F' g'
          obtain ⟨F5, g5⟩ := Good.cut (A := []) g'
          obtain ⟨F6, g6⟩ := (show Good K W H' (wipeD vs1 s6) (L2.wipe σ2 vs1) ((.lst true acc', .ref A) :: (Tw ++ (asideT is s1 σ ++ T))) F5 from g5).wipe hne
          rw [wipeD_sub hv1, wipeV_sub hv1, hw'] at g6
          obtain ⟨rfl, h3⟩ := still_ok e7
          refine ⟨by omega, s7, acc', F6, g6.perm List.perm_middle.symm, fun j d e => ?_, el3⟩
          obtain ⟨d', e8, e9⟩ := h3 j d e
          rw [wipeD_out (hk j d e).2, e8, sameD_eq d d' e9]
        cases hw2 : w.2 with
        | none =>
          rw [hw2] at e6
          exact lcIn_walk (ev := ev) kin hI1 (fun Hc σc σVc Tc Fc gc _ => hcd1 Hc σc σVc Tc Fc gc fun i d e => by rw [hw2] at e; cases e) (fun i d e => by cases e) hts1 (fun i hi => hne i (hv1 i hi)) gp e6 fun H' σ' F' _ g' => done H' F' g'
        | some q =>
          obtain ⟨i1, dv⟩ := q
          rw [hw2] at e6
          obtain ⟨ed, v, ev1⟩ := wok.var i1 dv hw2
          have kin1 : Kin ev0 (W.add i1 v) (ev.add i1) := ⟨kin.1.add i1 v, kin.2⟩
          have hI1' : ItS K (W.add i1 v) J1 w.1 cond1 := ⟨hI1.go, hI1.yld, hI1.stop⟩
          have hni : i1 ∉ vs1 := fun h => by
            rw [hw2] at hok
            have hok : (!vs1.contains i1) = true := hok
            simp [h] at hok
          exact lcIn_walk (ev := ev.add i1) kin1 hI1' (fun Hc σc σVc Tc Fc gc h => hcd1 Hc σc σVc Tc Fc gc.unadd fun j d' e => by
              rw [hw2] at e
              cases e
              exact h i1 dv rfl) (fun j d' e => by cases e; exact ⟨ed, hni⟩) hts1 (fun i hi p hp => by
              rcases List.mem_cons.mp hp with rfl | hp
              · exact fun q => hni (by have q : i1 = i := q; rw [q]; exact hi)
              · exact hne i (hv1 i hi) p hp) (gp.add ev1 ed) e6 fun H' σ' F' _ g' => done H' F' g'.unadd
theorem PI.ex {X : Cx} {tg e : Expr} {P : Wd → Env → Prop} {t : Wd → Env → TI} (h : ∀ W ev, P W ev → PI X tg e (t W ev)) : PI X tg e (fun σ H R => ∃ W ev, P W ev ∧ t W ev σ H R) := ⟨fun pins s σ H R I ⟨W, ev, p, q⟩ => (h W ev p).run pins s σ H R I q⟩
theorem lc2_read {K : PySem.W.Frag} {W : Wd} {ev : Env} {t t1 : Tg} {is vs1 : List Nat} {m m1 : Sm Wk} {ifs ifs1 : List (Sm Bool)} {elt : Sm D} {ge : Bool} {σ : L2.St} {H : Hp} {Q : VK} (rs : Rfs W ev) (hts : ∀ i ∈ t.slots, i ∈ is) (hv1 : ∀ i ∈ vs1, i ∈ is) (hts1 : ∀ i ∈ t1.slots, i ∈ vs1) (q : tE K W ev (lc2 is vs1 t m ifs m1 t1 ifs1 elt) false σ H Q) :
    tLc2 (tW K W ev m) (fun v σ H Q => ∃ W' ev', Kin ev W' ev' ∧ tG K W' ev' t v σ H Q) (fun σ H Q => ∃ W' ev', Kin ev W' ev' ∧ tB K W' ev' (allT ifs) false σ H Q) (fun σ H R => ∃ W' ev', Kin ev W' ev' ∧ tW K W' ev' m1 σ H R) (fun v σ H Q => ∃ W' ev', Kin ev W' ev' ∧ tG K W' ev' t1 v σ H Q) (fun σ H Q => ∃ W' ev', Kin ev W' ev' ∧ tB K W' ev' (allT ifs1) false σ H Q) (fun σ H Q => ∃ W' ev', Kin ev W' ev' ∧ tE K W' ev' elt ge σ H Q) is vs1 σ H Q := by
  obtain ⟨σD, T, F, gd, d, σD', ec, kk⟩ := q
  obtain ⟨w, s1, e1, ec⟩ := bnd_ok ec
  refine ⟨σD, T, F, gd, w, s1, e1, fun J H1 F1 Tw g1 wok => ?_⟩
  obtain ⟨cond, hI, hcd⟩ := wok.ex
  cases hw : w.2 with
  | none =>
    rw [hw] at ec
    obtain ⟨hz, hr, s2, e2, rfl⟩ := inBlk_ok (show inBlk is (bnd (lc2Go is vs1 t ifs m1 t1 ifs1 elt none [] w.1) fun ds => ret (.lst true ds)) ev s1 = .ok d σD' from ec)
    obtain ⟨res, s3, e3, e2⟩ := bnd_ok e2
    obtain ⟨rfl, rfl⟩ := ret_ok e2
    exact lc2_walk (ev := ev) ⟨rs, rfl⟩ hI (fun Hc σc σVc Tc Fc gc _ => hcd Hc σc σVc Tc Fc gc fun i d e => by rw [hw] at e; cases e) (fun i d e => by cases e) hts hv1 hts1 g1 hz hr e3 fun A H' F' g' => kk (.ref A) H' F' g' fun h => by cases h
  | some q =>
    obtain ⟨i, dv⟩ := q
    rw [hw] at ec
    obtain ⟨hz, hr, s2, e2, rfl⟩ := inBlk_ok (show inBlk is (bnd (lc2Go is vs1 t ifs m1 t1 ifs1 elt (some (i, dv)) [] w.1) fun ds => ret (.lst true ds)) (ev.add i) s1 = .ok d σD' from ec)
    obtain ⟨res, s3, e3, e2⟩ := bnd_ok e2
    obtain ⟨rfl, rfl⟩ := ret_ok e2
    obtain ⟨ed, v, ev'⟩ := wok.var i dv hw
    have kin : Kin ev (W.add i v) (ev.add i) := ⟨rs.add i v, rfl⟩
    have hI' : ItS K (W.add i v) J w.1 cond := ⟨hI.go, hI.yld, hI.stop⟩
    have hni : i ∉ is := fun h => by
      have := hr i h
      rw [show (ev.add i).refs = i :: ev.refs from rfl, List.contains_cons] at this
      simp at this
    exact lc2_walk (ev := ev.add i) kin hI' (fun Hc σc σVc Tc Fc gc h => hcd Hc σc σVc Tc Fc gc.unadd fun j d' e => by
        rw [hw] at e
        cases e
        exact h i dv rfl) (fun j d' e => by cases e; exact ⟨ed, hni⟩) hts hv1 hts1 (g1.add ev' ed) hz hr e3 fun A H' F' g' => kk (.ref A) H' F' g'.unadd fun h => by cases h
section
variable {X : Cx} {W : Wd} {ev : Env} {elt tg iter tg1 iter1 : Expr} {ifs ifs1 : List Expr} {scope : Scope} {own : List (Str × Nat)} {vs1 : List Nat} {pos spos : Pos} {t t1 : Tg} {m m1 : Sm Wk} {cs cs1 : List (Sm Bool)} {ce : Sm D} {ge : Bool}
theorem s_lc2 (hc : X.calm = true) (hN : X.N.Nodup) (rs : Rfs W ev) (hts : ∀ i ∈ t.slots, i ∈ own.map (·.2)) (hv1 : ∀ i ∈ vs1, i ∈ own.map (·.2)) (hts1 : ∀ i ∈ t1.slots, i ∈ vs1) (hi : PI X tg iter (tW X.K W ev m)) (ok : BlkOk X.N X.env.scope scope own)
    (hg : ∀ (s : Shared) (H : Hp) (C : Addr) (cl : List (Str × Addr)) (fp : List Addr) W' ev', Kin ev W' ev' → PG (X.blk s H scope (compEnvC scope cl C X.env) fp) tg (tG X.K W' ev' t))
    (ht : ∀ (s : Shared) (H : Hp) (C : Addr) (cl : List (Str × Addr)) (fp : List Addr) W' ev', Kin ev W' ev' → PTs (X.blk s H scope (compEnvC scope cl C X.env) fp) ifs (tB X.K W' ev' (allT cs) false))
    (hi1 : ∀ (s : Shared) (H : Hp) (C : Addr) (cl : List (Str × Addr)) (fp : List Addr) W' ev', Kin ev W' ev' → PI (X.blk s H scope (compEnvC scope cl C X.env) fp) tg1 iter1 (tW X.K W' ev' m1))
    (hg1 : ∀ (s : Shared) (H : Hp) (C : Addr) (cl : List (Str × Addr)) (fp : List Addr) W' ev', Kin ev W' ev' → PG (X.blk s H scope (compEnvC scope cl C X.env) fp) tg1 (tG X.K W' ev' t1))
    (ht1 : ∀ (s : Shared) (H : Hp) (C : Addr) (cl : List (Str × Addr)) (fp : List Addr) W' ev', Kin ev W' ev' → PTs (X.blk s H scope (compEnvC scope cl C X.env) fp) ifs1 (tB X.K W' ev' (allT cs1) false))
    (he : ∀ (s : Shared) (H : Hp) (C : Addr) (cl : List (Str × Addr)) (fp : List Addr) W' ev', Kin ev W' ev' → PE (X.blk s H scope (compEnvC scope cl C X.env) fp) elt (tE X.K W' ev' ce ge))
    (hs : ∀ x, foldedSetIterable iter X.env x = pure x) (hs1 : ∀ env x, foldedSetIterable iter1 env x = pure x) :
    PE X (.ListComp elt [⟨tg, iter, ifs, 0⟩, ⟨tg1, iter1, ifs1, 0⟩] scope pos) (tE X.K W ev (lc2 (own.map (·.2)) vs1 t m cs m1 t1 cs1 ce) false) :=
  PE.imp (pe_lc2 hc hN hi ok hv1 (fun s H C cl fp => PG.ex (hg s H C cl fp)) (fun s H C cl fp => PTs.ex (ht s H C cl fp)) (fun s H C cl fp => PI.ex (hi1 s H C cl fp)) (fun s H C cl fp => PG.ex (hg1 s H C cl fp)) (fun s H C cl fp => PTs.ex (ht1 s H C cl fp)) (fun s H C cl fp => PE.ex (he s H C cl fp)) hs hs1) fun σ H Q q => lc2_read rs hts hv1 hts1 q
theorem ss_setLc2 {i : Nat} {y : Str} {py : Pos} (hy : X.N[i]? = some y) (hyl : X.env.scope.names.lookup y = some .local) (hsw : swapsWith (.ListComp elt [⟨tg, iter, ifs, 0⟩, ⟨tg1, iter1, ifs1, 0⟩] scope pos) (some (.Name y py)) spos.line X.env = pure true) (hc : X.calm = true) (hN : X.N.Nodup) (rs : Rfs W ev) (hts : ∀ i ∈ t.slots, i ∈ own.map (·.2)) (hv1 : ∀ i ∈ vs1, i ∈ own.map (·.2)) (hts1 : ∀ i ∈ t1.slots, i ∈ vs1) (hi : PI X tg iter (tW X.K W ev m)) (ok : BlkOk X.N X.env.scope scope own)
    (hg : ∀ (s : Shared) (H : Hp) (C : Addr) (cl : List (Str × Addr)) (fp : List Addr) W' ev', Kin ev W' ev' → PG (X.blk s H scope (compEnvC scope cl C X.env) fp) tg (tG X.K W' ev' t))
    (ht : ∀ (s : Shared) (H : Hp) (C : Addr) (cl : List (Str × Addr)) (fp : List Addr) W' ev', Kin ev W' ev' → PTs (X.blk s H scope (compEnvC scope cl C X.env) fp) ifs (tB X.K W' ev' (allT cs) false))
    (hi1 : ∀ (s : Shared) (H : Hp) (C : Addr) (cl : List (Str × Addr)) (fp : List Addr) W' ev', Kin ev W' ev' → PI (X.blk s H scope (compEnvC scope cl C X.env) fp) tg1 iter1 (tW X.K W' ev' m1))
    (hg1 : ∀ (s : Shared) (H : Hp) (C : Addr) (cl : List (Str × Addr)) (fp : List Addr) W' ev', Kin ev W' ev' → PG (X.blk s H scope (compEnvC scope cl C X.env) fp) tg1 (tG X.K W' ev' t1))
    (ht1 : ∀ (s : Shared) (H : Hp) (C : Addr) (cl : List (Str × Addr)) (fp : List Addr) W' ev', Kin ev W' ev' → PTs (X.blk s H scope (compEnvC scope cl C X.env) fp) ifs1 (tB X.K W' ev' (allT cs1) false))
    (he : ∀ (s : Shared) (H : Hp) (C : Addr) (cl : List (Str × Addr)) (fp : List Addr) W' ev', Kin ev W' ev' → PE (X.blk s H scope (compEnvC scope cl C X.env) fp) elt (tE X.K W' ev' ce ge))
    (hs : ∀ x, foldedSetIterable iter X.env x = pure x) (hs1 : ∀ env x, foldedSetIterable iter1 env x = pure x) :
    PS X (.Assign [.Name y py] (.ListComp elt [⟨tg, iter, ifs, 0⟩, ⟨tg1, iter1, ifs1, 0⟩] scope pos) spos) (tS X.K W ev (asg i (lc2 (own.map (·.2)) vs1 t m cs m1 t1 cs1 ce))) :=
  PS.imp (ps_setLc2 hc hN hy hyl hsw hi ok hv1 (fun s H C cl fp => PG.ex (hg s H C cl fp)) (fun s H C cl fp => PTs.ex (ht s H C cl fp)) (fun s H C cl fp => PI.ex (hi1 s H C cl fp)) (fun s H C cl fp => PG.ex (hg1 s H C cl fp)) (fun s H C cl fp => PTs.ex (ht1 s H C cl fp)) (fun s H C cl fp => PE.ex (he s H C cl fp)) hs hs1) fun D σ H q => by
    have q := asg_read (ga := false) rs q
    exact lc2_read rs hts hv1 hts1 q
end
end Tw

set_option Elab.async false
set_option linter.all false
set_option maxRecDepth 100000
/-! Tw.EvDJ: new dicts, get. -/
namespace Tw
open PySem PySem.Spec PyProof.Rows L2
def dnew : Sm D := ret (.dic true [] [])
def getD1 (x y : D) : Option D := (getK x y).bind fun r => match r with
  | some v => if frz v = true then some v else none
  | none => some .non
def getD2 (x y w : D) : Option D := (getK x y).bind fun r => match r with
  | some v => if frz v = true then some v else none
  | none => some w
def dget1 (a k : Sm D) : Sm D := bnd a fun x => bnd k fun y => lift (getD1 x y)
def dget2 (a k z : Sm D) : Sm D := bnd a fun x => bnd k fun y => bnd z fun w => lift (getD2 x y w)
section
variable {X : Cx} {W : Wd} {ev : Env} {a k z : Expr} {ca ck cz : Sm D} {ga : Bool} {pos apos : Pos}
theorem s_dnew : PE X (.Dict [] [] pos) (tE X.K W ev dnew true) := PE.imp pe_dnewX fun σ H Q q => by
  obtain ⟨σD, T, F, gd, d, σD', ec, kk⟩ := q
  obtain ⟨rfl, rfl⟩ := ret_ok ec
  exact fun p hp => kk _ _ _ (gd.newD hp) fun _ => ext_newL hp
theorem PRep.dicG {K : PySem.W.Frag} {H : Hp} {F : Ct} {dx dy : D} {r : Option D} {x : V} (p : PRep K W H F dx x) (e : getK dx dy = some r) : ∃ a, x = .ref a ∧ IsDX H a := by
  cases dx with
  | dic o ks vs =>
    obtain ⟨a, rows, G, rfl, h1, _⟩ := p.dic
    exact ⟨a, rfl, rows, h1⟩
  | _ => cases e
theorem s_dget1 (hu : X.A.units + 64 < cLine) (ha : PE X a (tP X.K W ev ca ga)) (hk : PE X k (tP X.K W ev ck true)) (m : M1 X a "get" apos k pos) :
    PE X (.Call (.Attribute a "get" apos) [k] [] pos) (tE X.K W ev (dget1 ca ck) ga) := PE.imp (pe_dgetX1 hu ha hk m) fun σ H Q q => by
  obtain ⟨σD, T, F, gd, d, σD', ec, kk⟩ := q
  obtain ⟨dx, s1, e1, ec⟩ := bnd_ok ec
  obtain ⟨dy, s2, e2, ec⟩ := bnd_ok ec
  obtain ⟨e3, e4⟩ := lift_ok ec
  subst e4
  obtain ⟨r, er, e5⟩ := Option.bind_eq_some_iff.mp e3
  refine ⟨σD, T, F, gd, dx, s1, e1, fun x H1 F1 g1 p1 x1 => ?_⟩
  obtain ⟨a, rfl, ix⟩ := p1.dicG er
  refine ⟨a, rfl, ix, s1, T, F1, g1, dy, _, e2, fun y H2 F2 g2 p2 x2 => ?_⟩
  have p1' := p1.ext (x2 rfl)
  obtain ⟨a', u, ea, gx, h1, h2⟩ := p1'.dget p2 er
  cases ea
  refine ⟨u, gx, ?_⟩
  cases r with
  | none =>
    cases e5
    rw [h2 rfl]
    exact kk .non H2 F2 (g2.scal ⟨rfl, fun _ => rfl⟩) fun h => (x1 h).trans (x2 rfl)
  | some v =>
    have e5 : (if frz v = true then some v else none) = some d := e5
    split at e5
    · rename_i hz
      cases e5
      obtain ⟨w, rfl, pw⟩ := h1 d rfl
      exact kk w H2 F2 (g2.pushP pw hz) fun h => (x1 h).trans (x2 rfl)
    · cases e5
theorem s_dget2 (hu : X.A.units + 64 < cLine) (ha : PE X a (tP X.K W ev ca ga)) (hk : PE X k (tP X.K W ev ck true)) (hz : PE X z (tE X.K W ev cz true)) (m : M2 X a "get" apos k z pos) :
    PE X (.Call (.Attribute a "get" apos) [k, z] [] pos) (tE X.K W ev (dget2 ca ck cz) ga) := PE.imp (pe_dgetX2 hu ha hk hz m) fun σ H Q q => by
  obtain ⟨σD, T, F, gd, d, σD', ec, kk⟩ := q
  obtain ⟨dx, s1, e1, ec⟩ := bnd_ok ec
  obtain ⟨dy, s2, e2, ec⟩ := bnd_ok ec
  obtain ⟨dw, s3, e2', ec⟩ := bnd_ok ec
  obtain ⟨e3, e4⟩ := lift_ok ec
  subst e4
  obtain ⟨r, er, e5⟩ := Option.bind_eq_some_iff.mp e3
  refine ⟨σD, T, F, gd, dx, s1, e1, fun x H1 F1 g1 p1 x1 => ?_⟩
  obtain ⟨a, rfl, ix⟩ := p1.dicG er
  refine ⟨a, rfl, ix, s1, T, F1, g1, dy, _, e2, fun y H2 F2 g2 p2 x2 => ?_⟩
  refine ⟨s2, T, F2, g2, dw, _, e2', fun w H3 F3 g3 x3 => ?_⟩
  have p1' := p1.ext ((x2 rfl).trans (x3 rfl))
  have p2' := p2.ext (x3 rfl)
  obtain ⟨a', u, ea, gx, h1, h2⟩ := p1'.dget p2' er
  cases ea
  refine ⟨u, gx, ?_⟩
  cases r with
  | none =>
    cases e5
    rw [h2 rfl]
    exact kk w H3 F3 g3 fun h => ((x1 h).trans (x2 rfl)).trans (x3 rfl)
  | some v =>
    have e5 : (if frz v = true then some v else none) = some d := e5
    split at e5
    · rename_i hz
      cases e5
      obtain ⟨v', rfl, pw⟩ := h1 d rfl
      obtain ⟨G4, F4, _, g4, z4⟩ := ((g3.pushP pw hz).perm (List.Perm.swap _ _ _)).pop
      refine kk v' H3 F4 g4 fun h => ?_
      have x := ((x1 h).trans (x2 rfl)).trans (x3 rfl)
      exact ⟨x.keep, fun a q => x.own a (by have := z4 a; omega)⟩
    · cases e5
end
end Tw

set_option Elab.async false
set_option linter.all false
set_option maxRecDepth 100000
/-! Tw.EvT: truth, constants. -/
namespace Tw
open PySem PySem.Spec PyProof.Rows L2

def nonE (n : Nat) : Bool := ((n : Int) != 0)
def truD : D → Option Bool
  | .non => some false
  | .bl b => some b
  | .int i => some (i != 0)
  | .str x => if szOk x.length = true then some (nonE x.length) else none
  | .tup xs => some (!xs.isEmpty)
  | .lst _ xs => some (!xs.isEmpty)
  | .scr ns => some (!ns.isEmpty)
  | _ => none
/-- a value's truth -/
def truB (a : Sm D) : Sm Bool := bnd a fun x => lift (truD x)
theorem PRep.tru {K : PySem.W.Frag} {W : Wd} {H : Hp} {F : Ct} {d : D} {v : V} {b : Bool} (p : PRep K W H F d v) (e : truD d = some b) : TruV K v H b := by
  cases d with
  | non =>
    obtain ⟨G, h⟩ := p
    rw [h.1]
    cases e; rfl
  | bl c => rw [p.bl]; cases e; rfl
  | int i => rw [p.int]; cases e; rfl
  | str x =>
    rw [p.str]
    have e : (if szOk x.length = true then some (nonE x.length) else none) = some b := e
    split at e
    · rename_i hz
      cases e
      exact ⟨szOk_le hz, rfl⟩
    · cases e
  | tup xs =>
    obtain ⟨a, vs, rfl, h1, r1⟩ := p.tup
    cases e
    refine .inr (.inl ⟨vs, h1, ?_⟩)
    cases xs with
    | nil => rw [List.eq_nil_of_length_eq_zero r1.length]; rfl
    | cons x xs => cases vs with
      | nil => cases r1.length
      | cons v vs => rfl
  | lst o xs =>
    obtain ⟨a, vs, G, rfl, h1, r1⟩ := p.lst
    cases e
    refine .inl ⟨vs, .inl (.inl h1), ?_⟩
    cases xs with
    | nil => rw [List.eq_nil_of_length_eq_zero r1.length]; rfl
    | cons x xs => cases vs with
      | nil => cases r1.length
      | cons v vs => rfl
  | dic _ _ _ => cases e
  | scr ns =>
    obtain ⟨a, rfl, h⟩ := p.scrL
    cases e
    exact .inl ⟨_, h, by cases ns <;> rfl⟩

section
variable {X : Cx} {W : Wd} {ev : Env} {a b e : Expr} {ca cb : Sm D} {ga gb : Bool} {pos p : Pos}
theorem tru_read {K : PySem.W.Frag} {σ : L2.St} {H : Hp} {Q : Bool → Hp → Prop} (q : tB K W ev (truB ca) ga σ H Q) : tP K W ev ca ga σ H fun x H' => ∃ k, TruV K x H' k ∧ Q k H' := by
  obtain ⟨σD, T, F, gd, d, σD', ec, kk⟩ := q
  obtain ⟨dx, s1, e1, ec⟩ := bnd_ok ec
  obtain ⟨e2, rfl⟩ := lift_ok ec
  exact ⟨σD, T, F, gd, dx, _, e1, fun x H1 F1 g1 p1 x1 => ⟨d, p1.tru e2, kk H1 F1 g1 x1⟩⟩
theorem st_tru (h : PE X e (tP X.K W ev ca ga)) (he : ∀ whole, isTrue e X.env whole = (do let v ← whole; standAt e.pos; holding [v] (truthy v))) : PT X e (tB X.K W ev (truB ca) ga) :=
  PT.imp (pt_truth h he) fun σ H Q q => tru_read q
theorem s_notT (h : PE X e (tP X.K W ev ca ga)) : PE X (.UnaryOp .Not e pos) (tE X.K W ev (blE (notB (truB ca))) ga) := PE.imp (pe_notT h) fun σ H Q q => tru_read (tB_not (tB_E q))
theorem negI_ok {d : D} {s s' : S} (h : negI ca ev s = .ok d s') : ∃ i, ca ev s = .ok (.int i) s' ∧ d = .int (-i) := by
  obtain ⟨dx, s1, e1, ec⟩ := bnd_ok h
  cases dx with
  | int i =>
    obtain ⟨rfl, rfl⟩ := ret_ok ec
    exact ⟨i, e1, rfl⟩
  | _ => cases ec
theorem s_neg (h : PE X e (tP X.K W ev ca ga)) : PE X (.UnaryOp .USub e pos) (tE X.K W ev (negI ca) ga) := PE.imp (pe_un un_neg h) fun σ H Q q => by
  obtain ⟨σD, T, F, gd, d, σD', ec, kk⟩ := q
  obtain ⟨i, e1, rfl⟩ := negI_ok ec
  exact ⟨σD, T, F, gd, _, _, e1, fun x H1 F1 g1 p1 x1 => ⟨i, p1.int, kk _ H1 F1 (g1.scal ⟨rfl, fun _ => rfl⟩) x1⟩⟩
/-! ### constants -/
def cstD : Const → Option D
  | .none => some .non
  | .bool b => some (.bl b)
  | .int i => some (.int i)
  | .str x => some (.str x)
  | _ => none
theorem s_con {c : Const} {k : Nat} {d : D} (h : cstD c = some d) : PE X (.Constant c k pos) (tE X.K W ev (ret d) true) := by
  cases c with
  | none => cases h; exact s_cst pe_non fun _ _ => ⟨rfl, fun _ => rfl⟩
  | bool b => cases h; exact s_cst pe_bl fun _ _ => ⟨rfl, fun _ => rfl⟩
  | int i => cases h; exact s_cst pe_int fun _ _ => ⟨rfl, fun _ => rfl⟩
  | str x => cases h; exact s_cst pe_str fun _ _ => ⟨rfl, fun _ => rfl⟩
  | _ => cases h
theorem s_gint {x : Str} {i : Int} (hg : Gl X x) (hm : ∃ t, X.mg x = some (.int i t)) (hd : (x == ("__debug__" : Str)) = false) : PE X (.Name x pos) (tE X.K W ev (ret (.int i)) true) := by
  obtain ⟨t, hm⟩ := hm
  exact s_cst (pe_glob (v := .int i) hg hm ⟨_, rfl⟩ hd) fun _ _ => ⟨rfl, fun _ => rfl⟩
theorem s_gstr {x z : Str} (hg : Gl X x) (hm : ∃ t, X.mg x = some (.str z t)) (hd : (x == ("__debug__" : Str)) = false) : PE X (.Name x pos) (tE X.K W ev (ret (.str z)) true) := by
  obtain ⟨t, hm⟩ := hm
  exact s_cst (pe_glob (v := .str z) hg hm ⟨_, rfl⟩ hd) fun _ _ => ⟨rfl, fun _ => rfl⟩
end

/-! ### a second operand that changes things -/
theorem vP_ok {i : Nat} {ev : Env} {s s' : S} {d : D} (h : vP i ev s = .ok d s') : s' = s ∧ s[i]? = some (some d) := by
  unfold vP at h
  split at h
  · rename_i d' e
    cases h
    exact ⟨rfl, e⟩
  · cases h
section
variable {X : Cx} {W : Wd} {ev : Env} {a b e : Expr} {ca cb : Sm D} {ga gb : Bool} {pos p : Pos} {i : Nat}
theorem readV {K : PySem.W.Frag} {σ : L2.St} {H : Hp} {P : V → V → Hp → Prop} {σD s2 : S} {T : List (D × V)} {F : Ct} {dx0 dy dx : D} (gd : Good K W H σD σ T F) (e1 : σD[i]? = some (some dx0)) (e2 : cb ev σD = .ok dy s2) (e3 : s2[i]? = some (some dx))
    (k : ∀ x y H2 F2, Good K W H2 s2 σ T F2 → PRep K W H2 F2 dx x → PRep K W H2 F2 dy y → P x y H2) : ∃ v, σ[i]? = some (some v) ∧ tP K W ev cb gb σ H fun y H2 => P v y H2 := by
  obtain ⟨v, ev', _⟩ := gd.var e1
  refine ⟨v, ev', σD, T, F, gd, dy, s2, e2, fun y H2 F2 g2 p2 _ => ?_⟩
  obtain ⟨v', e4, p4⟩ := g2.var e3
  rw [ev'] at e4
  cases e4
  exact k v y H2 F2 g2 p4 p2
theorem readH {K : PySem.W.Frag} {σ : L2.St} {H : Hp} {P : V → V → Hp → Prop} {σD s1 s2 : S} {T : List (D × V)} {F : Ct} {dx dy : D} (gd : Good K W H σD σ T F) (e1 : ca ev σD = .ok dx s1) (e2 : cb ev s1 = .ok dy s2)
    (k : ∀ x y H2 F2, Good K W H2 s2 σ ((dx, x) :: T) F2 → PRep K W H2 F2 dx x → PRep K W H2 F2 dy y → P x y H2) : tE K W ev ca ga σ H fun x H1 => tP K W ev cb gb σ H1 fun y H2 => P x y H2 :=
  ⟨σD, T, F, gd, dx, s1, e1, fun x H1 F1 g1 _ => ⟨s1, (dx, x) :: T, F1, g1, dy, s2, e2, fun y H2 F2 g2 p2 _ => k x y H2 F2 g2 g2.top p2⟩⟩
/-- what lies under the top is dropped -/
theorem Good.under {K : PySem.W.Frag} {H : Hp} {σD : S} {σ : L2.St} {T : List (D × V)} {F : Ct} {d dx : D} {v x : V} (g : Good K W H σD σ ((d, v) :: (dx, x) :: T) F) : ∃ F', Good K W H σD σ ((d, v) :: T) F' := (g.perm (List.Perm.swap _ _ _)).drop
theorem s_binV {op : Operator} {r : R2} {x : Str} (ho : OpR X (binaryOp op) r) (hs : OpS X.K (binOp op) r) (hN : X.N[i]? = some x) (hv : Vis X.env.scope x) (hd : (x == ("__debug__" : Str)) = false) (hcd : (x == ("__classdict__" : Str)) = false) (hb : PE X b (tP X.K W ev cb gb)) :
    PE X (.BinOp (.Name x p) op b pos) (tE X.K W ev (binV op i cb) false) :=
  PE.imp (pe_op ho (pe_var (i := i) hN hv hd hcd) hb) fun σ H Q q => by
    obtain ⟨σD, T, F, gd, d, σD', ec, kk⟩ := q
    obtain ⟨d0, s1, e1, ec1⟩ := bnd_ok ec
    obtain ⟨dy, s2, e2, ec2⟩ := bnd_ok ec1
    obtain ⟨dx, s3, e3, ec3⟩ := bnd_ok ec2
    obtain ⟨rfl, e1'⟩ := vP_ok e1
    obtain ⟨rfl, e3'⟩ := vP_ok e3
    obtain ⟨e4, rfl⟩ := lift_ok ec3
    exact readV gd e1' e2 e3' fun xv y H2 F2 g2 p1 p2 => hs W H2 _ σ T F2 dx dy d xv y Q g2 p1 p2 e4 fun v H' F' g' _ => kk v H' F' g' fun h => by cases h
theorem s_binH {op : Operator} {r : R2} (ho : OpR X (binaryOp op) r) (hs : OpS X.K (binOp op) r) (ha : PE X a (tE X.K W ev ca ga)) (hb : PE X b (tP X.K W ev cb gb)) : PE X (.BinOp a op b pos) (tE X.K W ev (binH op ca cb) false) :=
  PE.imp (pe_op ho ha hb) fun σ H Q q => by
    obtain ⟨σD, T, F, gd, d, σD', ec, kk⟩ := q
    obtain ⟨dx, s1, e1, ec2⟩ := bnd_ok ec
    obtain ⟨dy, s2, e2, ec3⟩ := bnd_ok ec2
    obtain ⟨e4, rfl⟩ := lift_ok ec3
    exact readH gd e1 e2 fun xv y H2 F2 g2 p1 p2 => hs W H2 _ σ _ F2 dx dy d xv y Q g2 p1 p2 e4 fun v H' F' g' _ => let ⟨F3, g3⟩ := g'.under; kk v H' F3 g3 fun h => by cases h
theorem bin_rule {X : Cx} {op : Operator} (h : binOk op = true) : ∃ r, OpR X (binaryOp op) r ∧ OpS X.K (binOp op) r := by
  cases op
  case Add => exact ⟨_, op_addA, (show OpS X.K (binOp .Add) _ from ops_add)⟩
  case Sub => exact ⟨_, op_sub, (show OpS X.K (binOp .Sub) _ from ops_sub)⟩
  case Mult => exact ⟨_, op_mulA, (show OpS X.K (binOp .Mult) _ from ops_mul)⟩
  case FloorDiv => exact ⟨_, op_fdiv, (show OpS X.K (binOp .FloorDiv) _ from ops_div)⟩
  case Mod => exact ⟨_, op_mod, (show OpS X.K (binOp .Mod) _ from ops_mod)⟩
  case Pow => exact ⟨_, op_pow, (show OpS X.K (binOp .Pow) _ from ops_pow)⟩
  all_goals exact absurd (show false = true from h) Bool.false_ne_true
theorem cmpV_read {K : PySem.W.Frag} {op : CmpOp} {r : R2} {σ : L2.St} {H : Hp} {Q : VK} (hs : CmpS K (cmpOp op) r) (q : tB K W ev (cmpV op i cb) false σ H fun b H' => Q (.bl b) H') : ∃ v, σ[i]? = some (some v) ∧ tP K W ev cb gb σ H fun y H2 => r v y H2 Q := by
  obtain ⟨σD, T, F, gd, d, σD', ec, kk⟩ := q
  obtain ⟨d0, s1, e1, ec1⟩ := bnd_ok ec
  obtain ⟨dy, s2, e2, ec2⟩ := bnd_ok ec1
  obtain ⟨dx, s3, e3, ec3⟩ := bnd_ok ec2
  obtain ⟨rfl, e1'⟩ := vP_ok e1
  obtain ⟨rfl, e3'⟩ := vP_ok e3
  obtain ⟨e4, rfl⟩ := lift_ok ec3
  exact readV gd e1' e2 e3' fun xv y H2 F2 g2 p1 p2 => hs W H2 F2 dx dy d xv y Q p1 p2 e4 (kk H2 F2 g2 fun h => by cases h)
theorem cmpH_read {K : PySem.W.Frag} {op : CmpOp} {r : R2} {σ : L2.St} {H : Hp} {Q : VK} (hs : CmpS K (cmpOp op) r) (q : tB K W ev (cmpH op ca cb) false σ H fun b H' => Q (.bl b) H') : tE K W ev ca ga σ H fun x H1 => tP K W ev cb gb σ H1 fun y H2 => r x y H2 Q := by
  obtain ⟨σD, T, F, gd, d, σD', ec, kk⟩ := q
  obtain ⟨dx, s1, e1, ec2⟩ := bnd_ok ec
  obtain ⟨dy, s2, e2, ec3⟩ := bnd_ok ec2
  obtain ⟨e4, rfl⟩ := lift_ok ec3
  exact readH gd e1 e2 fun xv y H2 F2 g2 p1 p2 => hs W H2 F2 dx dy d xv y Q p1 p2 e4 (let ⟨F3, g3⟩ := g2.drop; kk H2 F3 g3 fun h => by cases h)
theorem s_cmpV {op : CmpOp} {x : Str} (h : cmpOk op = true) (hns : noSet b = true) (hu : X.A.units + 80 < cLine) (hN : X.N[i]? = some x) (hv : Vis X.env.scope x) (hd : (x == ("__debug__" : Str)) = false) (hcd : (x == ("__classdict__" : Str)) = false) (hb : PE X b (tP X.K W ev cb gb)) :
    PT X (.Compare (.Name x p) [op] [b] pos) (tB X.K W ev (cmpV op i cb) false) ∧ PE X (.Compare (.Name x p) [op] [b] pos) (tE X.K W ev (blE (cmpV op i cb)) false) := by
  obtain ⟨r, ho, hs⟩ := cmp_rule (X := X) hu h
  exact ⟨PT.imp (pt_cmpR ho (pe_var (i := i) hN hv hd hcd) hb (cmpOk_mark hns)) fun σ H Q q => cmpV_read hs (q.imp fun b H' k => ⟨b, rfl, k⟩), PE.imp (pe_cmpR ho (pe_var (i := i) hN hv hd hcd) hb (cmpOk_mark hns)) fun σ H Q q => cmpV_read hs (tB_E q)⟩
theorem s_cmpH {op : CmpOp} (h : cmpOk op = true) (hns : noSet b = true) (hu : X.A.units + 80 < cLine) (ha : PE X a (tE X.K W ev ca ga)) (hb : PE X b (tP X.K W ev cb gb)) :
    PT X (.Compare a [op] [b] pos) (tB X.K W ev (cmpH op ca cb) false) ∧ PE X (.Compare a [op] [b] pos) (tE X.K W ev (blE (cmpH op ca cb)) false) := by
  obtain ⟨r, ho, hs⟩ := cmp_rule (X := X) hu h
  exact ⟨PT.imp (pt_cmpR ho ha hb (cmpOk_mark hns)) fun σ H Q q => cmpH_read hs (q.imp fun b H' k => ⟨b, rfl, k⟩), PE.imp (pe_cmpR ho ha hb (cmpOk_mark hns)) fun σ H Q q => cmpH_read hs (tB_E q)⟩
theorem s_idxV {x : Str} (hu : X.A.units + 80 < cLine) (hb0 : ixPlain b = true) (hN : X.N[i]? = some x) (hv : Vis X.env.scope x) (hd : (x == ("__debug__" : Str)) = false) (hcd : (x == ("__classdict__" : Str)) = false) (hb : PE X b (tP X.K W ev cb gb)) : PE X (.Subscript (.Name x p) b pos) (tE X.K W ev (idxV i cb) false) :=
  PE.imp (pe_ix (ix_all (by omega)) (pe_var (i := i) hN hv hd hcd) hb (ixPlain_ok hb0)) fun σ H Q q => by
    obtain ⟨σD, T, F, gd, d, σD', ec, kk⟩ := q
    obtain ⟨d0, s1, e1, ec1⟩ := bnd_ok ec
    obtain ⟨dy, s2, e2, ec2⟩ := bnd_ok ec1
    obtain ⟨dx, s3, e3, ec3⟩ := bnd_ok ec2
    obtain ⟨rfl, e1'⟩ := vP_ok e1
    obtain ⟨rfl, e3'⟩ := vP_ok e3
    obtain ⟨d', s4, e4', ec4⟩ := bnd_ok ec3
    obtain ⟨e4, rfl⟩ := lift_ok e4'
    obtain ⟨hz, ec5⟩ := grd_ok ec4
    obtain ⟨rfl, rfl⟩ := ret_ok ec5
    exact readV gd e1' e2 e3' fun xv y H2 F2 g2 p1 p2 => ops_ix g2 p1 p2 e4 fun v pv => kk v H2 F2 (g2.pushP pv hz) fun h => by cases h
theorem s_idxH (hu : X.A.units + 80 < cLine) (hb0 : ixPlain b = true) (ha : PE X a (tE X.K W ev ca ga)) (hb : PE X b (tP X.K W ev cb gb)) : PE X (.Subscript a b pos) (tE X.K W ev (idxH ca cb) false) :=
  PE.imp (pe_ix (ix_all (by omega)) ha hb (ixPlain_ok hb0)) fun σ H Q q => by
    obtain ⟨σD, T, F, gd, d, σD', ec, kk⟩ := q
    obtain ⟨dx, s1, e1, ec2⟩ := bnd_ok ec
    obtain ⟨dy, s2, e2, ec3⟩ := bnd_ok ec2
    obtain ⟨d', s4, e4', ec4⟩ := bnd_ok ec3
    obtain ⟨e4, rfl⟩ := lift_ok e4'
    obtain ⟨hz, ec5⟩ := grd_ok ec4
    obtain ⟨rfl, rfl⟩ := ret_ok ec5
    exact readH gd e1 e2 fun xv y H2 F2 g2 p1 p2 => ops_ix g2 p1 p2 e4 fun v pv => let ⟨F3, g3⟩ := (g2.pushP pv hz).under; kk v H2 F3 g3 fun h => by cases h
end
end Tw

set_option Elab.async false
set_option linter.all false
set_option maxRecDepth 100000
/-! Tw.EvU: the code's meaning, found by a function; expressions. -/
namespace Tw
open PySem PySem.Spec PyProof.Rows L2

/-- what a name of the module is -/
inductive Gv where
  | fn (n : Nat) | int (i : Int) | str (z : Str) | free
/-- a def's names (in their slots), a block's scope, the module's names -/
structure Gm where
  N : List Str
  sc : List (Str × NameKind)
  g : List (Str × Gv)
def slotOf : List Str → Str → Option Nat
  | [], _ => none
  | y :: ys, x => if (y == x) = true then some 0 else (slotOf ys x).map (· + 1)
theorem slotOf_ok : ∀ {N : List Str} {x : Str} {i : Nat}, slotOf N x = some i → N[i]? = some x
  | [], _, _, h => by cases h
  | y :: ys, x, i, h => by
    unfold slotOf at h
    split at h
    · rename_i e
      cases h
      rw [eq_of_beq e]; rfl
    · obtain ⟨j, e1, rfl⟩ := Option.map_eq_some_iff.mp h
      simpa using slotOf_ok e1
def visK : Option NameKind → Bool
  | some .local => true | some .cell => true | some .free => true
  | _ => false
def locK : Option NameKind → Bool
  | some .local => true | some .cell => true
  | _ => false
def gloK : Option NameKind → Bool
  | some .globalImplicit => true
  | _ => false
def nmOk (x : Str) : Bool := !(x == ("__debug__" : Str)) && !(x == ("__classdict__" : Str))
def gnOk (x : Str) : Bool := !(x == ("__debug__" : Str)) && !(x == ("__name__" : Str))
def Gm.var (g : Gm) (x : Str) : Option Nat := if (visK (g.sc.lookup x) && nmOk x) = true then slotOf g.N x else none
def Gm.lov (g : Gm) (x : Str) : Option Nat := if locK (g.sc.lookup x) = true then slotOf g.N x else none
def Gm.glo (g : Gm) (x : Str) : Option Gv := if (gloK (g.sc.lookup x) && gnOk x) = true then g.g.lookup x else none
def kindIs (a b : Option NameKind) : Prop := b = a ∨ (a = some .free ∧ b = some .cell)
def GvOk (X : Cx) (k : Nat) (cl : Str → List D → R D) (x : Str) : Gv → Prop
  | .fn n => Cal X.prog X.w X.K X.mg X.base k x (spR X.K n (cl x))
  | .int i => ∃ t, X.mg x = some (.int i t)
  | .str z => ∃ t, X.mg x = some (.str z t)
  | .free => X.mg x = none
structure CxIs (g : Gm) (k : Nat) (cl : Str → List D → R D) (X : Cx) : Prop where
  N : X.N = g.N
  nd : X.N.Nodup
  kind : X.env.scope.kind = .function
  names : ∀ x, kindIs (g.sc.lookup x) (X.env.scope.names.lookup x)
  fnl : ∀ x, locK (g.sc.lookup x) = true → X.fn x = true ∨ X.env.scope.names.lookup x = some .local
  calm : X.calm = true
  room : Room k X.A
  glob : ∀ x v, g.g.lookup x = some v → GvOk X k cl x v

section
variable {g : Gm} {k : Nat} {cl : Str → List D → R D} {X : Cx} {x : Str} {i : Nat}
theorem CxIs.var (c : CxIs g k cl X) (h : g.var x = some i) : X.N[i]? = some x ∧ Vis X.env.scope x ∧ (x == ("__debug__" : Str)) = false ∧ (x == ("__classdict__" : Str)) = false := by
  unfold Gm.var at h
  split at h
  · rename_i hv
    simp only [Bool.and_eq_true, nmOk, Bool.not_eq_true'] at hv
    refine ⟨by rw [c.N]; exact slotOf_ok h, ?_, hv.2.1, hv.2.2⟩
    have hv1 := hv.1
    unfold visK at hv1
    unfold Vis
    rcases c.names x with e | ⟨e1, e2⟩
    · rw [e]
      split at hv1
      · rename_i q; rw [q]; exact .inl rfl
      · rename_i q; rw [q]; exact .inr (.inl rfl)
      · rename_i q; rw [q]; exact .inr (.inr rfl)
      · cases hv1
    · exact .inr (.inl e2)
  · cases h
theorem CxIs.lov (c : CxIs g k cl X) (h : g.lov x = some i) : X.N[i]? = some x ∧ Loc X.env.scope x ∧ (X.fn x = true ∨ X.env.scope.names.lookup x = some .local) := by
  unfold Gm.lov at h
  split at h
  · rename_i hv
    refine ⟨by rw [c.N]; exact slotOf_ok h, ?_, c.fnl x hv⟩
    unfold locK at hv
    show X.env.scope.names.lookup x = some .local ∨ X.env.scope.names.lookup x = some .cell
    rcases c.names x with e | ⟨e1, e2⟩
    · rw [e]
      split at hv
      · rename_i q; rw [q]; exact .inl rfl
      · rename_i q; rw [q]; exact .inr rfl
      · cases hv
    · exact .inr e2
  · cases h
theorem CxIs.glo {v : Gv} (c : CxIs g k cl X) (h : g.glo x = some v) : Gl X x ∧ (x == ("__debug__" : Str)) = false ∧ x ≠ "__name__" ∧ GvOk X k cl x v := by
  unfold Gm.glo at h
  split at h
  · rename_i hv
    simp only [Bool.and_eq_true, gnOk, Bool.not_eq_true'] at hv
    refine ⟨?_, hv.2.1, fun e => ?_, c.glob x v h⟩
    · have hv1 := hv.1
      unfold gloK at hv1
      split at hv1
      · rename_i q
        rcases c.names x with e | ⟨e1, e2⟩
        · show X.env.scope.names.lookup x = _
          rw [e, q]
        · rw [q] at e1; cases e1
      · cases hv1
    · rw [e] at hv
      exact absurd hv.2.2 (by decide)
  · cases h
end

theorem u80 {k : Nat} {A : Around} (r : Room k A) : A.units + 80 < cLine := by have := r.un; omega
/-! ### rules -/
structure Cs where
  e : Gm → Expr → Option (Sm D × Bool)
  p : Gm → Expr → Option (Sm D × Bool)
  b : Gm → Expr → Option (Sm Bool × Bool)
def EOk (f : Gm → Expr → Option (Sm D × Bool)) : Prop := ∀ {g : Gm} {k : Nat} {X : Cx} {W : Wd} {ev : Env} {e : Expr} {c : Sm D} {b : Bool}, CxIs g k ev.call X → Rfs W ev → f g e = some (c, b) → PE X e (tE X.K W ev c b)
def POk (f : Gm → Expr → Option (Sm D × Bool)) : Prop := ∀ {g : Gm} {k : Nat} {X : Cx} {W : Wd} {ev : Env} {e : Expr} {c : Sm D} {b : Bool}, CxIs g k ev.call X → Rfs W ev → f g e = some (c, b) → PE X e (tP X.K W ev c b)
def BOk (f : Gm → Expr → Option (Sm Bool × Bool)) : Prop := ∀ {g : Gm} {k : Nat} {X : Cx} {W : Wd} {ev : Env} {e : Expr} {c : Sm Bool} {b : Bool}, CxIs g k ev.call X → Rfs W ev → f g e = some (c, b) → PT X e (tB X.K W ev c b)
structure Snd (C : Cs) : Prop where
  e : EOk C.e
  p : POk C.p
  b : BOk C.b
abbrev Rl := Cs → Gm → Expr → Option (Sm D × Bool)
def RlOk (r : Rl) : Prop := ∀ {C : Cs}, Snd C → EOk (r C)
def firstOf : List Rl → Rl
  | [] => fun _ _ _ => none
  | r :: rs => fun C g e => match r C g e with
    | some x => some x
    | none => firstOf rs C g e
theorem firstOf_ok : ∀ {rs : List Rl}, (∀ r ∈ rs, RlOk r) → RlOk (firstOf rs)
  | [], _ => by
    intro sd g k X W ev e c b cx rf h
    cases h
  | r :: rs, hr => by
    intro sd g k X W ev e c b cx rf h
    unfold firstOf at h
    split at h
    · rename_i x hx
      cases h
      exact hr r List.mem_cons_self sd cx rf hx
    · exact firstOf_ok (fun r h => hr r (List.mem_cons_of_mem _ h)) sd cx rf h

/-- a name -/
def rName : Rl := fun _ g e => match e with
  | .Name x _ => (match g.var x with
    | some i => some (vE i, true)
    | none => (match g.glo x with
      | some (.int i) => some (ret (.int i), true)
      | some (.str z) => some (ret (.str z), true)
      | _ => none))
  | _ => none
theorem rName_ok : RlOk rName := fun {C} sd {g k X W ev e c b} cx rf h => by
  cases e with
  | Name x pos =>
    simp only [rName] at h
    split at h
    · rename_i i hi
      cases h
      obtain ⟨a1, a2, a3, a4⟩ := cx.var hi
      exact s_vE a1 a2 a3 a4
    · split at h
      · rename_i i hi
        cases h
        obtain ⟨a1, a2, a3, a4⟩ := cx.glo hi
        exact s_gint a1 a4 a2
      · rename_i i hi
        cases h
        obtain ⟨a1, a2, a3, a4⟩ := cx.glo hi
        exact s_gstr a1 a4 a2
      · cases h
  | _ => cases h
def rConst : Rl := fun _ _ e => match e with
  | .Constant c _ _ => (cstD c).map fun d => (ret d, true)
  | _ => none
theorem rConst_ok : RlOk rConst := fun {C} sd {g k X W ev e c b} cx rf h => by
  cases e with
  | Constant c n pos =>
    obtain ⟨d, e1, e2⟩ := Option.map_eq_some_iff.mp (show (cstD c).map (fun d => (ret d, true)) = some _ from h)
    cases e2
    exact s_con e1
  | _ => cases h
def nameOf : Expr → Option Str
  | .Name x _ => some x
  | _ => none
theorem nameOf_ok {e : Expr} {x : Str} (h : nameOf e = some x) : ∃ p, e = .Name x p := by
  cases e with
  | Name y p => cases h; exact ⟨p, rfl⟩
  | _ => cases h
/-- a name of the def's own -/
def varOf (g : Gm) (e : Expr) : Option Nat := (nameOf e).bind g.var
theorem varOf_ok {g : Gm} {k : Nat} {X : Cx} {ev : Env} {e : Expr} {i : Nat} (cx : CxIs g k ev.call X) (h : varOf g e = some i) : ∃ x p, e = .Name x p ∧ X.N[i]? = some x ∧ Vis X.env.scope x ∧ (x == ("__debug__" : Str)) = false ∧ (x == ("__classdict__" : Str)) = false := by
  obtain ⟨x, e1, e2⟩ := Option.bind_eq_some_iff.mp h
  obtain ⟨p, rfl⟩ := nameOf_ok e1
  exact ⟨x, p, rfl, cx.var e2⟩
def rBin : Rl := fun C g e => match e with
  | .BinOp a op b _ => if binOk op = true then (C.p g b).bind fun y => if y.2 = true then (C.p g a).map fun x => (bin op true x.1 y.1, x.2)
      else (match varOf g a with
        | some i => some (binV op i y.1, false)
        | none => (C.e g a).map fun x => (binH op x.1 y.1, false)) else none
  | _ => none
theorem rBin_ok : RlOk rBin := fun {C} sd {g k X W ev e c b} cx rf h => by
  cases e with
  | BinOp a op b pos =>
    simp only [rBin] at h
    split at h
    · rename_i ho
      obtain ⟨⟨y, gy⟩, e1, h1⟩ := Option.bind_eq_some_iff.mp h
      split at h1
      · rename_i hg
        cases hg
        obtain ⟨x, e2, h2⟩ := Option.map_eq_some_iff.mp h1
        cases h2
        have := s_binop (pos := pos) ho (sd.p cx rf e2) (sd.p cx rf e1)
        rw [Bool.and_true] at this
        exact this
      · split at h1
        · rename_i i hi
          cases h1
          obtain ⟨x, p, rfl, a1, a2, a3, a4⟩ := varOf_ok cx hi
          obtain ⟨r, o1, o2⟩ := bin_rule (X := X) ho
          exact s_binV o1 o2 a1 a2 a3 a4 (sd.p cx rf e1)
        · obtain ⟨x, e2, h2⟩ := Option.map_eq_some_iff.mp h1
          cases h2
          obtain ⟨r, o1, o2⟩ := bin_rule (X := X) ho
          exact s_binH o1 o2 (sd.e cx rf e2) (sd.p cx rf e1)
    · cases h
  | _ => cases h
def rUn : Rl := fun C g e => match e with
  | .UnaryOp .Not a _ => (C.p g a).map fun x => (blE (notB (truB x.1)), x.2)
  | .UnaryOp .USub a _ => (C.p g a).map fun x => (negI x.1, x.2)
  | _ => none
theorem rUn_ok : RlOk rUn := fun {C} sd {g k X W ev e c b} cx rf h => by
  cases e with
  | UnaryOp op a pos =>
    cases op with
    | Not =>
      obtain ⟨x, e1, e2⟩ := Option.map_eq_some_iff.mp (show (C.p g a).map (fun x => (blE (notB (truB x.1)), x.2)) = some _ from h)
      cases e2
      exact s_notT (sd.p cx rf e1)
    | USub =>
      obtain ⟨x, e1, e2⟩ := Option.map_eq_some_iff.mp (show (C.p g a).map (fun x => (negI x.1, x.2)) = some _ from h)
      cases e2
      exact s_neg (sd.p cx rf e1)
    | _ => cases h
  | _ => cases h
def bopE : BoolOp → Sm D → Sm D → Sm D
  | .And => andE
  | .Or => orE
/-- and, or as values -/
def boolsC (C : Cs) (g : Gm) (op : BoolOp) : List Expr → Option (Sm D × Bool)
  | [] => none
  | e :: es => (match es with
    | [] => C.e g e
    | _ => (C.e g e).bind fun x => (boolsC C g op es).map fun y => (bopE op x.1 y.1, x.2 && y.2))
def rBool : Rl := fun C g e => match e with
  | .BoolOp op es _ => boolsC C g op es
  | _ => none
theorem boolsC_ok {C : Cs} (sd : Snd C) {g : Gm} {k : Nat} {X : Cx} {W : Wd} {ev : Env} {op : BoolOp} {pos : Pos} (cx : CxIs g k ev.call X) (rf : Rfs W ev) : ∀ {es : List Expr} {c : Sm D} {b : Bool}, boolsC C g op es = some (c, b) → PE X (.BoolOp op es pos) (tE X.K W ev c b)
  | [], _, _, h => by cases h
  | [e], _, _, h => s_one (sd.e cx rf h)
  | e :: e2 :: es, c, b, h => by
    obtain ⟨x, e1, h⟩ := Option.bind_eq_some_iff.mp (show (C.e g e).bind (fun x => (boolsC C g op (e2 :: es)).map fun y => (bopE op x.1 y.1, x.2 && y.2)) = some (c, b) from h)
    obtain ⟨y, e2, h⟩ := Option.map_eq_some_iff.mp h
    cases h
    have ih := boolsC_ok (pos := pos) sd cx rf e2
    cases op with
    | And => exact s_and (sd.e cx rf e1) ih
    | Or => exact s_or (sd.e cx rf e1) ih
theorem rBool_ok : RlOk rBool := fun {C} sd {g k X W ev e c b} cx rf h => by
  cases e with
  | BoolOp op es pos => exact boolsC_ok sd cx rf h
  | _ => cases h
/-- comparisons -/
def cmpC (C : Cs) (g : Gm) (e : Expr) : Option (Sm Bool × Bool) := match e with
  | .Compare a [op] [b] _ => (match op with
    | .Is => (match b with
      | .Constant .none _ _ => (C.p g a).map fun x => (isN x.1, x.2)
      | .Constant (.bool k) _ _ => (C.p g a).map fun x => (isB k x.1, x.2)
      | _ => none)
    | .IsNot => (match b with
      | .Constant .none _ _ => (C.p g a).map fun x => (notB (isN x.1), x.2)
      | .Constant (.bool k) _ _ => (C.p g a).map fun x => (notB (isB k x.1), x.2)
      | _ => none)
    | _ => if (cmpOk op && noSet b) = true then (C.p g b).bind fun y => if y.2 = true then (C.p g a).map fun x => (cmp op true x.1 y.1, x.2)
      else (match varOf g a with
        | some i => some (cmpV op i y.1, false)
        | none => (C.e g a).map fun x => (cmpH op x.1 y.1, false)) else none)
  | .Compare a [o1, o2] [b, c] _ => if (cmpOk o1 && (cmpOk o2 && noSet c)) = true then (C.p g a).bind fun x => (C.p g b).bind fun y => (C.p g c).map fun z => (chn o1 o2 y.2 x.1 y.1 z.1, x.2 && (y.2 && z.2)) else none
  | _ => none
theorem cmpC_ok {C : Cs} (sd : Snd C) {g : Gm} {k : Nat} {X : Cx} {W : Wd} {ev : Env} {e : Expr} {c : Sm Bool} {b : Bool} (cx : CxIs g k ev.call X) (rf : Rfs W ev) (h : cmpC C g e = some (c, b)) : PT X e (tB X.K W ev c b) ∧ PE X e (tE X.K W ev (blE c) b) := by
  unfold cmpC at h
  split at h
  · rename_i a op bb pos
    split at h
    · split at h
      · obtain ⟨x, e1, h⟩ := Option.map_eq_some_iff.mp h
        cases h
        exact ⟨st_isN (sd.p cx rf e1), s_isN (sd.p cx rf e1)⟩
      · obtain ⟨x, e1, h⟩ := Option.map_eq_some_iff.mp h
        cases h
        exact ⟨st_isB (sd.p cx rf e1), s_isB (sd.p cx rf e1)⟩
      · cases h
    · split at h
      · obtain ⟨x, e1, h⟩ := Option.map_eq_some_iff.mp h
        cases h
        exact ⟨st_notN (sd.p cx rf e1), s_notN (sd.p cx rf e1)⟩
      · obtain ⟨x, e1, h⟩ := Option.map_eq_some_iff.mp h
        cases h
        exact ⟨st_notIsB (sd.p cx rf e1), s_notIsB (sd.p cx rf e1)⟩
      · cases h
    · split at h
      · rename_i ho
        rw [Bool.and_eq_true] at ho
        obtain ⟨ho, hns⟩ := ho
        obtain ⟨⟨y, gy⟩, e1, h1⟩ := Option.bind_eq_some_iff.mp h
        split at h1
        · rename_i hg
          cases hg
          obtain ⟨x, e2, h2⟩ := Option.map_eq_some_iff.mp h1
          cases h2
          have q1 := st_cmp (pos := pos) ho hns (u80 cx.room) (sd.p cx rf e2) (sd.p cx rf e1)
          have q2 := s_cmp (pos := pos) ho hns (u80 cx.room) (sd.p cx rf e2) (sd.p cx rf e1)
          rw [Bool.and_true] at q1 q2
          exact ⟨q1, q2⟩
        · split at h1
          · rename_i i hi
            cases h1
            obtain ⟨x, p, rfl, a1, a2, a3, a4⟩ := varOf_ok cx hi
            exact s_cmpV ho hns (u80 cx.room) a1 a2 a3 a4 (sd.p cx rf e1)
          · obtain ⟨x, e2, h2⟩ := Option.map_eq_some_iff.mp h1
            cases h2
            exact s_cmpH ho hns (u80 cx.room) (sd.e cx rf e2) (sd.p cx rf e1)
      · cases h
  · split at h
    · rename_i ho
      rw [Bool.and_eq_true, Bool.and_eq_true] at ho
      obtain ⟨x, e1, h⟩ := Option.bind_eq_some_iff.mp h
      obtain ⟨y, e2, h⟩ := Option.bind_eq_some_iff.mp h
      obtain ⟨z, e3, h⟩ := Option.map_eq_some_iff.mp h
      cases h
      exact ⟨st_chn ho.1 ho.2.1 ho.2.2 (u80 cx.room) (sd.p cx rf e1) (sd.p cx rf e2) (sd.p cx rf e3), s_chn ho.1 ho.2.1 ho.2.2 (u80 cx.room) (sd.p cx rf e1) (sd.p cx rf e2) (sd.p cx rf e3)⟩
    · cases h
  · cases h
def rCmp : Rl := fun C g e => (cmpC C g e).map fun x => (blE x.1, x.2)
theorem rCmp_ok : RlOk rCmp := fun {C} sd {g k X W ev e c b} cx rf h => by
  obtain ⟨x, e1, e2⟩ := Option.map_eq_some_iff.mp h
  cases e2
  exact (cmpC_ok sd cx rf e1).2
def rIte : Rl := fun C g e => match e with
  | .IfExp t a b _ => (C.b g t).bind fun x => (C.e g a).bind fun y => (C.e g b).map fun z => (iteS x.1 y.1 z.1, x.2 && (y.2 && z.2))
  | _ => none
theorem rIte_ok : RlOk rIte := fun {C} sd {g k X W ev e c b} cx rf h => by
  cases e with
  | IfExp t a b pos =>
    simp only [rIte] at h
    obtain ⟨x, e1, h⟩ := Option.bind_eq_some_iff.mp h
    obtain ⟨y, e2, h⟩ := Option.bind_eq_some_iff.mp h
    obtain ⟨z, e3, h⟩ := Option.map_eq_some_iff.mp h
    cases h
    exact s_ite (sd.b cx rf e1) (sd.e cx rf e2) (sd.e cx rf e3)
  | _ => cases h
/-- places and slices -/
def optC (C : Cs) (g : Gm) : Option Expr → Option (Option (Sm D) × Bool)
  | none => some (none, true)
  | some e => (C.p g e).map fun x => (some x.1, x.2)
theorem optC_ok {C : Cs} (sd : Snd C) {g : Gm} {k : Nat} {X : Cx} {W : Wd} {ev : Env} {o : Option Expr} {c : Option (Sm D)} {b : Bool} (cx : CxIs g k ev.call X) (rf : Rfs W ev) (h : optC C g o = some (c, b)) : PO X o (tOI X.K W ev (optI c) b) := by
  cases o with
  | none => cases h; exact so_none
  | some e =>
    obtain ⟨x, e1, e2⟩ := Option.map_eq_some_iff.mp (show (C.p g e).map (fun x => (some x.1, x.2)) = some _ from h)
    cases e2
    exact so_some (sd.p cx rf e1)
def rSub : Rl := fun C g e => match e with
  | .Subscript a (.Slice none none (some (.UnaryOp .USub (.Constant (.int 1) _ _) _)) _) _ => (C.p g a).map fun x => (rev x.1, x.2)
  | .Subscript a (.Slice lo hi none _) _ => (C.p g a).bind fun x => (optC C g lo).bind fun l => (optC C g hi).map fun h => (slc (l.2 && h.2) x.1 l.1 h.1, x.2 && (l.2 && h.2))
  | .Subscript a i _ => if ixPlain i = true then (C.p g i).bind fun y => if y.2 = true then (C.p g a).map fun x => (idx true x.1 y.1, x.2)
      else (match varOf g a with
        | some j => some (idxV j y.1, false)
        | none => (C.e g a).map fun x => (idxH x.1 y.1, false)) else none
  | _ => none
theorem rSub_ok : RlOk rSub := fun {C} sd {g k X W ev e c b} cx rf h => by
  unfold rSub at h
  split at h
  · obtain ⟨x, e1, h⟩ := Option.map_eq_some_iff.mp h
    cases h
    exact s_rev (sd.p cx rf e1)
  · obtain ⟨x, e1, h⟩ := Option.bind_eq_some_iff.mp h
    obtain ⟨l, e2, h⟩ := Option.bind_eq_some_iff.mp h
    obtain ⟨hh, e3, h⟩ := Option.map_eq_some_iff.mp h
    cases h
    exact s_slc (sd.p cx rf e1) (optC_ok sd cx rf e2) (optC_ok sd cx rf e3)
  · split at h
    · rename_i pos _ _ hp
      obtain ⟨⟨y, gy⟩, e1, h1⟩ := Option.bind_eq_some_iff.mp h
      split at h1
      · rename_i hg
        cases hg
        obtain ⟨x, e2, h2⟩ := Option.map_eq_some_iff.mp h1
        cases h2
        have := s_idx (pos := pos) (u80 cx.room) hp (sd.p cx rf e2) (sd.p cx rf e1)
        rw [Bool.and_true] at this
        exact this
      · split at h1
        · rename_i j hj
          cases h1
          obtain ⟨x, p, rfl, a1, a2, a3, a4⟩ := varOf_ok cx hj
          exact s_idxV (u80 cx.room) hp a1 a2 a3 a4 (sd.p cx rf e1)
        · obtain ⟨x, e2, h2⟩ := Option.map_eq_some_iff.mp h1
          cases h2
          exact s_idxH (u80 cx.room) hp (sd.e cx rf e2) (sd.p cx rf e1)
    · cases h
  · cases h
/-- displays -/
def sqC (C : Cs) (g : Gm) : List Expr → Option (List (Sm D) × Bool)
  | [] => some ([], true)
  | e :: es => if noStar e = true then (C.e g e).bind fun x => (sqC C g es).map fun r => (x.1 :: r.1, x.2 && r.2) else none
theorem sqC_ok {C : Cs} (sd : Snd C) {g : Gm} {k : Nat} {X : Cx} {W : Wd} {ev : Env} (cx : CxIs g k ev.call X) (rf : Rfs W ev) : ∀ {es : List Expr} {cs : List (Sm D)} {b : Bool}, sqC C g es = some (cs, b) → PA X es (tEs X.K W ev (sq cs) b)
  | [], _, _, h => by cases h; exact sa_nil
  | e :: es, cs, b, h => by
    unfold sqC at h
    split at h
    · rename_i hs
      obtain ⟨x, e1, h⟩ := Option.bind_eq_some_iff.mp h
      obtain ⟨r, e2, h⟩ := Option.map_eq_some_iff.mp h
      cases h
      exact sa_cons hs (sd.e cx rf e1) (sqC_ok sd cx rf e2)
    · cases h
def rSeq : Rl := fun C g e => match e with
  | .Tuple es _ _ => (sqC C g es).bind fun r => if szOk r.1.length = true then some (tupE r.1, r.2) else none
  | .List es _ => (sqC C g es).bind fun r => if szOk r.1.length = true then some (lstE r.1, r.2) else none
  | _ => none
theorem rSeq_ok : RlOk rSeq := fun {C} sd {g k X W ev e c b} cx rf h => by
  unfold rSeq at h
  split at h
  · obtain ⟨r, e1, h⟩ := Option.bind_eq_some_iff.mp h
    split at h
    · rename_i hz
      cases h
      exact s_tup (szOk_le hz) (sqC_ok sd cx rf e1)
    · cases h
  · obtain ⟨r, e1, h⟩ := Option.bind_eq_some_iff.mp h
    split at h
    · rename_i hz
      cases h
      exact s_lst (szOk_le hz) (sqC_ok sd cx rf e1)
    · cases h
  · cases h
end Tw

set_option Elab.async false
set_option linter.all false
set_option maxRecDepth 100000
/-! Tw.EvV: the code's meaning: calls, walks, comprehensions. -/
namespace Tw
open PySem PySem.Spec PyProof.Rows L2

def argC (C : Cs) (g : Gm) : List Expr → Option (List (Nat ⊕ Sm D))
  | [] => some []
  | e :: es => if noStar e = true then (argC C g es).bind fun r => (match varOf g e with
      | some i => some (.inl i :: r)
      | none => (C.e g e).map fun x => .inr x.1 :: r) else none
section
variable {C : Cs} {g : Gm} {k : Nat} {X : Cx} {W : Wd} {ev : Env}
theorem argC_ok (sd : Snd C) (cx : CxIs g k ev.call X) (rf : Rfs W ev) : ∀ {es : List Expr} {as : List (Nat ⊕ Sm D)}, argC C g es = some as → PA X es (tAs X.K W ev as) ∧ as.length = es.length ∧ es.all noStar = true
  | [], _, h => by cases h; exact ⟨sas_nil, rfl, rfl⟩
  | e :: es, as, h => by
    unfold argC at h
    split at h
    · rename_i hs
      obtain ⟨r, e1, h⟩ := Option.bind_eq_some_iff.mp h
      obtain ⟨a1, a2, a3⟩ := argC_ok sd cx rf e1
      have a4 : (e :: es).all noStar = true := by rw [List.all_cons, hs, a3]; rfl
      split at h
      · rename_i i hi
        cases h
        obtain ⟨x, p, rfl, b1, b2, b3, b4⟩ := varOf_ok cx hi
        exact ⟨sas_var b1 b2 b3 b4 a1, by rw [List.length_cons, List.length_cons, a2], a4⟩
      · obtain ⟨x, e2, h⟩ := Option.map_eq_some_iff.mp h
        cases h
        exact ⟨sas_val hs (sd.e cx rf e2) a1, by rw [List.length_cons, List.length_cons, a2], a4⟩
    · cases h
end
def biAll : List Bi := [.len, .tuple, .list, .all, .any, .int, .str, .min, .max, .sum, .abs]
def biOf (x : Str) : Option Bi := biAll.find? fun f => biName f == x
theorem biOf_ok {x : Str} {f : Bi} (h : biOf x = some f) : x = biName f := by
  have := List.find?_some h
  exact (eq_of_beq this).symm
def tyAll : List Ty := [.int, .bool, .str, .tuple, .list]
def tyOf (x : Str) : Option Ty := tyAll.find? fun t => Str.ofString (tyName t) == x
theorem tyOf_ok {x : Str} {t : Ty} (h : tyOf x = some t) : bootBuiltins x = some (.type (tyName t)) := by
  have e1 := List.find?_some (show tyAll.find? (fun t => Str.ofString (tyName t) == x) = some t from h)
  have e := (eq_of_beq e1).symm
  rw [e]
  cases t <;> first | exact boot_int | exact boot_bool | exact boot_str | exact boot_tuple | exact boot_list
def isFree (g : Gm) (x : Str) : Bool := match g.glo x with
  | some .free => true
  | _ => false
theorem isFree_ok {g : Gm} {k : Nat} {cl : Str → List D → R D} {X : Cx} {x : Str} (cx : CxIs g k cl X) (h : isFree g x = true) : Gl X x ∧ X.mg x = none ∧ (x == ("__debug__" : Str)) = false ∧ x ≠ "__name__" := by
  unfold isFree at h
  split at h
  · rename_i e
    obtain ⟨a1, a2, a3, a4⟩ := cx.glo e
    exact ⟨a1, a4, a2, a3⟩
  · cases h
def bi1Ok : Bi → Bool
  | .min => false | .max => false
  | _ => true
/-- a call of a built-in function -/
def bltC (C : Cs) (g : Gm) (f : Str) (args : List Expr) : Option (Sm D × Bool) :=
  if isFree g f = true then (match args with
    | [a] => if noStar a = true then (biOf f).bind fun b => if bi1Ok b = true then (C.p g a).map fun x => (blt1 b x.1, x.2) else none else none
    | [a, b] => if (f == ("isinstance" : Str)) = true then
        (nameOf b).bind fun t => if (isFree g t && noStar a) = true then (tyOf t).bind fun ty => (C.p g a).map fun x => (isi ty x.1, x.2) else none
      else if (noStar a && noStar b) = true then (biOf f).bind fun q => if bi1Ok q = false then (C.p g a).bind fun x => (C.p g b).map fun y => (blt2 q y.2 x.1 y.1, x.2 && y.2) else none else none
    | _ => none) else none
def rCall : Rl := fun C g e => match e with
  | .Call (.Name f _) args [] _ => (match g.glo f with
    | some (.fn n) => if args.length = n then (argC C g args).map fun as => (call f as, false) else none
    | some .free => bltC C g f args
    | _ => none)
  | _ => none
theorem bltC_ok {C : Cs} (sd : Snd C) {g : Gm} {k : Nat} {X : Cx} {W : Wd} {ev : Env} {f : Str} {args : List Expr} {p pos : Pos} {c : Sm D} {b : Bool} (cx : CxIs g k ev.call X) (rf : Rfs W ev) (h : bltC C g f args = some (c, b)) : PE X (.Call (.Name f p) args [] pos) (tE X.K W ev c b) := by
  unfold bltC at h
  split at h
  · rename_i hf
    obtain ⟨g1, g2, g3, g4⟩ := isFree_ok cx hf
    split at h
    · split at h
      · rename_i hs
        obtain ⟨q, e1, h1⟩ := Option.bind_eq_some_iff.mp h
        split at h1
        · rename_i hq
          obtain ⟨x, e2, h2⟩ := Option.map_eq_some_iff.mp h1
          cases h2
          have := biOf_ok e1
          subst this
          exact s_blt1 cx.calm ⟨fun e => (by rw [e] at hq; cases hq), fun e => (by rw [e] at hq; cases hq)⟩ g1 g2 hs (sd.p cx rf e2)
        · cases h1
      · cases h
    · split at h
      · rename_i hi
        have := eq_of_beq hi
        subst this
        obtain ⟨t, e1, h1⟩ := Option.bind_eq_some_iff.mp h
        obtain ⟨pt, rfl⟩ := nameOf_ok e1
        split at h1
        · rename_i hz
          rw [Bool.and_eq_true] at hz
          obtain ⟨t1, t2, t3, t4⟩ := isFree_ok cx hz.1
          obtain ⟨ty, e2, h2⟩ := Option.bind_eq_some_iff.mp h1
          obtain ⟨x, e3, h3⟩ := Option.map_eq_some_iff.mp h2
          cases h3
          exact s_isi g1 g2 t1 t2 (tyOf_ok e2) t4 t3 hz.2 (sd.p cx rf e3)
        · cases h1
      · split at h
        · rename_i hs
          rw [Bool.and_eq_true] at hs
          obtain ⟨q, e1, h1⟩ := Option.bind_eq_some_iff.mp h
          split at h1
          · rename_i hq
            obtain ⟨x, e2, h2⟩ := Option.bind_eq_some_iff.mp h1
            obtain ⟨y, e3, h3⟩ := Option.map_eq_some_iff.mp h2
            cases h3
            have := biOf_ok e1
            subst this
            refine s_blt2 cx.calm ?_ g1 g2 hs.1 hs.2 (sd.p cx rf e2) (sd.p cx rf e3)
            cases q <;> first | exact .inl rfl | exact .inr rfl | cases hq
          · cases h1
        · cases h
    · cases h
  · cases h
theorem rCall_ok : RlOk rCall := fun {C} sd {g k X W ev e c b} cx rf h => by
  unfold rCall at h
  split at h
  · split at h
    · rename_i n hn
      obtain ⟨a1, a2, a3, a4⟩ := cx.glo hn
      split at h
      · rename_i hl
        obtain ⟨as, e1, h⟩ := Option.map_eq_some_iff.mp h
        cases h
        obtain ⟨b1, b2, b3⟩ := argC_ok sd cx rf e1
        rename_i f p args pos _
        cases args with
        | nil =>
          cases hl
          cases e1
          exact s_call0 a4 cx.room a1 a2
        | cons e es =>
          rw [List.all_cons, Bool.and_eq_true] at b3
          exact s_call a4 cx.room a1 a2 (by rw [b2, hl]) b3.1 b3.2 b1
      · cases h
    · exact bltC_ok sd cx rf h
    · cases h
  · cases h
/-- a name and places -/
def pathC (C : Cs) (g : Gm) : Nat → (Expr → Option (Nat × List (Sm D)))
  | 0 => fun _ => none
  | n + 1 => fun e => (match e with
    | .Name x _ => (g.var x).map fun i => (i, [])
    | .Subscript o i _ => if ixPlain i = true then (pathC C g n o).bind fun r => (C.p g i).bind fun c => if c.2 = true then some (r.1, c.1 :: r.2) else none else none
    | _ => none)
theorem pathC_ok {C : Cs} (sd : Snd C) {g : Gm} {k : Nat} {X : Cx} {W : Wd} {ev : Env} (cx : CxIs g k ev.call X) (rf : Rfs W ev) : ∀ {n : Nat} {e : Expr} {i : Nat} {ps : List (Sm D)}, pathC C g n e = some (i, ps) → PE X e (tO X.K W ev i (pthR i ps) true) ∧ ∀ a, attributeBase e a X.env (eval e X.env) = eval e X.env
  | 0, _, _, _, h => by cases h
  | n + 1, e, i, ps, h => by
    unfold pathC at h
    split at h
    · obtain ⟨j, e1, h⟩ := Option.map_eq_some_iff.mp h
      cases h
      obtain ⟨a1, a2, a3, a4⟩ := cx.var e1
      exact ⟨so_name a1 a2 a3 a4, fun _ => rfl⟩
    · split at h
      · rename_i hp
        obtain ⟨r, e1, h⟩ := Option.bind_eq_some_iff.mp h
        obtain ⟨c, e2, h⟩ := Option.bind_eq_some_iff.mp h
        split at h
        · rename_i hc
          cases h
          obtain ⟨c1, c2⟩ := c
          cases hc
          exact ⟨so_sub hp (pathC_ok sd cx rf e1).1 (sd.p cx rf e2), fun _ => rfl⟩
        · cases h
      · cases h
    · cases h
def nilB {α : Type} : List α → Bool
  | [] => true
  | _ => false
def noCall : Expr → Bool
  | .Call _ _ _ _ => false
  | _ => true
def rMeth : Rl := fun C g e => match e with
  | .Call (.Attribute o m apos) [] [] pos => if (apos.endLine == pos.line) = true then
      (if (m == ("upper" : Str)) = true then (if noCall o = true then (C.p g o).map fun x => (upper x.1, x.2) else none)
      else if (m == ("pop" : Str)) = true then (pathC C g 4 o).map fun r => (pop r.1 r.2, false) else none) else none
  | .Call (.Attribute o m apos) [a] [] pos => if (apos.endLine == pos.line && noStar a) = true then
      (pathC C g 4 o).bind fun r => (C.e g a).bind fun x => if (x.2 || nilB r.2) = true then
        (if (m == ("append" : Str)) = true then some (append r.1 r.2 x.1, false) else if (m == ("extend" : Str)) = true then some (extend r.1 r.2 x.1, false) else none) else none
      else none
  | _ => none
theorem rMeth_ok : RlOk rMeth := fun {C} sd {g k X W ev e c b} cx rf h => by
  unfold rMeth at h
  split at h
  · split at h
    · rename_i o m apos pos hl
      split at h
      · rename_i hm
        have := eq_of_beq hm
        subst this
        split at h
        · rename_i hn
          obtain ⟨x, e1, h⟩ := Option.map_eq_some_iff.mp h
          cases h
          refine s_upper ?_ hl (sd.p cx rf e1)
          cases o <;> first | rfl | exact absurd (show false = true from hn) Bool.false_ne_true
        · cases h
      · split at h
        · rename_i hm
          have := eq_of_beq hm
          subst this
          obtain ⟨r, e1, h⟩ := Option.map_eq_some_iff.mp h
          cases h
          obtain ⟨a1, a2⟩ := pathC_ok sd cx rf e1
          exact s_pop (a2 _) hl a1
        · cases h
    · cases h
  · split at h
    · rename_i o m apos a pos hl
      rw [Bool.and_eq_true] at hl
      obtain ⟨r, e1, h1⟩ := Option.bind_eq_some_iff.mp h
      obtain ⟨x, e2, h2⟩ := Option.bind_eq_some_iff.mp h1
      obtain ⟨a1, a2⟩ := pathC_ok sd cx rf e1
      split at h2
      · rename_i hz
        have hg : (x.2 && true) = true ∨ r.2 = [] := by
          rw [Bool.or_eq_true] at hz
          rcases hz with hz | hz
          · rw [hz]; exact .inl rfl
          · right
            cases hr : r.2 with
            | nil => rfl
            | cons _ _ => rw [hr] at hz; cases hz
        have hA := sa_cons hl.2 (sd.e cx rf e2) sa_nil
        split at h2
        · rename_i hm
          have := eq_of_beq hm
          subst this
          cases h2
          exact s_append (a2 _) hl.1 hl.2 hg a1 hA
        · split at h2
          · rename_i hm
            have := eq_of_beq hm
            subst this
            cases h2
            exact s_extend (a2 _) hl.1 hl.2 hg a1 hA
          · cases h2
      · cases h2
    · cases h
  · cases h

/-! ### targets -/
def mapO (f : Expr → Option Tg) : List Expr → Option (List Tg)
  | [] => some []
  | e :: es => if noStar e = true then (f e).bind fun t => (mapO f es).map (t :: ·) else none
def tgC (g : Gm) : Nat → (Expr → Option Tg)
  | 0 => fun _ => none
  | n + 1 => fun e => (match e with
    | .Name x _ => (g.lov x).map .nm
    | .Tuple es _ _ => (mapO (tgC g n) es).map .tp
    | _ => none)
theorem assign_each {e : Expr} {es : List Expr} {env : PySem.Env} (h : noStar e = true) : assignEach (e :: es) env = (false, assign e env) :: assignEach es env := by
  cases e <;> first | rfl | exact absurd (show false = true from h) Bool.false_ne_true
section
variable {C : Cs} {g : Gm} {k : Nat} {X : Cx} {W : Wd} {ev : Env}
theorem mapO_ok {f : Expr → Option Tg} (hf : ∀ e t, f e = some t → PG X e (tG X.K W ev t)) : ∀ {es : List Expr} {ts : List Tg}, mapO f es = some ts → PGs X es (tGs X.K W ev ts) ∧ (assignEach es X.env).length = ts.length ∧ (assignEach es X.env).findIdx? (·.1) = none
  | [], _, h => by cases h; exact ⟨sgs_nil, rfl, rfl⟩
  | e :: es, ts, h => by
    unfold mapO at h
    split at h
    · rename_i hs
      obtain ⟨t, e1, h⟩ := Option.bind_eq_some_iff.mp h
      obtain ⟨r, e2, h⟩ := Option.map_eq_some_iff.mp h
      cases h
      obtain ⟨a1, a2, a3⟩ := mapO_ok hf e2
      refine ⟨sgs_cons (hf e t e1) a1 (by rw [assign_each hs]; rfl), by rw [assign_each hs, List.length_cons, List.length_cons, a2], ?_⟩
      rw [assign_each hs, List.findIdx?_cons]
      simp [a3]
    · cases h
theorem tgC_ok (cx : CxIs g k ev.call X) (rf : Rfs W ev) : ∀ {n : Nat} {e : Expr} {t : Tg}, tgC g n e = some t → PG X e (tG X.K W ev t)
  | 0, _, _, h => by cases h
  | n + 1, e, t, h => by
    unfold tgC at h
    split at h
    · obtain ⟨i, e1, h⟩ := Option.map_eq_some_iff.mp h
      cases h
      obtain ⟨a1, a2, a3⟩ := cx.lov e1
      exact sg_name rf cx.nd a1 a2 a3
    · obtain ⟨ts, e1, h⟩ := Option.map_eq_some_iff.mp h
      cases h
      obtain ⟨a1, a2, a3⟩ := mapO_ok (fun e t he => tgC_ok cx rf he) e1
      exact sg_tup cx.calm a1 a2 a3
    · cases h
/-! ### walks -/
def scC (C : Cs) (g : Gm) (e : Expr) : Option (Sm Sc) := match varOf g e with
  | some i => some (itV i)
  | none => (C.e g e).map fun x => itE x.1
theorem scC_ok (sd : Snd C) {e : Expr} {m : Sm Sc} (cx : CxIs g k ev.call X) (rf : Rfs W ev) (h : scC C g e = some m) : PE X e (tI X.K W ev m) := by
  unfold scC at h
  split at h
  · rename_i i hi
    cases h
    obtain ⟨x, p, rfl, b1, b2, b3, b4⟩ := varOf_ok cx hi
    exact se_V b1 b2 b3 b4
  · obtain ⟨x, e1, h⟩ := Option.map_eq_some_iff.mp h
    cases h
    exact se_E (sd.e cx rf e1)
def isTup : Expr → Bool
  | .Tuple _ _ _ => true
  | _ => false
/-- zip(a, b), under enumerate -/
def enzC (C : Cs) (g : Gm) (e : Expr) : Option (Sm Wk) := match e with
  | .Call (.Name f _) [a, b] [] _ => if (f == ("zip" : Str) && (isFree g f && (noStar a && noStar b))) = true then (scC C g a).bind fun x => (scC C g b).map fun y => itNZ x y else none
  | _ => none
theorem enzC_ok (sd : Snd C) {elts : List Expr} {kk : Nat} {tpos p pos : Pos} {a : Expr} {m : Sm Wk} (cx : CxIs g k ev.call X) (rf : Rfs W ev) (hg : Gl X "enumerate") (hm : X.mg "enumerate" = none) (h : enzC C g a = some m) : PI X (.Tuple elts kk tpos) (.Call (.Name "enumerate" p) [a] [] pos) (tW X.K W ev m) := by
  unfold enzC at h
  split at h
  · split at h
    · rename_i hz
      simp only [Bool.and_eq_true] at hz
      have := eq_of_beq hz.1
      subst this
      obtain ⟨g1, g2, _, _⟩ := isFree_ok cx hz.2.1
      obtain ⟨x, e1, h1⟩ := Option.bind_eq_some_iff.mp h
      obtain ⟨y, e2, h2⟩ := Option.map_eq_some_iff.mp h1
      cases h2
      exact si_NZ hg hm g1 g2 hz.2.2.1 hz.2.2.2 (scC_ok sd cx rf e1) (scC_ok sd cx rf e2)
    · cases h
  · cases h
def wkF (C : Cs) (g : Gm) (tup : Bool) (f : Str) (args : List Expr) : Option (Sm Wk) := match args with
  | [a] => if noStar a = true then (if (f == ("range" : Str)) = true then (C.p g a).map fun x => itR1 x.1
      else if (f == ("enumerate" : Str) && tup) = true then (match enzC C g a with
        | some m => some m
        | none => (scC C g a).map itN) else none) else none
  | [a, b] => if (noStar a && noStar b) = true then (if (f == ("range" : Str)) = true then (C.p g a).bind fun x => (C.p g b).map fun y => itR2 x.1 y.1
      else if (f == ("zip" : Str) && tup) = true then (scC C g a).bind fun x => (scC C g b).map fun y => itZ x y else none) else none
  | _ => none
def wkC (C : Cs) (g : Gm) (tup : Bool) (e : Expr) : Option (Sm Wk) := match e with
  | .Call (.Name f p) args [] pos => if isFree g f = true then (match wkF C g tup f args with
      | some m => some m
      | none => (scC C g (.Call (.Name f p) args [] pos)).map itS) else (scC C g (.Call (.Name f p) args [] pos)).map itS
  | e => (scC C g e).map itS
theorem wkF_ok (sd : Snd C) {f : Str} {args : List Expr} {p pos : Pos} {tg : Expr} {m : Sm Wk} (cx : CxIs g k ev.call X) (rf : Rfs W ev) (hf : isFree g f = true) (h : wkF C g (isTup tg) f args = some m) : PI X tg (.Call (.Name f p) args [] pos) (tW X.K W ev m) := by
  obtain ⟨g1, g2, g3, g4⟩ := isFree_ok cx hf
  unfold wkF at h
  split at h
  · split at h
    · rename_i hs
      split at h
      · rename_i hr
        have := eq_of_beq hr
        subst this
        obtain ⟨x, e1, h⟩ := Option.map_eq_some_iff.mp h
        cases h
        exact si_R1 g1 g2 hs (sd.p cx rf e1)
      · split at h
        · rename_i hr
          rw [Bool.and_eq_true] at hr
          have := eq_of_beq hr.1
          subst this
          split at h
          · rename_i m' hm'
            cases h
            cases tg <;> first | exact enzC_ok sd cx rf g1 g2 hm' | exact absurd (show false = true from hr.2) Bool.false_ne_true
          · obtain ⟨x, e1, h⟩ := Option.map_eq_some_iff.mp h
            cases h
            cases tg <;> first | exact si_N g1 g2 hs (scC_ok sd cx rf e1) | exact absurd (show false = true from hr.2) Bool.false_ne_true
        · cases h
    · cases h
  · split at h
    · rename_i hs
      rw [Bool.and_eq_true] at hs
      split at h
      · rename_i hr
        have := eq_of_beq hr
        subst this
        obtain ⟨x, e1, h⟩ := Option.bind_eq_some_iff.mp h
        obtain ⟨y, e2, h⟩ := Option.map_eq_some_iff.mp h
        cases h
        exact si_R2 g1 g2 hs.1 hs.2 (sd.p cx rf e1) (sd.p cx rf e2)
      · split at h
        · rename_i hr
          rw [Bool.and_eq_true] at hr
          have := eq_of_beq hr.1
          subst this
          obtain ⟨x, e1, h⟩ := Option.bind_eq_some_iff.mp h
          obtain ⟨y, e2, h⟩ := Option.map_eq_some_iff.mp h
          cases h
          cases tg <;> first | exact si_Z g1 g2 hs.1 hs.2 (scC_ok sd cx rf e1) (scC_ok sd cx rf e2) | exact absurd (show false = true from hr.2) Bool.false_ne_true
        · cases h
    · cases h
  · cases h
theorem wkC_ok (sd : Snd C) {tg e : Expr} {m : Sm Wk} (cx : CxIs g k ev.call X) (rf : Rfs W ev) (h : wkC C g (isTup tg) e = some m) : PI X tg e (tW X.K W ev m) := by
  have d : ∀ {e : Expr}, (scC C g e).map itS = some m → PI X tg e (tW X.K W ev m) := fun {e} h => by
    obtain ⟨s, e1, h⟩ := Option.map_eq_some_iff.mp h
    cases h
    exact si_S (scC_ok sd cx rf e1)
  unfold wkC at h
  split at h
  · split at h
    · rename_i hf
      split at h
      · rename_i m' hm
        cases h
        exact wkF_ok sd cx rf hf hm
      · exact d h
    · exact d h
  · exact d h
end

/-! ### list comprehensions -/
def ownOf (N : List Str) (names : List (Str × NameKind)) : List (Str × Nat) := names.filterMap fun y => if locK (some y.2) = true then (slotOf N y.1).map fun i => (y.1, i) else none
def freeK : Option NameKind → Bool
  | some .cell => true | some .free => true
  | _ => false
def fnK : ScopeKind → Bool
  | .function => true
  | _ => false
def blkCk (g : Gm) (scope : Scope) (own : List (Str × Nat)) : Bool :=
  fnK scope.kind && (scope.names.all fun y => decide (scope.names.lookup y.1 = some y.2)) && (own.all fun p => decide (g.N[p.2]? = some p.1)) &&
    (scope.names.all fun y => match y.2 with
      | .free => freeK (g.sc.lookup y.1)
      | .local => decide (y.1 ∈ own.map (·.1)) || decide (y.1 ∉ g.N)
      | .cell => decide (y.1 ∈ own.map (·.1)) || decide (y.1 ∉ g.N)
      | _ => true)
def Gm.blk (g : Gm) (scope : Scope) : Gm := { g with sc := scope.names }
section
variable {C : Cs} {g : Gm} {k : Nat} {cl : Str → List D → R D} {X : Cx} {W : Wd} {ev : Env}
theorem fnK_ok {s : ScopeKind} (h : fnK s = true) : s = .function := by
  cases s <;> first | rfl | cases h
theorem blkCk_ok {scope : Scope} {own : List (Str × Nat)} (cx : CxIs g k cl X) (h : blkCk g scope own = true) : BlkOk X.N X.env.scope scope own := by
  unfold blkCk at h
  simp only [Bool.and_eq_true, List.all_eq_true, decide_eq_true_eq] at h
  obtain ⟨⟨⟨h1, h2⟩, h3⟩, h4⟩ := h
  refine ⟨fnK_ok h1, h2, by rw [cx.N]; exact h3, fun y hy e => ?_, fun y hy e => ?_⟩
  · have q := h4 y hy
    simp only [e] at q
    unfold freeK at q
    rcases cx.names y.1 with n | ⟨n1, n2⟩
    · rw [n]
      split at q
      · rename_i q2; rw [q2]; exact .inl rfl
      · rename_i q2; rw [q2]; exact .inr rfl
      · cases q
    · exact .inl n2
  · have q := h4 y hy
    rw [cx.N]
    rcases e with e | e <;> (simp only [e, Bool.or_eq_true, decide_eq_true_eq] at q; exact q)
theorem lookup_relab {c : Str → NameKind → Bool} : ∀ {names : List (Str × NameKind)} {x : Str}, (names.map fun y => if c y.1 y.2 = true then (y.1, NameKind.cell) else (y.1, y.2)).lookup x = (names.lookup x).map fun k => if c x k = true then NameKind.cell else k
  | [], _ => rfl
  | (n, k) :: r, x => by
    rw [List.map_cons]
    by_cases hc : c n k = true
    · rw [if_pos hc, List.lookup_cons, List.lookup_cons]
      cases hx : x == n with
      | true =>
        have := eq_of_beq hx
        subst this
        show _ = some (if c x k = true then NameKind.cell else k)
        rw [if_pos hc]
      | false => exact lookup_relab
    · rw [if_neg hc, List.lookup_cons, List.lookup_cons]
      cases hx : x == n with
      | true =>
        have := eq_of_beq hx
        subst this
        show _ = some (if c x k = true then NameKind.cell else k)
        rw [if_neg hc]
      | false => exact lookup_relab
theorem CxIs.blk {scope : Scope} (cx : CxIs g k cl X) (hk : fnK scope.kind = true) (s : Shared) (H : Hp) (Ca : Addr) (cs : List (Str × Addr)) (fp : List Addr) : CxIs (g.blk scope) k cl (X.blk s H scope (compEnvC scope cs Ca X.env) fp) where
  N := cx.N
  nd := cx.nd
  kind := fnK_ok hk
  names := fun x => by
    have e : (compEnvC scope cs Ca X.env).scope.names.lookup x = (scope.names.lookup x).map fun k => if (k == NameKind.free && X.env.scope.kind == .function && X.env.kindOf x == some .cell) = true then NameKind.cell else k := lookup_relab (c := fun n k => k == NameKind.free && X.env.scope.kind == .function && X.env.kindOf n == some .cell)
    show kindIs (scope.names.lookup x) ((compEnvC scope cs Ca X.env).scope.names.lookup x)
    rw [e]
    unfold kindIs
    cases scope.names.lookup x with
    | none => exact .inl rfl
    | some k =>
      dsimp only [Option.map]
      split
      · rename_i h
        simp only [Bool.and_eq_true] at h
        rw [eq_of_beq h.1.1]
        exact .inr ⟨rfl, rfl⟩
      · exact .inl rfl
  fnl := fun x h => by
    have e : (compEnvC scope cs Ca X.env).scope.names.lookup x = (scope.names.lookup x).map fun k => if (k == NameKind.free && X.env.scope.kind == .function && X.env.kindOf x == some .cell) = true then NameKind.cell else k := lookup_relab (c := fun n k => k == NameKind.free && X.env.scope.kind == .function && X.env.kindOf n == some .cell)
    show (scope.names.lookup x == some .cell) = true ∨ (compEnvC scope cs Ca X.env).scope.names.lookup x = some .local
    rw [e]
    have h : locK (scope.names.lookup x) = true := h
    unfold locK at h
    split at h
    · rename_i q; right; rw [q]; rfl
    · rename_i q; left; rw [q]; rfl
    · cases h
  calm := cx.calm
  room := cx.room
  glob := fun x v h => by
    have := cx.glob x v h
    cases v <;> exact this
def notSet : Expr → Bool
  | .Set _ _ _ => false
  | _ => true
theorem notSet_ok {e : Expr} {env : PySem.Env} (h : notSet e = true) : ∀ x, foldedSetIterable e env x = pure x := by
  cases e <;> first | (intro _; rfl) | exact absurd (show false = true from h) Bool.false_ne_true
def testsC (C : Cs) (g : Gm) : List Expr → Option (List (Sm Bool))
  | [] => some []
  | [c] => (C.b g c).map fun x => [x.1]
  | _ => none
def lcC (C : Cs) (g : Gm) (elt : Expr) (gens : List Comprehension) (scope : Scope) : Option (Sm D) := match gens with
  | [⟨tg, it, ifs, 0⟩] => if (blkCk g scope (ownOf g.N scope.names) && notSet it) = true then
      (tgC (g.blk scope) 4 tg).bind fun t => if (t.slots.all fun i => ((ownOf g.N scope.names).map (·.2)).contains i) = true then
        (wkC C g (isTup tg) it).bind fun m => (testsC C (g.blk scope) ifs).bind fun cs => (C.e (g.blk scope) elt).map fun x => lc ((ownOf g.N scope.names).map (·.2)) t m cs x.1 else none else none
  | _ => none
def rLc : Rl := fun C g e => match e with
  | .ListComp elt gens scope _ => (lcC C g elt gens scope).map fun c => (c, false)
  | _ => none
/-- what s_lc asks -/
theorem lcC_parts (sd : Snd C) {elt : Expr} {gens : List Comprehension} {scope : Scope} {c : Sm D} (cx : CxIs g k ev.call X) (rf : Rfs W ev) (h : lcC C g elt gens scope = some c) :
    ∃ tg it ifs t m cs ce ge, gens = [⟨tg, it, ifs, 0⟩] ∧ c = lc ((ownOf g.N scope.names).map (·.2)) t m cs ce ∧ (∀ i ∈ t.slots, i ∈ (ownOf g.N scope.names).map (·.2)) ∧ PI X tg it (tW X.K W ev m) ∧ BlkOk X.N X.env.scope scope (ownOf g.N scope.names) ∧
      (∀ (s : Shared) (H : Hp) (C : Addr) (cl : List (Str × Addr)) (fp : List Addr) W' ev', Kin ev W' ev' → PG (X.blk s H scope (compEnvC scope cl C X.env) fp) tg (tG X.K W' ev' t)) ∧
      (∀ (s : Shared) (H : Hp) (C : Addr) (cl : List (Str × Addr)) (fp : List Addr) W' ev', Kin ev W' ev' → PTs (X.blk s H scope (compEnvC scope cl C X.env) fp) ifs (tB X.K W' ev' (allT cs) false)) ∧
      (∀ (s : Shared) (H : Hp) (C : Addr) (cl : List (Str × Addr)) (fp : List Addr) W' ev', Kin ev W' ev' → PE (X.blk s H scope (compEnvC scope cl C X.env) fp) elt (tE X.K W' ev' ce ge)) ∧
      (∀ x, foldedSetIterable it X.env x = pure x) := by
  unfold lcC at h
  split at h
  · rename_i tg it ifs
    split at h
    · rename_i hz
      rw [Bool.and_eq_true] at hz
      obtain ⟨t, e1, h⟩ := Option.bind_eq_some_iff.mp h
      split at h
      · rename_i hs
        obtain ⟨m, e2, h⟩ := Option.bind_eq_some_iff.mp h
        obtain ⟨cs, e3, h⟩ := Option.bind_eq_some_iff.mp h
        obtain ⟨x, e4, h⟩ := Option.map_eq_some_iff.mp h
        cases h
        have hk : fnK scope.kind = true := by
          have := hz.1
          unfold blkCk at this
          simp only [Bool.and_eq_true] at this
          exact this.1.1.1
        have cb : ∀ (s : Shared) (H : Hp) (Ca : Addr) (cs : List (Str × Addr)) (fp : List Addr) (W' : Wd) (ev' : Env), Kin ev W' ev' → CxIs (g.blk scope) k ev'.call (X.blk s H scope (compEnvC scope cs Ca X.env) fp) := fun s H Ca cs fp W' ev' kin => by
          rw [kin.2]
          exact cx.blk hk s H Ca cs fp
        refine ⟨tg, it, ifs, t, m, cs, x.1, x.2, rfl, rfl, fun i hi => ?_, wkC_ok sd cx rf e2, blkCk_ok cx hz.1, fun s H Ca cl fp W' ev' kin => ?_, fun s H Ca cl fp W' ev' kin => ?_, fun s H Ca cl fp W' ev' kin => ?_, notSet_ok hz.2⟩
        · have := List.all_eq_true.mp hs i hi
          simpa using this
        · exact tgC_ok (X := X.blk s H scope (compEnvC scope cl Ca X.env) fp) (cb s H Ca cl fp W' ev' kin) kin.1 e1
        · match ifs, e3 with
          | [], e3 => cases e3; exact sts_nil
          | [c], e3 =>
            obtain ⟨y, e5, e3⟩ := Option.map_eq_some_iff.mp e3
            cases e3
            exact sts_one (sd.b (X := X.blk s H scope (compEnvC scope cl Ca X.env) fp) (cb s H Ca cl fp W' ev' kin) kin.1 e5)
        · exact sd.e (X := X.blk s H scope (compEnvC scope cl Ca X.env) fp) (cb s H Ca cl fp W' ev' kin) kin.1 e4
      · cases h
    · cases h
  · cases h
theorem rLc_ok : RlOk rLc := fun {C} sd {g k X W ev e c b} cx rf h => by
  cases e with
  | ListComp elt gens scope pos =>
    obtain ⟨x, e1, h⟩ := Option.map_eq_some_iff.mp (show (lcC C g elt gens scope).map (fun c => (c, false)) = some _ from h)
    cases h
    obtain ⟨tg, it, ifs, t, m, cs, ce, ge, rfl, rfl, h1, h2, h3, h4, h5, h6, h7⟩ := lcC_parts sd cx rf e1
    exact s_lc cx.calm cx.nd rf h1 h2 h3 h4 h5 h6 h7
  | _ => cases h
/-! ### more built-ins, dict comprehensions -/
def rMore : Rl := fun C g e => match e with
  | .Call (.Name f _) [a] [] _ => if (isFree g f && noStar a) = true then
      (if (f == ("sorted" : Str)) = true then (C.p g a).map fun x => (srt x.1, x.2)
      else if (f == ("min" : Str)) = true then (C.p g a).map fun x => (min1 false x.1, x.2)
      else if (f == ("max" : Str)) = true then (C.p g a).map fun x => (min1 true x.1, x.2) else none) else none
  | _ => none
theorem rMore_ok : RlOk rMore := fun {C} sd {g k X W ev e c b} cx rf h => by
  unfold rMore at h
  split at h
  · split at h
    · rename_i hf
      rw [Bool.and_eq_true] at hf
      obtain ⟨g1, g2, g3, g4⟩ := isFree_ok cx hf.1
      split at h
      · rename_i hm
        have := eq_of_beq hm
        subst this
        obtain ⟨x, e1, h⟩ := Option.map_eq_some_iff.mp h
        cases h
        exact s_srt cx.calm (u80 cx.room) g1 g2 hf.2 (sd.p cx rf e1)
      · split at h
        · rename_i hm
          have := eq_of_beq hm
          subst this
          obtain ⟨x, e1, h⟩ := Option.map_eq_some_iff.mp h
          cases h
          exact s_min1 cx.calm (u80 cx.room) g1 g2 hf.2 (sd.p cx rf e1)
        · split at h
          · rename_i hm
            have := eq_of_beq hm
            subst this
            obtain ⟨x, e1, h⟩ := Option.map_eq_some_iff.mp h
            cases h
            exact s_max1 cx.calm (u80 cx.room) g1 g2 hf.2 (sd.p cx rf e1)
          · cases h
    · cases h
  · cases h
def dcC (C : Cs) (g : Gm) (kx vx : Expr) (gens : List Comprehension) (scope : Scope) : Option (Sm D) := match gens with
  | [⟨tg, it, ifs, 0⟩] => if (blkCk g scope (ownOf g.N scope.names) && notSet it) = true then
      (tgC (g.blk scope) 4 tg).bind fun t => if (t.slots.all fun i => ((ownOf g.N scope.names).map (·.2)).contains i) = true then
        (wkC C g (isTup tg) it).bind fun m => (testsC C (g.blk scope) ifs).bind fun cs => (C.e (g.blk scope) kx).bind fun x => (C.e (g.blk scope) vx).map fun y => dc ((ownOf g.N scope.names).map (·.2)) t m cs x.1 y.1 else none else none
  | _ => none
def rDc : Rl := fun C g e => match e with
  | .DictComp kx vx gens scope _ => (dcC C g kx vx gens scope).map fun c => (c, false)
  | _ => none
theorem rDc_ok : RlOk rDc := fun {C} sd {g k X W ev e c b} cx rf h => by
  cases e with
  | DictComp kx vx gens scope pos =>
    obtain ⟨x, e1, h⟩ := Option.map_eq_some_iff.mp (show (dcC C g kx vx gens scope).map (fun c => (c, false)) = some _ from h)
    cases h
    unfold dcC at e1
    split at e1
    · rename_i tg it ifs
      split at e1
      · rename_i hz
        rw [Bool.and_eq_true] at hz
        obtain ⟨t, q1, h⟩ := Option.bind_eq_some_iff.mp e1
        split at h
        · rename_i hs
          obtain ⟨m, q2, h⟩ := Option.bind_eq_some_iff.mp h
          obtain ⟨cs, q3, h⟩ := Option.bind_eq_some_iff.mp h
          obtain ⟨x, q4, h⟩ := Option.bind_eq_some_iff.mp h
          obtain ⟨y, q5, h⟩ := Option.map_eq_some_iff.mp h
          cases h
          have hk : fnK scope.kind = true := by
            have := hz.1
            unfold blkCk at this
            simp only [Bool.and_eq_true] at this
            exact this.1.1.1
          have cb : ∀ (s : Shared) (H : Hp) (Ca : Addr) (cs : List (Str × Addr)) (fp : List Addr) (W' : Wd) (ev' : Env), Kin ev W' ev' → CxIs (g.blk scope) k ev'.call (X.blk s H scope (compEnvC scope cs Ca X.env) fp) := fun s H Ca cs fp W' ev' kin => by
            rw [kin.2]
            exact cx.blk hk s H Ca cs fp
          refine s_dc (ck := x.1) (ce := y.1) (gk := x.2) (ge := y.2) (by have := u80 cx.room; omega) cx.calm cx.nd rf (fun i hi => ?_) (wkC_ok sd cx rf q2) (blkCk_ok cx hz.1) (fun s H Ca cl fp W' ev' kin => ?_) (fun s H Ca cl fp W' ev' kin => ?_) (fun s H Ca cl fp W' ev' kin => ?_) (fun s H Ca cl fp W' ev' kin => ?_) (notSet_ok hz.2)
          · have := List.all_eq_true.mp hs i hi
            simpa using this
          · exact tgC_ok (X := X.blk s H scope (compEnvC scope cl Ca X.env) fp) (cb s H Ca cl fp W' ev' kin) kin.1 q1
          · match ifs, q3 with
            | [], q3 => cases q3; exact sts_nil
            | [c], q3 =>
              obtain ⟨y, e5, q3⟩ := Option.map_eq_some_iff.mp q3
              cases q3
              exact sts_one (sd.b (X := X.blk s H scope (compEnvC scope cl Ca X.env) fp) (cb s H Ca cl fp W' ev' kin) kin.1 e5)
          · exact sd.e (X := X.blk s H scope (compEnvC scope cl Ca X.env) fp) (cb s H Ca cl fp W' ev' kin) kin.1 q4
          · exact sd.e (X := X.blk s H scope (compEnvC scope cl Ca X.env) fp) (cb s H Ca cl fp W' ev' kin) kin.1 q5
        · cases h
      · cases e1
    · cases e1
  | _ => cases h
/-! ### two clauses -/
def lc2C (C : Cs) (g : Gm) (elt : Expr) (gens : List Comprehension) (scope : Scope) : Option (Sm D) := match gens with
  | [⟨tg, it, ifs, 0⟩, ⟨tg1, it1, ifs1, 0⟩] => if (blkCk g scope (ownOf g.N scope.names) && (notSet it && notSet it1)) = true then
      (tgC (g.blk scope) 4 tg).bind fun t => (tgC (g.blk scope) 4 tg1).bind fun t1 => if ((t.slots.all fun i => ((ownOf g.N scope.names).map (·.2)).contains i) && (t1.slots.all fun i => ((ownOf g.N scope.names).map (·.2)).contains i)) = true then
        (wkC C g (isTup tg) it).bind fun m => (testsC C (g.blk scope) ifs).bind fun cs => (wkC C (g.blk scope) (isTup tg1) it1).bind fun m1 => (testsC C (g.blk scope) ifs1).bind fun cs1 => (C.e (g.blk scope) elt).map fun x => lc2 ((ownOf g.N scope.names).map (·.2)) t1.slots t m cs m1 t1 cs1 x.1 else none else none
  | _ => none
theorem lc2C_parts (sd : Snd C) {elt : Expr} {gens : List Comprehension} {scope : Scope} {c : Sm D} (cx : CxIs g k ev.call X) (rf : Rfs W ev) (h : lc2C C g elt gens scope = some c) :
    ∃ tg it ifs tg1 it1 ifs1 t m cs t1 m1 cs1 ce ge, gens = [⟨tg, it, ifs, 0⟩, ⟨tg1, it1, ifs1, 0⟩] ∧ c = lc2 ((ownOf g.N scope.names).map (·.2)) t1.slots t m cs m1 t1 cs1 ce ∧ (∀ i ∈ t.slots, i ∈ (ownOf g.N scope.names).map (·.2)) ∧ (∀ i ∈ t1.slots, i ∈ (ownOf g.N scope.names).map (·.2)) ∧ PI X tg it (tW X.K W ev m) ∧ BlkOk X.N X.env.scope scope (ownOf g.N scope.names) ∧
      (∀ (s : Shared) (H : Hp) (C : Addr) (cl : List (Str × Addr)) (fp : List Addr) W' ev', Kin ev W' ev' → PG (X.blk s H scope (compEnvC scope cl C X.env) fp) tg (tG X.K W' ev' t)) ∧
      (∀ (s : Shared) (H : Hp) (C : Addr) (cl : List (Str × Addr)) (fp : List Addr) W' ev', Kin ev W' ev' → PTs (X.blk s H scope (compEnvC scope cl C X.env) fp) ifs (tB X.K W' ev' (allT cs) false)) ∧
      (∀ (s : Shared) (H : Hp) (C : Addr) (cl : List (Str × Addr)) (fp : List Addr) W' ev', Kin ev W' ev' → PI (X.blk s H scope (compEnvC scope cl C X.env) fp) tg1 it1 (tW X.K W' ev' m1)) ∧
      (∀ (s : Shared) (H : Hp) (C : Addr) (cl : List (Str × Addr)) (fp : List Addr) W' ev', Kin ev W' ev' → PG (X.blk s H scope (compEnvC scope cl C X.env) fp) tg1 (tG X.K W' ev' t1)) ∧
      (∀ (s : Shared) (H : Hp) (C : Addr) (cl : List (Str × Addr)) (fp : List Addr) W' ev', Kin ev W' ev' → PTs (X.blk s H scope (compEnvC scope cl C X.env) fp) ifs1 (tB X.K W' ev' (allT cs1) false)) ∧
      (∀ (s : Shared) (H : Hp) (C : Addr) (cl : List (Str × Addr)) (fp : List Addr) W' ev', Kin ev W' ev' → PE (X.blk s H scope (compEnvC scope cl C X.env) fp) elt (tE X.K W' ev' ce ge)) ∧
      (∀ x, foldedSetIterable it X.env x = pure x) ∧ (∀ env x, foldedSetIterable it1 env x = pure x) := by
  unfold lc2C at h
  split at h
  · rename_i tg it ifs tg1 it1 ifs1
    split at h
    · rename_i hz
      rw [Bool.and_eq_true, Bool.and_eq_true] at hz
      obtain ⟨t, e1, h⟩ := Option.bind_eq_some_iff.mp h
      obtain ⟨t1, e1', h⟩ := Option.bind_eq_some_iff.mp h
      split at h
      · rename_i hs
        rw [Bool.and_eq_true] at hs
        obtain ⟨m, e2, h⟩ := Option.bind_eq_some_iff.mp h
        obtain ⟨cs, e3, h⟩ := Option.bind_eq_some_iff.mp h
        obtain ⟨m1, e4, h⟩ := Option.bind_eq_some_iff.mp h
        obtain ⟨cs1, e5, h⟩ := Option.bind_eq_some_iff.mp h
        obtain ⟨x, e6, h⟩ := Option.map_eq_some_iff.mp h
        cases h
        have hk : fnK scope.kind = true := by
          have := hz.1
          unfold blkCk at this
          simp only [Bool.and_eq_true] at this
          exact this.1.1.1
        have cb : ∀ (s : Shared) (H : Hp) (Ca : Addr) (cs : List (Str × Addr)) (fp : List Addr) (W' : Wd) (ev' : Env), Kin ev W' ev' → CxIs (g.blk scope) k ev'.call (X.blk s H scope (compEnvC scope cs Ca X.env) fp) := fun s H Ca cs fp W' ev' kin => by
          rw [kin.2]
          exact cx.blk hk s H Ca cs fp
        have tst : ∀ {ifs : List Expr} {cs : List (Sm Bool)}, testsC C (g.blk scope) ifs = some cs → ∀ (s : Shared) (H : Hp) (Ca : Addr) (cl : List (Str × Addr)) (fp : List Addr) W' ev', Kin ev W' ev' → PTs (X.blk s H scope (compEnvC scope cl Ca X.env) fp) ifs (tB X.K W' ev' (allT cs) false) := by
          intro ifs cs e3 s H Ca cl fp W' ev' kin
          match ifs, e3 with
          | [], e3 => cases e3; exact sts_nil
          | [c], e3 =>
            obtain ⟨y, e5, e3⟩ := Option.map_eq_some_iff.mp e3
            cases e3
            exact sts_one (sd.b (X := X.blk s H scope (compEnvC scope cl Ca X.env) fp) (cb s H Ca cl fp W' ev' kin) kin.1 e5)
        refine ⟨tg, it, ifs, tg1, it1, ifs1, t, m, cs, t1, m1, cs1, x.1, x.2, rfl, rfl, fun i hi => ?_, fun i hi => ?_, wkC_ok sd cx rf e2, blkCk_ok cx hz.1, fun s H Ca cl fp W' ev' kin => ?_, tst e3, fun s H Ca cl fp W' ev' kin => ?_, fun s H Ca cl fp W' ev' kin => ?_, tst e5, fun s H Ca cl fp W' ev' kin => ?_, notSet_ok hz.2.1, fun env => notSet_ok hz.2.2⟩
        · have := List.all_eq_true.mp hs.1 i hi
          simpa using this
        · have := List.all_eq_true.mp hs.2 i hi
          simpa using this
        · exact tgC_ok (X := X.blk s H scope (compEnvC scope cl Ca X.env) fp) (cb s H Ca cl fp W' ev' kin) kin.1 e1
        · exact wkC_ok (X := X.blk s H scope (compEnvC scope cl Ca X.env) fp) sd (cb s H Ca cl fp W' ev' kin) kin.1 e4
        · exact tgC_ok (X := X.blk s H scope (compEnvC scope cl Ca X.env) fp) (cb s H Ca cl fp W' ev' kin) kin.1 e1'
        · exact sd.e (X := X.blk s H scope (compEnvC scope cl Ca X.env) fp) (cb s H Ca cl fp W' ev' kin) kin.1 e6
      · cases h
    · cases h
  · cases h
def rLc2 : Rl := fun C g e => match e with
  | .ListComp elt gens scope _ => (lc2C C g elt gens scope).map fun c => (c, false)
  | _ => none
theorem rLc2_ok : RlOk rLc2 := fun {C} sd {g k X W ev e c b} cx rf h => by
  cases e with
  | ListComp elt gens scope pos =>
    obtain ⟨x, e1, h⟩ := Option.map_eq_some_iff.mp (show (lc2C C g elt gens scope).map (fun c => (c, false)) = some _ from h)
    cases h
    obtain ⟨tg, it, ifs, tg1, it1, ifs1, t, m, cs, t1, m1, cs1, ce, ge, rfl, rfl, h1, h2, h3, h4, h5, h6, h7, h8, h9, h10, h11, h12⟩ := lc2C_parts sd cx rf e1
    exact s_lc2 cx.calm cx.nd rf h1 h2 (fun i hi => hi) h3 h4 h5 h6 h7 h8 h9 h10 h11 h12
  | _ => cases h
end
/-! ### all together -/
def rDict : Rl := fun C g e => match e with
  | .Dict [] [] _ => some (dnew, true)
  | .Call (.Attribute o m apos) [a] [] pos => if ((m == ("get" : Str)) && ((apos.endLine == pos.line) && (noCall o && noStar a))) = true then
      (C.p g o).bind fun x => (C.p g a).bind fun y => if y.2 = true then some (dget1 x.1 y.1, x.2) else none else none
  | .Call (.Attribute o m apos) [a, b] [] pos => if ((m == ("get" : Str)) && ((apos.endLine == pos.line) && (noCall o && (noStar a && noStar b)))) = true then
      (C.p g o).bind fun x => (C.p g a).bind fun y => (C.e g b).bind fun z => if (y.2 && z.2) = true then some (dget2 x.1 y.1 z.1, x.2) else none else none
  | _ => none
theorem base_plain {o : Expr} {m : Str} {env : PySem.Env} (h : noCall o = true) : attributeBase o m env (eval o env) = eval o env := by
  cases o <;> first | rfl | exact absurd (show false = true from h) Bool.false_ne_true
theorem rDict_ok : RlOk rDict := fun {C} sd {g k X W ev e c b} cx rf h => by
  unfold rDict at h
  split at h
  · cases h
    exact s_dnew
  · split at h
    · rename_i o m apos a pos hm
      simp only [Bool.and_eq_true] at hm
      have := eq_of_beq hm.1
      subst this
      obtain ⟨x, e1, h⟩ := Option.bind_eq_some_iff.mp h
      obtain ⟨y, e2, h⟩ := Option.bind_eq_some_iff.mp h
      obtain ⟨y1, y2⟩ := y
      split at h
      · rename_i hy
        cases h
        have hy : y2 = true := hy
        subst hy
        exact s_dget1 (by have := u80 cx.room; omega) (sd.p cx rf e1) (sd.p cx rf e2) ⟨base_plain hm.2.2.1, by rw [noStar_each hm.2.2.2]; rfl, hm.2.1, by rw [noStar_each hm.2.2.2]; rfl⟩
      · cases h
    · cases h
  · split at h
    · rename_i o m apos a b' pos hm
      simp only [Bool.and_eq_true] at hm
      have := eq_of_beq hm.1
      subst this
      obtain ⟨x, e1, h⟩ := Option.bind_eq_some_iff.mp h
      obtain ⟨y, e2, h⟩ := Option.bind_eq_some_iff.mp h
      obtain ⟨z, e3, h⟩ := Option.bind_eq_some_iff.mp h
      obtain ⟨y1, y2⟩ := y
      obtain ⟨z1, z2⟩ := z
      split at h
      · rename_i hy
        rw [Bool.and_eq_true] at hy
        cases h
        obtain ⟨hy, hz⟩ := hy
        have hy : y2 = true := hy
        have hz : z2 = true := hz
        subst hy hz
        exact s_dget2 (by have := u80 cx.room; omega) (sd.p cx rf e1) (sd.p cx rf e2) (sd.e cx rf e3) ⟨base_plain hm.2.2.1, by rw [noStar_each hm.2.2.2.1, noStar_each hm.2.2.2.2]; rfl, hm.2.1, by rw [noStar_each hm.2.2.2.1, noStar_each hm.2.2.2.2]; rfl⟩
      · cases h
    · cases h
  · cases h
def rules : List Rl := [rName, rConst, rBin, rSub, rCall, rCmp, rBool, rUn, rSeq, rMeth, rLc, rIte, rMore, rDc, rLc2, rDict]
theorem rules_ok : ∀ r ∈ rules, RlOk r := by
  intro r hr
  simp only [rules, List.mem_cons, List.not_mem_nil, or_false] at hr
  rcases hr with rfl | rfl | rfl | rfl | rfl | rfl | rfl | rfl | rfl | rfl | rfl | rfl | rfl | rfl | rfl | rfl
  · exact rName_ok
  · exact rConst_ok
  · exact rBin_ok
  · exact rSub_ok
  · exact rCall_ok
  · exact rCmp_ok
  · exact rBool_ok
  · exact rUn_ok
  · exact rSeq_ok
  · exact rMeth_ok
  · exact rLc_ok
  · exact rIte_ok
  · exact rMore_ok
  · exact rDc_ok
  · exact rLc2_ok
  · exact rDict_ok
/-- looked at -/
def pStep (C : Cs) (g : Gm) (e : Expr) : Option (Sm D × Bool) := match e with
  | .Name x p => (match g.var x with
    | some i => some (vP i, true)
    | none => firstOf rules C g (.Name x p))
  | .Subscript a i p => if ixPlain i = true then (C.p g i).bind fun y => if y.2 = true then (C.p g a).map fun x => (idxP true x.1 y.1, x.2) else firstOf rules C g (.Subscript a i p) else firstOf rules C g (.Subscript a i p)
  | .List es p => (firstOf rules C g (.List es p)).map fun x => (frE x.1, x.2)
  | .ListComp a b c p => (firstOf rules C g (.ListComp a b c p)).map fun x => (frE x.1, x.2)
  | e => firstOf rules C g e
theorem pStep_ok {C : Cs} (sd : Snd C) : POk (pStep C) := fun {g k X W ev e c b} cx rf h => by
  unfold pStep at h
  split at h
  · split at h
    · rename_i i hi
      cases h
      obtain ⟨a1, a2, a3, a4⟩ := cx.var hi
      exact s_vP a1 a2 a3 a4
    · exact toP (firstOf_ok rules_ok sd cx rf h)
  · split at h
    · rename_i pos hp
      obtain ⟨⟨y, gy⟩, e1, h1⟩ := Option.bind_eq_some_iff.mp h
      split at h1
      · rename_i hg
        cases hg
        obtain ⟨x, e2, h2⟩ := Option.map_eq_some_iff.mp h1
        cases h2
        have := s_idxP (pos := pos) (u80 cx.room) hp (sd.p cx rf e2) (sd.p cx rf e1)
        rw [Bool.and_true] at this
        exact this
      · exact toP (firstOf_ok rules_ok sd cx rf h1)
    · exact toP (firstOf_ok rules_ok sd cx rf h)
  · obtain ⟨x, e1, e2⟩ := Option.map_eq_some_iff.mp h
    cases e2
    exact toP (s_frE (firstOf_ok rules_ok sd cx rf e1))
  · obtain ⟨x, e1, e2⟩ := Option.map_eq_some_iff.mp h
    cases e2
    exact toP (s_frE (firstOf_ok rules_ok sd cx rf e1))
  · exact toP (firstOf_ok rules_ok sd cx rf h)
def bopB : BoolOp → Sm Bool → Sm Bool → Sm Bool
  | .And => andB
  | .Or => orB
def boolsB (C : Cs) (g : Gm) (op : BoolOp) : List Expr → Option (Sm Bool × Bool)
  | [] => none
  | e :: es => (match es with
    | [] => C.b g e
    | _ => (C.b g e).bind fun x => (boolsB C g op es).map fun y => (bopB op x.1 y.1, x.2 && y.2))
theorem boolsB_ok {C : Cs} (sd : Snd C) {g : Gm} {k : Nat} {X : Cx} {W : Wd} {ev : Env} {op : BoolOp} {pos : Pos} (cx : CxIs g k ev.call X) (rf : Rfs W ev) : ∀ {es : List Expr} {c : Sm Bool} {b : Bool}, boolsB C g op es = some (c, b) → PW X (.BoolOp op es pos) (tB X.K W ev c b)
  | [], _, _, h => by cases h
  | [e], _, _, h => by
    cases op with
    | And => exact pw_and1 (sd.b cx rf h)
    | Or => exact pw_or1 (sd.b cx rf h)
  | e :: e2 :: es, c, b, h => by
    obtain ⟨x, e1, h⟩ := Option.bind_eq_some_iff.mp (show (C.b g e).bind (fun x => (boolsB C g op (e2 :: es)).map fun y => (bopB op x.1 y.1, x.2 && y.2)) = some (c, b) from h)
    obtain ⟨y, e2, h⟩ := Option.map_eq_some_iff.mp h
    cases h
    have ih := boolsB_ok (pos := pos) sd cx rf e2
    cases op with
    | And => exact sw_and (sd.b cx rf e1) ih
    | Or => exact sw_or (sd.b cx rf e1) ih
def valTest : Expr → Bool
  | .IfExp _ _ _ _ => false | .Compare _ _ _ _ => false | .BoolOp _ _ _ => false | .UnaryOp _ _ _ => false
  | _ => true
def bStep (C : Cs) (g : Gm) (e : Expr) : Option (Sm Bool × Bool) := match e with
  | .UnaryOp .Not a _ => (C.b g a).map fun x => (notB x.1, x.2)
  | .BoolOp op es _ => boolsB C g op es
  | .Compare a ops bs p => cmpC C g (.Compare a ops bs p)
  | e => if valTest e = true then (pStep C g e).map fun x => (truB x.1, x.2) else none
theorem bStep_ok {C : Cs} (sd : Snd C) : BOk (bStep C) := fun {g k X W ev e c b} cx rf h => by
  unfold bStep at h
  split at h
  · obtain ⟨x, e1, h⟩ := Option.map_eq_some_iff.mp h
    cases h
    exact st_not (sd.b cx rf e1)
  · exact (boolsB_ok sd cx rf h).pt
  · exact (cmpC_ok sd cx rf h).1
  · split at h
    · rename_i hv
      obtain ⟨x, e1, h⟩ := Option.map_eq_some_iff.mp h
      cases h
      refine st_tru (pStep_ok sd cx rf e1) ?_
      cases e <;> first | (intro _; rfl) | exact absurd (show false = true from hv) Bool.false_ne_true
    · cases h
def comp : Nat → Cs
  | 0 => ⟨fun _ _ => none, fun _ _ => none, fun _ _ => none⟩
  | n + 1 => ⟨firstOf rules (comp n), pStep (comp n), bStep (comp n)⟩
theorem comp_ok : ∀ n : Nat, Snd (comp n)
  | 0 => ⟨(by intro g k X W ev e c b cx rf h; cases h), (by intro g k X W ev e c b cx rf h; cases h), (by intro g k X W ev e c b cx rf h; cases h)⟩
  | n + 1 => ⟨firstOf_ok rules_ok (comp_ok n), pStep_ok (comp_ok n), bStep_ok (comp_ok n)⟩
end Tw

set_option Elab.async false
set_option linter.all false
set_option maxRecDepth 100000
/-! Tw.EvW: the code's meaning: statements. -/
namespace Tw
open PySem PySem.Spec PyProof.Rows L2

def notComp : Expr → Bool
  | .ListComp _ _ _ _ => false | .SetComp _ _ _ _ => false | .DictComp _ _ _ _ _ => false
  | _ => true
theorem notComp_ok {e : Expr} {t : Option Expr} {l : Nat} {env : PySem.Env} (h : notComp e = true) : swapsWith e t l env = pure false := by
  cases e <;> first | rfl | exact absurd (show false = true from h) Bool.false_ne_true
def isLoc : Option NameKind → Bool
  | some .local => true
  | _ => false
theorem isLoc_ok {o : Option NameKind} (h : isLoc o = true) : o = some .local := by
  unfold isLoc at h
  split at h
  · rfl
  · cases h
theorem CxIs.isLoc {g : Gm} {k : Nat} {cl : Str → List D → R D} {X : Cx} {x : Str} (cx : CxIs g k cl X) (h : isLoc (g.sc.lookup x) = true) : X.env.scope.names.lookup x = some .local := by
  have e := isLoc_ok h
  rcases cx.names x with q | ⟨q, _⟩
  · rw [q, e]
  · rw [e] at q; cases q
theorem CxIs.block {g : Gm} {k : Nat} {cl : Str → List D → R D} {X : Cx} (cx : CxIs g k cl X) : X.env.blockKind = .function := by
  unfold Env.blockKind
  rw [cx.kind]
  rfl
/-- x, y = a, b -/
def pairOk (g : Gm) (x y : Str) (px py : Pos) (a b : Expr) : Bool :=
  (isLoc (g.sc.lookup x) && isLoc (g.sc.lookup y)) && ((!(x == y)) && (px.line == py.line)) && ((noStar a && noStar b) && (!(foldedForSure 8 a && foldedForSure 8 b) && !(constantsAlone 8 a && constantsAlone 8 b)))
theorem pair_swaps {g : Gm} {k : Nat} {cl : Str → List D → R D} {X : Cx} {x y : Str} {px py pt pt2 : Pos} {kt k2 : Nat} {a b : Expr} (cx : CxIs g k cl X) (h : pairOk g x y px py a b = true) :
    swappedStores [.Tuple [.Name x px, .Name y py] kt pt] (.Tuple [a, b] k2 pt2) X.env = pure (some [x, y]) := by
  unfold pairOk at h
  simp only [Bool.and_eq_true, Bool.not_eq_true'] at h
  obtain ⟨⟨⟨h1, h2⟩, h3, h4⟩, ⟨h5, h6⟩, h7, h8⟩ := h
  have k1 : X.env.kindOf x = some .local := cx.isLoc h1
  have k2 : X.env.kindOf y = some .local := cx.isLoc h2
  have hl : py.line = px.line := (eq_of_beq h4).symm
  have hyx : (y == x) = false := by
    cases e : y == x with
    | false => rfl
    | true => rw [eq_of_beq e] at h3; simp at h3
  have ed : [x, y].eraseDups = [x, y] := by
    rw [List.eraseDups_cons]
    simp [hyx, List.eraseDups_cons]
  unfold swappedStores
  simp [cx.block, k1, k2, hl, ed, h7, h8, Expr.pos]
  intro h
  exfalso
  rcases h with h | h
  · cases a <;> first | exact absurd (show false = true from h5) Bool.false_ne_true | cases h
  · cases b <;> first | exact absurd (show false = true from h6) Bool.false_ne_true | cases h
/-- tuples that are unpacked as they are told -/
def nsw (ts es : List Expr) : Bool := (es.all noStar && es.all (foldedForSure 8)) || (!(ts.length == 2) && !(ts.length == 3))
theorem nsw_ok {ts es : List Expr} {kt k2 : Nat} {pt pt2 : Pos} {env : PySem.Env} (h : nsw ts es = true) : swappedStores [.Tuple ts kt pt] (.Tuple es k2 pt2) env = pure none := by
  unfold nsw at h
  rw [Bool.or_eq_true] at h
  unfold swappedStores
  rcases h with h | h
  · rw [Bool.and_eq_true] at h
    have hs : (es.any fun | .Starred .. => true | _ => false) = false := by
      rw [List.any_eq_false]
      intro x hx
      have := List.all_eq_true.mp h.1 x hx
      cases x <;> first | exact Bool.false_ne_true | exact absurd (show false = true from this) Bool.false_ne_true
    dsimp only [pure, bind]
    simp only [h.2, hs]
    split
    · rfl
    · simp
  · have hh : (!(ts.length == 2 || ts.length == 3)) = true := by simpa using h
    simp only [hh, Bool.true_or, if_true]
/-! ### assignments -/
/-- is a comprehension's value stored before its names are put back -/
def lcSwap (g : Gm) (x : Str) (px p : Pos) (scope : Scope) : Bool := isLoc (g.sc.lookup x) && (px.line == p.line) && !(scope.names.any fun y => y.1 == x && (y.2 == .local || y.2 == .cell))
def asgC (C : Cs) (g : Gm) (t e : Expr) : Option (Sm Fl) := match t with
  | .Name x px => (g.lov x).bind fun i => (match e with
    | .ListComp elt gens scope p => (match lcC C g elt gens scope with
      | some c => some (asg i c)
      | none => (lc2C C g elt gens scope).map fun c => asg i c)
    | e => if notComp e = true then (C.e g e).map fun c => asg i c.1 else none)
  | .Tuple ts k pt => (match e with
    | .Tuple es k2 pt2 => if nsw ts es = true then (tgC g 4 (.Tuple ts k pt)).bind fun t => (C.p g (.Tuple es k2 pt2)).map fun c => asgT t c.1 else (match ts, es with
      | [.Name x px, .Name y py], [a, b] => if pairOk g x y px py a b = true then (g.lov x).bind fun i => (g.lov y).bind fun j => if i = j then none else (C.e g a).bind fun c => (C.e g b).map fun d => par2 i j c.1 d.1 else none
      | _, _ => none)
    | e => (tgC g 4 (.Tuple ts k pt)).bind fun t => (C.p g e).map fun c => asgT t c.1)
  | .Subscript o k _ => if ixPlain k = true then (pathC C g 4 o).bind fun r => (C.p g k).bind fun j => if (j.2 || nilB r.2) = true then (C.e g e).map fun c => asgP r.1 r.2 j.1 c.1 else none else none
  | _ => none
theorem nil_of {α : Type} {l : List α} (h : nilB l = true) : l = [] := by
  cases l with
  | nil => rfl
  | cons _ _ => cases h
section
variable {C : Cs} {g : Gm} {k : Nat} {X : Cx} {W : Wd} {ev : Env}
theorem asgC_ok (sd : Snd C) {t e : Expr} {pos : Pos} {c : Sm Fl} (cx : CxIs g k ev.call X) (rf : Rfs W ev) (h : asgC C g t e = some c) : PS X (.Assign [t] e pos) (tS X.K W ev c) := by
  unfold asgC at h
  split at h
  · rename_i x px
    obtain ⟨i, e1, h1⟩ := Option.bind_eq_some_iff.mp h
    obtain ⟨a1, a2, a3⟩ := cx.lov e1
    split at h1
    · rename_i elt gens scope p
      split at h1
      · rename_i m e2
        cases h1
        obtain ⟨tg, it, ifs, t, m, cs, ce, ge, rfl, rfl, b1, b2, b3, b4, b5, b6, b7⟩ := lcC_parts sd cx rf e2
        cases hs : (X.env.blockKind == .function && X.env.kindOf x == some .local && px.line == p.line && !(scope.names.any fun y => y.1 == x && (y.2 == .local || y.2 == .cell))) with
        | true =>
          have hl : X.env.scope.names.lookup x = some .local := by
            simp only [Bool.and_eq_true] at hs
            exact eq_of_beq hs.1.1.2
          refine ss_setLc cx.calm cx.nd a1 hl ?_ rf b1 b2 b3 b4 b5 b6 b7
          show (pure _ : Sem Bool) = pure true
          exact congrArg pure hs
        | false =>
          refine ss_set rf cx.nd a1 a2 a3 (s_lc cx.calm cx.nd rf b1 b2 b3 b4 b5 b6 b7) ?_
          show (pure _ : Sem Bool) = pure false
          exact congrArg pure hs
      · obtain ⟨m, e2, h2⟩ := Option.map_eq_some_iff.mp h1
        cases h2
        obtain ⟨tg, it, ifs, tg1, it1, ifs1, t, m, cs, t1, m1, cs1, ce, ge, rfl, rfl, b1, b2, b3, b4, b5, b6, b7, b8, b9, b10, b11, b12⟩ := lc2C_parts sd cx rf e2
        cases hs : (X.env.blockKind == .function && X.env.kindOf x == some .local && px.line == p.line && !(scope.names.any fun y => y.1 == x && (y.2 == .local || y.2 == .cell))) with
        | true =>
          have hl : X.env.scope.names.lookup x = some .local := by
            simp only [Bool.and_eq_true] at hs
            exact eq_of_beq hs.1.1.2
          refine ss_setLc2 a1 hl ?_ cx.calm cx.nd rf b1 b2 (fun i hi => hi) b3 b4 b5 b6 b7 b8 b9 b10 b11 b12
          show (pure _ : Sem Bool) = pure true
          exact congrArg pure hs
        | false =>
          refine ss_set rf cx.nd a1 a2 a3 (s_lc2 cx.calm cx.nd rf b1 b2 (fun i hi => hi) b3 b4 b5 b6 b7 b8 b9 b10 b11 b12) ?_
          show (pure _ : Sem Bool) = pure false
          exact congrArg pure hs
    · split at h1
      · rename_i hn
        obtain ⟨m, e2, h2⟩ := Option.map_eq_some_iff.mp h1
        cases h2
        exact ss_set rf cx.nd a1 a2 a3 (sd.e cx rf e2) (notComp_ok hn)
      · cases h1
  · rename_i ts kt pt
    split at h
    · rename_i es k2 pt2
      split at h
      · rename_i hn
        obtain ⟨t, e1, h1⟩ := Option.bind_eq_some_iff.mp h
        obtain ⟨x, e2, h2⟩ := Option.map_eq_some_iff.mp h1
        cases h2
        exact ss_asgT (tgC_ok cx rf e1) (sd.p cx rf e2) rfl (nsw_ok hn) rfl
      split at h
      · rename_i x px y py a b
        split at h
        · rename_i hp
          obtain ⟨i, e1, h1⟩ := Option.bind_eq_some_iff.mp h
          obtain ⟨j, e2, h2⟩ := Option.bind_eq_some_iff.mp h1
          split at h2
          · cases h2
          · rename_i hij
            obtain ⟨ca, e3, h3⟩ := Option.bind_eq_some_iff.mp h2
            obtain ⟨cb, e4, h4⟩ := Option.map_eq_some_iff.mp h3
            cases h4
            have hp' := hp
            unfold pairOk at hp'
            simp only [Bool.and_eq_true] at hp'
            exact ss_par rf cx.calm cx.nd (cx.lov e1).1 (cx.lov e2).1 hij (cx.isLoc hp'.1.1.1) (cx.isLoc hp'.1.1.2) (sa_cons hp'.2.1.1 (sd.e cx rf e3) (sa_cons hp'.2.1.2 (sd.e cx rf e4) sa_nil)) (pair_swaps cx hp) rfl
        · cases h
      · cases h
    · rename_i ht
      obtain ⟨t, e1, h1⟩ := Option.bind_eq_some_iff.mp h
      obtain ⟨x, e2, h2⟩ := Option.map_eq_some_iff.mp h1
      cases h2
      refine ss_asgT (tgC_ok cx rf e1) (sd.p cx rf e2) ?_ ?_ rfl
      · cases e <;> rfl
      · cases e <;> first | rfl | exact absurd rfl (ht _ _ _)
  · rename_i o kx pp
    split at h
    · rename_i hk
      obtain ⟨r, e1, h1⟩ := Option.bind_eq_some_iff.mp h
      obtain ⟨j, e2, h2⟩ := Option.bind_eq_some_iff.mp h1
      split at h2
      · rename_i hz
        obtain ⟨x, e3, h3⟩ := Option.map_eq_some_iff.mp h2
        cases h3
        refine ss_asgP (u80 cx.room) hk ?_ (pathC_ok sd cx rf e1).1 (sd.p cx rf e2) (sd.e cx rf e3) ?_ rfl rfl
        · rw [Bool.or_eq_true] at hz
          rcases hz with hz | hz
          · exact .inl hz
          · exact .inr (nil_of hz)
        · cases e <;> rfl
      · cases h2
    · cases h
  · cases h
/-! ### statements -/
def mapS (f : Stmt → Option (Sm Fl)) : List Stmt → Option (List (Sm Fl))
  | [] => some []
  | s :: ss => (f s).bind fun c => (mapS f ss).map (c :: ·)
/-- the name that an assignment freezes -/
def fzC (g : Gm) (fzn : List Str) (t : Expr) (c : Sm Fl) : Sm Fl := match t with
  | .Name x _ => if fzn.contains x = true then (match g.lov x with
    | some i => fzS i c
    | none => c) else c
  | _ => c
theorem fzC_ok {X : Cx} {W : Wd} {ev : Env} {g : Gm} {fzn : List Str} {t e : Expr} {pos : Pos} {c : Sm Fl} (h : PS X (.Assign [t] e pos) (tS X.K W ev c)) : PS X (.Assign [t] e pos) (tS X.K W ev (fzC g fzn t c)) := by
  unfold fzC
  split
  · split
    · split
      · exact ss_fz _ h
      · exact h
    · exact h
  · exact h
noncomputable def stC (C : Cs) (g : Gm) (fzn : List Str) : Nat → (Stmt → Option (Sm Fl))
  | 0 => fun _ => none
  | n + 1 => fun st => (match st with
    | .Pass _ => some (ret .nx)
    | .Break _ => some (ret .bk)
    | .Continue _ => some (ret .ct)
    | .Return none _ => some (ret (.rt .non))
    | .Return (some e) _ => (match varOf g e with
      | some i => some (rtS (vR i))
      | none => (C.e g e).map fun x => rtS x.1)
    | .Expr e _ => if notComp e = true then (C.e g e).map fun x => expS x.1 else none
    | .Assign [t] e _ => (asgC C g t e).map (fzC g fzn t)
    | .Raise _ _ _ => some bad
    | .AugAssign (.Name x _) op e _ => if augOk op = true then (g.lov x).bind fun i => (C.p g e).map fun x => aug op i x.1 else none
    | .If t a b _ => (C.b g t).bind fun x => (mapS (stC C g fzn n) a).bind fun y => (mapS (stC C g fzn n) b).map fun z => iteS x.1 (blk y) (blk z)
    | .While t a [] _ => (C.b g t).bind fun x => (mapS (stC C g fzn n) a).map fun y => whileS x.1 (blk y)
    | .For tg it a [] _ => if notSet it = true then (tgC g 4 tg).bind fun t => (wkC C g (isTup tg) it).bind fun m => (mapS (stC C g fzn n) a).map fun y => forS t m (blk y) else none
    | _ => none)
theorem mapS_ok {f : Stmt → Option (Sm Fl)} (hf : ∀ st c, f st = some c → PS X st (tS X.K W ev c)) : ∀ {ss : List Stmt} {cs : List (Sm Fl)}, mapS f ss = some cs → PSs X ss (tS X.K W ev (blk cs))
  | [], _, h => by cases h; exact ss_nil
  | [s], _, h => by
    obtain ⟨c, e1, h1⟩ := Option.bind_eq_some_iff.mp h
    cases h1
    exact ss_one (hf s c e1)
  | s :: s2 :: ss, _, h => by
    obtain ⟨c, e1, h1⟩ := Option.bind_eq_some_iff.mp h
    obtain ⟨cs, e2, h2⟩ := Option.map_eq_some_iff.mp h1
    cases h2
    have ih := mapS_ok hf e2
    obtain ⟨c2, e3, h3⟩ := Option.bind_eq_some_iff.mp e2
    obtain ⟨cs2, e4, h4⟩ := Option.map_eq_some_iff.mp h3
    cases h4
    exact ss_cons (hf s c e1) ih
theorem stC_ok (sd : Snd C) (hp : PassesOwn (model X.prog X.w) X.A X.env X.xe) {fzn : List Str} : ∀ {n : Nat} {W : Wd} {ev : Env} {st : Stmt} {c : Sm Fl}, CxIs g k ev.call X → Rfs W ev → stC C g fzn n st = some c → PS X st (tS X.K W ev c)
  | 0, _, _, _, _, _, _, h => by cases h
  | n + 1, W, ev, st, c, cx, rf, h => by
    have ih : ∀ {W : Wd} {ev : Env} {ss : List Stmt} {cs : List (Sm Fl)}, CxIs g k ev.call X → Rfs W ev → mapS (stC C g fzn n) ss = some cs → PSs X ss (tS X.K W ev (blk cs)) := fun cx rf hm => mapS_ok (fun st c hs => stC_ok sd hp cx rf hs) hm
    unfold stC at h
    split at h
    · cases h; exact ss_pass
    · cases h; exact ss_break
    · cases h; exact ss_continue
    · cases h; exact ss_retN
    · split at h
      · rename_i i hi
        cases h
        obtain ⟨x, p, rfl, b1, b2, b3, b4⟩ := varOf_ok cx hi
        exact ss_ret (s_vR rf b1 b2 b3 b4)
      · obtain ⟨x, e1, h1⟩ := Option.map_eq_some_iff.mp h
        cases h1
        exact ss_ret (sd.e cx rf e1)
    · split at h
      · rename_i hn
        obtain ⟨x, e1, h1⟩ := Option.map_eq_some_iff.mp h
        cases h1
        exact ss_expr (sd.e cx rf e1) (notComp_ok hn)
      · cases h
    · obtain ⟨c1, e1, h1⟩ := Option.map_eq_some_iff.mp h
      subst h1
      exact fzC_ok (asgC_ok sd cx rf e1)
    · cases h
      exact ss_bad ps_false
    · split at h
      · rename_i ho
        obtain ⟨i, e1, h1⟩ := Option.bind_eq_some_iff.mp h
        obtain ⟨x, e2, h2⟩ := Option.map_eq_some_iff.mp h1
        cases h2
        obtain ⟨a1, a2, a3⟩ := cx.lov e1
        exact ss_aug ho rf cx.nd a1 a2 a3 (sd.p cx rf e2)
      · cases h
    · obtain ⟨x, e1, h1⟩ := Option.bind_eq_some_iff.mp h
      obtain ⟨y, e2, h2⟩ := Option.bind_eq_some_iff.mp h1
      obtain ⟨z, e3, h3⟩ := Option.map_eq_some_iff.mp h2
      cases h3
      exact ss_if (sd.b cx rf e1) (ih cx rf e2) (ih cx rf e3)
    · obtain ⟨x, e1, h1⟩ := Option.bind_eq_some_iff.mp h
      obtain ⟨y, e2, h2⟩ := Option.map_eq_some_iff.mp h1
      cases h2
      exact ss_while hp (sd.b cx rf e1) (ih cx rf e2)
    · split at h
      · rename_i hn
        obtain ⟨t, e1, h1⟩ := Option.bind_eq_some_iff.mp h
        obtain ⟨m, e2, h2⟩ := Option.bind_eq_some_iff.mp h1
        obtain ⟨y, e3, h3⟩ := Option.map_eq_some_iff.mp h2
        cases h3
        exact ss_for hp cx.calm rf (wkC_ok sd cx rf e2) (fun W' ev' kin => tgC_ok (by rw [kin.2]; exact cx) kin.1 e1) (fun W' ev' kin => ih (by rw [kin.2]; exact cx) kin.1 e3) (notSet_ok hn)
      · cases h
    · cases h
end
end Tw

set_option Elab.async false
set_option linter.all false
set_option maxRecDepth 100000
/-! Tw.EvX: a def keeps its promise. -/
namespace Tw
open PySem PySem.Spec PyProof.Rows L2

/-- the arguments that nobody changes -/
def frzT : List D → List V → List (D × V)
  | d :: ds, v :: vs => if frz d = true then (d, v) :: frzT ds vs else frzT ds vs
  | _, _ => []
/-- the slots of the others -/
def refsV : Nat → List D → List V → List (Nat × V)
  | i, d :: ds, v :: vs => if frz d = true then refsV (i + 1) ds vs else (i, v) :: refsV (i + 1) ds vs
  | _, _, _ => []
section
variable {K : PySem.W.Frag} {H : Hp} {O : Addr → Prop}
theorem RepL.frzT : ∀ {ds : List D} {vs : List V} {F : Ct}, RepL K H O ds vs F → RepT K H O (frzT ds vs) z0
  | [], _, _, _ => fun _ => rfl
  | d :: ds, vs, F, h => by
    obtain ⟨v, vs', G1, G2, rfl, h1, h2, z⟩ := h
    unfold Tw.frzT
    split
    · rename_i hz
      exact ⟨z0, z0, h1.z hz, RepL.frzT h2, fun _ => rfl⟩
    · exact RepL.frzT h2
theorem RepL.slots : ∀ {ds : List D} {vs : List V} {F : Ct} (n : Nat), RepL K H O ds vs F → RepS K H O (ds.map some ++ List.replicate n none) (vs.map some ++ List.replicate n none) F
  | [], vs, F, n, h => by
    obtain ⟨rfl, z⟩ := h
    have key : ∀ n : Nat, RepS K H O (List.replicate n none) (List.replicate n none) F := by
      intro n
      induction n with
      | zero => exact z
      | succ n ih => rw [List.replicate_succ, List.replicate_succ]; unfold RepS; exact ih
    exact key n
  | d :: ds, vs, F, n, h => by
    obtain ⟨v, vs', G1, G2, rfl, h1, h2, z⟩ := h
    exact ⟨G1, G2, h1, RepL.slots n h2, z⟩
theorem refsV_ge : ∀ {ds : List D} {vs : List V} {i : Nat} {p : Nat × V}, p ∈ refsV i ds vs → i ≤ p.1
  | [], _, _, _, h => by unfold refsV at h; cases h
  | _ :: _, [], _, _, h => by unfold refsV at h; cases h
  | d :: ds, v :: vs, i, p, h => by
    unfold refsV at h
    split at h
    · exact Nat.le_trans (Nat.le_succ i) (refsV_ge h)
    · rcases List.mem_cons.mp h with rfl | h
      · exact Nat.le_refl _
      · exact Nat.le_trans (Nat.le_succ i) (refsV_ge h)
theorem refsV_get : ∀ {ds : List D} {vs : List V} {i : Nat} {p : Nat × V}, p ∈ refsV i ds vs → vs[p.1 - i]? = some p.2 ∧ ∃ d, ds[p.1 - i]? = some d
  | [], _, _, _, h => by unfold refsV at h; cases h
  | _ :: _, [], _, _, h => by unfold refsV at h; cases h
  | d :: ds, v :: vs, i, p, h => by
    unfold refsV at h
    have step : p ∈ refsV (i + 1) ds vs → (v :: vs)[p.1 - i]? = some p.2 ∧ ∃ e, (d :: ds)[p.1 - i]? = some e := fun h => by
      obtain ⟨a1, a2⟩ := refsV_get h
      have := refsV_ge h
      have e : p.1 - i = (p.1 - (i + 1)) + 1 := by omega
      rw [e]
      exact ⟨by simpa using a1, by simpa using a2⟩
    split at h
    · exact step h
    · rcases List.mem_cons.mp h with rfl | h
      · rw [Nat.sub_self]; exact ⟨rfl, d, rfl⟩
      · exact step h
theorem refsV_mem : ∀ {ds : List D} {vs : List V} {i j : Nat} {d : D} {v : V}, ds[j]? = some d → vs[j]? = some v → frz d = false → (i + j, v) ∈ refsV i ds vs
  | [], _, _, _, _, _, h, _, _ => by simp at h
  | _ :: _, [], _, _, _, _, _, h, _ => by simp at h
  | d :: ds, v :: vs, i, 0, d', v', h1, h2, hz => by
    simp at h1 h2
    subst h1 h2
    unfold refsV
    rw [if_neg (by rw [hz]; exact Bool.false_ne_true)]
    exact List.mem_cons_self
  | d :: ds, v :: vs, i, j + 1, d', v', h1, h2, hz => by
    have ih := refsV_mem (i := i + 1) (by simpa using h1) (by simpa using h2) hz
    have e : i + 1 + j = i + (j + 1) := by omega
    rw [e] at ih
    unfold refsV
    split
    · exact ih
    · exact List.mem_cons_of_mem _ ih
theorem refsV_lent : ∀ {ds : List D} {vs : List V} {i : Nat} {p : Nat × V}, p ∈ refsV i ds vs → (lentA i ds).contains p.1 = true
  | [], _, _, _, h => by unfold refsV at h; cases h
  | _ :: _, [], _, _, h => by unfold refsV at h; cases h
  | d :: ds, v :: vs, i, p, h => by
    unfold refsV at h
    unfold lentA
    split at h
    · rename_i hz
      rw [if_pos hz]
      exact refsV_lent h
    · rename_i hz
      rw [if_neg hz, List.contains_cons]
      rcases List.mem_cons.mp h with rfl | h
      · simp
      · rw [refsV_lent h, Bool.or_true]
theorem outs_nil {s : S} {i : Nat} : outs s i [] = [] := rfl
theorem outs_cons {s : S} {i : Nat} {d : D} {ds : List D} : outs s i (d :: ds) = (if frz d = true then some d else (s[i]?).join) :: outs s (i + 1) ds := rfl
/-- what comes back at the arguments -/
theorem outs_rep {s : S} {σ : L2.St} : ∀ {ds : List D} {vs : List V} {i : Nat} {Fs Ft : Ct}, vs.length = ds.length → RepS K H O (s.drop i) (σ.drop i) Fs → RepT K H O (frzT ds vs) Ft →
    (∀ j d v, ds[j]? = some d → vs[j]? = some v → frz d = false → σ[i + j]? = some (some v) ∧ ∃ d', s[i + j]? = some (some d')) →
    ∃ G, RepS K H O (outs s i ds) (vs.map some) G ∧ (∀ a, G a ≤ Fs a) ∧ ∀ o ∈ outs s i ds, o ≠ none
  | [], vs, i, Fs, Ft, hl, _, _, _ => by
    have : vs = [] := List.eq_nil_of_length_eq_zero hl
    subst this
    exact ⟨z0, fun _ => rfl, fun _ => Nat.zero_le _, fun o h => by cases h⟩
  | d :: ds, [], i, Fs, Ft, hl, _, _, _ => by cases hl
  | d :: ds, v :: vs, i, Fs, Ft, hl, hs, ht, hr => by
    have hl' : vs.length = ds.length := by simpa using hl
    have hr' : ∀ j e u, ds[j]? = some e → vs[j]? = some u → frz e = false → σ[i + 1 + j]? = some (some u) ∧ ∃ d', s[i + 1 + j]? = some (some d') := fun j e u h1 h2 hz => by
      have := hr (j + 1) e u (by simpa using h1) (by simpa using h2) hz
      rw [show i + (j + 1) = i + 1 + j by omega] at this
      exact this
    rw [outs_cons, List.map_cons]
    -- the slot itself
    have dr : ∃ G2, RepS K H O (s.drop (i + 1)) (σ.drop (i + 1)) G2 ∧ (∀ a, G2 a ≤ Fs a) ∧ ∀ d', s[i]? = some (some d') → σ[i]? = some (some v) → ∃ G1, Rep K H O d' v G1 ∧ ∀ a, Fs a = G1 a + G2 a := by
      by_cases hi : i < s.length
      · have hlen : i < σ.length := by
          have := hs.len
          rw [List.length_drop, List.length_drop] at this
          omega
        rw [List.drop_eq_getElem_cons hi, List.drop_eq_getElem_cons hlen] at hs
        cases e : s[i] with
        | none =>
          rw [e] at hs
          unfold RepS at hs
          exact ⟨Fs, hs, fun _ => Nat.le_refl _, fun d' h => by rw [List.getElem?_eq_getElem hi, e] at h; cases h⟩
        | some x =>
          cases e2 : σ[i] with
          | none => rw [e, e2] at hs; unfold RepS at hs; exact hs.elim
          | some u =>
            rw [e, e2] at hs
            obtain ⟨G1, G2, h1, h2, z⟩ := hs
            refine ⟨G2, h2, fun a => by rw [z a]; omega, fun d' h1' h2' => ?_⟩
            rw [List.getElem?_eq_getElem hi, e] at h1'
            rw [List.getElem?_eq_getElem hlen, e2] at h2'
            cases h1'
            cases h2'
            exact ⟨G1, h1, z⟩
      · have e1 : s.drop i = [] := List.drop_eq_nil_of_le (by omega)
        have hσ : σ.drop i = [] := by
          have := hs.len
          rw [e1] at this
          exact List.eq_nil_of_length_eq_zero this.symm
        have hσ2 : σ.drop (i + 1) = [] := List.drop_eq_nil_of_le (by have := List.drop_eq_nil_iff.mp hσ; omega)
        rw [e1, hσ] at hs
        refine ⟨Fs, by rw [List.drop_eq_nil_of_le (by omega), hσ2]; exact hs, fun _ => Nat.le_refl _, fun d' h => by rw [List.getElem?_eq_none (by omega)] at h; cases h⟩
    obtain ⟨G2, g2, l2, own⟩ := dr
    unfold Tw.frzT at ht
    by_cases hz : frz d = true
    · rw [if_pos hz] at ht ⊢
      obtain ⟨G3, G4, t1, t2, _⟩ := ht
      obtain ⟨G, q1, q2, q3⟩ := outs_rep hl' g2 t2 hr'
      refine ⟨G, ⟨G3, G, t1, q1, fun a => ?_⟩, fun a => Nat.le_trans (q2 a) (l2 a), fun o ho => ?_⟩
      · have := Rep.frz0 _ _ _ t1 hz a
        omega
      · rcases List.mem_cons.mp ho with rfl | ho
        · exact fun h => by cases h
        · exact q3 o ho
    · rw [if_neg hz] at ht ⊢
      obtain ⟨G, q1, q2, q3⟩ := outs_rep hl' g2 ht hr'
      obtain ⟨r1, d', r2⟩ := hr 0 d v rfl rfl (by simpa using hz)
      obtain ⟨G1, o1, o2⟩ := own d' r2 r1
      have e : (s[i]?).join = some d' := by rw [show s[i]? = some (some d') from r2]; rfl
      rw [e]
      refine ⟨fun a => G1 a + G a, ⟨G1, G, o1, q1, fun _ => rfl⟩, fun a => ?_, fun o ho => ?_⟩
      · have := q2 a
        rw [o2 a]; dsimp only; omega
      · rcases List.mem_cons.mp ho with rfl | ho
        · exact fun h => by cases h
        · exact q3 o ho
end
/-- the frame's entry -/
def entryW (H : Hp) (F : Ct) (B : Addr → Prop) (ds : List D) (vs : List V) : Wd := ⟨H, F, refsV 0 ds vs, B⟩
section
variable {K : PySem.W.Frag} {H : Hp} {ds : List D} {vs : List V} {F : Ct} {B : Addr → Prop}
theorem CallIn.good (c : CallIn K H ds vs F B) (N : List Str) : Good K (entryW H F B ds vs) H (ds.map some ++ List.replicate (N.length - vs.length) none) (start N vs) (frzT ds vs) F := by
  have hl := c.rep.length
  refine ⟨⟨F, z0, c.rep.slots _, c.rep.frzT, fun a => by show F a = F a + 0; omega⟩, c.one, fun a h => .inl h, fun a o h _ => h, c.bw, fun p hp => ?_⟩
  obtain ⟨a1, d, a2⟩ := refsV_get hp
  rw [Nat.sub_zero] at a1 a2
  have h1 : p.1 < vs.length := (List.getElem?_eq_some_iff.mp a1).1
  have h2 : p.1 < ds.length := by omega
  refine ⟨?_, d, ?_⟩
  · unfold L2.start
    rw [List.getElem?_append_left (by rw [List.length_map]; exact h1), List.getElem?_map, a1]; rfl
  · rw [List.getElem?_append_left (by rw [List.length_map]; exact h2), List.getElem?_map, a2]; rfl
theorem Good.out {H' : Hp} {σD : S} {σV : L2.St} {d : D} {v : V} {F' : Ct} (c : CallIn K H ds vs F B) (g : Good K (entryW H F B ds vs) H' σD σV ((d, v) :: frzT ds vs) F') : ∃ F2, CallOut K H F B d v (outs σD 0 ds) vs H' F2 := by
  obtain ⟨Fs, Ft, r1, r2, z⟩ := g.rep
  obtain ⟨G1, G2, h1, h2, z2⟩ := r2
  obtain ⟨G, q1, q2, q3⟩ := outs_rep (i := 0) c.rep.length (by rw [List.drop_zero, List.drop_zero]; exact r1) h2 (fun j e u e1 e2 hz => by
    obtain ⟨b1, b2⟩ := g.rf _ (refsV_mem (i := 0) e1 e2 hz)
    exact ⟨b1, b2⟩)
  have l : ∀ a, (fun a => G1 a + G a) a ≤ F' a := fun a => by have := q2 a; dsimp only; rw [z a, z2 a]; omega
  have t := own_sub (H := H') (W := entryW H F B ds vs) l
  exact ⟨fun a => G1 a + G a, ⟨G1, G, Rep.tr t _ _ _ h1 (fun _ _ _ h => h), RepS.tr t q1 (fun _ _ _ h => h), fun _ => rfl⟩, fun a => Nat.le_trans (l a) (g.one a), fun a h => g.new a (Nat.le_trans h (l a)), fun a o e n => g.old a o e n, q3⟩
end
/-- the fuel that the finding of the meaning is given -/
def fuel : Nat := 40
theorem runF_ok {e : Str → List D → R D} {f : Fn} {ds : List D} {d : D} {fin : S} (h : runF e f ds = .ok d fin) : ds.length = f.ps ∧ ∃ fl s, f.body ⟨e, lentA 0 ds⟩ (ds.map some ++ List.replicate (f.ns - f.ps) none) = .ok fl s ∧ fin = outs s 0 ds ∧ ((fl = .nx ∧ d = .non) ∨ fl = .rt d) := by
  unfold runF at h
  split at h
  · rename_i hl
    refine ⟨hl, ?_⟩
    split at h
    · rename_i s e1
      cases h
      exact ⟨_, s, e1, rfl, .inl ⟨rfl, rfl⟩⟩
    · rename_i d' s e1
      cases h
      exact ⟨_, s, e1, rfl, .inr rfl⟩
    · cases h
    · cases h
  · cases h
theorem def_ok {P : Program} {w : World} {K : PySem.W.Frag} {mg : Str → Option Value} {base : Heap} {k : Nat} {cl : Str → List D → R D} {g : List (Str × Gv)} {name qual : Str} {params : Arguments} {body : List Stmt} {scope : Scope} {N ps : List Str} {f : Addr} {fd : FuncData} {cs : List (Sm Fl)}
    (F : FunD K name qual params body scope [] [] f fd) (S : FnScope N ps scope) {fzn : List Str} (hm : mapS (stC (comp fuel) ⟨N, scope.names, g⟩ fzn fuel) body = some cs)
    (hg : ∀ x v, g.lookup x = some v → ∀ X : Cx, X.prog = P → X.w = w → X.K = K → X.mg = mg → X.base = base → GvOk X k cl x v) : FnOk P w K mg base CX0 (k + 1) f fd ps (spR K ps.length (runF cl ⟨ps.length, N.length, blk cs⟩)) := by
  refine F.ok S (fun vs H Q E h => ?_) (fun cdv A outer s H vs Q E hr h => ?_)
  · obtain ⟨ds, F0, B, d, fin, ci, hl, _⟩ := h
    rw [ci.rep.length, hl]
  · obtain ⟨ds, F0, B, d, fin, ci, hl, er, kk⟩ := h
    obtain ⟨_, fl, s', e1, rfl, hfl⟩ := runF_ok er
    have cx : CxIs ⟨N, scope.names, g⟩ k cl (cxOf CX0 P w K mg base N qual scope f cdv A outer s H E).nox := {
      N := rfl
      nd := S.nd
      kind := S.kind
      names := fun x => .inl rfl
      fnl := fun x _ => .inl rfl
      calm := rfl
      room := hr
      glob := fun x v h => hg x v h _ rfl rfl rfl rfl rfl }
    have rf : Rfs (entryW H F0 B ds vs) ⟨cl, lentA 0 ds⟩ := ⟨fun p hp => refsV_lent hp⟩
    have hb : PSs (cxOf CX0 P w K mg base N qual scope f cdv A outer s H E).nox body (tS K (entryW H F0 B ds vs) ⟨cl, lentA 0 ds⟩ (blk cs)) := mapS_ok (fun st c hs => stC_ok (comp_ok fuel) PassesOwn.never cx rf hs) hm
    refine ⟨_, hb.nox, ?_⟩
    have hlv : vs.length = ps.length := by rw [ci.rep.length, hl]
    have e1 : blk cs ⟨cl, lentA 0 ds⟩ (ds.map some ++ List.replicate (N.length - vs.length) none) = .ok fl s' := by rw [hlv]; exact e1
    refine ⟨_, frzT ds vs, F0, ci.good N, fl, s', e1, ?_⟩
    rcases hfl with ⟨rfl, rfl⟩ | rfl
    · exact fun σV' H' F' g' => let ⟨F2, co⟩ := Good.out ci (g'.scal (d := .non) (v := .non) ⟨rfl, fun _ => rfl⟩); kk .non H' F2 co
    · exact fun v σV' H' F' g' => let ⟨F2, co⟩ := Good.out ci g'; kk v H' F2 co
end Tw

set_option Elab.async false
set_option linter.all false
set_option maxRecDepth 100000
/-! Tw.EvY: all the defs, the law. -/
namespace Tw
open PySem PySem.Spec PyProof.Rows L2

/-! ### what a call binds -/
/-- parameters by their names alone -/
def plainArgs (a : Arguments) : Bool := match a with
  | ⟨[], _, none, [], [], none, []⟩ => true
  | _ => false
theorem lookup_zip_some {x : Str} : ∀ {ps : List Str} {us : List Value}, us.length = ps.length → x ∈ ps → ∃ v, (ps.zip us).lookup x = some v
  | [], _, _, h => by cases h
  | p :: ps, [], hl, _ => by cases hl
  | p :: ps, u :: us, hl, h => by
    rw [List.zip_cons_cons, List.lookup_cons]
    cases e : x == p with
    | true => exact ⟨u, rfl⟩
    | false =>
      rcases List.mem_cons.mp h with rfl | h
      · simp at e
      · exact lookup_zip_some (by simpa using hl) h
theorem filterMap_zip : ∀ {ps : List Str} {us : List Value} {l : List (Str × Value)}, us.length = ps.length → ps.Nodup → (∀ x ∈ ps, l.lookup x = (ps.zip us).lookup x) → ps.filterMap (fun n => (l.lookup n).map (n, ·)) = ps.zip us
  | [], _, _, _, _, _ => rfl
  | p :: ps, [], _, hl, _, _ => by cases hl
  | p :: ps, u :: us, l, hl, nd, h => by
    have h0 : l.lookup p = some u := by rw [h p List.mem_cons_self, List.zip_cons_cons, List.lookup_cons, beq_self_eq_true]
    rw [List.filterMap_cons, h0, List.zip_cons_cons]
    show (p, u) :: _ = _
    rw [filterMap_zip (us := us) (by simpa using hl) (List.nodup_cons.mp nd).2 fun x hx => ?_]
    rw [h x (List.mem_cons_of_mem _ hx), List.zip_cons_cons, List.lookup_cons]
    have : (x == p) = false := by
      cases e : x == p with
      | false => rfl
      | true => rw [eq_of_beq e] at hx; exact absurd hx (List.nodup_cons.mp nd).1
    rw [this]
theorem bind_plain {x qual : Str} {params : Arguments} {body : List Stmt} {scope : Scope} {ps : List Str} (h : plainArgs params = true) (hp : params.args.map (·.arg) = ps) (nd : ps.Nodup) (kV doc pm : Value) (an : Option Addr) (cdv ct : Value) (us : List Value) (hl : us.length = ps.length) :
    bindArgs (PySem.W.fnOf x qual params body scope .none kV doc pm an cdv ct) ⟨us, []⟩ = pure (ps.zip us) := by
  unfold plainArgs at h
  split at h
  · rename_i as
    have hp : as.map (·.arg) = ps := hp
    have hf : (List.filter (fun n => (List.lookup n (ps.zip us)).isNone) ps) = [] := by
      rw [List.filter_eq_nil_iff]
      intro a ha
      obtain ⟨v, e⟩ := lookup_zip_some hl ha
      rw [e]
      simp
    have hfm := filterMap_zip (l := ps.zip us) hl nd fun _ _ => rfl
    unfold bindArgs PySem.W.fnOf
    have hs : seqItems? Value.none = pure none := rfl
    simp [hp, hs, hl, hf, hfm]
  · cases h

/-! ### all the defs -/
structure Df where
  name : Str
  params : Arguments
  ps : List Str
  N : List Str
  scope : Scope
  body : List Stmt
  F : Fn
/-- the fuel that the finding of the meaning is given -/
def Df.fits (d : Df) (g : List (Str × Gv)) : Prop := ∃ fzn cs, mapS (stC (comp fuel) ⟨d.N, d.scope.names, g⟩ fzn fuel) d.body = some cs ∧ d.F = ⟨d.ps.length, d.N.length, blk cs⟩
structure DfOk (d : Df) (g : List (Str × Gv)) : Prop where
  fits : d.fits g
  plain : plainArgs d.params = true
  pn : d.params.args.map (·.arg) = d.ps
  sc : FnScope d.N d.ps d.scope
/-- the module's names -/
def gOf (tab : List Df) (cs : List (Str × Gv)) : List (Str × Gv) := (tab.map fun d => (d.name, Gv.fn d.ps.length)) ++ cs
def phi : List Df → Str → Option Fn
  | [], _ => none
  | d :: ds, x => if (d.name == x) = true then some d.F else phi ds x
theorem phi_mem : ∀ {tab : List Df} {d : Df}, (tab.map (·.name)).Nodup → d ∈ tab → phi tab d.name = some d.F
  | [], _, _, h => by cases h
  | e :: ds, d, nd, h => by
    unfold phi
    rcases List.mem_cons.mp h with rfl | h
    · rw [if_pos (beq_self_eq_true _)]
    · rw [List.map_cons] at nd
      have nd := List.nodup_cons.mp nd
      have : ¬ (e.name == d.name) = true := fun q => nd.1 (by rw [eq_of_beq q]; exact List.mem_map_of_mem h)
      rw [if_neg this]
      exact phi_mem nd.2 h
/-- what the head tells of a name that is no def -/
def CstOk (mg : Str → Option Value) (x : Str) : Gv → Prop
  | .fn _ => False
  | .int i => ∃ t, mg x = some (.int i t)
  | .str z => ∃ t, mg x = some (.str z t)
  | .free => mg x = none
section
variable {P : Program} {w : World} {K : PySem.W.Frag} {mg : Str → Option Value} {base : Heap} {tab : List Df} {cs : List (Str × Gv)}
theorem all_ok (nd : (tab.map (·.name)).Nodup) (hd : ∀ d ∈ tab, DfOk d (gOf tab cs)) (hf : ∀ d ∈ tab, ∃ f fd, FunD K d.name d.name d.params d.body d.scope [] [] f fd ∧ mg d.name = some (.ref f)) (hc : ∀ p ∈ cs, CstOk mg p.1 p.2) :
    ∀ k : Nat, ∀ d ∈ tab, ∃ f fd, mg d.name = some (.ref f) ∧ PySem.W.keepIn K (.ref f) = true ∧ Binds K fd d.ps [] ∧ FunD K d.name d.name d.params d.body d.scope [] [] f fd ∧ FnOk P w K mg base CX0 k f fd d.ps (spR K d.ps.length (run (phi tab) k d.name)) := by
  intro k
  induction k with
  | zero =>
    intro d hd'
    obtain ⟨f, fd, F, hm⟩ := hf d hd'
    have o := hd d hd'
    have pn : d.ps.Nodup := by rw [← o.sc.pre]; exact o.sc.nd.sublist (List.take_sublist _ _)
    refine ⟨f, fd, hm, F.kp, F.bindsN fun kV doc pm an cdv ct us hl => bind_plain o.plain o.pn pn kV doc pm an cdv ct us hl, F, ⟨fun vs H Q E h => ?_, fun A outer s H args us vs Q E hr he hb hv h => ?_⟩⟩
    · obtain ⟨ds, F0, B, e, fin, ci, hl, er, _⟩ := h
      cases er
    · obtain ⟨ds, F0, B, e, fin, ci, hl, er, _⟩ := h
      cases er
  | succ k ih =>
    intro d hd'
    obtain ⟨f, fd, hm, kp, bi, F, _⟩ := ih d hd'
    have o := hd d hd'
    obtain ⟨fzn, ss, e1, e2⟩ := o.fits
    have hr : run (phi tab) (k + 1) d.name = runF (run (phi tab) k) d.F := by
      funext ds
      show (match phi tab d.name with
        | some F => runF (run (phi tab) k) F ds
        | none => .bad) = _
      rw [phi_mem nd hd']
    refine ⟨f, fd, hm, kp, bi, F, ?_⟩
    rw [hr, e2]
    refine def_ok F o.sc e1 fun x v h X hP hw hK hmg hb => ?_
    subst hP hw hK hmg hb
    have h := PySem.mem_of_lookup h
    rcases List.mem_append.mp h with h | h
    · obtain ⟨d2, h1, h2⟩ := List.mem_map.mp h
      cases h2
      obtain ⟨f2, fd2, a1, a2, a3, _, a4⟩ := ih d2 h1
      exact ⟨f2, fd2, d2.ps, a4, a1, a2, a3⟩
    · have := hc _ h
      cases v <;> first | exact this | exact this.elim
end
/-- the script as a value -/
theorem scr_in {K : PySem.W.Frag} {H : Hp} {a : Addr} {ns : List Int} (ho : Only H) (hs : SqL K H a (ns.map V.int)) : CallIn K H [.scr ns] [.ref a] z0 (fun _ => False) := by
  refine ⟨⟨.ref a, [], z0, z0, rfl, ⟨a, rfl, ?_, fun _ => rfl⟩, ⟨rfl, fun _ => rfl⟩, fun _ => rfl⟩, fun _ => Nat.zero_le _, fun _ h => h.elim⟩
  rcases hs with hs | hs
  · rcases hs with hs | hs
    · rcases ho a with q | ⟨o, xs, q⟩
      · rw [q] at hs; cases hs
      · rw [q] at hs; cases hs
    · exact .inl hs
  · exact .inr hs
/-- the law's promise -/
def spLaw (K : PySem.W.Frag) (n : Nat) : Sp := fun vs H Q _ => ∃ (a : Addr) (ns : List Int), vs = [.ref a] ∧ ns.length ≤ n ∧ Only H ∧ SqL K H a (ns.map V.int) ∧ ∀ H', Q (.bl true) H'
theorem law_ok {P : Program} {w : World} {K : PySem.W.Frag} {mg : Str → Option Value} {base : Heap} {k n : Nat} {f : Addr} {fd : FuncData} {ps : List Str} {r : List D → R D} (F : FnOk P w K mg base CX0 k f fd ps (spR K 1 r))
    (h : ∀ ns : List Int, ns.length ≤ n → ∃ fin, r [.scr ns] = .ok (.bl true) fin) : FnOk P w K mg base CX0 k f fd ps (spLaw K n) := F.imp fun vs H Q E q => by
  obtain ⟨a, ns, rfl, hl, ho, hs, kk⟩ := q
  obtain ⟨fin, e⟩ := h ns hl
  refine ⟨[.scr ns], z0, fun _ => False, .bl true, fin, scr_in ho hs, rfl, e, fun v H' F' co => ?_⟩
  obtain ⟨G1, G2, c1, _, _⟩ := co.rep
  rw [show v = .bl true from c1.1]
  exact kk H'
end Tw

set_option Elab.async false
set_option linter.all false
set_option maxRecDepth 100000
/-! Tw.EvZ: the evaluator's steps, for simp. -/
namespace Tw
section
variable {α β : Type} {m : Sm α} {f : α → Sm β} {e : Env} {s : S} {a : α}
/-- holds what stands beside it: simp leaves that alone -/
inductive Tok {γ : Type} (x : γ) : Type where
  | mk
def R.bind {α β : Type} (r : R α) (f : α → S → R β) (t : Tok f := .mk) : R β := match r with
  | .ok a s' => f a s'
  | .exc x s' => .exc x s'
  | .bad => .bad
@[simp] theorem R.bind_ok {f : α → S → R β} {t : Tok f} : R.bind (.ok a s) f t = f a s := (rfl)
@[simp] theorem R.bind_exc {f : α → S → R β} {t : Tok f} {x : D} : R.bind (.exc x s) f t = .exc x s := (rfl)
@[simp] theorem R.bind_bad {f : α → S → R β} {t : Tok f} : R.bind .bad f t = .bad := (rfl)
theorem bind_ext {r : R α} {f g : α → S → R β} (h : ∀ x s, f x s = g x s) : R.bind r f = R.bind r g := by
  have e : f = g := funext fun x => funext fun s => h x s
  rw [e]
/-- a choice, the test first -/
def ifB {γ : Type} (b : Bool) (x y : γ) (t : Tok (x, y) := .mk) : γ := if b = true then x else y
@[simp] theorem ifB_true {γ : Type} {x y : γ} {t : Tok (x, y)} : ifB true x y t = x := (rfl)
@[simp] theorem ifB_false {γ : Type} {x y : γ} {t : Tok (x, y)} : ifB false x y t = y := (rfl)
/-- an option's value -/
def opt {γ δ : Type} (o : Option γ) (f : γ → δ) (z : δ) (t : Tok f := .mk) : δ := match o with
  | some a => f a
  | none => z
@[simp] theorem opt_some {γ δ : Type} {a : γ} {f : γ → δ} {z : δ} {t : Tok f} : opt (some a) f z t = f a := (rfl)
@[simp] theorem opt_none {γ δ : Type} {f : γ → δ} {z : δ} {t : Tok f} : opt none f z t = z := (rfl)
@[simp] theorem ret_ap : ret a e s = .ok a s := (rfl)
@[simp] theorem bad_ap : (bad : Sm α) e s = .bad := (rfl)
@[simp] theorem bnd_ap : bnd m f e s = R.bind (m e s) fun a s' => f a e s' := (rfl)
@[simp] theorem grd_ap {b : Bool} : grd b m e s = ifB b (m e s) .bad := (rfl)
@[simp] theorem lift_ap {o : Option α} : lift o e s = opt o (fun x => .ok x s) .bad := by cases o <;> rfl
theorem bnd_lift {o : Option α} : bnd (lift o) f e s = opt o (fun x => f x e s) .bad := by cases o <;> rfl
@[simp] theorem iteS_ap {c : Sm Bool} {a b : Sm α} : iteS c a b e s = R.bind (c e s) fun x s' => ifB x (a e s') (b e s') := by
  unfold iteS
  rw [bnd_ap]
  refine bind_ext fun x s' => ?_
  cases x <;> rfl
/-- a slot's value -/
def slotD (o : Option (Option D)) (f : D → R α) (t : Tok f := .mk) : R α := match o with
  | some (some d) => f d
  | _ => .bad
@[simp] theorem slotD_some {d : D} {f : D → R α} {t : Tok f} : slotD (some (some d)) f t = f d := (rfl)
@[simp] theorem vP_ap {i : Nat} : vP i e s = slotD s[i]? fun d => .ok d s := (rfl)
@[simp] theorem vE_ap {i : Nat} : vE i e s = slotD s[i]? fun d => ifB (frz d) (.ok d s) (.ok (fz d) (s.set i (some (fz d)))) := (rfl)
@[simp] theorem vR_ap {i : Nat} : vR i e s = slotD s[i]? fun d => ifB (frz d) (.ok d s) (ifB (e.refs.contains i) (.ok (fz d) (s.set i (some (fz d)))) (.ok d (s.set i none))) := (rfl)
@[simp] theorem setv_ap {i : Nat} {d : D} : setv i d e s = ifB (e.refs.contains i) .bad (.ok () (s.set i (some d))) := (rfl)
@[simp] theorem bin_ap {op g} {a b : Sm D} : bin op g a b e s = R.bind (a e s) fun x s' => R.bind (b e s') fun y s'' => ifB (g || frz x) (opt (binOp op x y) (fun z => .ok z s'') .bad) .bad := (rfl)
@[simp] theorem binV_ap {op i} {b : Sm D} : binV op i b e s = R.bind (vP i e s) fun _ s' => R.bind (b e s') fun y s'' => R.bind (vP i e s'') fun x s3 => opt (binOp op x y) (fun z => .ok z s3) .bad := (rfl)
@[simp] theorem binH_ap {op} {a b : Sm D} : binH op a b e s = R.bind (a e s) fun x s' => R.bind (b e s') fun y s'' => opt (binOp op x y) (fun z => .ok z s'') .bad := (rfl)
@[simp] theorem cmp_ap {op g} {a b : Sm D} : cmp op g a b e s = R.bind (a e s) fun x s' => R.bind (b e s') fun y s'' => ifB (g || frz x) (opt (cmpOp op x y) (fun z => .ok z s'') .bad) .bad := (rfl)
@[simp] theorem cmpV_ap {op i} {b : Sm D} : cmpV op i b e s = R.bind (vP i e s) fun _ s' => R.bind (b e s') fun y s'' => R.bind (vP i e s'') fun x s3 => opt (cmpOp op x y) (fun z => .ok z s3) .bad := (rfl)
@[simp] theorem cmpH_ap {op} {a b : Sm D} : cmpH op a b e s = R.bind (a e s) fun x s' => R.bind (b e s') fun y s'' => opt (cmpOp op x y) (fun z => .ok z s'') .bad := (rfl)
@[simp] theorem chn_ap {o1 o2 g} {a b c : Sm D} : chn o1 o2 g a b c e s = R.bind (a e s) fun x s' => R.bind (b e s') fun y s'' => ifB (g || frz x) (opt (cmpOp o1 x y) (fun k => ifB k (R.bind (c e s'') fun z s3 => ifB (frz y) (opt (cmpOp o2 y z) (fun w => .ok w s3) .bad) .bad) (.ok false s'')) .bad) .bad := bind_ext (fun x s1 => bind_ext (fun y s2 => congrArg (fun z => ifB (g || frz x) z R.bad) (bnd_lift.trans (congrArg (fun h => opt (cmpOp o1 x y) h R.bad) (funext fun k => by cases k <;> rfl)))))
@[simp] theorem isN_ap {a : Sm D} : isN a e s = R.bind (a e s) fun x s' => .ok (isNonD x) s' := (rfl)
@[simp] theorem isB_ap {c} {a : Sm D} : isB c a e s = R.bind (a e s) fun x s' => .ok (isBlD c x) s' := (rfl)
@[simp] theorem notB_ap {a : Sm Bool} : notB a e s = R.bind (a e s) fun b s' => .ok (!b) s' := (rfl)
@[simp] theorem andB_ap {a b : Sm Bool} : andB a b e s = R.bind (a e s) fun x s' => ifB x (b e s') (.ok false s') := by
  show R.bind _ _ = _
  refine bind_ext fun x s' => ?_
  cases x <;> rfl
@[simp] theorem orB_ap {a b : Sm Bool} : orB a b e s = R.bind (a e s) fun x s' => ifB x (.ok true s') (b e s') := by
  show R.bind _ _ = _
  refine bind_ext fun x s' => ?_
  cases x <;> rfl
@[simp] theorem blE_ap {a : Sm Bool} : blE a e s = R.bind (a e s) fun b s' => .ok (.bl b) s' := (rfl)
@[simp] theorem truB_ap {a : Sm D} : truB a e s = R.bind (a e s) fun x s' => opt (truD x) (fun b => .ok b s') .bad := (rfl)
def asBl (x : D) (f : Bool → R α) (t : Tok f := .mk) : R α := match x with
  | .bl b => f b
  | _ => .bad
@[simp] theorem asBl_bl {b : Bool} {f : Bool → R α} {t : Tok f} : asBl (.bl b) f t = f b := (rfl)
@[simp] theorem andE_ap {a b : Sm D} : andE a b e s = R.bind (a e s) fun x s' => asBl x fun k => ifB k (b e s') (.ok (.bl false) s') := by
  show R.bind _ _ = _
  refine bind_ext fun x s' => ?_
  cases x with
  | bl k => cases k <;> rfl
  | _ => rfl
@[simp] theorem orE_ap {a b : Sm D} : orE a b e s = R.bind (a e s) fun x s' => asBl x fun k => ifB k (.ok (.bl true) s') (b e s') := by
  show R.bind _ _ = _
  refine bind_ext fun x s' => ?_
  cases x with
  | bl k => cases k <;> rfl
  | _ => rfl
def asInt (x : D) (f : Int → R α) (t : Tok f := .mk) : R α := match x with
  | .int i => f i
  | _ => .bad
@[simp] theorem asInt_int {i : Int} {f : Int → R α} {t : Tok f} : asInt (.int i) f t = f i := (rfl)
@[simp] theorem negI_ap {a : Sm D} : negI a e s = R.bind (a e s) fun x s' => asInt x fun i => .ok (.int (-i)) s' := by
  show R.bind _ _ = _
  refine bind_ext fun x s' => ?_
  cases x <;> rfl
@[simp] theorem asI_ap {a : Sm D} : asI a e s = R.bind (a e s) fun x s' => asInt x fun i => .ok i s' := by
  show R.bind _ _ = _
  refine bind_ext fun x s' => ?_
  cases x <;> rfl
@[simp] theorem idx_ap {g} {a b : Sm D} : idx g a b e s = R.bind (a e s) fun x s' => R.bind (b e s') fun y s'' => ifB (g || frz x) (opt (itemD x y) (fun d => ifB (frz d) (.ok d s'') .bad) .bad) .bad := bind_ext (fun x s1 => bind_ext (fun y s2 => congrArg (fun z => ifB (g || frz x) z R.bad) bnd_lift))
@[simp] theorem idxP_ap {g} {a b : Sm D} : idxP g a b e s = R.bind (a e s) fun x s' => R.bind (b e s') fun y s'' => ifB (g || frz x) (opt (itemD x y) (fun d => .ok d s'') .bad) .bad := (rfl)
@[simp] theorem idxV_ap {i} {b : Sm D} : idxV i b e s = R.bind (vP i e s) fun _ s' => R.bind (b e s') fun y s'' => R.bind (vP i e s'') fun x s3 => opt (itemD x y) (fun d => ifB (frz d) (.ok d s3) .bad) .bad := bind_ext (fun x s1 => bind_ext (fun y s2 => bind_ext (fun z s3 => bnd_lift)))
@[simp] theorem idxH_ap {a b : Sm D} : idxH a b e s = R.bind (a e s) fun x s' => R.bind (b e s') fun y s'' => opt (itemD x y) (fun d => ifB (frz d) (.ok d s'') .bad) .bad := bind_ext (fun x s1 => bind_ext (fun y s2 => bnd_lift))
@[simp] theorem optI_none : optI none e s = .ok none s := (rfl)
@[simp] theorem optI_some {a : Sm D} : optI (some a) e s = R.bind (a e s) fun x s' => asInt x fun i => .ok (some i) s' := by
  show R.bind (asI a e s) _ = _
  rw [asI_ap]
  cases a e s with
  | ok x s' => cases x <;> rfl
  | exc x s' => rfl
  | bad => rfl
@[simp] theorem slc_ap {g} {a : Sm D} {lo hi : Option (Sm D)} : slc g a lo hi e s = R.bind (a e s) fun x s1 => R.bind (optI lo e s1) fun l s2 => R.bind (optI hi e s2) fun h s3 => ifB (g || frz x) (opt (sliceD x l h) (fun d => .ok d s3) .bad) .bad := (rfl)
@[simp] theorem rev_ap {a : Sm D} : rev a e s = R.bind (a e s) fun x s' => opt (revD x) (fun d => .ok d s') .bad := (rfl)
@[simp] theorem sq_nil : sq [] e s = .ok [] s := (rfl)
@[simp] theorem sq_cons {c : Sm D} {cs : List (Sm D)} : sq (c :: cs) e s = R.bind (c e s) fun x s' => R.bind (sq cs e s') fun xs s'' => .ok (x :: xs) s'' := (rfl)
@[simp] theorem tupE_ap {cs : List (Sm D)} : tupE cs e s = R.bind (sq cs e s) fun xs s' => ifB (frzL xs) (.ok (.tup xs) s') (.ok (.tup (fzL xs)) s') := by
  show R.bind _ _ = _
  refine bind_ext fun x s' => ?_
  cases h : frzL x <;> simp [h]
@[simp] theorem lstE_ap {cs : List (Sm D)} : lstE cs e s = R.bind (sq cs e s) fun xs s' => .ok (.lst true xs) s' := (rfl)
@[simp] theorem blt1_ap {f} {a : Sm D} : blt1 f a e s = R.bind (a e s) fun x s' => opt (bi1 f x) (fun d => .ok d s') .bad := (rfl)
@[simp] theorem blt2_ap {f g} {a b : Sm D} : blt2 f g a b e s = R.bind (a e s) fun x s' => R.bind (b e s') fun y s'' => ifB (g || frz x) (opt (bi2 f x y) (fun d => .ok d s'') .bad) .bad := (rfl)
@[simp] theorem srt_ap {a : Sm D} : srt a e s = R.bind (a e s) fun x s' => opt (sortD x) (fun d => .ok d s') .bad := (rfl)
@[simp] theorem min1_ap {k} {a : Sm D} : min1 k a e s = R.bind (a e s) fun x s' => opt (minD1 k x) (fun d => .ok d s') .bad := (rfl)
@[simp] theorem isi_ap {t} {a : Sm D} : isi t a e s = R.bind (a e s) fun x s' => opt (isiD t x) (fun d => .ok d s') .bad := (rfl)
@[simp] theorem isiD_non {t} : isiD t .non = some (.bl (isTy t .non)) := (rfl)
@[simp] theorem isiD_bl {t b} : isiD t (.bl b) = some (.bl (isTy t (.bl b))) := (rfl)
@[simp] theorem isiD_int {t b} : isiD t (.int b) = some (.bl (isTy t (.int b))) := (rfl)
@[simp] theorem isiD_str {t b} : isiD t (.str b) = some (.bl (isTy t (.str b))) := (rfl)
@[simp] theorem isiD_tup {t b} : isiD t (.tup b) = some (.bl (isTy t (.tup b))) := (rfl)
@[simp] theorem isiD_lst {t o b} : isiD t (.lst o b) = some (.bl (isTy t (.lst o b))) := (rfl)
@[simp] theorem isiD_scr {t b} : isiD t (.scr b) = some (.bl (isTy t (.scr b))) := (rfl)
@[simp] theorem upper_ap {a : Sm D} : upper a e s = R.bind (a e s) fun x s' => opt (upperD x) (fun d => .ok d s') .bad := (rfl)
@[simp] theorem frE_ap {a : Sm D} : frE a e s = R.bind (a e s) fun x s' => .ok (fz x) s' := (rfl)
@[simp] theorem argv_nil : argv [] e s = .ok [] s := (rfl)
@[simp] theorem argv_inl {i} {r : List (Nat ⊕ Sm D)} : argv (.inl i :: r) e s = R.bind (vP i e s) fun _ s' => R.bind (argv r e s') fun xs s'' => .ok (.inl i :: xs) s'' := (rfl)
@[simp] theorem argv_inr {c} {r : List (Nat ⊕ Sm D)} : argv (.inr c :: r) e s = R.bind (c e s) fun x s' => R.bind (argv r e s') fun xs s'' => .ok (.inr x :: xs) s'' := (rfl)
def R.back (r : R D) (f : S → S) : R D := match r with
  | .ok d fin => .ok d (f fin)
  | .exc x fin => .exc x (f fin)
  | .bad => .bad
@[simp] theorem R.back_ok {d : D} {fin : S} {f : S → S} : R.back (.ok d fin) f = .ok d (f fin) := (rfl)
@[simp] theorem R.back_exc {d : D} {fin : S} {f : S → S} : R.back (.exc d fin) f = .exc d (f fin) := (rfl)
@[simp] theorem call_ap {f} {as : List (Nat ⊕ Sm D)} : call f as e s = R.bind (argv as e s) fun xs s' => opt (argd s' xs) (fun ds => ifB (nodupN (lent s' xs)) (R.back (e.call f ds) (back s' xs)) .bad) .bad := by
  show R.bind _ _ = _
  refine bind_ext fun xs s' => ?_
  show (match argd s' xs with
    | none => R.bad
    | some ds => if nodupN (lent s' xs) = true then (match e.call f ds with
      | .ok d fin => .ok d (back s' xs fin)
      | .exc x fin => .exc x (back s' xs fin)
      | .bad => .bad) else .bad) = _
  cases argd s' xs with
  | none => rfl
  | some ds =>
    show _ = ifB _ _ _
    unfold ifB
    congr
    all_goals first | rfl | (cases e.call f ds <;> rfl)

/-- a slot's value, if it is known -/
def slotL {γ : Type} (o : Option (Option D)) (f : D → γ) (z : γ) (t : Tok (f, z) := .mk) : γ := match o with
  | some (some d) => f d
  | _ => z
@[simp] theorem slotL_some {γ : Type} {d : D} {f : D → γ} {z : γ} {t : Tok (f, z)} : slotL (some (some d)) f z t = f d := (rfl)
@[simp] theorem argd_nil' : argd s [] = some [] := (rfl)
@[simp] theorem argd_inl' {i} {r : List (Nat ⊕ D)} : argd s (.inl i :: r) = slotL s[i]? (fun d => (argd s r).map (d :: ·)) none := by
  show (s[i]?).bind _ = _
  cases s[i]? with
  | none => rfl
  | some o => cases o <;> rfl
@[simp] theorem argd_inr' {d} {r : List (Nat ⊕ D)} : argd s (.inr d :: r) = (argd s r).map (d :: ·) := (rfl)
@[simp] theorem lent_nil' : lent s [] = [] := (rfl)
@[simp] theorem lent_inl' {i} {r : List (Nat ⊕ D)} : lent s (.inl i :: r) = slotL s[i]? (fun d => ifB (frz d) (lent s r) (i :: lent s r)) (lent s r) := by
  show (match s[i]? with
    | some (some d) => if frz d = true then lent s r else i :: lent s r
    | _ => lent s r) = _
  cases s[i]? with
  | none => rfl
  | some o => cases o <;> rfl
@[simp] theorem lent_inr' {d} {r : List (Nat ⊕ D)} : lent s (.inr d :: r) = lent s r := (rfl)
@[simp] theorem back_nil' {fin : S} : back s [] fin = s := by unfold back; exact (rfl)
@[simp] theorem back_inl' {i} {r : List (Nat ⊕ D)} {f : Option D} {fs : S} : back s (.inl i :: r) (f :: fs) = slotL s[i]? (fun d => ifB (frz d) (back s r fs) ((back s r fs).set i f)) (back s r fs) := by
  conv => lhs; unfold back
  cases s[i]? with
  | none => rfl
  | some o => cases o <;> rfl
@[simp] theorem back_inr' {d} {r : List (Nat ⊕ D)} {f : Option D} {fs : S} : back s (.inr d :: r) (f :: fs) = back s r fs := by
  conv => lhs; unfold back
@[simp] theorem nodupN_nil : nodupN [] = true := (rfl)
@[simp] theorem nodupN_cons {i : Nat} {r : List Nat} : nodupN (i :: r) = (!r.contains i && nodupN r) := (rfl)
/-! ### statements -/
def nxt (f : Fl) (x y : R Fl) (t : Tok (x, y) := .mk) : R Fl := match f with
  | .nx => x
  | _ => y
@[simp] theorem nxt_nx {x y : R Fl} {t : Tok (x, y)} : nxt .nx x y t = x := (rfl)
@[simp] theorem nxt_bk {x y : R Fl} {t : Tok (x, y)} : nxt .bk x y t = y := (rfl)
@[simp] theorem nxt_ct {x y : R Fl} {t : Tok (x, y)} : nxt .ct x y t = y := (rfl)
@[simp] theorem nxt_rt {x y : R Fl} {d : D} {t : Tok (x, y)} : nxt (.rt d) x y t = y := (rfl)
theorem seqS_eq {a b : Sm Fl} : seqS a b e s = R.bind (a e s) fun f s' => nxt f (b e s') (.ok f s') := by
  show R.bind _ _ = _
  refine congrArg (R.bind (a e s)) (funext fun f => funext fun s' => ?_)
  cases f <;> rfl
@[simp] theorem blk_nil : blk [] e s = .ok .nx s := (rfl)
@[simp] theorem blk_one {c : Sm Fl} : blk [c] e s = c e s := (rfl)
@[simp] theorem blk_cons {c d : Sm Fl} {cs : List (Sm Fl)} : blk (c :: d :: cs) e s = R.bind (c e s) fun f s' => nxt f (blk (d :: cs) e s') (.ok f s') := seqS_eq
@[simp] theorem asg_ap {i : Nat} {a : Sm D} : asg i a e s = R.bind (a e s) fun x s' => R.bind (setv i x e s') fun _ s'' => .ok .nx s'' := (rfl)
@[simp] theorem fzS_ap {i : Nat} {c : Sm Fl} : fzS i c e s = R.bind (c e s) fun f s' => slotD s'[i]? fun d => .ok f (s'.set i (some (fz d))) := by
  show R.bind _ _ = _
  refine congrArg (R.bind (c e s)) (funext fun f => funext fun s' => ?_)
  show bnd (fzAt i) _ e s' = _
  rw [bnd_ap]
  unfold fzAt slotD
  cases s'[i]? with
  | none => rfl
  | some o => cases o <;> rfl
@[simp] theorem asgT_ap {t : Tg} {a : Sm D} : asgT t a e s = R.bind (a e s) fun x s' => ifB (frz x) (R.bind (setT t x e s') fun _ s'' => .ok .nx s'') .bad := (rfl)
@[simp] theorem setT_nm {i : Nat} {d : D} : setT (.nm i) d e s = setv i d e s := by unfold setT; exact (rfl)
@[simp] theorem setT_tp {ts : List Tg} {ds : List D} : setT (.tp ts) (.tup ds) e s = ifB (decide (ds.length = ts.length)) (setTs ts ds e s) .bad := by
  unfold setT
  show (if ds.length = ts.length then setTs ts ds else bad) e s = _
  unfold ifB
  by_cases h : ds.length = ts.length
  · rw [if_pos h, if_pos (decide_eq_true h)]
  · rw [if_neg h, if_neg (by rw [decide_eq_false h]; exact Bool.false_ne_true)]; rfl
@[simp] theorem setTs_nil {ds : List D} : setTs [] ds e s = .ok () s := by unfold setTs; exact (rfl)
@[simp] theorem setTs_cons {t : Tg} {ts : List Tg} {d : D} {ds : List D} : setTs (t :: ts) (d :: ds) e s = R.bind (setT t d e s) fun _ s' => setTs ts ds e s' := by
  conv => lhs; unfold setTs
  rfl
@[simp] theorem aug_ap {op} {i : Nat} {a : Sm D} : aug op i a e s = R.bind (vP i e s) fun x s1 => R.bind (a e s1) fun y s2 => ifB (frz x) (opt (augI op x y) (fun z => R.bind (setv i z e s2) fun _ s3 => .ok .nx s3) .bad) .bad :=
  bind_ext (fun x s1 => bind_ext (fun y s2 => congrArg (fun z => ifB (frz x) z R.bad) bnd_lift))
@[simp] theorem expS_ap {a : Sm D} : expS a e s = R.bind (a e s) fun _ s' => .ok .nx s' := (rfl)
@[simp] theorem rtS_ap {a : Sm D} : rtS a e s = R.bind (a e s) fun x s' => .ok (.rt x) s' := (rfl)
/-- two values -/
def two2 (ds : List D) (f : D → D → R α) (t : Tok f := .mk) : R α := match ds with
  | [d, d'] => f d d'
  | _ => .bad
@[simp] theorem two2_two {d d' : D} {f : D → D → R α} {t : Tok f} : two2 [d, d'] f t = f d d' := (rfl)
@[simp] theorem par2_ap {i j : Nat} {a b : Sm D} : par2 i j a b e s = R.bind (sq [a, b] e s) fun ds s' => two2 ds fun d d' => R.bind (setv i d e s') fun _ s1 => R.bind (setv j d' e s1) fun _ s2 => .ok .nx s2 := by
  show R.bind _ _ = _
  refine congrArg (R.bind (sq [a, b] e s)) (funext fun f => funext fun s' => ?_)
  match f with
  | [] => rfl
  | [_] => rfl
  | [_, _] => rfl
  | _ :: _ :: _ :: _ => rfl
/-! places -/
@[simp] theorem chkP_ap {i : Nat} {qs : List D} : chkP i qs e s = slotD s[i]? fun d => opt (atP d qs) (fun _ => .ok qs s) .bad := by
  unfold chkP slotD
  cases s[i]? with
  | none => rfl
  | some o => cases o with
    | none => rfl
    | some d =>
      show (match atP d qs with
        | some _ => R.ok qs s
        | none => .bad) = opt (atP d qs) _ _
      cases atP d qs <;> rfl
@[simp] theorem pthR_nil' {i : Nat} : pthR i [] e s = chkP i [] e s := (rfl)
@[simp] theorem pthR_cons {i : Nat} {a : Sm D} {r : List (Sm D)} : pthR i (a :: r) e s = R.bind (pthR i r e s) fun qs s1 => R.bind (a e s1) fun q s2 => chkP i (qs ++ [q]) e s2 := (rfl)
def ownL (d : D) (x y : R α) : R α := match d with
  | .lst true _ => x
  | _ => y
@[simp] theorem ownL_lst {xs : List D} {x y : R α} : ownL (.lst true xs) x y = x := (rfl)
@[simp] theorem pthL_ap {i : Nat} {ps : List (Sm D)} : pthL i ps e s = R.bind (pthR i ps e s) fun qs s1 => slotD s1[i]? fun d => opt (atP d qs) (fun x => ownL x (.ok qs s1) .bad) .bad := by
  show R.bind _ _ = _
  refine bind_ext (fun qs s1 => ?_)
  show (match s1[i]? with
    | some (some d) => (match atP d qs with
      | some (.lst true _) => R.ok qs s1
      | _ => .bad)
    | _ => .bad) = _
  unfold slotD
  cases s1[i]? with
  | none => rfl
  | some o => cases o with
    | none => rfl
    | some d =>
      show (match atP d qs with
        | some (.lst true _) => R.ok qs s1
        | _ => .bad) = opt (atP d qs) _ _
      cases atP d qs with
      | none => rfl
      | some x => cases x with
        | lst o xs => cases o <;> rfl
        | _ => rfl
@[simp] theorem updP_ap {i : Nat} {qs : List D} {g : D → Option (D × D)} : updP i qs g e s = slotD s[i]? fun d => opt (atP d qs) (fun x => opt (g x) (fun nr => opt (putP d qs nr.1) (fun d' => .ok nr.2 (s.set i (some d'))) .bad) .bad) .bad := by
  unfold updP slotD
  cases s[i]? with
  | none => rfl
  | some o => cases o with
    | none => rfl
    | some d =>
      show (match (atP d qs).bind g with
        | some (n, r) => (match putP d qs n with
          | some d' => R.ok r (s.set i (some d'))
          | none => .bad)
        | none => .bad) = opt (atP d qs) _ _
      cases atP d qs with
      | none => rfl
      | some x =>
        show (match g x with
          | some (n, r) => (match putP d qs n with
            | some d' => R.ok r (s.set i (some d'))
            | none => .bad)
          | none => .bad) = opt (g x) _ _
        cases g x with
        | none => rfl
        | some nr =>
          show (match putP d qs nr.1 with
            | some d' => R.ok nr.2 (s.set i (some d'))
            | none => .bad) = opt (putP d qs nr.1) _ _
          cases putP d qs nr.1 <;> rfl
@[simp] theorem asgP_ap {i : Nat} {ps : List (Sm D)} {k a : Sm D} : asgP i ps k a e s = R.bind (a e s) fun v s1 => R.bind (pthR i ps e s1) fun qs s2 => R.bind (k e s2) fun j s3 => ifB (frz v) (R.bind (updP i qs (setAt j v) e s3) fun _ s4 => .ok .nx s4) .bad := (rfl)
@[simp] theorem append_ap {i : Nat} {ps : List (Sm D)} {a : Sm D} : append i ps a e s = R.bind (pthL i ps e s) fun qs s1 => R.bind (a e s1) fun v s2 => updP i qs (appD v) e s2 := (rfl)
@[simp] theorem extend_ap {i : Nat} {ps : List (Sm D)} {a : Sm D} : extend i ps a e s = R.bind (pthL i ps e s) fun qs s1 => R.bind (a e s1) fun v s2 => updP i qs (extD v) e s2 := (rfl)
@[simp] theorem pop_ap {i : Nat} {ps : List (Sm D)} : pop i ps e s = R.bind (pthL i ps e s) fun qs s1 => updP i qs popD e s1 := (rfl)
@[simp] theorem atP_nil {d : D} : atP d [] = some d := by unfold atP; exact (rfl)
@[simp] theorem atP_lst {xs : List D} {i : Int} {r : List D} : atP (.lst true xs) (.int i :: r) = (ixOf xs.length i).bind fun j => (xs[j]?).bind fun d => atP d r := by
  conv => lhs; unfold atP
  cases ixOf xs.length i <;> rfl
@[simp] theorem putP_nil {d n : D} : putP d [] n = some n := by unfold putP; exact (rfl)
@[simp] theorem putP_lst {xs : List D} {i : Int} {r : List D} {n : D} : putP (.lst true xs) (.int i :: r) n = (ixOf xs.length i).bind fun j => (xs[j]?).bind fun d => (putP d r n).map fun d' => .lst true (xs.set j d') := by
  conv => lhs; unfold putP
@[simp] theorem setAt_lst {i : Int} {v : D} {xs : List D} : setAt (.int i) v (.lst true xs) = (ixOf xs.length i).map fun j => (.lst true (xs.set j v), .non) := (rfl)
@[simp] theorem appD_lst {v : D} {xs : List D} : appD v (.lst true xs) = ifB (szOk (xs.length + 1)) (some (.lst true (xs ++ [v]), .non)) none := (rfl)
@[simp] theorem extD_lst {o : Bool} {ys xs : List D} : extD (.lst o ys) (.lst true xs) = ifB (szOk (xs.length + ys.length) && frzL ys) (some (.lst true (xs ++ ys), .non)) none := (rfl)
/-! walks -/
@[simp] theorem itV_ap {i : Nat} : itV i e s = R.bind (vP i e s) fun x s' => opt (rows x) (fun xs => .ok (isT x, (xs, if frz x = true then none else some (i, x))) s') .bad := by
  refine congrArg (R.bind (vP i e s)) (funext fun x => funext fun s' => ?_)
  show bnd (lift (rows x)) _ e s' = _
  rw [bnd_lift]; rfl
@[simp] theorem itE_ap {a : Sm D} : itE a e s = R.bind (a e s) fun x s' => opt (rows x) (fun xs => .ok (isT x, (xs, none)) s') .bad := by
  refine congrArg (R.bind (a e s)) (funext fun x => funext fun s' => ?_)
  show bnd (lift (rows x)) _ e s' = _
  rw [bnd_lift]; rfl
@[simp] theorem itS_ap {m : Sm Sc} : itS m e s = R.bind (m e s) fun w s' => .ok w.2 s' := (rfl)
@[simp] theorem itN_ap {m : Sm Sc} : itN m e s = R.bind (m e s) fun w s' => .ok (enumD 0 w.2.1, w.2.2) s' := (rfl)
@[simp] theorem itZ_ap {m n : Sm Sc} : itZ m n e s = R.bind (m e s) fun w s' => R.bind (n e s') fun v s'' => ifB (noW w.2.2 && (noW v.2.2 && w.1 == v.1)) (.ok (zipD w.2.1 v.2.1, none) s'') .bad := (rfl)
@[simp] theorem itNZ_ap {m n : Sm Sc} : itNZ m n e s = R.bind (m e s) fun w s' => R.bind (n e s') fun v s'' => ifB (noW w.2.2 && (noW v.2.2 && (w.1 && v.1))) (.ok (enumD 0 (zipD w.2.1 v.2.1), none) s'') .bad := (rfl)
@[simp] theorem itR1_ap {a : Sm D} : itR1 a e s = R.bind (asI a e s) fun j s' => ifB (rngOk j) (.ok (rng 0 j, none) s') .bad := (rfl)
@[simp] theorem itR2_ap {a b : Sm D} : itR2 a b e s = R.bind (asI a e s) fun i s' => R.bind (asI b e s') fun j s'' => ifB (rngOk i && rngOk j) (.ok (rng i j, none) s'') .bad := (rfl)
@[simp] theorem forS_ap {t : Tg} {m : Sm Wk} {c : Sm Fl} : forS t m c e s = R.bind (m e s) fun w s' => withRef w.2 (forGo t c w.2 w.1) e s' := (rfl)
@[simp] theorem withRef_none {m : Sm α} : withRef none m e s = m e s := (rfl)
@[simp] theorem withRef_some {i : Nat} {d : D} {m : Sm α} : withRef (some (i, d)) m e s = m { e with refs := i :: e.refs } s := (rfl)
@[simp] theorem still_none : still none e s = .ok () s := (rfl)
@[simp] theorem forGo_nil {t : Tg} {c : Sm Fl} {k : Option (Nat × D)} : forGo t c k [] e s = .ok .nx s := (rfl)
/-- how a turn ends -/
def turn (f : Fl) (s : S) (x : R Fl) (t : Tok x := .mk) : R Fl := match f with
  | .nx => x
  | .ct => x
  | .bk => .ok .nx s
  | .rt d => .ok (.rt d) s
@[simp] theorem turn_nx {s : S} {x : R Fl} {t : Tok x} : turn .nx s x t = x := (rfl)
@[simp] theorem turn_ct {s : S} {x : R Fl} {t : Tok x} : turn .ct s x t = x := (rfl)
@[simp] theorem turn_bk {s : S} {x : R Fl} {t : Tok x} : turn .bk s x t = .ok .nx s := (rfl)
@[simp] theorem turn_rt {s : S} {x : R Fl} {d : D} {t : Tok x} : turn (.rt d) s x t = .ok (.rt d) s := (rfl)
theorem forGo_cons {t : Tg} {c : Sm Fl} {k : Option (Nat × D)} {x : D} {xs : List D} : forGo t c k (x :: xs) e s = ifB (frz x) (R.bind (setT t x e s) fun _ s1 => R.bind (c e s1) fun f s2 => turn f s2 (R.bind (still k e s2) fun _ s3 => forGo t c k xs e s3)) .bad := by
  show ifB (frz x) (R.bind (setT t x e s) fun _ s1 => _) .bad = _
  refine congrArg (fun z => ifB (frz x) z R.bad) ?_
  refine bind_ext (fun u s1 => ?_)
  show R.bind (c e s1) _ = _
  refine bind_ext (fun f s2 => ?_)
  cases f <;> rfl
/-! ### defs -/
def R.fin (r : R Fl) (ds : List D) : R D := match r with
  | .ok .nx s => .ok .non (outs s 0 ds)
  | .ok (.rt d) s => .ok d (outs s 0 ds)
  | .exc x s => .exc x (outs s 0 ds)
  | _ => .bad
@[simp] theorem R.fin_nx {s : S} {ds : List D} : R.fin (.ok .nx s) ds = .ok .non (outs s 0 ds) := (rfl)
@[simp] theorem R.fin_rt {d : D} {s : S} {ds : List D} : R.fin (.ok (.rt d) s) ds = .ok d (outs s 0 ds) := (rfl)
theorem runF_eq {e : PySem.Str → List D → R D} {f : Fn} {ds : List D} : runF e f ds = ifB (decide (ds.length = f.ps)) (R.fin (f.body ⟨e, lentA 0 ds⟩ (ds.map some ++ List.replicate (f.ns - f.ps) none)) ds) .bad := by
  unfold runF ifB
  by_cases h : ds.length = f.ps
  · rw [if_pos h, if_pos (decide_eq_true h)]
    unfold R.fin
    cases f.body ⟨e, lentA 0 ds⟩ (ds.map some ++ List.replicate (f.ns - f.ps) none) with
    | ok f s => cases f <;> rfl
    | exc x s => rfl
    | bad => rfl
  · rw [if_neg h, if_neg (by rw [decide_eq_false h]; exact Bool.false_ne_true)]
theorem run_succ {Φ : PySem.Str → Option Fn} {k : Nat} {f : PySem.Str} {F : Fn} {ds : List D} (h : Φ f = some F) : run Φ (k + 1) f ds = ifB (decide (ds.length = F.ps)) (R.fin (F.body ⟨run Φ k, lentA 0 ds⟩ (ds.map some ++ List.replicate (F.ns - F.ps) none)) ds) .bad := by
  rw [← runF_eq]
  show (match Φ f with
    | some F => runF (run Φ k) F ds
    | none => .bad) = _
  rw [h]
end
/-! ### values -/
@[simp] theorem frz_non : frz .non = true := (rfl)
@[simp] theorem frz_bl {b} : frz (.bl b) = true := (rfl)
@[simp] theorem frz_int {i} : frz (.int i) = true := (rfl)
@[simp] theorem frz_str {i} : frz (.str i) = true := (rfl)
@[simp] theorem frz_scr {i} : frz (.scr i) = true := (rfl)
@[simp] theorem frz_tup {xs} : frz (.tup xs) = frzL xs := by unfold frz; exact (rfl)
@[simp] theorem frz_lstT {xs} : frz (.lst true xs) = false := by unfold frz; exact (rfl)
@[simp] theorem frz_lstF {xs} : frz (.lst false xs) = frzL xs := by unfold frz; exact (rfl)
@[simp] theorem frzL_nil : frzL [] = true := (rfl)
@[simp] theorem frzL_cons {d ds} : frzL (d :: ds) = (frz d && frzL ds) := (rfl)
@[simp] theorem fz_non : fz .non = .non := (rfl)
@[simp] theorem fz_bl {b} : fz (.bl b) = .bl b := (rfl)
@[simp] theorem fz_int {i} : fz (.int i) = .int i := (rfl)
@[simp] theorem fz_str {i} : fz (.str i) = .str i := (rfl)
@[simp] theorem fz_scr {i} : fz (.scr i) = .scr i := (rfl)
@[simp] theorem fz_lst {o xs} : fz (.lst o xs) = .lst false (fzL xs) := by unfold fz; exact (rfl)
@[simp] theorem fz_tup {xs} : fz (.tup xs) = .tup (fzL xs) := by unfold fz; exact (rfl)
@[simp] theorem fzL_nil : fzL [] = [] := by unfold fzL; exact (rfl)
@[simp] theorem fzL_cons {d ds} : fzL (d :: ds) = fz d :: fzL ds := by conv => lhs; unfold fzL
@[simp] theorem isNonD_non : isNonD .non = true := (rfl)
@[simp] theorem isNonD_bl {b} : isNonD (.bl b) = false := (rfl)
@[simp] theorem isNonD_int {b} : isNonD (.int b) = false := (rfl)
@[simp] theorem isNonD_str {b} : isNonD (.str b) = false := (rfl)
@[simp] theorem isNonD_tup {b} : isNonD (.tup b) = false := (rfl)
@[simp] theorem isNonD_lst {o b} : isNonD (.lst o b) = false := (rfl)
@[simp] theorem isBlD_bl {c b} : isBlD c (.bl b) = (b == c) := (rfl)
@[simp] theorem isBlD_non {c} : isBlD c .non = false := (rfl)
@[simp] theorem isBlD_int {c b} : isBlD c (.int b) = false := (rfl)
@[simp] theorem isBlD_str {c b} : isBlD c (.str b) = false := (rfl)
@[simp] theorem isBlD_tup {c b} : isBlD c (.tup b) = false := (rfl)
@[simp] theorem isBlD_lst {c o b} : isBlD c (.lst o b) = false := (rfl)
@[simp] theorem truD_bl {b} : truD (.bl b) = some b := (rfl)
@[simp] theorem truD_lst {o xs} : truD (.lst o xs) = some (!xs.isEmpty) := (rfl)
@[simp] theorem truD_tup {xs} : truD (.tup xs) = some (!xs.isEmpty) := (rfl)
@[simp] theorem truD_int {i} : truD (.int i) = some (i != 0) := (rfl)
@[simp] theorem binOp_add {a b : Int} : binOp .Add (.int a) (.int b) = some (.int (a + b)) := (rfl)
@[simp] theorem binOp_sub {a b : Int} : binOp .Sub (.int a) (.int b) = some (.int (a - b)) := (rfl)
@[simp] theorem binOp_mul {a b : Int} : binOp .Mult (.int a) (.int b) = ifB (mulOk a b) (some (.int (a * b))) none := (rfl)
@[simp] theorem binOp_div {a b : Int} : binOp .FloorDiv (.int a) (.int b) = ifB (decide (0 < b) && decide (b < 1073741824)) (some (.int (a / b))) none := (rfl)
@[simp] theorem binOp_mod {a b : Int} : binOp .Mod (.int a) (.int b) = ifB (decide (0 < b)) (some (.int (a % b))) none := (rfl)
@[simp] theorem binOp_pow {a b : Int} : binOp .Pow (.int a) (.int b) = ifB (decide (0 ≤ b) && (decide (b ≤ 1000000) && decide (a.natAbs < 2 ^ 64))) (some (.int (a ^ b.toNat))) none := (rfl)
@[simp] theorem binOp_addT {a b : List D} : binOp .Add (.tup a) (.tup b) = ifB (szOk (a.length + b.length)) (some (.tup (a ++ b))) none := (rfl)
@[simp] theorem binOp_addL {o p} {a b : List D} : binOp .Add (.lst o a) (.lst p b) = ifB (szOk (a.length + b.length) && (frzL a && frzL b)) (some (.lst true (a ++ b))) none := (rfl)
@[simp] theorem binOp_addS {a b : PySem.Str} : binOp .Add (.str a) (.str b) = ifB (szOk (a.length + b.length)) (some (.str (a ++ b))) none := (rfl)
@[simp] theorem binOp_mulT {a : List D} {k : Int} : binOp .Mult (.tup a) (.int k) = ifB (repOk a.length k) (some (.tup (repD a k))) none := (rfl)
@[simp] theorem cmpOp_eq {x y} : cmpOp .Eq x y = eqD x y := (rfl)
@[simp] theorem cmpOp_ne {x y} : cmpOp .NotEq x y = (eqD x y).map (!·) := (rfl)
@[simp] theorem cmpOp_lt {a b : Int} : cmpOp .Lt (.int a) (.int b) = some (decide (a < b)) := (rfl)
@[simp] theorem cmpOp_le {a b : Int} : cmpOp .LtE (.int a) (.int b) = some (decide (a ≤ b)) := (rfl)
@[simp] theorem cmpOp_gt {a b : Int} : cmpOp .Gt (.int a) (.int b) = some (decide (b < a)) := (rfl)
@[simp] theorem cmpOp_ge {a b : Int} : cmpOp .GtE (.int a) (.int b) = some (decide (b ≤ a)) := (rfl)
@[simp] theorem itemD_tup {xs : List D} {i : Int} : itemD (.tup xs) (.int i) = (ixOf xs.length i).bind fun j => xs[j]? := (rfl)
@[simp] theorem itemD_lst {o} {xs : List D} {i : Int} : itemD (.lst o xs) (.int i) = (ixOf xs.length i).bind fun j => xs[j]? := (rfl)
@[simp] theorem itemD_scr {ns : List Int} {i : Int} : itemD (.scr ns) (.int i) = (ixOf ns.length i).bind fun j => (ns[j]?).map D.int := (rfl)
@[simp] theorem bi1_lenT {xs} : bi1 .len (.tup xs) = some (.int xs.length) := (rfl)
@[simp] theorem bi1_lenL {o xs} : bi1 .len (.lst o xs) = some (.int xs.length) := (rfl)
@[simp] theorem bi1_lenS {ns} : bi1 .len (.scr ns) = some (.int ns.length) := (rfl)
@[simp] theorem bi1_int {i} : bi1 .int (.int i) = some (.int i) := (rfl)
@[simp] theorem bi1_tupT {xs} : bi1 .tuple (.tup xs) = some (.tup xs) := (rfl)
@[simp] theorem bi1_tupL {o xs} : bi1 .tuple (.lst o xs) = ifB (frzL xs) (some (.tup xs)) none := (rfl)
@[simp] theorem bi1_listT {xs} : bi1 .list (.tup xs) = some (.lst true xs) := (rfl)
@[simp] theorem bi1_all {o xs} : bi1 .all (.lst o xs) = (allB xs).map fun bs => .bl (bs.all id) := (rfl)
@[simp] theorem bi1_any {o xs} : bi1 .any (.lst o xs) = (allB xs).map fun bs => .bl (bs.any id) := (rfl)
@[simp] theorem bi2_min {i j} : bi2 .min (.int i) (.int j) = some (.int (if j < i then j else i)) := (rfl)
@[simp] theorem bi2_max {i j} : bi2 .max (.int i) (.int j) = some (.int (if j > i then j else i)) := (rfl)
@[simp] theorem rows_tup {xs} : rows (.tup xs) = some xs := (rfl)
@[simp] theorem rows_lst {o xs} : rows (.lst o xs) = ifB (frzL xs) (some xs) none := (rfl)
@[simp] theorem isT_tup {xs} : isT (.tup xs) = true := (rfl)
@[simp] theorem isT_lst {o xs} : isT (.lst o xs) = false := (rfl)
@[simp] theorem noW_none : noW none = true := (rfl)
theorem ixOf_nat {n i : Nat} (h : i < n) : ixOf n (i : Int) = some i := by
  unfold ixOf L2.ixN
  rw [if_pos (by omega), if_pos (by omega)]; rfl
@[simp] theorem ixOf_0 {n : Nat} : ixOf (n + 1) 0 = some 0 := ixOf_nat (i := 0) (by omega)
@[simp] theorem ixOf_1 {n : Nat} : ixOf (n + 2) 1 = some 1 := ixOf_nat (i := 1) (by omega)
@[simp] theorem ixOf_2 {n : Nat} : ixOf (n + 3) 2 = some 2 := ixOf_nat (i := 2) (by omega)
@[simp] theorem ixOf_3 {n : Nat} : ixOf (n + 4) 3 = some 3 := ixOf_nat (i := 3) (by omega)
@[simp] theorem outs_nil' {s : S} {i : Nat} : outs s i [] = [] := (rfl)
@[simp] theorem outs_cons' {s : S} {i : Nat} {d : D} {ds : List D} : outs s i (d :: ds) = (ifB (frz d) (some d) (s[i]?).join) :: outs s (i + 1) ds := (rfl)
@[simp] theorem lentA_nil {i : Nat} : lentA i [] = [] := (rfl)
@[simp] theorem lentA_cons {i : Nat} {d : D} {ds : List D} : lentA i (d :: ds) = ifB (frz d) (lentA (i + 1) ds) (i :: lentA (i + 1) ds) := (rfl)
end Tw

set_option Elab.async false
set_option linter.all false
set_option maxRecDepth 100000
/-! Tw.EvZ2: walks by what they keep. -/
namespace Tw
/-- one turn's end: what goes on, what ends -/
def TurnEnd (k : Option (Nat × D)) (e : Env) (J : S → Prop) (Q : Fl → S → Prop) (f : Fl) (s : S) : Prop := match f with
  | .nx => still k e s = .ok () s ∧ J s
  | .ct => still k e s = .ok () s ∧ J s
  | .bk => Q .nx s
  | .rt d => Q (.rt d) s
@[simp] theorem turnEnd_nx {k e J Q s} : TurnEnd k e J Q .nx s = (still k e s = .ok () s ∧ J s) := (rfl)
@[simp] theorem turnEnd_ct {k e J Q s} : TurnEnd k e J Q .ct s = (still k e s = .ok () s ∧ J s) := (rfl)
@[simp] theorem turnEnd_bk {k e J Q s} : TurnEnd k e J Q .bk s = Q .nx s := (rfl)
@[simp] theorem turnEnd_rt {k e J Q s d} : TurnEnd k e J Q (.rt d) s = Q (.rt d) s := (rfl)
theorem forGo_inv {e : Env} {t : Tg} {c : Sm Fl} {k : Option (Nat × D)} : ∀ {xs : List D} (I : Nat → S → Prop) (Q : Fl → S → Prop), (∀ i x s, xs[i]? = some x → I i s → frz x = true ∧ ∃ s1, setT t x e s = .ok () s1 ∧ ∃ f s2, c e s1 = .ok f s2 ∧ TurnEnd k e (I (i + 1)) Q f s2) →
    (∀ s, I xs.length s → Q .nx s) → ∀ s, I 0 s → ∃ f s', forGo t c k xs e s = .ok f s' ∧ Q f s'
  | [], I, Q, h, hq, s, h0 => ⟨.nx, s, rfl, hq s h0⟩
  | x :: xs, I, Q, h, hq, s, h0 => by
    obtain ⟨hz, s1, e1, f, s2, e2, h2⟩ := h 0 x s rfl h0
    rw [forGo_cons, hz, ifB_true, e1, R.bind_ok, e2, R.bind_ok]
    have step : ∀ f, f = .nx ∨ f = .ct → still k e s2 = .ok () s2 ∧ I 1 s2 → ∃ f' s', turn f s2 (R.bind (still k e s2) fun _ s3 => forGo t c k xs e s3) = .ok f' s' ∧ Q f' s' := by
      intro f hf ⟨e3, h3⟩
      obtain ⟨f', s', e4, h4⟩ := forGo_inv (xs := xs) (fun i => I (i + 1)) Q (fun i y s hy hi => h (i + 1) y s (by simpa using hy) hi) (fun s hs => hq s hs) s2 h3
      refine ⟨f', s', ?_, h4⟩
      rcases hf with rfl | rfl
      · rw [turn_nx, e3, R.bind_ok]; exact e4
      · rw [turn_ct, e3, R.bind_ok]; exact e4
    cases f with
    | nx => exact step _ (.inl rfl) h2
    | ct => exact step _ (.inr rfl) h2
    | bk => exact ⟨.nx, s2, by rw [turn_bk], h2⟩
    | rt d => exact ⟨.rt d, s2, by rw [turn_rt], h2⟩
theorem rng_get {lo hi : Int} {i : Nat} {x : D} (h : (rng lo hi)[i]? = some x) : x = .int (lo + i) ∧ (i : Int) < hi - lo := by
  unfold rng at h
  rw [List.getElem?_map] at h
  obtain ⟨j, e1, rfl⟩ := Option.map_eq_some_iff.mp h
  obtain ⟨hj, e2⟩ := List.getElem?_eq_some_iff.mp e1
  rw [List.getElem_range] at e2
  subst e2
  rw [List.length_range] at hj
  exact ⟨rfl, by omega⟩
@[simp] theorem rng_len {lo hi : Int} : (rng lo hi).length = (hi - lo).toNat := by unfold rng; simp
/-! ### types -/
@[simp] theorem isTy_int_non  : isTy .int (.non) = false := (rfl)
@[simp] theorem isTy_int_bl {b} : isTy .int (.bl b) = true := (rfl)
@[simp] theorem isTy_int_int {i} : isTy .int (.int i) = true := (rfl)
@[simp] theorem isTy_int_str {x} : isTy .int (.str x) = false := (rfl)
@[simp] theorem isTy_int_tup {xs} : isTy .int (.tup xs) = false := (rfl)
@[simp] theorem isTy_int_lst {o xs} : isTy .int (.lst o xs) = false := (rfl)
@[simp] theorem isTy_int_dic {o ks vs} : isTy .int (.dic o ks vs) = false := (rfl)
@[simp] theorem isTy_int_scr {ns} : isTy .int (.scr ns) = false := (rfl)
@[simp] theorem isTy_bool_non  : isTy .bool (.non) = false := (rfl)
@[simp] theorem isTy_bool_bl {b} : isTy .bool (.bl b) = true := (rfl)
@[simp] theorem isTy_bool_int {i} : isTy .bool (.int i) = false := (rfl)
@[simp] theorem isTy_bool_str {x} : isTy .bool (.str x) = false := (rfl)
@[simp] theorem isTy_bool_tup {xs} : isTy .bool (.tup xs) = false := (rfl)
@[simp] theorem isTy_bool_lst {o xs} : isTy .bool (.lst o xs) = false := (rfl)
@[simp] theorem isTy_bool_dic {o ks vs} : isTy .bool (.dic o ks vs) = false := (rfl)
@[simp] theorem isTy_bool_scr {ns} : isTy .bool (.scr ns) = false := (rfl)
@[simp] theorem isTy_str_non  : isTy .str (.non) = false := (rfl)
@[simp] theorem isTy_str_bl {b} : isTy .str (.bl b) = false := (rfl)
@[simp] theorem isTy_str_int {i} : isTy .str (.int i) = false := (rfl)
@[simp] theorem isTy_str_str {x} : isTy .str (.str x) = true := (rfl)
@[simp] theorem isTy_str_tup {xs} : isTy .str (.tup xs) = false := (rfl)
@[simp] theorem isTy_str_lst {o xs} : isTy .str (.lst o xs) = false := (rfl)
@[simp] theorem isTy_str_dic {o ks vs} : isTy .str (.dic o ks vs) = false := (rfl)
@[simp] theorem isTy_str_scr {ns} : isTy .str (.scr ns) = false := (rfl)
@[simp] theorem isTy_tuple_non  : isTy .tuple (.non) = false := (rfl)
@[simp] theorem isTy_tuple_bl {b} : isTy .tuple (.bl b) = false := (rfl)
@[simp] theorem isTy_tuple_int {i} : isTy .tuple (.int i) = false := (rfl)
@[simp] theorem isTy_tuple_str {x} : isTy .tuple (.str x) = false := (rfl)
@[simp] theorem isTy_tuple_tup {xs} : isTy .tuple (.tup xs) = true := (rfl)
@[simp] theorem isTy_tuple_lst {o xs} : isTy .tuple (.lst o xs) = false := (rfl)
@[simp] theorem isTy_tuple_dic {o ks vs} : isTy .tuple (.dic o ks vs) = false := (rfl)
@[simp] theorem isTy_tuple_scr {ns} : isTy .tuple (.scr ns) = false := (rfl)
@[simp] theorem isTy_list_non  : isTy .list (.non) = false := (rfl)
@[simp] theorem isTy_list_bl {b} : isTy .list (.bl b) = false := (rfl)
@[simp] theorem isTy_list_int {i} : isTy .list (.int i) = false := (rfl)
@[simp] theorem isTy_list_str {x} : isTy .list (.str x) = false := (rfl)
@[simp] theorem isTy_list_tup {xs} : isTy .list (.tup xs) = false := (rfl)
@[simp] theorem isTy_list_lst {o xs} : isTy .list (.lst o xs) = true := (rfl)
@[simp] theorem isTy_list_dic {o ks vs} : isTy .list (.dic o ks vs) = false := (rfl)
@[simp] theorem isTy_list_scr {ns} : isTy .list (.scr ns) = true := (rfl)
/-! ### list comprehensions -/
@[simp] theorem allT_nil {e : Env} {s : S} : allT [] e s = .ok true s := (rfl)
@[simp] theorem allT_cons {e : Env} {s : S} {c : Sm Bool} {cs : List (Sm Bool)} : allT (c :: cs) e s = R.bind (c e s) fun x s' => ifB x (allT cs e s') (.ok false s') := by
  show R.bind _ _ = _
  refine bind_ext fun x s' => ?_
  cases x <;> rfl
@[simp] theorem wipeD_nil {s : S} : wipeD [] s = s := (rfl)
@[simp] theorem wipeD_cons {i : Nat} {is : List Nat} {s : S} : wipeD (i :: is) s = (wipeD is s).set i none := (rfl)
@[simp] theorem putB_nil {s s' : S} : putB [] s s' = s' := (rfl)
@[simp] theorem putB_cons {i : Nat} {is : List Nat} {s s' : S} : putB (i :: is) s s' = (putB is s s').set i ((s[i]?).join) := (rfl)
def slotOk (o : Option (Option D)) : Bool := match o with
  | some (some d) => frz d
  | _ => true
@[simp] theorem slotOk_some {d : D} : slotOk (some (some d)) = frz d := (rfl)
@[simp] theorem slotOk_none : slotOk (some none) = true := (rfl)
@[simp] theorem ownOk_nil {s : S} : ownOk [] s = true := (rfl)
@[simp] theorem ownOk_cons {i : Nat} {is : List Nat} {s : S} : ownOk (i :: is) s = (slotOk s[i]? && ownOk is s) := by
  unfold ownOk
  rw [List.all_cons]
  congr
theorem lcGo_inv {e : Env} {own : List Nat} {tg : Tg} {ifs : List (Sm Bool)} {elt : Sm D} {k : Option (Nat × D)} : ∀ {xs : List D} (acc : List D) (I : Nat → List D → S → Prop),
    (∀ i x acc s, xs[i]? = some x → I i acc s → frz x = true ∧ ∃ s1, setT tg x e (wipeD own s) = .ok () s1 ∧ ∃ b s2, allT ifs e s1 = .ok b s2 ∧
      ((b = true ∧ ∃ d s3, elt e s2 = .ok d s3 ∧ still k e s3 = .ok () s3 ∧ szOk (acc.length + 1) = true ∧ I (i + 1) (acc ++ [d]) s3) ∨ (b = false ∧ still k e s2 = .ok () s2 ∧ I (i + 1) acc s2))) →
    ∀ s, I 0 acc s → ∃ ds s', lcGo own tg ifs elt k acc xs e s = .ok ds (wipeD own s') ∧ I xs.length ds s'
  | [], acc, I, h, s, h0 => ⟨acc, s, rfl, h0⟩
  | x :: xs, acc, I, h, s, h0 => by
    obtain ⟨hz, s1, e1, b, s2, e2, h2⟩ := h 0 x acc s rfl h0
    have key : lcGo own tg ifs elt k acc (x :: xs) e s = ifB (frz x) (R.bind (setT tg x e (wipeD own s)) fun _ s1 => R.bind (allT ifs e s1) fun b s2 => (if b = true
      then bnd elt fun d => bnd (still k) fun _ => grd (szOk (acc.length + 1)) (lcGo own tg ifs elt k (acc ++ [d]) xs)
      else bnd (still k) fun _ => lcGo own tg ifs elt k acc xs) e s2) .bad := rfl
    rw [key, hz, ifB_true, e1, R.bind_ok, e2, R.bind_ok]
    rcases h2 with ⟨rfl, d, s3, e3, e4, hz, h3⟩ | ⟨rfl, e4, h3⟩
    · obtain ⟨ds, s', e5, h5⟩ := lcGo_inv (xs := xs) (acc ++ [d]) (fun i => I (i + 1)) (fun i y acc s hy hi => h (i + 1) y acc s (by simpa using hy) hi) s3 h3
      refine ⟨ds, s', ?_, h5⟩
      rw [if_pos rfl, bnd_ap, e3, R.bind_ok, bnd_ap, e4, R.bind_ok, grd_ap, hz, ifB_true]
      exact e5
    · obtain ⟨ds, s', e5, h5⟩ := lcGo_inv (xs := xs) acc (fun i => I (i + 1)) (fun i y acc s hy hi => h (i + 1) y acc s (by simpa using hy) hi) s2 h3
      refine ⟨ds, s', ?_, h5⟩
      rw [if_neg Bool.false_ne_true, bnd_ap, e4, R.bind_ok]
      exact e5
theorem wipeD_idem (own : List Nat) : ∀ (is : List Nat) (s : S), (∀ i ∈ is, i ∈ own) → wipeD is (wipeD own s) = wipeD own s
  | [], s, _ => rfl
  | i :: is, s, h => by
    rw [wipeD_cons, wipeD_idem own is s fun j hj => h j (List.mem_cons_of_mem _ hj)]
    have : ∀ (own : List Nat) (s : S), i ∈ own → (wipeD own s).set i none = wipeD own s := by
      intro own
      induction own with
      | nil => intro s h; cases h
      | cons j js ih =>
        intro s h
        rw [wipeD_cons]
        by_cases e : i = j
        · subst e; rw [List.set_set]
        · rw [List.set_comm _ _ (by exact fun q => e q.symm), ih s (by simpa [e] using h)]
    exact this own s (h i List.mem_cons_self)
theorem lc_run {own : List Nat} {tg : Tg} {it : Sm Wk} {ifs : List (Sm Bool)} {elt : Sm D} {e : Env} {s s1 s2 : S} {xs ds : List D} (hit : it e s = .ok (xs, none) s1) (hown : (ownOk own s1 && own.all fun i => !e.refs.contains i) = true)
    (hgo : lcGo own tg ifs elt none [] xs e (wipeD own s1) = .ok ds s2) : lc own tg it ifs elt e s = .ok (.lst true ds) (putB own s1 s2) := by
  show R.bind (it e s) _ = _
  rw [hit, R.bind_ok]
  show inBlk own _ e s1 = _
  unfold inBlk
  rw [if_pos hown, bnd_ap, hgo]
  rfl
/-- the same over a list of the frame's own -/
theorem lc_runR {own : List Nat} {tg : Tg} {it : Sm Wk} {ifs : List (Sm Bool)} {elt : Sm D} {e : Env} {s s1 s2 : S} {j : Nat} {x : D} {xs ds : List D} (hit : it e s = .ok (xs, some (j, x)) s1) (hown : (ownOk own s1 && own.all fun i => !(j :: e.refs).contains i) = true)
    (hgo : lcGo own tg ifs elt (some (j, x)) [] xs { e with refs := j :: e.refs } (wipeD own s1) = .ok ds s2) : lc own tg it ifs elt e s = .ok (.lst true ds) (putB own s1 s2) := by
  show R.bind (it e s) _ = _
  rw [hit, R.bind_ok]
  show inBlk own _ { e with refs := j :: e.refs } s1 = _
  unfold inBlk
  rw [if_pos hown, bnd_ap, hgo]
  rfl
/-! ### while -/
theorem whileN_more {c : Sm Bool} {b : Sm Fl} {e : Env} : ∀ {n : Nat} {s : S}, ¬ isBad (whileN c b n e s) → whileN c b (n + 1) e s = whileN c b n e s
  | 0, s, h => (h trivial).elim
  | n + 1, s, h => by
    have key : ∀ n, whileN c b (n + 1) e s = R.bind (c e s) fun t s1 => (if t = true then bnd b fun f => (match f with
      | .nx => whileN c b n
      | .ct => whileN c b n
      | .bk => ret .nx
      | .rt d => ret (.rt d)) else ret .nx) e s1 := fun _ => rfl
    rw [key (n + 1), key n]
    rw [key n] at h
    cases hc : c e s with
    | ok t s1 =>
      rw [hc] at h
      rw [R.bind_ok, R.bind_ok]
      rw [R.bind_ok] at h
      cases t with
      | false => rfl
      | true =>
        rw [if_pos rfl] at h ⊢
        rw [if_pos rfl]
        rw [bnd_ap] at h ⊢
        rw [bnd_ap]
        cases hb : b e s1 with
        | ok f s2 =>
          rw [hb] at h
          rw [R.bind_ok, R.bind_ok]
          rw [R.bind_ok] at h
          cases f with
          | nx => exact whileN_more h
          | ct => exact whileN_more h
          | bk => rfl
          | rt d => rfl
        | exc x s2 => rfl
        | bad => rfl
    | exc x s1 => rfl
    | bad => rfl
theorem whileN_le2 {c : Sm Bool} {b : Sm Fl} {e : Env} {s : S} {n m : Nat} (h : ¬ isBad (whileN c b n e s)) (l : n ≤ m) : whileN c b m e s = whileN c b n e s := by
  induction l with
  | refl => rfl
  | step l ih => rw [whileN_more (by rw [ih]; exact h), ih]
theorem whileS_of2 {c : Sm Bool} {b : Sm Fl} {e : Env} {s : S} {n : Nat} (h : ¬ isBad (whileN c b n e s)) : whileS c b e s = whileN c b n e s := by
  unfold whileS
  have hh : ∃ n, ¬ isBad (whileN c b n e s) := ⟨n, h⟩
  rw [dif_pos hh]
  rcases Nat.le_total n hh.choose with l | l
  · exact whileN_le2 h l
  · exact (whileN_le2 hh.choose_spec l).symm
/-- one turn's end -/
def WEnd (J : S → Prop) (Q : Fl → S → Prop) (f : Fl) (s : S) : Prop := match f with
  | .nx => J s
  | .ct => J s
  | .bk => Q .nx s
  | .rt d => Q (.rt d) s
@[simp] theorem wEnd_nx {J Q s} : WEnd J Q .nx s = J s := (rfl)
@[simp] theorem wEnd_ct {J Q s} : WEnd J Q .ct s = J s := (rfl)
@[simp] theorem wEnd_bk {J Q s} : WEnd J Q .bk s = Q .nx s := (rfl)
@[simp] theorem wEnd_rt {J Q s d} : WEnd J Q (.rt d) s = Q (.rt d) s := (rfl)
theorem whileS_inv {c : Sm Bool} {b : Sm Fl} {e : Env} (I : Nat → S → Prop) (Q : Fl → S → Prop)
    (h : ∀ n s, I n s → (∃ s1, c e s = .ok false s1 ∧ Q .nx s1) ∨ ∃ s1, c e s = .ok true s1 ∧ ∃ f s2, b e s1 = .ok f s2 ∧ WEnd (fun s => ∃ m, m < n ∧ I m s) Q f s2) :
    ∀ n s, I n s → ∃ f s', whileS c b e s = .ok f s' ∧ Q f s' := by
  have key : ∀ n s, I n s → ∃ f s' k, whileN c b k e s = .ok f s' ∧ Q f s' := by
    intro n
    induction n using Nat.strongRecOn with
    | _ n ih =>
      intro s hi
      have unf : ∀ n, whileN c b (n + 1) e s = R.bind (c e s) fun t s1 => (if t = true then bnd b fun f => (match f with
        | .nx => whileN c b n
        | .ct => whileN c b n
        | .bk => ret .nx
        | .rt d => ret (.rt d)) else ret .nx) e s1 := fun _ => rfl
      rcases h n s hi with ⟨s1, e1, q⟩ | ⟨s1, e1, f, s2, e2, q⟩
      · exact ⟨.nx, s1, 1, by rw [unf, e1]; rfl, q⟩
      · have go : (f = .nx ∨ f = .ct) → (∃ m, m < n ∧ I m s2) → ∃ f s' k, whileN c b k e s = .ok f s' ∧ Q f s' := by
          intro hf ⟨m, l, hm⟩
          obtain ⟨f', s', k, e3, q3⟩ := ih m l s2 hm
          refine ⟨f', s', k + 1, ?_, q3⟩
          rw [unf, e1, R.bind_ok, if_pos rfl, bnd_ap, e2, R.bind_ok]
          rcases hf with rfl | rfl <;> exact e3
        cases f with
        | nx => exact go (.inl rfl) q
        | ct => exact go (.inr rfl) q
        | bk => exact ⟨.nx, s2, 1, by rw [unf, e1, R.bind_ok, if_pos rfl, bnd_ap, e2]; rfl, q⟩
        | rt d => exact ⟨.rt d, s2, 1, by rw [unf, e1, R.bind_ok, if_pos rfl, bnd_ap, e2]; rfl, q⟩
  intro n s hi
  obtain ⟨f, s', k, e1, q⟩ := key n s hi
  exact ⟨f, s', by rw [whileS_of2 (n := k) (by rw [e1]; exact id), e1], q⟩
end Tw

set_option Elab.async false
set_option linter.all false
set_option maxRecDepth 100000
/-! Tw.EvZ3: what a run ends with. -/
namespace Tw
section
variable {α β : Type}
def SatP (r : R α) (Q : α → S → Prop) : Prop := match r with
  | .ok a s => Q a s
  | _ => False
structure Sat (r : R α) (Q : α → S → Prop) (t : Tok Q := .mk) : Prop where
  h : SatP r Q
@[simp] theorem sat_ok {a : α} {s : S} {Q : α → S → Prop} {t : Tok Q} : Sat (.ok a s) Q t = Q a s := propext ⟨fun h => h.h, fun h => ⟨h⟩⟩
@[simp] theorem sat_bad {Q : α → S → Prop} {t : Tok Q} : Sat .bad Q t = False := propext ⟨fun h => h.h, fun h => h.elim⟩
@[simp] theorem sat_exc {d : D} {s : S} {Q : α → S → Prop} {t : Tok Q} : Sat (.exc d s) Q t = False := propext ⟨fun h => h.h, fun h => h.elim⟩
theorem sat_bind {r : R α} {f : α → S → R β} {t : Tok f} {Q : β → S → Prop} (h : Sat r fun a s => Sat (f a s) Q) : Sat (R.bind r f t) Q := by
  cases r with
  | ok a s => exact h.h
  | exc d s => exact h.h.elim
  | bad => exact h.h.elim
theorem sat_back {r : R D} {f : S → S} {Q : D → S → Prop} (h : Sat r fun d s => Q d (f s)) : Sat (R.back r f) Q := by
  cases r with
  | ok a s => exact ⟨h.h⟩
  | exc d s => exact h.h.elim
  | bad => exact h.h.elim
theorem sat_ex {r : R α} {Q : α → S → Prop} (h : Sat r Q) : ∃ a s, r = .ok a s ∧ Q a s := by
  cases r with
  | ok a s => exact ⟨a, s, rfl, h.h⟩
  | exc d s => exact h.h.elim
  | bad => exact h.h.elim
theorem sat_mono {r : R α} {Q Q' : α → S → Prop} (h : Sat r Q) (i : ∀ a s, Q a s → Q' a s) : Sat r Q' := by
  cases r with
  | ok a s => exact ⟨i _ _ h.h⟩
  | exc d s => exact h.h.elim
  | bad => exact h.h.elim
theorem sat_eq {r : R α} {a : α} {s : S} {Q : α → S → Prop} (e : r = .ok a s) (h : Q a s) : Sat r Q := by rw [e]; exact ⟨h⟩
/-- a turn of a for, its target set -/
def FQ (c : Sm Fl) (e : Env) (k : Option (Nat × D)) (J : S → Prop) (Q : Fl → S → Prop) (_u : Unit) (s : S) : Prop := Sat (c e s) (TurnEnd k e J Q)
@[simp] theorem fq_ap {c : Sm Fl} {e : Env} {k : Option (Nat × D)} {J : S → Prop} {Q : Fl → S → Prop} {u : Unit} {s : S} : FQ c e k J Q u s = Sat (c e s) (TurnEnd k e J Q) := (rfl)
theorem sat_forGo {e : Env} {t : Tg} {c : Sm Fl} {k : Option (Nat × D)} {xs : List D} {s : S} {Q : Fl → S → Prop} (I : Nat → S → Prop) (h0 : I 0 s)
    (h : ∀ i x s, xs[i]? = some x → I i s → frz x = true ∧ Sat (setT t x e s) (FQ c e k (I (i + 1)) Q)) (hq : ∀ s, I xs.length s → Q .nx s) : Sat (forGo t c k xs e s) Q := by
  obtain ⟨f, s', e1, q⟩ := forGo_inv (k := k) I Q (fun i x s hx hi => by
    obtain ⟨hz, h1⟩ := h i x s hx hi
    obtain ⟨_, s1, e1, h2⟩ := sat_ex h1
    obtain ⟨f, s2, e2, h3⟩ := sat_ex h2
    exact ⟨hz, s1, e1, f, s2, e2, h3⟩) hq s h0
  exact sat_eq e1 q
/-- a turn of a while, its test asked -/
def WQ (b : Sm Fl) (e : Env) (J : S → Prop) (Q : Fl → S → Prop) (t : Bool) (s : S) : Prop := if t = true then Sat (b e s) (WEnd J Q) else Q .nx s
@[simp] theorem wq_true {b : Sm Fl} {e : Env} {J : S → Prop} {Q : Fl → S → Prop} {s : S} : WQ b e J Q true s = Sat (b e s) (WEnd J Q) := (rfl)
@[simp] theorem wq_false {b : Sm Fl} {e : Env} {J : S → Prop} {Q : Fl → S → Prop} {s : S} : WQ b e J Q false s = Q .nx s := (rfl)
theorem sat_while {c : Sm Bool} {b : Sm Fl} {e : Env} {s : S} {Q : Fl → S → Prop} (n : Nat) (I : Nat → S → Prop) (h0 : I n s)
    (h : ∀ n s, I n s → Sat (c e s) (WQ b e (fun s => ∃ m, m < n ∧ I m s) Q)) : Sat (whileS c b e s) Q := by
  obtain ⟨f, s', e1, q⟩ := whileS_inv (c := c) (b := b) (e := e) I Q (fun n s hi => by
    obtain ⟨t, s1, e1, h1⟩ := sat_ex (h n s hi)
    cases t with
    | false => exact .inl ⟨s1, e1, h1⟩
    | true =>
      rw [wq_true] at h1
      obtain ⟨f, s2, e2, h2⟩ := sat_ex h1
      exact .inr ⟨s1, e1, f, s2, e2, h2⟩) n s h0
  exact sat_eq e1 q
/-- how a def ends -/
def FinQ (Q : D → S → Prop) (ds : List D) (f : Fl) (s : S) : Prop := match f with
  | .nx => Q .non (outs s 0 ds)
  | .rt d => Q d (outs s 0 ds)
  | _ => False
@[simp] theorem finQ_nx {Q : D → S → Prop} {ds : List D} {s : S} : FinQ Q ds .nx s = Q .non (outs s 0 ds) := (rfl)
@[simp] theorem finQ_rt {Q : D → S → Prop} {ds : List D} {s : S} {d : D} : FinQ Q ds (.rt d) s = Q d (outs s 0 ds) := (rfl)
theorem sat_fin {r : R Fl} {ds : List D} {Q : D → S → Prop} (h : Sat r (FinQ Q ds)) : Sat (R.fin r ds) Q := by
  cases r with
  | ok f s => cases f <;> first | exact ⟨h.h⟩ | exact h.h.elim
  | exc d s => exact h.h.elim
  | bad => exact h.h.elim
/-- the rest of a block (simp leaves it alone) -/
def AppQ (ys : List (Sm Fl)) (e : Env) (Q : Fl → S → Prop) (f : Fl) (s : S) : Prop := match f with
  | .nx => Sat (blk ys e s) Q
  | _ => Q f s
theorem appQ_nx {ys : List (Sm Fl)} {e : Env} {Q : Fl → S → Prop} {s : S} (h : Sat (blk ys e s) Q) : AppQ ys e Q .nx s := h
theorem sat_app {e : Env} {ys : List (Sm Fl)} {Q : Fl → S → Prop} (hy : ys ≠ []) : ∀ {xs : List (Sm Fl)} {s : S}, Sat (blk xs e s) (AppQ ys e Q) → Sat (blk (xs ++ ys) e s) Q
  | [], s, h => by
    rw [blk_nil, sat_ok] at h
    exact h
  | [x], s, h => by
    obtain ⟨y, ys, rfl⟩ := List.exists_cons_of_ne_nil hy
    rw [blk_one] at h
    show Sat (blk (x :: y :: ys) e s) Q
    rw [blk_cons]
    refine sat_bind (sat_mono h fun f s q => ?_)
    cases f with
    | nx => exact q
    | _ => exact (sat_ok (Q := Q)).symm ▸ q
  | x :: x2 :: xs, s, h => by
    show Sat (blk (x :: x2 :: (xs ++ ys)) e s) Q
    rw [blk_cons] at h ⊢
    have h := h.h
    cases hx : x e s with
    | ok f s1 =>
      rw [hx] at h
      rw [R.bind_ok] at h ⊢
      cases f with
      | nx =>
        rw [nxt_nx] at h ⊢
        exact sat_app hy (xs := x2 :: xs) ⟨h⟩
      | bk => rw [nxt_bk] at h ⊢; exact ⟨h⟩
      | ct => rw [nxt_ct] at h ⊢; exact ⟨h⟩
      | rt d => rw [nxt_rt] at h ⊢; exact ⟨h⟩
    | exc d s1 => rw [hx] at h; exact h.elim
    | bad => rw [hx] at h; exact h.elim
theorem sat_cut {e : Env} {c : List (Sm Fl)} {Q : Fl → S → Prop} {s : S} (n : Nat) (hy : c.drop n ≠ []) (h : Sat (blk (c.take n) e s) (AppQ (c.drop n) e Q)) : Sat (blk c e s) Q := by
  have := sat_app hy h
  rwa [List.take_append_drop] at this
theorem run_sat {r : R D} {d : D} {s : S} (h : Sat r fun x y => x = d ∧ y = s) : r = .ok d s := by
  cases r with
  | ok a s => obtain ⟨rfl, rfl⟩ := h.h; rfl
  | exc d s => exact h.h.elim
  | bad => exact h.h.elim
theorem sat_run {Φ : PySem.Str → Option Fn} {k : Nat} {f : PySem.Str} {F : Fn} {ds : List D} {Q : D → S → Prop} (h : Φ f = some F) (hl : ds.length = F.ps)
    (hs : Sat (F.body ⟨run Φ k, lentA 0 ds⟩ (ds.map some ++ List.replicate (F.ns - F.ps) none)) (FinQ Q ds)) : Sat (run Φ (k + 1) f ds) Q := by
  rw [run_succ h, decide_eq_true hl, ifB_true]
  exact sat_fin hs
end
end Tw

set_option Elab.async false
set_option linter.all false
set_option maxRecDepth 100000
/-! shared defs as terms. -/
namespace Tw
namespace Lib
noncomputable def c__law_cell : List (Sm Fl) := [iteS (cmp .Lt true (vP 1) (blt1 .len (vP 0))) (blk [rtS (idx true (vP 0) (vP 1))]) (blk []),
    rtS (ret (.int 0))]
noncomputable def F__law_cell : Fn := ⟨2, 2, blk c__law_cell⟩
noncomputable def b__law_numbers_0 : Sm Fl := blk [iteS (andB (cmp .GtE true (vP 0) (bin .Pow true (ret (.int 10)) (ret (.int 18)))) (cmp .Gt true (vP 3) (ret (.int 0)))) (blk [expS (append 2 [] (bin .Mod true (blt1 .int (vP 3)) (ret (.int 4099)))),
    asg 3 (bin .FloorDiv true (vP 3) (ret (.int 4099)))]) (blk [asg 5 (bin .Mod true (blt1 .int (bin .Add true (bin .Mult true (vP 0) (ret (.int 69621))) (bin .Mult true (bin .Add true (vP 4) (ret (.int 1))) (ret (.int 48271))))) (ret (.int 2147483647))),
    asg 5 (bin .Mod true (blt1 .int (bin .Add true (bin .Add true (bin .Mult true (vP 5) (vP 5)) (bin .Mult true (vP 5) (ret (.int 16807)))) (bin .Mult true (vP 4) (ret (.int 7919))))) (ret (.int 2147483629))),
    asg 5 (bin .Mod true (blt1 .int (bin .Add true (bin .Add true (bin .Mult true (vP 5) (vP 5)) (vP 0)) (bin .Mult true (ret (.int 17)) (vP 4)))) (ret (.int 2147483587))),
    expS (append 2 [] (bin .Mod true (bin .FloorDiv true (vP 5) (ret (.int 5))) (ret (.int 4099))))])]
noncomputable def c__law_numbers : List (Sm Fl) := [asg 2 (lstE []),
    asg 3 (vE 0),
    forS (.nm 4) (itR1 (vP 1)) b__law_numbers_0,
    rtS (vR 2)]
noncomputable def F__law_numbers : Fn := ⟨2, 6, blk c__law_numbers⟩
noncomputable def b__law_pool_0 : Sm Fl := blk [asg 1 (binV .Add 1 (call "_law_numbers" [.inr (bin .Add true (call "_law_cell" [.inl 0, .inl 2]) (bin .Mult true (ret (.int 11)) (vP 2))), .inr (ret (.int 24))]))]
noncomputable def c__law_pool : List (Sm Fl) := [asg 1 (lstE []),
    forS (.nm 2) (itR1 (blt2 .min true (ret (.int 6)) (blt2 .max true (ret (.int 1)) (blt1 .len (vP 0))))) b__law_pool_0,
    rtS (lstE [vE 1, lstE [ret (.int 0)]])]
noncomputable def F__law_pool : Fn := ⟨1, 3, blk c__law_pool⟩
noncomputable def c__law_draw : List (Sm Fl) := [asg 2 (idx true (idxP true (vP 0) (ret (.int 1))) (ret (.int 0))),
    asgP 0 [ret (.int 1)] (ret (.int 0)) (bin .Add true (vP 2) (ret (.int 1))),
    asg 3 (bin .FloorDiv true (vP 2) (blt1 .len (idxP true (vP 0) (ret (.int 0))))),
    rtS (bin .Mod true (blt1 .int (bin .Add true (bin .Add true (idxP true (idxP true (vP 0) (ret (.int 0))) (bin .Mod true (vP 2) (blt1 .len (idxP true (vP 0) (ret (.int 0)))))) (bin .Mult true (vP 3) (ret (.int 1013)))) (bin .Mult true (bin .Mult true (vP 3) (vP 2)) (ret (.int 7))))) (vP 1))]
noncomputable def F__law_draw : Fn := ⟨2, 4, blk c__law_draw⟩
noncomputable def c__law_kind : List (Sm Fl) := [iteS (truB (isi .bool (vP 0))) (blk [rtS (ret (.int 1))]) (blk []),
    iteS (truB (isi .int (vP 0))) (blk [rtS (ret (.int 2))]) (blk []),
    iteS (truB (isi .str (vP 0))) (blk [rtS (ret (.int 3))]) (blk []),
    iteS (truB (isi .tuple (vP 0))) (blk [rtS (ret (.int 4))]) (blk []),
    iteS (truB (isi .list (vP 0))) (blk [rtS (ret (.int 5))]) (blk []),
    iteS (isN (vP 0)) (blk [rtS (ret (.int 6))]) (blk []),
    rtS (ret (.int 0))]
noncomputable def F__law_kind : Fn := ⟨1, 1, blk c__law_kind⟩
noncomputable def b__law_equal_0 : Sm Fl := blk [iteS (notB (truB (call "_law_equal" [.inr (idx true (vP 0) (vP 2)), .inr (idx true (vP 1) (vP 2))]))) (blk [rtS (ret (.bl false))]) (blk [])]
noncomputable def c__law_equal : List (Sm Fl) := [iteS (orB (cmpH .NotEq (call "_law_kind" [.inl 0]) (call "_law_kind" [.inl 1])) (cmp .Eq true (call "_law_kind" [.inl 0]) (ret (.int 0)))) (blk [rtS (ret (.bl false))]) (blk []),
    iteS (orB (truB (isi .tuple (vP 1))) (truB (isi .list (vP 1)))) (blk [iteS (cmp .NotEq true (blt1 .len (vP 0)) (blt1 .len (vP 1))) (blk [rtS (ret (.bl false))]) (blk []),
    forS (.nm 2) (itR1 (blt1 .len (vP 1))) b__law_equal_0,
    rtS (ret (.bl true))]) (blk []),
    rtS (blE (cmp .Eq true (vP 0) (vP 1)))]
noncomputable def F__law_equal : Fn := ⟨2, 3, blk c__law_equal⟩
noncomputable def c__law_is : List (Sm Fl) := [iteS (truB (vP 1)) (blk [rtS (blE (isB true (vP 0)))]) (blk []),
    rtS (blE (isB false (vP 0)))]
noncomputable def F__law_is : Fn := ⟨2, 2, blk c__law_is⟩
noncomputable def c__law_int : List (Sm Fl) := [rtS (andE (blE (cmp .Eq true (call "_law_kind" [.inl 0]) (ret (.int 2)))) (blE (chn .LtE .LtE true (vP 1) (vP 0) (vP 2))))]
noncomputable def F__law_int : Fn := ⟨3, 3, blk c__law_int⟩
noncomputable def b__law_ints_0 : Sm Fl := blk [iteS (notB (truB (call "_law_int" [.inl 3, .inl 1, .inl 2]))) (blk [rtS (ret (.bl false))]) (blk [])]
noncomputable def c__law_ints : List (Sm Fl) := [iteS (notB (truB (isi .tuple (vP 0)))) (blk [rtS (ret (.bl false))]) (blk []),
    forS (.nm 3) (itS (itV 0)) b__law_ints_0,
    rtS (ret (.bl true))]
noncomputable def F__law_ints : Fn := ⟨3, 4, blk c__law_ints⟩
noncomputable def c__law_tag : List (Sm Fl) := [rtS (andE (isi .tuple (vP 0)) (andE (blE (cmp .Eq true (blt1 .len (vP 0)) (vP 2))) (andE (isi .str (idxP true (vP 0) (ret (.int 0)))) (blE (cmp .Eq true (idxP true (vP 0) (ret (.int 0))) (vP 1))))))]
noncomputable def F__law_tag : Fn := ⟨3, 3, blk c__law_tag⟩
noncomputable def c__law_bent : List (Sm Fl) := [iteS (truB (isi .tuple (vP 1))) (blk [asg 2 (call "_law_draw" [.inl 0, .inr (ret (.int 10))]),
    iteS (orB (cmp .Eq true (blt1 .len (vP 1)) (ret (.int 0))) (cmp .Eq true (vP 2) (ret (.int 0)))) (blk [rtS (binV .Add 1 (tupE [idxH (lstE [ret (.int 0), ret (.int 1), tupE [], tupE [ret (.int 0), ret (.int 0)]]) (call "_law_draw" [.inl 0, .inr (ret (.int 4))])]))]) (blk []),
    asg 3 (call "_law_draw" [.inl 0, .inr (blt1 .len (vP 1))]),
    iteS (cmp .Eq true (vP 2) (ret (.int 1))) (blk [rtS (bin .Add true (slc true (vP 1) none (some (vP 3))) (slc true (vP 1) (some (bin .Add true (vP 3) (ret (.int 1)))) none))]) (blk []),
    iteS (andB (cmp .Eq true (vP 2) (ret (.int 2))) (cmp .Eq true (call "_law_draw" [.inl 0, .inr (ret (.int 3))]) (ret (.int 0)))) (blk [rtS (blt1 .list (vP 1))]) (blk []),
    iteS (cmp .Eq true (vP 2) (ret (.int 3))) (blk [rtS (bin .Add true (bin .Add true (slc true (vP 1) none (some (vP 3))) (tupE [idx true (vP 1) (vP 3)])) (slc true (vP 1) (some (vP 3)) none))]) (blk []),
    iteS (andB (cmp .Eq true (vP 2) (ret (.int 4))) (cmp .Gt true (blt1 .len (vP 1)) (ret (.int 1)))) (blk [asg 4 (bin .Mod true (bin .Add true (vP 3) (ret (.int 1))) (blt1 .len (vP 1))),
    asg 5 (blt2 .min true (vP 3) (vP 4)),
    asg 6 (blt2 .max true (vP 3) (vP 4)),
    rtS (bin .Add true (bin .Add true (bin .Add true (bin .Add true (slc true (vP 1) none (some (vP 5))) (tupE [idx true (vP 1) (vP 6)])) (slc true (vP 1) (some (bin .Add true (vP 5) (ret (.int 1)))) (some (vP 6)))) (tupE [idx true (vP 1) (vP 5)])) (slc true (vP 1) (some (bin .Add true (vP 6) (ret (.int 1)))) none))]) (blk []),
    rtS (bin .Add true (binH .Add (slc true (vP 1) none (some (vP 3))) (tupE [call "_law_bent" [.inl 0, .inr (idx true (vP 1) (vP 3))]])) (slc true (vP 1) (some (bin .Add true (vP 3) (ret (.int 1)))) none))]) (blk []),
    iteS (truB (isi .str (vP 1))) (blk [rtS (idxH (lstE [bin .Add true (vP 1) (ret (.str "x")), ret (.str ""), upper (vP 1), ret .non, ret (.int 0)]) (call "_law_draw" [.inl 0, .inr (ret (.int 5))]))]) (blk []),
    iteS (cmp .Eq true (call "_law_kind" [.inl 1]) (ret (.int 2))) (blk [rtS (idxH (lstE [bin .Add true (vP 1) (ret (.int 1)), bin .Sub true (vP 1) (ret (.int 1)), bin .Add true (vP 1) (ret (.int 1)), bin .Sub true (vP 1) (ret (.int 1)), ret (.int 0), bin .Add true (vP 1) (ret (.int 16)), ret (.bl true), ret .non, blt1 .str (vP 1), tupE [vE 1]]) (call "_law_draw" [.inl 0, .inr (ret (.int 10))]))]) (blk []),
    rtS (idxH (lstE [ret (.int 0), tupE [], ret (.bl false), ret (.str "x")]) (call "_law_draw" [.inl 0, .inr (ret (.int 4))]))]
noncomputable def F__law_bent : Fn := ⟨2, 7, blk c__law_bent⟩
noncomputable def b__law_bends_0 : Sm Fl := blk [asg 5 (call "_law_bent" [.inl 0, .inl 1]),
    iteS (cmp .Eq true (call "_law_draw" [.inl 0, .inr (ret (.int 5))]) (ret (.int 0))) (blk [asg 5 (call "_law_bent" [.inl 0, .inl 5])]) (blk []),
    expS (append 3 [] (vE 5))]
noncomputable def c__law_bends : List (Sm Fl) := [asg 3 (lstE [vE 1]),
    forS (.nm 4) (itR1 (vP 2)) b__law_bends_0,
    rtS (bin .Add true (vP 3) (frE (lstE [ret .non, ret (.int 0), ret (.bl true), ret (.str ""), tupE [], lstE [], ret (.str "x"), tupE [ret (.int 0)], tupE [ret (.str "x"), ret (.int 1)], vE 1])))]
noncomputable def F__law_bends : Fn := ⟨3, 6, blk c__law_bends⟩
noncomputable def v__law_word_0 : Sm D := call "_law_draw" [.inl 0, .inl 1]
noncomputable def c__law_word : List (Sm Fl) := [rtS (blt1 .tuple (frE (lc [3] (.nm 3) (itR1 (call "_law_draw" [.inl 0, .inr (bin .Add true (vP 2) (ret (.int 1)))])) [] v__law_word_0)))]
noncomputable def F__law_word : Fn := ⟨3, 4, blk c__law_word⟩
noncomputable def c__law_is_word : List (Sm Fl) := [rtS (andE (call "_law_ints" [.inl 2, .inr (ret (.int 0)), .inr (bin .Sub true (vP 0) (ret (.int 1)))]) (blE (cmp .LtE true (blt1 .len (vP 2)) (vP 1))))]
noncomputable def F__law_is_word : Fn := ⟨3, 3, blk c__law_is_word⟩
end Lib
end Tw

set_option Elab.async false
set_option linter.all false
set_option maxRecDepth 100000
set_option maxHeartbeats 1000000
/-! Tw.LibB: the pool. -/
namespace Tw
open Lib
open PySem (Str)
/-- numsD as values -/
def numsD (ns : List Int) : List D := ns.map D.int
@[simp] theorem frzL_nums (ns : List Int) : frzL (numsD ns) = true := by
  induction ns with
  | nil => rfl
  | cons n ns ih => show (true && frzL (numsD ns)) = true; rw [ih]; rfl
@[simp] theorem numsD_nil : numsD [] = [] := rfl
theorem numsD_cons (n : Int) (ns : List Int) : numsD (n :: ns) = .int n :: numsD ns := rfl
@[simp] theorem numsD_append (a b : List Int) : numsD a ++ numsD b = numsD (a ++ b) := by unfold numsD; simp
@[simp] theorem numsD_len (a : List Int) : (numsD a).length = a.length := by unfold numsD; simp
@[simp] theorem numsD_snoc (a : List Int) (i : Int) : numsD a ++ [.int i] = numsD (a ++ [i]) := by unfold numsD; simp
theorem numsD_get {ns : List Int} {i : Nat} (h : i < ns.length) : (numsD ns)[i]? = some (.int ns[i]) := by unfold numsD; simp [h]
@[simp] theorem fzL_nums (ns : List Int) : fzL (numsD ns) = numsD ns := by
  induction ns with
  | nil => rfl
  | cons n ns ih => show D.int n :: fzL (numsD ns) = _; rw [ih]; rfl
/-- the pool: its numbers, the place reached -/
def pool (rows : List Int) (at_ : Nat) : D := .lst true [.lst false (numsD rows), .lst true [.int at_]]
/-- a pool that n more numbers may be drawn from -/
def IsPool (n : Nat) (p : D) : Prop := ∃ rows at_, p = pool rows at_ ∧ rows ≠ [] ∧ rows.length < 1000 ∧ at_ + n ≤ 2 ^ 60
theorem IsPool.le {n m : Nat} {p : D} (h : IsPool n p) (l : m ≤ n) : IsPool m p := by
  obtain ⟨r, a, e, h1, h2, h3⟩ := h
  exact ⟨r, a, e, h1, h2, by omega⟩
section
variable {Φ : Str → Option Fn}

theorem draw_run (h : Φ "_law_draw" = some F__law_draw) {rows : List Int} {at_ : Nat} {m : Int} (hr : rows ≠ []) (hl : rows.length < 1000) (ha : at_ < 2 ^ 60) (hm : 0 < m) (k : Nat) :
    ∃ r : Int, 0 ≤ r ∧ r < m ∧ run Φ (k + 1) "_law_draw" [pool rows at_, .int m] = .ok (.int r) [some (pool rows (at_ + 1)), some (.int m)] := by
  have hn : 0 < rows.length := List.length_pos_iff.mpr hr
  have hlt : at_ % rows.length < rows.length := Nat.mod_lt _ hn
  have hmod : ((at_ : Int) % (rows.length : Int)) = ((at_ % rows.length : Nat) : Int) := by omega
  refine ⟨(rows[at_ % rows.length] + (at_ : Int) / rows.length * 1013 + (at_ : Int) / rows.length * at_ * 7) % m, Int.emod_nonneg _ (by omega), Int.emod_lt_of_pos _ hm, ?_⟩
  rw [run_succ h]
  have hl2 : decide ((rows.length : Int) < 1073741824) = true := decide_eq_true (by omega)
  have hn2 : decide ((0 : Int) < (rows.length : Int)) = true := decide_eq_true (by omega)
  have hm2 : decide (0 < m) = true := decide_eq_true hm
  have e1 : (ixOf rows.length ((at_ : Int) % (rows.length : Int))) = some (at_ % rows.length) := by rw [hmod, ixOf_nat hlt]
  simp only [F__law_draw, c__law_draw, pool]
  have h1 : mulOk ((at_ : Int) / (rows.length : Int)) 1013 = true := by unfold mulOk; simp
  have h2 : mulOk ((at_ : Int) / (rows.length : Int)) (at_ : Int) = true := by
    unfold mulOk
    rw [Bool.or_eq_true, decide_eq_true_eq, decide_eq_true_eq]
    right
    omega
  have h3 : mulOk ((at_ : Int) / (rows.length : Int) * (at_ : Int)) 7 = true := by unfold mulOk; simp
  simp [e1, hn, hn2, hm2, hl2, hm, h1, h2, h3, numsD_get hlt]
theorem forGo_nx {e : Env} {t : Tg} {c : Sm Fl} {k : Option (Nat × D)} : ∀ {xs : List D} (I : Nat → S → Prop), (∀ i x s, xs[i]? = some x → I i s → frz x = true ∧ ∃ s1 s2, setT t x e s = .ok () s1 ∧ c e s1 = .ok .nx s2 ∧ still k e s2 = .ok () s2 ∧ I (i + 1) s2) →
    ∀ s, I 0 s → ∃ s', forGo t c k xs e s = .ok .nx s' ∧ I xs.length s'
  | [], I, h, s, h0 => ⟨s, rfl, h0⟩
  | x :: xs, I, h, s, h0 => by
    obtain ⟨hz, s1, s2, e1, e2, e3, h1⟩ := h 0 x s rfl h0
    obtain ⟨s', e4, h4⟩ := forGo_nx (xs := xs) (fun i => I (i + 1)) (fun i y s hy hi => h (i + 1) y s (by simpa using hy) hi) s2 h1
    refine ⟨s', ?_, h4⟩
    rw [forGo_cons, hz, ifB_true, e1, R.bind_ok, e2, R.bind_ok, turn_nx, e3, R.bind_ok]
    exact e4
theorem cell_run (h : Φ "_law_cell" = some F__law_cell) {ns : List Int} {i : Nat} (k : Nat) : ∃ c : Int, run Φ (k + 1) "_law_cell" [.scr ns, .int i] = .ok (.int c) [some (.scr ns), some (.int i)] := by
  rw [run_succ h]
  simp only [F__law_cell, c__law_cell]
  by_cases hi : i < ns.length
  · exact ⟨ns[i], by simp [hi, ixOf_nat hi]⟩
  · exact ⟨0, by simp [hi]⟩
theorem szOk_small {n : Nat} (h : n ≤ 100000) : szOk n = true := by
  unfold szOk
  exact decide_eq_true (Nat.le_trans h (by show (100000 : Nat) ≤ 2 ^ 24; decide))
theorem rngOk_small {i : Int} (h : -100000 ≤ i) (h2 : i ≤ 100000) : rngOk i = true := by
  unfold rngOk
  rw [Bool.and_eq_true, decide_eq_true_eq, decide_eq_true_eq]
  have a : (-(2 ^ 62 : Int)) ≤ -100000 := by decide
  have b : (100000 : Int) < 2 ^ 62 := by decide
  exact ⟨Int.le_trans a h, Int.lt_of_le_of_lt h2 b⟩
theorem numbers_run (h : Φ "_law_numbers" = some F__law_numbers) {c : Int} (k : Nat) : ∃ xs : List Int, xs.length = 24 ∧ run Φ (k + 1) "_law_numbers" [.int c, .int 24] = .ok (.lst true (numsD xs)) [some (.int c), some (.int 24)] := by
  rw [run_succ h]
  simp only [F__law_numbers, c__law_numbers]
  obtain ⟨s', e1, acc, left, o4, o5, rfl, hl⟩ := forGo_nx (t := .nm 4) (c := b__law_numbers_0) (k := none) (e := ⟨run Φ k, []⟩) (xs := rng 0 24)
    (fun i s => ∃ (acc : List Int) (left : Int) (o4 o5 : Option D), s = [some (.int c), some (.int 24), some (.lst true (numsD acc)), some (.int left), o4, o5] ∧ acc.length = i)
    (fun i x s hx hi => by
      obtain ⟨acc, left, o4, o5, rfl, hl⟩ := hi
      obtain ⟨rfl, hb⟩ := rng_get hx
      have hz : szOk (acc.length + 1) = true := szOk_small (by omega)
      have m1 : ∀ a b : Int, b = 69621 ∨ b = 48271 ∨ b = 16807 ∨ b = 7919 → mulOk a b = true := fun a b hb => by
        unfold mulOk; rcases hb with rfl | rfl | rfl | rfl <;> simp
      have m2 : ∀ b : Int, mulOk 17 b = true := fun b => by unfold mulOk; simp
      have m3 : ∀ a b : Int, mulOk (a % 2147483647) b = true := fun a b => by
        unfold mulOk
        rw [Bool.or_eq_true, decide_eq_true_eq]
        left
        omega
      have m4 : ∀ a b : Int, mulOk (a % 2147483629) b = true := fun a b => by
        unfold mulOk
        rw [Bool.or_eq_true, decide_eq_true_eq]
        left
        omega
      refine ⟨rfl, [some (.int c), some (.int 24), some (.lst true (numsD acc)), some (.int left), some (.int i), o5], ?_⟩
      by_cases q : (10 ^ 18 : Int) ≤ c ∧ 0 < left
      · refine ⟨[some (.int c), some (.int 24), some (.lst true (numsD (acc ++ [left % 4099]))), some (.int (left / 4099)), some (.int i), o5], by simp, ?_, rfl, acc ++ [left % 4099], left / 4099, _, _, rfl, by simp [hl]⟩
        have q1 : (1000000000000000000 : Int) ≤ c := q.1
        simp [b__law_numbers_0, q1, q.2, hz]
      · have hh : ∃ v w : Int, b__law_numbers_0 ⟨run Φ k, []⟩ [some (.int c), some (.int 24), some (.lst true (numsD acc)), some (.int left), some (.int i), o5] = .ok .nx [some (.int c), some (.int 24), some (.lst true (numsD acc ++ [.int v])), some (.int left), some (.int i), some (.int w)] := by
          simp only [b__law_numbers_0]
          by_cases q1 : (1000000000000000000 : Int) ≤ c
          · have q2 : ¬ 0 < left := fun h => q ⟨q1, h⟩
            apply Exists.intro
            apply Exists.intro
            simp [q1, q2, hz, m1, m2, m3, m4]
            exact ⟨rfl, rfl⟩
          · apply Exists.intro
            apply Exists.intro
            simp [q1, hz, m1, m2, m3, m4]
            exact ⟨rfl, rfl⟩
        obtain ⟨v, w, hh⟩ := hh
        exact ⟨_, by simp, hh, rfl, acc ++ [v], left, some (.int i), some (.int w), by rw [numsD_snoc], by simp [hl]⟩)
    [some (.int c), some (.int 24), some (.lst true []), some (.int c), none, none] ⟨[], c, none, none, rfl, rfl⟩
  refine ⟨acc, by simpa using hl, ?_⟩
  have rk : rngOk 24 = true := rngOk_small (by omega) (by omega)
  simp [rk, e1]
theorem pool_m (n : Nat) : ∃ (M : Int) (m : Nat), bi2 .max (.int 1) (.int (n : Int)) = some (.int M) ∧ bi2 .min (.int 6) (.int M) = some (.int (m : Int)) ∧ 1 ≤ m ∧ m ≤ 6 := by
  rw [bi2_max]
  by_cases h1 : (n : Int) > 1
  · rw [if_pos h1]
    by_cases h2 : (n : Int) < 6
    · exact ⟨n, n, rfl, by rw [bi2_min, if_pos h2], by omega, by omega⟩
    · exact ⟨n, 6, rfl, by rw [bi2_min, if_neg h2]; rfl, by omega, by omega⟩
  · rw [if_neg h1]
    exact ⟨1, 1, rfl, by rw [bi2_min, if_pos (by decide)]; rfl, by omega, by omega⟩
theorem pool_run (h : Φ "_law_pool" = some F__law_pool) (hn : Φ "_law_numbers" = some F__law_numbers) (hc : Φ "_law_cell" = some F__law_cell) {ns : List Int} (hl : ns.length ≤ 63) (k : Nat) :
    ∃ p, IsPool (2 ^ 50) p ∧ run Φ (k + 2) "_law_pool" [.scr ns] = .ok p [some (.scr ns)] := by
  rw [run_succ h]
  simp only [F__law_pool, c__law_pool]
  obtain ⟨M, m, b1, b2, h1, h6⟩ := pool_m ns.length
  obtain ⟨s', e1, rows, o2, rfl, hr⟩ := forGo_nx (t := .nm 2) (c := b__law_pool_0) (k := none) (e := ⟨run Φ (k + 1), []⟩) (xs := rng 0 m)
    (fun i s => ∃ (rows : List Int) (o2 : Option D), s = [some (.scr ns), some (.lst true (numsD rows)), o2] ∧ rows.length = 24 * i)
    (fun i x s hx hi => by
      obtain ⟨rows, o2, rfl, hr⟩ := hi
      obtain ⟨rfl, hb⟩ := rng_get hx
      obtain ⟨c, ec⟩ := cell_run hc (ns := ns) (i := i) k
      obtain ⟨xs, hx, ex⟩ := numbers_run hn (c := c + 11 * (i : Int)) k
      have hz : szOk (rows.length + xs.length) = true := szOk_small (by omega)
      have m1 : mulOk 11 (i : Int) = true := by unfold mulOk; simp
      refine ⟨rfl, [some (.scr ns), some (.lst true (numsD rows)), some (.int i)], [some (.scr ns), some (.lst true (numsD (rows ++ xs))), some (.int i)], by simp, ?_, rfl, rows ++ xs, _, rfl, by simp; omega⟩
      simp [b__law_pool_0, ec, ex, hz, m1])
    [some (.scr ns), some (.lst true []), none] ⟨[], none, rfl, rfl⟩
  have hr : rows.length = 24 * m := by simpa using hr
  refine ⟨pool rows 0, ⟨rows, 0, rfl, fun q => by subst q; simp at hr; omega, by omega, by omega⟩, ?_⟩
  have rk : rngOk (m : Int) = true := rngOk_small (by omega) (by omega)
  simp [-bi2_min, -bi2_max, b1, b2, rk, e1, pool]
end
end Tw

set_option Elab.async false
set_option linter.all false
set_option maxRecDepth 100000
set_option maxHeartbeats 1000000
/-! Tw.LibC: values that are looked at; the laws' small tests. -/
namespace Tw
open Lib
open PySem (Str)
/-! ### texts of plain letters -/
section
open PySem
def asc (x : Str) : Bool := x.cps.toList.all (· < 128)
theorem up128 : (List.range 128).all (fun c => (Unicode.upperOf c).length == 1 && (Unicode.upperOf c).all (· < 128)) = true := by decide +kernel
theorem asc_upper {x : Str} (h : asc x = true) : asc (Txt.upper x) = true ∧ (Txt.upper x).length = x.length := by
  have key : ∀ c ∈ x.cps.toList, (Unicode.upperOf c).length = 1 ∧ ∀ d ∈ Unicode.upperOf c, d < 128 := by
    intro c hc
    have h1 := List.all_eq_true.mp h c hc
    have := List.all_eq_true.mp up128 c (List.mem_range.mpr (by simpa using h1))
    simpa using this
  have e : (Txt.upper x).cps.toList = x.cps.toList.flatMap Unicode.upperOf := by
    show (placed x fun _ c => Unicode.upperOf c).toList = _
    unfold placed
    rw [Array.toList_flatten, Array.toList_mapIdx]
    simp [List.flatMap_def]
    congr 1
    apply List.ext_getElem <;> simp
  have l : ∀ l : List Nat, (∀ c ∈ l, (Unicode.upperOf c).length = 1 ∧ ∀ d ∈ Unicode.upperOf c, d < 128) → (l.flatMap Unicode.upperOf).length = l.length := by
    intro l
    induction l with
    | nil => intro _; rfl
    | cons c l ih =>
      intro h
      rw [List.flatMap_cons, List.length_append, ih fun d hd => h d (List.mem_cons_of_mem _ hd), (h c List.mem_cons_self).1, List.length_cons]
      omega
  refine ⟨?_, ?_⟩
  · unfold asc
    rw [e, List.all_eq_true]
    intro d hd
    obtain ⟨c, hc, hd⟩ := List.mem_flatMap.mp hd
    simpa using (key c hc).2 d hd
  · show (Txt.upper x).cps.size = x.cps.size
    rw [← Array.length_toList, e, l _ key, Array.length_toList]
theorem asc_digits (m : Nat) : ∀ c ∈ (Nat.repr m).toList, c.toNat < 128 := by
  intro c hc
  rw [Nat.toList_repr] at hc
  have h := Nat.isDigit_of_mem_toDigits (by decide) (by decide) hc
  simp [Char.isDigit] at h
  have h2 : c.val.toNat ≤ 57 := by
    have := h.2
    exact this
  show c.val.toNat < 128
  omega
theorem asc_toString (i : Int) : asc (toString i : Str) = true := by
  unfold asc
  rw [Str.ofString_eq_toList, List.all_eq_true]
  intro c hc
  simp only [List.mem_map, List.toList_toArray] at hc
  obtain ⟨a, ha, rfl⟩ := hc
  refine decide_eq_true ?_
  cases i with
  | ofNat m => exact asc_digits m a ha
  | negSucc m => 
    have e : toString (Int.negSucc m) = "-" ++ Nat.repr (m + 1) := rfl
    rw [e, String.toList_append] at ha
    rcases List.mem_append.mp ha with ha | ha
    · have : a = '-' := by simpa using ha
      subst this; decide
    · exact asc_digits _ a ha
theorem strOk_asc {x : Str} (h : asc x = true) : PyData.strOk x = true := by
  unfold PyData.strOk
  rw [← Array.all_toList, List.all_eq_true]
  intro c hc
  have := List.all_eq_true.mp h c hc
  simp at this ⊢
  omega
theorem asc_append {x y : Str} (h : asc x = true) (h' : asc y = true) : asc (x ++ y) = true := by
  have : (x ++ y).cps.toList = x.cps.toList ++ y.cps.toList := by
    show (x.cps ++ y.cps).toList = _
    simp
  unfold asc at *
  rw [this, List.all_append, h, h']; rfl
theorem len_toString (i : Int) : (toString i : Str).length ≤ i.natAbs + 2 := by
  show (toString i : Str).cps.size ≤ _
  rw [← Array.length_toList, Str.ofString_eq_toList]
  have h : ∀ m : Nat, (Nat.repr m).toList.length ≤ m + 1 := fun m => by
    rw [Nat.toList_repr]
    exact PySem.toDigits_len_le 10 m
  rw [List.length_map]
  cases i with
  | ofNat m => exact Nat.le_trans (h m) (by show m + 1 ≤ m + 2; omega)
  | negSucc m =>
    have e : toString (Int.negSucc m) = "-" ++ Nat.repr (m + 1) := rfl
    rw [e, String.toList_append, List.length_append]
    have := h (m + 1)
    show 1 + _ ≤ m + 1 + 2
    omega
end
/-- a settled value, no deeper than n, all in it no greater than b -/
inductive Sv (b : Nat) : Nat → D → Prop
  | non {n} : Sv b n .non
  | bl {n c} : Sv b n (.bl c)
  | int {n} {i : Int} : i.natAbs ≤ b → Sv b n (.int i)
  | str {n} {x : Str} : asc x = true → x.length ≤ b → Sv b n (.str x)
  | tup {n} {xs : List D} : xs.length ≤ b → (∀ d ∈ xs, Sv b n d) → Sv b (n + 1) (.tup xs)
  | lst {n} {xs : List D} : xs.length ≤ b → (∀ d ∈ xs, Sv b n d) → Sv b (n + 1) (.lst false xs)
theorem Sv.le {b n : Nat} {d : D} (h : Sv b n d) : ∀ {c m : Nat}, b ≤ c → n ≤ m → Sv c m d := by
  induction h with
  | non => exact fun _ _ => .non
  | bl => exact fun _ _ => .bl
  | int h => exact fun a _ => .int (by omega)
  | str h h2 => exact fun a _ => .str h (by omega)
  | tup h _ ih =>
    intro c m a e
    obtain ⟨m, rfl⟩ : ∃ k, m = k + 1 := ⟨m - 1, by omega⟩
    exact .tup (by omega) fun d hd => ih d hd a (by omega)
  | lst h _ ih =>
    intro c m a e
    obtain ⟨m, rfl⟩ : ∃ k, m = k + 1 := ⟨m - 1, by omega⟩
    exact .lst (by omega) fun d hd => ih d hd a (by omega)
theorem frzL_of : ∀ {xs : List D}, (∀ d ∈ xs, frz d = true) → frzL xs = true
  | [], _ => rfl
  | x :: xs, h => by
    rw [frzL_cons, h x List.mem_cons_self, frzL_of fun d hd => h d (List.mem_cons_of_mem _ hd)]; rfl
theorem frz_of {xs : List D} (h : frzL xs = true) : ∀ d ∈ xs, frz d = true := by
  induction xs with
  | nil => intro d hd; cases hd
  | cons x xs ih =>
    rw [frzL_cons, Bool.and_eq_true] at h
    intro d hd
    rcases List.mem_cons.mp hd with rfl | hd
    · exact h.1
    · exact ih h.2 d hd
theorem shpL_of {n : Nat} : ∀ {xs : List D}, (∀ d ∈ xs, shp n d = true) → shpL n xs = true
  | [], _ => by unfold shpL; rfl
  | x :: xs, h => by
    unfold shpL
    rw [h x List.mem_cons_self, shpL_of fun d hd => h d (List.mem_cons_of_mem _ hd)]; rfl
mutual
/-- settled, no dict within -/
def pl : D → Bool
  | .tup xs => plL xs
  | .lst o xs => !o && plL xs
  | .dic _ _ _ => false
  | .non => true | .bl _ => true | .int _ => true | .str _ => true | .scr _ => true
def plL : List D → Bool
  | [] => true
  | d :: ds => pl d && plL ds
end
@[simp] theorem pl_non : pl .non = true := (rfl)
@[simp] theorem pl_bl {b} : pl (.bl b) = true := (rfl)
@[simp] theorem pl_int {b} : pl (.int b) = true := (rfl)
@[simp] theorem pl_str {b} : pl (.str b) = true := (rfl)
@[simp] theorem pl_scr {b} : pl (.scr b) = true := (rfl)
@[simp] theorem pl_dic {o ks vs} : pl (.dic o ks vs) = false := by unfold pl; exact (rfl)
@[simp] theorem pl_tup {xs} : pl (.tup xs) = plL xs := by unfold pl; exact (rfl)
@[simp] theorem pl_lst {o xs} : pl (.lst o xs) = (!o && plL xs) := by unfold pl; exact (rfl)
@[simp] theorem plL_nil : plL [] = true := (rfl)
@[simp] theorem plL_cons {d ds} : plL (d :: ds) = (pl d && plL ds) := (rfl)
mutual
theorem pl_frz : ∀ {d : D}, pl d = true → frz d = true
  | .non, _ => rfl
  | .bl _, _ => rfl
  | .int _, _ => rfl
  | .str _, _ => rfl
  | .scr _, _ => rfl
  | .tup xs, h => by rw [frz_tup]; exact plL_frz (by simpa using h)
  | .lst true xs, h => by simp at h
  | .lst false xs, h => by rw [frz_lstF]; exact plL_frz (by simpa using h)
  | .dic _ _ _, h => by simp at h
theorem plL_frz : ∀ {ds : List D}, plL ds = true → frzL ds = true
  | [], _ => rfl
  | d :: ds, h => by
    rw [plL_cons, Bool.and_eq_true] at h
    rw [frzL_cons, pl_frz h.1, plL_frz h.2]; rfl
end
theorem plL_of : ∀ {xs : List D}, (∀ d ∈ xs, pl d = true) → plL xs = true
  | [], _ => rfl
  | x :: xs, h => by
    rw [plL_cons, h x List.mem_cons_self, plL_of fun d hd => h d (List.mem_cons_of_mem _ hd)]; rfl
theorem pl_of {xs : List D} (h : plL xs = true) : ∀ d ∈ xs, pl d = true := by
  induction xs with
  | nil => intro d hd; cases hd
  | cons x xs ih =>
    rw [plL_cons, Bool.and_eq_true] at h
    intro d hd
    rcases List.mem_cons.mp hd with rfl | hd
    · exact h.1
    · exact ih h.2 d hd
theorem fzL_of : ∀ {xs : List D}, (∀ d ∈ xs, fz d = d) → fzL xs = xs
  | [], _ => by unfold fzL; rfl
  | x :: xs, h => by
    unfold fzL
    rw [h x List.mem_cons_self, fzL_of fun d hd => h d (List.mem_cons_of_mem _ hd)]
theorem Sv.frz {b n : Nat} {d : D} (h : Sv b n d) : frz d = true := by
  induction h with
  | tup h _ ih => rw [frz_tup]; exact frzL_of ih
  | lst h _ ih => rw [frz_lstF]; exact frzL_of ih
  | _ => rfl
theorem Sv.pl {b n : Nat} {d : D} (h : Sv b n d) : pl d = true := by
  induction h with
  | tup h _ ih => rw [pl_tup]; exact plL_of ih
  | lst h _ ih => rw [pl_lst]; exact plL_of ih
  | _ => rfl
theorem Sv.plL {b n : Nat} {xs : List D} (h : ∀ d ∈ xs, Sv b n d) : plL xs = true := plL_of fun d hd => (h d hd).pl
theorem Sv.fz {b n : Nat} {d : D} (h : Sv b n d) : fz d = d := by
  induction h with
  | tup h _ ih => rw [fz_tup, fzL_of ih]
  | lst h _ ih => rw [fz_lst, fzL_of ih]
  | _ => rfl
theorem Sv.shp {b n : Nat} {d : D} (h : Sv b n d) : shp n d = true := by
  induction h with
  | tup h _ ih => unfold Tw.shp; exact shpL_of ih
  | lst h _ ih => unfold Tw.shp; exact shpL_of ih
  | str h _ => unfold Tw.shp; exact strOk_asc h
  | _ => first | (unfold Tw.shp; rfl) | rfl
theorem Sv.shp60 {b n : Nat} {d : D} (h : Sv b n d) (hn : n ≤ 60) : Tw.shp 60 d = true := (h.le (Nat.le_refl b) hn).shp
theorem Sv.frzL {b n : Nat} {xs : List D} (h : ∀ d ∈ xs, Sv b n d) : frzL xs = true := frzL_of fun d hd => (h d hd).frz
theorem Sv.fzL {b n : Nat} {xs : List D} (h : ∀ d ∈ xs, Sv b n d) : fzL xs = xs := fzL_of fun d hd => (h d hd).fz
theorem Sv.tupI {b n : Nat} {xs : List D} (h : Sv b n (.tup xs)) : ∀ d ∈ xs, Sv b (n - 1) d := by
  cases h with
  | tup _ h => simpa using h
theorem Sv.tupL {b n : Nat} {xs : List D} (h : Sv b n (.tup xs)) : xs.length ≤ b ∧ 1 ≤ n := by
  cases h with
  | tup h _ => exact ⟨h, by omega⟩
theorem Sv.lstI {b n : Nat} {o : Bool} {xs : List D} (h : Sv b n (.lst o xs)) : ∀ d ∈ xs, Sv b (n - 1) d := by
  cases h with
  | lst _ h => simpa using h
theorem Sv.lstL {b n : Nat} {o : Bool} {xs : List D} (h : Sv b n (.lst o xs)) : xs.length ≤ b ∧ 1 ≤ n ∧ o = false := by
  cases h with
  | lst h _ => exact ⟨h, by omega, rfl⟩
theorem eqD_any {x y : D} (hx : Tw.shp 60 x = true) (hy : Tw.shp 60 y = true) (h : ∀ a b, x = .str a → y = .str b → False) : eqD x y = some (PySem.PyData.eqv (toPy x) (toPy y)) := by
  unfold eqD
  split
  · exact (h _ _ rfl rfl).elim
  · rw [if_pos (by rw [hx, hy]; rfl)]
theorem eqD_of {b n c m : Nat} {x y : D} (h : Sv b n x) (hn : n ≤ 60) (h' : Sv c m y) (hm : m ≤ 60) : eqD x y = some (PySem.PyData.eqv (toPy x) (toPy y)) := by
  by_cases q : ∃ a b, x = .str a ∧ y = .str b
  · obtain ⟨a, b, rfl, rfl⟩ := q
    show some (decide (a = b)) = some _
    unfold toPy PySem.PyData.eqv
    rfl
  · exact eqD_any (h.shp60 hn) (h'.shp60 hm) fun a b e1 e2 => q ⟨a, b, e1, e2⟩
mutual
theorem eqv_refl : ∀ (x : D), PySem.PyData.eqv (toPy x) (toPy x) = true ∨ frz x = false ∨ ¬ ∃ b n, Sv b n x
  | .non => .inl (by unfold toPy PySem.PyData.eqv; rfl)
  | .bl c => .inl (by unfold toPy PySem.PyData.eqv; simp)
  | .int c => .inl (by unfold toPy PySem.PyData.eqv; simp)
  | .str c => .inl (by unfold toPy PySem.PyData.eqv; simp)
  | .tup xs => by
    by_cases h : ∃ b n, ∀ d ∈ xs, Sv b n d
    · obtain ⟨b, n, h⟩ := h
      refine .inl ?_
      unfold toPy PySem.PyData.eqv
      exact eqvAll_refl xs b n h
    · refine .inr (.inr fun ⟨b, n, q⟩ => h ⟨b, n - 1, q.tupI⟩)
  | .lst o xs => by
    by_cases h : ∃ b n, ∀ d ∈ xs, Sv b n d
    · obtain ⟨b, n, h⟩ := h
      refine .inl ?_
      unfold toPy PySem.PyData.eqv
      exact eqvAll_refl xs b n h
    · refine .inr (.inr fun ⟨b, n, q⟩ => h ⟨b, n - 1, q.lstI⟩)
  | .dic _ _ _ => .inr (.inr fun ⟨_, _, q⟩ => by cases q)
  | .scr _ => .inr (.inr fun ⟨_, _, q⟩ => by cases q)
theorem eqvAll_refl : ∀ (xs : List D) (b n : Nat), (∀ d ∈ xs, Sv b n d) → PySem.PyData.eqvAll (toPyL xs) (toPyL xs) = true
  | [], _, _, _ => by unfold toPyL PySem.PyData.eqvAll; rfl
  | x :: xs, b, n, h => by
    unfold toPyL PySem.PyData.eqvAll
    rw [eqvAll_refl xs b n fun d hd => h d (List.mem_cons_of_mem _ hd), Bool.and_true]
    rcases eqv_refl x with q | q | q
    · exact q
    · rw [(h x List.mem_cons_self).frz] at q; cases q
    · exact (q ⟨b, n, h x List.mem_cons_self⟩).elim
end
theorem Sv.eqv {b n : Nat} {x : D} (h : Sv b n x) : PySem.PyData.eqv (toPy x) (toPy x) = true := by
  rcases eqv_refl x with q | q | q
  · exact q
  · rw [h.frz] at q; cases q
  · exact (q ⟨b, n, h⟩).elim
@[simp] theorem eqD_int {a b : Int} : eqD (.int a) (.int b) = some (decide (a = b)) := by
  unfold eqD toPy PySem.PyData.eqv shp
  rfl
@[simp] theorem eqD_bl {a b : Bool} : eqD (.bl a) (.bl b) = some (a == b) := by
  unfold eqD toPy PySem.PyData.eqv shp
  rfl
@[simp] theorem eqD_non : eqD .non .non = some true := by
  unfold eqD toPy PySem.PyData.eqv shp
  rfl
@[simp] theorem eqD_str {a b : Str} : eqD (.str a) (.str b) = some (decide (a = b)) := (rfl)
@[simp] theorem isNonD_dic {o ks vs} : isNonD (.dic o ks vs) = false := rfl
@[simp] theorem isNonD_scr {ns} : isNonD (.scr ns) = false := rfl
/-! ### words -/
theorem toPyL_nums : ∀ (a b : List Int), PySem.PyData.eqvAll (toPyL (numsD a)) (toPyL (numsD b)) = decide (a = b)
  | [], [] => by unfold numsD toPyL; simp [PySem.PyData.eqvAll]
  | [], b :: bs => by unfold numsD; simp [PySem.PyData.eqvAll, toPyL]
  | a :: as, [] => by unfold numsD; simp [PySem.PyData.eqvAll, toPyL]
  | a :: as, b :: bs => by
    rw [numsD_cons, numsD_cons]
    unfold toPyL PySem.PyData.eqvAll
    rw [toPyL_nums as bs]
    unfold toPy PySem.PyData.eqv
    by_cases h : a = b
    · subst h; simp
    · simp [h]
theorem shp_nums (a : List Int) (n : Nat) : shpL n (numsD a) = true := by
  induction a with
  | nil => exact shpL_of fun d h => by cases h
  | cons a as ih => rw [numsD_cons]; unfold shpL shp; exact ih
@[simp] theorem eqD_nums {a b : List Int} : eqD (.tup (numsD a)) (.tup (numsD b)) = some (decide (a = b)) := by
  unfold eqD
  have h : ∀ a, shp 60 (.tup (numsD a)) = true := fun a => by unfold shp; exact shp_nums a 59
  simp only [h]
  unfold toPy PySem.PyData.eqv
  rw [toPyL_nums]; rfl
/-- letters -/
def IsWord (l : Int) (n : Nat) (a : List Int) : Prop := a.length ≤ n ∧ ∀ x ∈ a, 0 ≤ x ∧ x < l
theorem IsWord.sv {l : Int} {n : Nat} {a : List Int} (h : IsWord l n a) {b : Nat} (hb : n ≤ b) (hl : l ≤ b) : Sv b 1 (.tup (numsD a)) := by
  refine .tup (by rw [numsD_len]; have := h.1; omega) fun d hd => ?_
  obtain ⟨x, hx, rfl⟩ := List.mem_map.mp hd
  have := h.2 x hx
  exact .int (by omega)
/-! ### the small tests -/
def kindD : D → Int
  | .bl _ => 1 | .int _ => 2 | .str _ => 3 | .tup _ => 4 | .lst _ _ => 5 | .scr _ => 5 | .non => 6
  | _ => 0
def lawInt (x : D) (lo hi : Int) : Bool := match x with
  | .int i => decide (lo ≤ i) && decide (i ≤ hi)
  | _ => false
def lawInts (x : D) (lo hi : Int) : Bool := match x with
  | .tup xs => xs.all (lawInt · lo hi)
  | _ => false
def lawTag (x : D) (w : Str) (n : Int) : Bool := match x with
  | .tup (.str s :: xs) => decide ((xs.length : Int) + 1 = n) && decide (s = w)
  | _ => false
section
variable {Φ : Str → Option Fn} {b m : Nat}
theorem kind_run (h : Φ "_law_kind" = some F__law_kind) {k : Nat} (hk : 1 ≤ k) {x : D} (hx : pl x = true ∨ ∃ xs, x = .lst true xs) : run Φ k "_law_kind" [x] = .ok (.int (kindD x)) [some x] := by
  obtain ⟨k, rfl⟩ : ∃ j, k = j + 1 := ⟨k - 1, by omega⟩
  rw [run_succ h]
  simp only [F__law_kind, c__law_kind]
  rcases hx with hx | ⟨xs, rfl⟩
  · have hf := pl_frz hx
    cases x with
    | dic o ks vs => simp at hx
    | _ => simp [hf, kindD]
  · simp [kindD]
theorem is_run (h : Φ "_law_is" = some F__law_is) {k : Nat} (hk : 1 ≤ k) {x due : Bool} : run Φ k "_law_is" [.bl x, .bl due] = .ok (.bl (x == due)) [some (.bl x), some (.bl due)] := by
  obtain ⟨k, rfl⟩ : ∃ j, k = j + 1 := ⟨k - 1, by omega⟩
  rw [run_succ h]
  simp only [F__law_is, c__law_is]
  cases due <;> simp
theorem int_run (hk : Φ "_law_kind" = some F__law_kind) (h : Φ "_law_int" = some F__law_int) {k : Nat} (kk : 2 ≤ k) {x : D} (hp : pl x = true) {lo hi : Int} : run Φ k "_law_int" [x, .int lo, .int hi] = .ok (.bl (lawInt x lo hi)) [some x, some (.int lo), some (.int hi)] := by
  obtain ⟨k, rfl⟩ : ∃ j, k = j + 1 := ⟨k - 1, by omega⟩
  rw [run_succ h]
  simp only [F__law_int, c__law_int]
  have hx := pl_frz hp
  have e := kind_run hk (k := k) (by omega) (.inl hp)
  cases x with
  | int i =>
    simp [hx, e, kindD, lawInt]
    by_cases h1 : lo ≤ i <;> simp [h1]
  | _ => simp [hx, e, kindD, lawInt]
end
end Tw

set_option Elab.async false
set_option linter.all false
set_option maxRecDepth 100000
set_option maxHeartbeats 1000000
/-! Tw.LibD: the laws' tests and drawn words. -/
namespace Tw
open Lib
open PySem (Str)
section
variable {Φ : Str → Option Fn} {b m : Nat}
theorem ints_run (hk : Φ "_law_kind" = some F__law_kind) (hi : Φ "_law_int" = some F__law_int) (h : Φ "_law_ints" = some F__law_ints) {k : Nat} (kk : 3 ≤ k) {x : D} (hp : pl x = true) {lo up : Int} : run Φ k "_law_ints" [x, .int lo, .int up] = .ok (.bl (lawInts x lo up)) [some x, some (.int lo), some (.int up)] := by
  obtain ⟨k, rfl⟩ : ∃ j, k = j + 1 := ⟨k - 1, by omega⟩
  rw [run_succ h]
  simp only [F__law_ints, c__law_ints]
  have hx := pl_frz hp
  cases x with
  | tup xs =>
    have hpl : plL xs = true := by simpa using hp
    have hxs : frzL xs = true := by simpa using hx
    obtain ⟨f, s', e1, q⟩ := forGo_inv (t := .nm 3) (c := b__law_ints_0) (k := none) (e := ⟨run Φ k, []⟩) (xs := xs)
      (fun i s => ∃ o3, s = [some (.tup xs), some (.int lo), some (.int up), o3] ∧ (xs.take i).all (lawInt · lo up) = true)
      (fun f s => (∃ o3, s = [some (.tup xs), some (.int lo), some (.int up), o3]) ∧ ((f = .nx ∧ lawInts (.tup xs) lo up = true) ∨ (f = .rt (.bl false) ∧ lawInts (.tup xs) lo up = false)))
      (fun i x s hx hi' => by
        obtain ⟨o3, rfl, hall⟩ := hi'
        have hmem : x ∈ xs := List.mem_of_getElem? hx
        have hz : frz x = true := frz_of hxs x hmem
        refine ⟨hz, [some (.tup xs), some (.int lo), some (.int up), some x], by simp, ?_⟩
        have e := int_run hk hi (k := k) (by omega) (pl_of hpl x hmem) (lo := lo) (hi := up)
        cases hl : lawInt x lo up with
        | true =>
          refine ⟨.nx, _, by simp [b__law_ints_0, hz, hxs, e, hl]; rfl, ?_⟩
          refine ⟨rfl, some x, rfl, ?_⟩
          rw [List.take_add_one, hx, List.all_append, hall]
          simp [hl]
        | false =>
          refine ⟨.rt (.bl false), _, by simp [b__law_ints_0, hz, hxs, e, hl], ⟨some x, rfl⟩, .inr ⟨rfl, ?_⟩⟩
          simp only [lawInts]
          rw [List.all_eq_false]
          exact ⟨x, hmem, by simp [hl]⟩)
      (fun s hs => by
        obtain ⟨o3, rfl, hall⟩ := hs
        exact ⟨⟨o3, rfl⟩, .inl ⟨rfl, by simpa [lawInts] using hall⟩⟩)
      [some (.tup xs), some (.int lo), some (.int up), none] ⟨none, rfl, rfl⟩
    obtain ⟨⟨o3, rfl⟩, ⟨rfl, q⟩ | ⟨rfl, q⟩⟩ := q
    · simp [hxs, e1, q]
    · simp [hxs, e1, q]
  | dic o ks vs => simp at hp
  | _ => simp [hx, lawInts]
theorem tag_run (h : Φ "_law_tag" = some F__law_tag) {k : Nat} (kk : 1 ≤ k) {x : D} (hp : pl x = true) {w : Str} {n : Int} (hn : 1 ≤ n) : run Φ k "_law_tag" [x, .str w, .int n] = .ok (.bl (lawTag x w n)) [some x, some (.str w), some (.int n)] := by
  obtain ⟨k, rfl⟩ : ∃ j, k = j + 1 := ⟨k - 1, by omega⟩
  rw [run_succ h]
  simp only [F__law_tag, c__law_tag]
  have hx := pl_frz hp
  cases x with
  | tup xs =>
    have hpl : plL xs = true := by simpa using hp
    have hxs : frzL xs = true := by simpa using hx
    cases xs with
    | nil => 
      have : ¬ ((0 : Int) = n) := by omega
      simp [hxs, lawTag, this]
    | cons x xs =>
      by_cases hl : ((xs.length : Int) + 1 = n)
      · subst hl
        cases x <;> simp_all [lawTag]
      · cases x <;> simp_all [lawTag]
  | dic o ks vs => simp at hp
  | _ => simp [hx, lawTag]
/-- lawIsWord -/
def lawIsWord (l m : Int) (x : D) : Bool := match x with
  | .tup xs => lawInts x 0 (l - 1) && decide ((xs.length : Int) ≤ m)
  | _ => false
theorem is_word_run (hk : Φ "_law_kind" = some F__law_kind) (hi : Φ "_law_int" = some F__law_int) (hs : Φ "_law_ints" = some F__law_ints) (h : Φ "_law_is_word" = some F__law_is_word) {k : Nat} (kk : 4 ≤ k) {x : D} (hp : pl x = true) {l n : Int} : run Φ k "_law_is_word" [.int l, .int n, x] = .ok (.bl (lawIsWord l n x)) [some (.int l), some (.int n), some x] := by
  obtain ⟨k, rfl⟩ : ∃ j, k = j + 1 := ⟨k - 1, by omega⟩
  rw [run_succ h]
  simp only [F__law_is_word, c__law_is_word]
  have hx := pl_frz hp
  have e := ints_run hk hi hs (k := k) (by omega) hp (lo := 0) (up := l - 1)
  cases x with
  | tup xs => 
    have hxs : frzL xs = true := by simpa using hx
    cases hl : lawInts (.tup xs) 0 (l - 1) <;> simp [hxs, e, lawIsWord, hl]
  | _ => simp [hx, e, lawIsWord, lawInts]
/-- what the laws hold equal -/
def SvE (b n : Nat) (x y : D) : Prop := (Sv b n x ∧ x = y) ∨ ∃ o p xs, x = .lst o xs ∧ y = .lst p xs ∧ Sv b n (.lst false xs)
theorem equal_run (hk : Φ "_law_kind" = some F__law_kind) (h : Φ "_law_equal" = some F__law_equal) (hb : b ≤ 1000000) : ∀ {n : Nat} (_ : n ≤ 60) {k : Nat} (_ : n + 2 ≤ k) {x y : D} (_ : SvE b n x y), run Φ k "_law_equal" [x, y] = .ok (.bl true) [some x, some y] := by
  intro n
  induction n with
  | zero =>
    intro hn k kk x y hx
    obtain ⟨k, rfl⟩ : ∃ j, k = j + 1 := ⟨k - 1, by omega⟩
    rw [run_succ h]
    simp only [F__law_equal, c__law_equal]
    rcases hx with ⟨hx, rfl⟩ | ⟨o, p, xs, _, _, hx⟩
    · have e := kind_run hk (k := k) (by omega) (.inl hx.pl)
      cases hx <;> simp [e, kindD]
    · have := hx.lstL; omega
  | succ n ih =>
    intro hn k kk x y hx
    obtain ⟨k, rfl⟩ : ∃ j, k = j + 1 := ⟨k - 1, by omega⟩
    rw [run_succ h]
    simp only [F__law_equal, c__law_equal]
    have loop : ∀ (x y : D) (xs : List D), (∀ i : Int, itemD x (.int i) = (ixOf xs.length i).bind fun j => xs[j]?) → (∀ i : Int, itemD y (.int i) = (ixOf xs.length i).bind fun j => xs[j]?) → (∀ d ∈ xs, Sv b n d) → ∀ e : Env, e.call = run Φ k →
        ∃ o2, forGo (.nm 2) b__law_equal_0 none (rng 0 xs.length) { e with refs := e.refs.filter (· < 2) } [some x, some y, none] = .ok .nx [some x, some y, o2] := by
      intro x y xs gx gy hs e he
      obtain ⟨s', e1, o2, rfl⟩ := forGo_nx (t := .nm 2) (c := b__law_equal_0) (k := none) (e := { e with refs := e.refs.filter (· < 2) }) (xs := rng 0 xs.length)
        (fun i s => ∃ o2, s = [some x, some y, o2])
        (fun i z s hz hi => by
          obtain ⟨o2, rfl⟩ := hi
          obtain ⟨rfl, hb'⟩ := rng_get hz
          have hi : i < xs.length := by omega
          have gi : xs[i]? = some xs[i] := List.getElem?_eq_getElem hi
          have hv := hs xs[i] (List.getElem_mem hi)
          have e2 := ih (by omega) (k := k) (by omega) (x := xs[i]) (y := xs[i]) (.inl ⟨hv, rfl⟩)
          refine ⟨rfl, [some x, some y, some (.int i)], [some x, some y, some (.int i)], ?_, ?_, rfl, some (.int i), rfl⟩
          · simp
          · simp [b__law_equal_0, gx, gy, ixOf_nat hi, gi, hv.frz, he, e2])
        [some x, some y, none] ⟨none, rfl⟩
      exact ⟨o2, e1⟩
    rcases hx with ⟨hx, rfl⟩ | ⟨o, p, xs, rfl, rfl, hx⟩
    · have e := kind_run hk (k := k) (by omega) (.inl hx.pl)
      cases hx with
      | tup hl hs =>
        rename_i xs
        obtain ⟨o2, e1⟩ := loop (.tup xs) (.tup xs) xs (fun _ => rfl) (fun _ => rfl) hs ⟨run Φ k, []⟩ rfl
        have e1 : forGo (.nm 2) b__law_equal_0 none (rng 0 xs.length) ⟨run Φ k, []⟩ [some (.tup xs), some (.tup xs), none] = _ := e1
        have hz : frzL xs = true := Sv.frzL hs
        have rk : rngOk (xs.length : Int) = true := by
          unfold rngOk
          rw [Bool.and_eq_true, decide_eq_true_eq, decide_eq_true_eq]
          omega
        simp [e, kindD, hz, e1, rk]
      | lst hl hs =>
        rename_i xs
        obtain ⟨o2, e1⟩ := loop (.lst false xs) (.lst false xs) xs (fun _ => rfl) (fun _ => rfl) hs ⟨run Φ k, []⟩ rfl
        have e1 : forGo (.nm 2) b__law_equal_0 none (rng 0 xs.length) ⟨run Φ k, []⟩ [some (.lst false xs), some (.lst false xs), none] = _ := e1
        have hz : frzL xs = true := Sv.frzL hs
        have rk : rngOk (xs.length : Int) = true := by
          unfold rngOk
          rw [Bool.and_eq_true, decide_eq_true_eq, decide_eq_true_eq]
          omega
        simp [e, kindD, hz, e1, rk]
      | _ => simp [e, kindD]
    · have hs : ∀ d ∈ xs, Sv b n d := hx.lstI
      have hl := hx.lstL.1
      have hz : frzL xs = true := Sv.frzL hs
      have rk : rngOk (xs.length : Int) = true := by
        unfold rngOk
        rw [Bool.and_eq_true, decide_eq_true_eq, decide_eq_true_eq]
        omega
      have hzp : plL xs = true := Sv.plL hs
      have ek : ∀ o, run Φ k "_law_kind" [.lst o xs] = .ok (.int 5) [some (.lst o xs)] := fun o => kind_run hk (k := k) (by omega) (by cases o with
        | true => exact .inr ⟨xs, rfl⟩
        | false => exact .inl (by simpa using hzp))
      have e1 : ∀ r : List Nat, r.all (· < 2) = true → ∃ o2, forGo (.nm 2) b__law_equal_0 none (rng 0 xs.length) ⟨run Φ k, r⟩ [some (.lst o xs), some (.lst p xs), none] = .ok .nx [some (.lst o xs), some (.lst p xs), o2] := fun r hr => by
        obtain ⟨o2, e1⟩ := loop (.lst o xs) (.lst p xs) xs (fun _ => rfl) (fun _ => rfl) hs ⟨run Φ k, r⟩ rfl
        have : r.filter (· < 2) = r := List.filter_eq_self.mpr (by simpa using hr)
        rw [this] at e1
        exact ⟨o2, e1⟩
      cases o <;> cases p
      · obtain ⟨o2, e1⟩ := e1 [] rfl
        simp [ek, hz, e1, rk]
      · obtain ⟨o2, e1⟩ := e1 [1] rfl
        simp [ek, hz, e1, rk]
      · obtain ⟨o2, e1⟩ := e1 [0] rfl
        simp [ek, hz, e1, rk]
      · obtain ⟨o2, e1⟩ := e1 [0, 1] rfl
        simp [ek, hz, e1, rk]
end
end Tw

set_option Elab.async false
set_option linter.all false
set_option maxRecDepth 100000
set_option maxHeartbeats 1000000
/-! Tw.LibE: drawn words, bent values. -/
namespace Tw
open Lib
open PySem (Str)
/-! ### slices -/
theorem cut_to (xs : List D) (k : Nat) : cutD xs none (some (k : Int)) = xs.take k := by
  unfold cutD
  rw [HT.sIx_none, HT.sIx_nat]
  simp [Nat.min_comm]
theorem cut_from (xs : List D) (k : Nat) : cutD xs (some (k : Int)) none = xs.drop k := by
  unfold cutD
  rw [HT.sIx_none, HT.sIx_nat]
  rcases Nat.le_total k xs.length with h | h
  · rw [Nat.min_eq_left h, List.take_of_length_le (by simp)]
  · rw [Nat.min_eq_right h, List.drop_eq_nil_of_le h, List.drop_length]; simp
theorem cut_both (xs : List D) (i j : Nat) : cutD xs (some (i : Int)) (some (j : Int)) = (xs.drop i).take (j - i) := by
  unfold cutD
  rw [HT.sIx_nat, HT.sIx_nat]
  rcases Nat.le_total i xs.length with h | h
  · rw [Nat.min_eq_left h]
    rcases Nat.le_total j xs.length with h2 | h2
    · rw [Nat.min_eq_left h2]
    · rw [Nat.min_eq_right h2, List.take_of_length_le (by simp), List.take_of_length_le (by simp; omega)]
  · rw [Nat.min_eq_right h, List.drop_length, List.drop_eq_nil_of_le h]; simp
@[simp] theorem sliceD_tup {xs : List D} {lo hi : Option Int} : sliceD (.tup xs) lo hi = some (.tup (cutD xs lo hi)) := (rfl)
@[simp] theorem sliceD_lst {o : Bool} {xs : List D} {lo hi : Option Int} : sliceD (.lst o xs) lo hi = ifB (frzL xs) (some (.lst true (cutD xs lo hi))) none := (rfl)
theorem frzL_take {xs : List D} (h : frzL xs = true) (k : Nat) : frzL (xs.take k) = true := frzL_of fun d hd => frz_of h d (List.mem_of_mem_take hd)
theorem frzL_drop {xs : List D} (h : frzL xs = true) (k : Nat) : frzL (xs.drop k) = true := frzL_of fun d hd => frz_of h d (List.mem_of_mem_drop hd)
@[simp] theorem frzL_append {xs ys : List D} : frzL (xs ++ ys) = (frzL xs && frzL ys) := by
  induction xs with
  | nil => rfl
  | cons x xs ih => rw [List.cons_append, frzL_cons, frzL_cons, ih, Bool.and_assoc]
/-! ### the pool -/
theorem IsPool.frz {n : Nat} {p : D} (h : IsPool n p) : frz p = false := by
  obtain ⟨r, a, rfl, _⟩ := h
  unfold pool
  rw [frz_lstT]
section
variable {Φ : Str → Option Fn} {b m : Nat}
theorem draw_run' (h : Φ "_law_draw" = some F__law_draw) {n : Nat} {p : D} (hp : IsPool (n + 1) p) {m : Int} (hm : 0 < m) {k : Nat} (hk : 1 ≤ k) :
    ∃ (r : Int) (p' : D), 0 ≤ r ∧ r < m ∧ IsPool n p' ∧ run Φ k "_law_draw" [p, .int m] = .ok (.int r) [some p', some (.int m)] := by
  obtain ⟨k, rfl⟩ : ∃ j, k = j + 1 := ⟨k - 1, by omega⟩
  obtain ⟨rows, at_, rfl, h1, h2, h3⟩ := hp
  obtain ⟨r, r0, r1, e⟩ := draw_run h (rows := rows) (at_ := at_) h1 h2 (by omega) hm k
  exact ⟨r, _, r0, r1, ⟨rows, at_ + 1, rfl, h1, h2, by omega⟩, e⟩
theorem word_run (hd : Φ "_law_draw" = some F__law_draw) (h : Φ "_law_word" = some F__law_word) {n : Nat} {p : D} {l most : Int} (hp : IsPool (n + most.toNat + 1) p) (hl : 0 < l) (h0 : 0 ≤ most) (hm : most ≤ 1000) {k : Nat} (hk : 2 ≤ k) :
    ∃ (a : List Int) (p' : D), IsWord l most.toNat a ∧ IsPool n p' ∧ run Φ k "_law_word" [p, .int l, .int most] = .ok (.tup (numsD a)) [some p', some (.int l), some (.int most)] := by
  obtain ⟨k, rfl⟩ : ∃ j, k = j + 1 := ⟨k - 1, by omega⟩
  obtain ⟨r, p1, hr0, hr, hp1, e1⟩ := draw_run' hd hp (m := most + 1) (by omega) (k := k) (by omega)
  obtain ⟨ds, s', e2, a, p2, o3, rfl, rfl, hp2, hl2, hw⟩ := lcGo_inv (own := [3]) (tg := .nm 3) (ifs := []) (elt := v__law_word_0) (k := none) (e := ⟨run Φ k, [0]⟩) (xs := rng 0 r) []
    (fun i ds s => ∃ (a : List Int) (p : D) (o3 : Option D), ds = numsD a ∧ s = [some p, some (.int l), some (.int most), o3] ∧ IsPool (n + (most.toNat - i)) p ∧ a.length = i ∧ ∀ x ∈ a, 0 ≤ x ∧ x < l)
    (fun i x acc s hx hi => by
      obtain ⟨a, p, o3, rfl, rfl, hp, hl1, hw⟩ := hi
      obtain ⟨rfl, hb⟩ := rng_get hx
      obtain ⟨q, p', hq0, hq, hp', e⟩ := draw_run' hd (n := n + (most.toNat - (i + 1))) (hp.le (by omega)) hl (k := k) (by omega)
      refine ⟨rfl, [some p, some (.int l), some (.int most), some (.int i)], by simp, true, _, rfl, .inl ⟨rfl, .int q, [some p', some (.int l), some (.int most), some (.int i)], ?_, rfl, szOk_small (by rw [numsD_len]; omega), a ++ [q], p', _, by rw [numsD_snoc], rfl, hp', by simp [hl1], ?_⟩⟩
      · simp [v__law_word_0, hp.frz, e]
      · intro x hx
        rcases List.mem_append.mp hx with hx | hx
        · exact hw x hx
        · rw [List.mem_singleton.mp hx]
          omega)
    [some p1, some (.int l), some (.int most), none] ⟨[], p1, none, rfl, rfl, hp1.le (by omega), rfl, fun x h => by cases h⟩
  have hl2 : a.length = r.toNat := by simpa using hl2
  refine ⟨a, p2, ⟨by omega, hw⟩, hp2.le (by omega), ?_⟩
  rw [run_succ h]
  simp only [F__law_word, c__law_word]
  have rk : rngOk r = true := rngOk_small (by omega) (by omega)
  have e3 : lc [3] (.nm 3) (itR1 (call "_law_draw" [.inl 0, .inr (bin .Add true (vP 2) (ret (.int 1)))])) [] v__law_word_0 ⟨run Φ k, [0]⟩ [some p, some (.int l), some (.int most), none] = .ok (.lst true (numsD a)) [some p2, some (.int l), some (.int most), none] := by
    refine lc_run (s1 := [some p1, some (.int l), some (.int most), none]) (xs := rng 0 r) ?_ ?_ e2
    · simp [hp.frz, e1, rk]
    · simp
  simp [hp.frz, e3]
/-- settled, or a new list of settled ones -/
def SvO (b n : Nat) (r : D) : Prop := Sv b n r ∨ ∃ xs, r = .lst true xs ∧ Sv b n (.lst false xs)
theorem SvO.fz {b n : Nat} {r : D} (h : SvO b n r) : Sv b n (fz r) := by
  rcases h with h | ⟨xs, rfl, h⟩
  · rw [h.fz]; exact h
  · rw [fz_lst, Sv.fzL h.lstI]; exact h
theorem SvO.le {b n c m : Nat} {r : D} (h : SvO b n r) (hb : b ≤ c) (hn : n ≤ m) : SvO c m r := by
  rcases h with h | ⟨xs, rfl, h⟩
  · exact .inl (h.le hb hn)
  · exact .inr ⟨xs, rfl, h.le hb hn⟩
theorem SvO.frzE {b n : Nat} {r : D} (h : SvO b n r) : frz r = true ∨ ∃ xs, r = .lst true xs := by
  rcases h with h | ⟨xs, rfl, h⟩
  · exact .inl h.frz
  · exact .inr ⟨xs, rfl⟩
theorem SvO.plE {b n : Nat} {r : D} (h : SvO b n r) : pl r = true ∨ ∃ xs, r = .lst true xs := by
  rcases h with h | ⟨xs, rfl, h⟩
  · exact .inl h.pl
  · exact .inr ⟨xs, rfl⟩
theorem tup_fz {b n : Nat} {r : D} (h : SvO b n r) {s : S} : (ifB (frzL [r]) (R.ok (D.tup [r]) s) (R.ok (D.tup (fzL [r])) s)) = R.ok (D.tup [fz r]) s := by
  rcases h with h | ⟨xs, rfl, h⟩
  · rw [frzL_cons, h.frz, h.fz]; rfl
  · rw [frzL_cons, frz_lstT]; rfl
theorem cut_to' (xs : List D) {i : Int} (h : 0 ≤ i) : cutD xs none (some i) = xs.take i.toNat := by
  obtain ⟨k, rfl⟩ : ∃ k : Nat, i = k := ⟨i.toNat, by omega⟩
  rw [cut_to]; rfl
theorem cut_from' (xs : List D) {i : Int} (h : 0 ≤ i) : cutD xs (some i) none = xs.drop i.toNat := by
  obtain ⟨k, rfl⟩ : ∃ k : Nat, i = k := ⟨i.toNat, by omega⟩
  rw [cut_from]; rfl
theorem cut_both' (xs : List D) {i j : Int} (h : 0 ≤ i) (h' : 0 ≤ j) : cutD xs (some i) (some j) = (xs.drop i.toNat).take (j.toNat - i.toNat) := by
  obtain ⟨k, rfl⟩ : ∃ k : Nat, i = k := ⟨i.toNat, by omega⟩
  obtain ⟨l, rfl⟩ : ∃ k : Nat, j = k := ⟨j.toNat, by omega⟩
  rw [cut_both]; rfl
/-- an int's text -/
def iT (i : Int) : Str := toString i
theorem bent_atom (hk : Φ "_law_kind" = some F__law_kind) (hd : Φ "_law_draw" = some F__law_draw) (h : Φ "_law_bent" = some F__law_bent) (hb : b ≤ 10000) {n N : Nat} {p : D} (hp : IsPool (N + 1) p) {k : Nat} (kk : 2 ≤ k) {x : D} (hx : SvO b n x) (hnt : ∀ xs, x ≠ .tup xs) :
    ∃ r p', IsPool N p' ∧ SvO (b + 16) (n + 2) r ∧ run Φ k "_law_bent" [p, x] = .ok r [some p', some x] := by
  obtain ⟨k, rfl⟩ : ∃ j, k = j + 1 := ⟨k - 1, by omega⟩
  rw [run_succ h]
  simp only [F__law_bent, c__law_bent]
  have ek := kind_run hk (k := k) (by omega) hx.plE
  have ez := hp.frz
  obtain ⟨r4, p4, hr40, hr4, hp4, e4⟩ := draw_run' hd hp (m := 4) (by omega) (k := k) (by omega)
  obtain ⟨r5, p5, hr50, hr5, hp5, e5⟩ := draw_run' hd hp (m := 5) (by omega) (k := k) (by omega)
  obtain ⟨r10, p10, hr100, hr10, hp10, e10⟩ := draw_run' hd hp (m := 10) (by omega) (k := k) (by omega)
  have sx : asc "x" = true := by decide +kernel
  have lx : ("x" : Str).length = 1 := by decide +kernel
  have last : ∀ r4 : Int, 0 ≤ r4 → r4 < 4 → ∃ r, (itemD (.lst true [.int 0, .tup [], .bl false, .str "x"]) (.int r4)) = some r ∧ Sv (b + 16) (n + 2) r := fun r4 hr0 hr => by
    have : r4 = 0 ∨ r4 = 1 ∨ r4 = 2 ∨ r4 = 3 := by omega
    rcases this with rfl | rfl | rfl | rfl
    · exact ⟨_, rfl, .int (by simp)⟩
    · exact ⟨_, rfl, .tup (by simp) (by simp)⟩
    · exact ⟨_, rfl, .bl⟩
    · exact ⟨_, rfl, .str sx (by rw [lx]; omega)⟩
  obtain ⟨rl, el, hl⟩ := last r4 (by omega) (by omega)
  have hlz := hl.frz
  rcases hx with hx | ⟨xs, rfl, hx⟩
  · cases hx with
    | non => exact ⟨rl, p4, hp4, .inl hl, by simp [-itemD_lst, ek, kindD, ez, e4, el, hlz]⟩
    | bl => exact ⟨rl, p4, hp4, .inl hl, by simp [-itemD_lst, ek, kindD, ez, e4, el, hlz]⟩
    | lst h1 h2 =>
      have hz := Sv.frzL h2
      exact ⟨rl, p4, hp4, .inl hl, by simp [-itemD_lst, ek, kindD, ez, e4, el, hlz, hz]⟩
    | tup h1 h2 => exact (hnt _ rfl).elim
    | int h1 =>
      rename_i i
      have hlg : i.natAbs.log2 < 1920 := by
        by_cases h0 : i.natAbs = 0
        · rw [h0]; decide +kernel
        · have : i.natAbs.log2 < 14 := (Nat.log2_lt h0).mpr (by omega)
          omega
      have key : ∃ r, (itemD (.lst true [.int (i + 1), .int (i - 1), .int (i + 1), .int (i - 1), .int 0, .int (i + 16), .bl true, .non, .str (iT i), .tup [.int i]]) (.int r10)) = some r ∧ Sv (b + 16) (n + 2) r := by
        have : r10 = 0 ∨ r10 = 1 ∨ r10 = 2 ∨ r10 = 3 ∨ r10 = 4 ∨ r10 = 5 ∨ r10 = 6 ∨ r10 = 7 ∨ r10 = 8 ∨ r10 = 9 := by omega
        rcases this with rfl | rfl | rfl | rfl | rfl | rfl | rfl | rfl | rfl | rfl
        · exact ⟨_, rfl, .int (by omega)⟩
        · exact ⟨_, rfl, .int (by omega)⟩
        · exact ⟨_, rfl, .int (by omega)⟩
        · exact ⟨_, rfl, .int (by omega)⟩
        · exact ⟨_, rfl, .int (by omega)⟩
        · exact ⟨_, rfl, .int (by omega)⟩
        · exact ⟨_, rfl, .bl⟩
        · exact ⟨_, rfl, .non⟩
        · exact ⟨_, rfl, .str (asc_toString i) (by have := len_toString i; show (toString i : Str).length ≤ _; omega)⟩
        · exact ⟨_, rfl, .tup (by simp) (by intro d hd; rw [List.mem_singleton.mp hd]; exact .int (by omega))⟩
      obtain ⟨r, er, hr⟩ := key
      have hrz := hr.frz
      have bs : bi1 Bi.str (.int i) = some (.str (iT i)) := by
        show (if i.natAbs.log2 < 1920 then some (D.str (toString i)) else none) = _
        rw [if_pos hlg]; rfl
      exact ⟨r, p10, hp10, .inl hr, by simp [-itemD_lst, ek, kindD, ez, e10, er, hrz, bs]⟩
    | str h1 h2 =>
      rename_i y
      have hu := asc_upper h1
      have ha : asc (y ++ "x") = true := asc_append h1 sx
      have hal : (y ++ "x").length = y.length + 1 := by rw [PySem.Str.length_append, lx]
      have key : ∃ r, (itemD (.lst true [.str (y ++ "x"), .str "", .str (PySem.Txt.upper y), .non, .int 0]) (.int r5)) = some r ∧ Sv (b + 16) (n + 2) r := by
        have : r5 = 0 ∨ r5 = 1 ∨ r5 = 2 ∨ r5 = 3 ∨ r5 = 4 := by omega
        rcases this with rfl | rfl | rfl | rfl | rfl
        · exact ⟨_, rfl, .str ha (by omega)⟩
        · exact ⟨_, rfl, .str (by decide +kernel) (by show 0 ≤ _; omega)⟩
        · exact ⟨_, rfl, .str hu.1 (by omega)⟩
        · exact ⟨_, rfl, .non⟩
        · exact ⟨_, rfl, .int (by simp)⟩
      obtain ⟨r, er, hr⟩ := key
      have hrz := hr.frz
      have hsz : szOk (y.length + ("x" : Str).length) = true := szOk_small (by rw [lx]; omega)
      have bu : upperD (.str y) = some (.str (PySem.Txt.upper y)) := by
        show (if y.length ≤ 5592405 then some (D.str (PySem.Txt.upper y)) else none) = _
        rw [if_pos (by omega)]
      exact ⟨r, p5, hp5, .inl hr, by simp [-itemD_lst, ek, kindD, ez, e5, er, hrz, bu, hsz]⟩
  · exact ⟨rl, p4, hp4, .inl hl, by simp [-itemD_lst, ek, kindD, ez, e4, el, hlz]⟩
/-- a tuple of what is left and put in -/
theorem sv_app {b n : Nat} {xs ys : List D} (hx : ∀ d ∈ xs, Sv b n d) (hy : ∀ d ∈ ys, Sv b n d) : ∀ d ∈ xs ++ ys, Sv b n d := by
  intro d hd
  rcases List.mem_append.mp hd with hd | hd
  · exact hx d hd
  · exact hy d hd
theorem bent_run (hk : Φ "_law_kind" = some F__law_kind) (hd : Φ "_law_draw" = some F__law_draw) (h : Φ "_law_bent" = some F__law_bent) (hb : b ≤ 10000) : ∀ {n : Nat} {N : Nat} {p : D} (_ : IsPool (N + 4 * (n + 1)) p) {k : Nat} (_ : n + 2 ≤ k) {x : D} (_ : SvO b n x),
    ∃ r p', IsPool N p' ∧ SvO (b + 16) (n + 2) r ∧ run Φ k "_law_bent" [p, x] = .ok r [some p', some x] := by
  intro n
  induction n with
  | zero =>
    intro N p hp k kk x hx
    refine bent_atom hk hd h hb (hp.le (by omega)) kk hx fun xs e => ?_
    subst e
    rcases hx with hx | ⟨_, hx, _⟩
    · have := hx.tupL; omega
    · cases hx
  | succ n ih =>
    intro N p hp k kk x hx
    by_cases hnt : ∀ xs, x ≠ .tup xs
    · exact bent_atom hk hd h hb (hp.le (by omega)) (by omega) hx hnt
    · obtain ⟨xs, rfl⟩ : ∃ xs, x = .tup xs := Classical.byContradiction fun q => hnt fun xs e => q ⟨xs, e⟩
      have hx : Sv b (n + 1) (.tup xs) := by
        rcases hx with hx | ⟨_, hx, _⟩
        · exact hx
        · cases hx
      have hi : ∀ d ∈ xs, Sv b n d := hx.tupI
      have hl := hx.tupL.1
      have hz : frzL xs = true := Sv.frzL hi
      obtain ⟨k, rfl⟩ : ∃ j, k = j + 1 := ⟨k - 1, by omega⟩
      rw [run_succ h]
      simp only [F__law_bent, c__law_bent]
      have ez := hp.frz
      obtain ⟨w, p1, hw0, hw, hp1, e1⟩ := draw_run' hd (n := N + 4 * n + 7) (hp.le (by omega)) (m := 10) (by omega) (k := k) (by omega)
      have ez1 := hp1.frz
      have up : ∀ d ∈ xs, Sv (b + 16) (n + 2) d := fun d hd => (hi d hd).le (by omega) (by omega)
      have upT : ∀ k, ∀ d ∈ xs.take k, Sv (b + 16) (n + 2) d := fun k d hd => up d (List.mem_of_mem_take hd)
      have upD : ∀ k, ∀ d ∈ xs.drop k, Sv (b + 16) (n + 2) d := fun k d hd => up d (List.mem_of_mem_drop hd)
      by_cases hc : xs.length = 0 ∨ w = 0
      · obtain ⟨r4, p4, hr40, hr4, hp4, e4⟩ := draw_run' hd (n := N) (hp1.le (by omega)) (m := 4) (by omega) (k := k) (by omega)
        have key : ∃ r, (itemD (.lst true [.int 0, .int 1, .tup [], .tup [.int 0, .int 0]]) (.int r4)) = some r ∧ Sv (b + 16) (n + 2) r := by
          have : r4 = 0 ∨ r4 = 1 ∨ r4 = 2 ∨ r4 = 3 := by omega
          rcases this with rfl | rfl | rfl | rfl
          · exact ⟨_, rfl, .int (by simp)⟩
          · exact ⟨_, rfl, .int (by simp)⟩
          · exact ⟨_, rfl, .tup (by simp) (by simp)⟩
          · exact ⟨_, rfl, .tup (by simp) (by intro d hd; simp at hd; subst hd; exact .int (by simp))⟩
        obtain ⟨r, er, hr⟩ := key
        have hrz := hr.frz
        have hsz : szOk (xs.length + 1) = true := szOk_small (by omega)
        refine ⟨.tup (xs ++ [r]), p4, hp4, .inl (.tup (by simp; omega) (sv_app up fun d hd => by rw [List.mem_singleton.mp hd]; exact hr)), ?_⟩
        rcases hc with hc | rfl
        · simp [-itemD_lst, hz, ez, e1, ez1, e4, er, hrz, hsz, hc, szOk_small (show 1 ≤ 100000 by omega)]
        · by_cases hc : xs.length = 0
          · simp [-itemD_lst, hz, ez, e1, ez1, e4, er, hrz, hsz, hc, szOk_small (show 1 ≤ 100000 by omega)]
          · have hc' : ¬ ((xs.length : Int) = 0) := by omega
            have hne : xs ≠ [] := fun e => hc (by rw [e]; rfl)
            simp [-itemD_lst, hz, ez, e1, ez1, e4, er, hrz, hsz, hne]
      · have hc1 : xs ≠ [] := fun e => hc (.inl (by rw [e]; rfl))
        have hc2 : ¬ w = 0 := fun e => hc (.inr e)
        have hpos : 0 < xs.length := List.length_pos_iff.mpr hc1
        obtain ⟨at_, p2, ha0, ha, hp2, e2⟩ := draw_run' hd (n := N + 4 * n + 6) (hp1.le (by omega)) (m := xs.length) (by omega) (k := k) (by omega)
        have ez2 := hp2.frz
        obtain ⟨at_, rfl⟩ : ∃ a : Nat, at_ = a := ⟨at_.toNat, by omega⟩
        have ha : at_ < xs.length := by omega
        have gi : xs[at_]? = some xs[at_] := List.getElem?_eq_getElem ha
        have gm := List.getElem_mem ha
        have gz := (hi _ gm).frz
        have ct := cut_to xs at_
        have cf := cut_from xs at_
        have cf1 : cutD xs (some ((at_ : Int) + 1)) none = xs.drop (at_ + 1) := cut_from xs (at_ + 1)
        have s1 : ∀ a b : Nat, a ≤ b + 16 → b ≤ 10000 → szOk a = true := fun a b h1 h2 => szOk_small (by omega)
        have ix := ixOf_nat ha
        by_cases w1 : w = 1
        · subst w1
          refine ⟨.tup (xs.take at_ ++ xs.drop (at_ + 1)), p2, hp2.le (by omega), .inl (.tup (by simp; omega) (sv_app (upT _) (upD _))), ?_⟩
          have hs := szOk_small (n := (xs.take at_).length + (xs.drop (at_ + 1)).length) (by simp; omega)
          simp [-itemD_lst, -List.length_take, -List.length_drop, hz, ez, e1, ez1, hc1, hc2, e2, ez2, ct, cf1, hs]
        · have w1' : ¬ w = 1 := by omega
          -- the way 2
          have two : (∃ p3, IsPool (N + 4 * n + 5) p3 ∧ w = 2 ∧ run Φ k "_law_draw" [p2, .int 3] = .ok (.int 0) [some p3, some (.int 3)]) ∨ ∃ p3, IsPool (N + 4 * n + 5) p3 ∧ (∀ (s' : S), s' = [some p3, some (.tup xs), some (.int w), some (.int at_), none, none, none] →
              andB (cmp .Eq true (vP 2) (ret (.int 2))) (cmp .Eq true (call "_law_draw" [.inl 0, .inr (ret (.int 3))]) (ret (.int 0))) ⟨run Φ k, [0]⟩ [some p2, some (.tup xs), some (.int w), some (.int at_), none, none, none] = .ok false s') := by
            by_cases w2 : w = 2
            · subst w2
              obtain ⟨r3, p3, hr30, hr3, hp3, e3⟩ := draw_run' hd (n := N + 4 * n + 5) (hp2.le (by omega)) (m := 3) (by omega) (k := k) (by omega)
              by_cases h0 : r3 = 0
              · subst h0
                exact .inl ⟨p3, hp3, rfl, e3⟩
              · have h0' : ¬ r3 = 0 := h0
                exact .inr ⟨p3, hp3, fun s' e => by subst e; simp [ez2, e3, h0']⟩
            · have w2' : ¬ w = 2 := by omega
              exact .inr ⟨p2, hp2.le (by omega), fun s' e => by subst e; simp [w2']⟩
          rcases two with ⟨p3, hp3, rfl, e3⟩ | ⟨p3, hp3, e3⟩
          · refine ⟨.lst true xs, p3, hp3.le (by omega), .inr ⟨xs, rfl, .lst (by omega) up⟩, ?_⟩
            simp [-itemD_lst, hz, ez, e1, ez1, hc1, hc2, e2, ez2, e3]
          · have e3 := e3 _ rfl
            have ez3 := hp3.frz
            by_cases w3 : w = 3
            · subst w3
              refine ⟨.tup (xs.take at_ ++ [xs[at_]] ++ xs.drop at_), p3, hp3.le (by omega), .inl (.tup (by simp; omega) (sv_app (sv_app (upT _) fun d hd => by rw [List.mem_singleton.mp hd]; exact up _ gm) (upD _))), ?_⟩
              have hs1 := szOk_small (n := (xs.take at_).length + 1) (by simp; omega)
              have hs2 := szOk_small (n := (xs.take at_).length + 1 + (xs.drop at_).length) (by simp; omega)
              have hs3 := szOk_small (n := (xs.take (at_ + 1)).length + (xs.drop at_).length) (by simp; omega)
              simp [-itemD_lst, -andB_ap, -List.length_take, -List.length_drop, hz, ez, e1, ez1, hc1, hc2, e2, ez2, ct, cf, hs1, hs2, hs3, e3, ix, gi, gz]
            · have w3' : ¬ w = 3 := by omega
              by_cases w4 : w = 4 ∧ 1 < xs.length
              · obtain ⟨rfl, hl1⟩ := w4
                have hl1' : (1 : Int) < (xs.length : Int) := by omega
                have e4 : andB (cmp .Eq true (vP 2) (ret (.int 4))) (cmp .Gt true (blt1 .len (vP 1)) (ret (.int 1))) ⟨run Φ k, [0]⟩ [some p3, some (.tup xs), some (.int 4), some (.int at_), none, none, none] = .ok true [some p3, some (.tup xs), some (.int 4), some (.int at_), none, none, none] := by
                  simp [hl1']
                have key : ∃ (ot : Int) (lo hi : Nat), ((at_ : Int) + 1) % (xs.length : Int) = ot ∧ bi2 .min (.int at_) (.int ot) = some (.int lo) ∧ bi2 .max (.int at_) (.int ot) = some (.int hi) ∧ lo < xs.length ∧ hi < xs.length ∧ lo ≤ hi := by
                  have hm : (at_ + 1) % xs.length < xs.length := Nat.mod_lt _ hpos
                  refine ⟨((at_ + 1) % xs.length : Nat), if (at_ + 1) % xs.length < at_ then (at_ + 1) % xs.length else at_, if (at_ + 1) % xs.length > at_ then (at_ + 1) % xs.length else at_, by rw [Int.natCast_emod, Int.natCast_add]; rfl, ?_, ?_, ?_, ?_, ?_⟩
                  · rw [bi2_min]
                    by_cases q : (at_ + 1) % xs.length < at_
                    · rw [if_pos q, if_pos (by omega)]
                    · rw [if_neg q, if_neg (by omega)]
                  · rw [bi2_max]
                    by_cases q : (at_ + 1) % xs.length > at_
                    · rw [if_pos q, if_pos (by omega)]
                    · rw [if_neg q, if_neg (by omega)]
                  · split <;> assumption
                  · split <;> assumption
                  · split <;> split <;> omega
                obtain ⟨ot, lo, hi', k1, k2, k3, k4, k5, k6⟩ := key
                have g1 : xs[lo]? = some xs[lo] := List.getElem?_eq_getElem k4
                have g2 : xs[hi']? = some xs[hi'] := List.getElem?_eq_getElem k5
                have z1 := (hi _ (List.getElem_mem k4)).frz
                have z2 := (hi _ (List.getElem_mem k5)).frz
                have i1 := ixOf_nat k4
                have i2 := ixOf_nat k5
                have c1 := cut_to xs lo
                have c2 : cutD xs (some ((lo : Int) + 1)) (some (hi' : Int)) = (xs.drop (lo + 1)).take (hi' - (lo + 1)) := cut_both xs (lo + 1) hi'
                have c3 : cutD xs (some ((hi' : Int) + 1)) none = xs.drop (hi' + 1) := cut_from xs (hi' + 1)
                have l1 : (xs.take lo).length ≤ xs.length := by simp; omega
                have l2 : ((xs.drop (lo + 1)).take (hi' - (lo + 1))).length ≤ xs.length := by simp; omega
                have l3 : (xs.drop (hi' + 1)).length ≤ xs.length := by simp
                have q0 : (0 : Int) < xs.length := by omega
                refine ⟨.tup (xs.take lo ++ [xs[hi']] ++ (xs.drop (lo + 1)).take (hi' - (lo + 1)) ++ [xs[lo]] ++ xs.drop (hi' + 1)), p3, hp3.le (by omega), .inl (.tup ?_ ?_), ?_⟩
                · simp; omega
                · exact sv_app (sv_app (sv_app (sv_app (upT _) fun d hd => by rw [List.mem_singleton.mp hd]; exact up _ (List.getElem_mem k5)) fun d hd => upD _ d (List.mem_of_mem_take hd)) fun d hd => by rw [List.mem_singleton.mp hd]; exact up _ (List.getElem_mem k4)) (upD _)
                · generalize xs.take lo = A1 at *
                  generalize (xs.drop (lo + 1)).take (hi' - (lo + 1)) = A2 at *
                  generalize xs.drop (hi' + 1) = A3 at *
                  have h1 := szOk_small (n := A1.length + 1) (by omega)
                  have h2 := szOk_small (n := A1.length + 1 + A2.length) (by omega)
                  have h3 := szOk_small (n := A1.length + 1 + A2.length + 1) (by omega)
                  have h4 := szOk_small (n := A1.length + 1 + A2.length + 1 + A3.length) (by omega)
                  have n1 : A1.length + (A2.length + 1) = A1.length + 1 + A2.length := by omega
                  have n2 : A1.length + (A2.length + 1 + 1) = A1.length + 1 + A2.length + 1 := by omega
                  have n3 : A1.length + (A2.length + (A3.length + 1) + 1) = A1.length + 1 + A2.length + 1 + A3.length := by omega
                  simp [-itemD_lst, -andB_ap, -bi2_min, -bi2_max, hz, ez, ez3, e1, ez1, hc1, hc2, e2, ez2, e3, e4, k1, k2, k3, g1, g2, z1, z2, i1, i2, c1, c2, c3, h1, h2, h3, h4, n1, n2, n3, q0, hpos]
              · have e4 : andB (cmp .Eq true (vP 2) (ret (.int 4))) (cmp .Gt true (blt1 .len (vP 1)) (ret (.int 1))) ⟨run Φ k, [0]⟩ [some p3, some (.tup xs), some (.int w), some (.int at_), none, none, none] = .ok false [some p3, some (.tup xs), some (.int w), some (.int at_), none, none, none] := by
                  by_cases w4' : w = 4
                  · subst w4'
                    have : ¬ (1 < (xs.length : Int)) := by omega
                    simp [this]
                  · simp [w4']
                obtain ⟨r, p4, hp4, hr, e5⟩ := ih (N := N) (p := p3) (hp3.le (by omega)) (k := k) (by omega) (x := xs[at_]) (.inl (hi _ gm))
                have rz := hr.fz.frz
                have tf : ∀ s : S, (ifB (frz r) (R.ok (D.tup [r]) s) (R.ok (D.tup (fzL [r])) s)) = R.ok (D.tup [fz r]) s := fun s => by
                  have := tup_fz hr (s := s)
                  rwa [frzL_cons, frzL_nil, Bool.and_true] at this
                refine ⟨.tup (xs.take at_ ++ [fz r] ++ xs.drop (at_ + 1)), p4, hp4, .inl (.tup (by simp; omega) (sv_app (sv_app (upT _) fun d hd => by rw [List.mem_singleton.mp hd]; exact hr.fz) (upD _))), ?_⟩
                have hs1 := szOk_small (n := (xs.take at_).length + 1) (by simp; omega)
                have hs2 := szOk_small (n := (xs.take at_).length + 1 + (xs.drop (at_ + 1)).length) (by simp; omega)
                have htz := frzL_take hz at_
                simp [-itemD_lst, -andB_ap, -List.length_take, -List.length_drop, hz, ez, ez3, e1, ez1, hc1, hc2, e2, ez2, ct, cf1, hs1, hs2, e3, e4, e5, ix, gi, gz, rz, htz, w1', w3', tf]
mutual
theorem fz_of_frz : ∀ {d : D}, frz d = true → fz d = d
  | .non, _ => rfl
  | .bl _, _ => rfl
  | .int _, _ => rfl
  | .str _, _ => rfl
  | .scr _, _ => rfl
  | .tup xs, h => by rw [fz_tup, fzL_of_frzL (xs := xs) (by simpa using h)]
  | .lst true xs, h => by rw [frz_lstT] at h; cases h
  | .lst false xs, h => by rw [fz_lst, fzL_of_frzL (xs := xs) (by simpa using h)]
  | .dic true ks vs, h => by unfold frz at h; cases h
  | .dic false ks vs, h => by
    unfold frz at h
    have h : (frzL ks && frzL vs) = true := h
    rw [Bool.and_eq_true] at h
    unfold fz
    rw [fzL_of_frzL h.1, fzL_of_frzL h.2]
theorem fzL_of_frzL : ∀ {xs : List D}, frzL xs = true → fzL xs = xs
  | [], _ => by unfold fzL; rfl
  | x :: xs, h => by
    rw [frzL_cons, Bool.and_eq_true] at h
    unfold fzL
    rw [fz_of_frz h.1, fzL_of_frzL h.2]
end
theorem bends_run (hk : Φ "_law_kind" = some F__law_kind) (hd : Φ "_law_draw" = some F__law_draw) (hbt : Φ "_law_bent" = some F__law_bent) (h : Φ "_law_bends" = some F__law_bends) (hb : b ≤ 9000) {n N : Nat} (hn : n ≤ 50) {many : Int} (h0 : 0 ≤ many) (hm : many ≤ 1000) {p : D} (hp : IsPool (N + 1000 * many.toNat) p) {k : Nat} (kk : n + 6 ≤ k) {x : D} (hx : Sv b n x) (hn1 : 1 ≤ n) :
    ∃ ds p', IsPool N p' ∧ ds.length = many.toNat + 11 ∧ (∀ d ∈ ds, Sv (b + 32) (n + 4) d) ∧ x ∈ ds ∧ run Φ k "_law_bends" [p, x, .int many] = .ok (.lst true ds) [some p', some x, some (.int many)] := by
  obtain ⟨k, rfl⟩ : ∃ j, k = j + 1 := ⟨k - 1, by omega⟩
  have hxz := hx.frz
  obtain ⟨s', e1, acc, p2, o4, o5, rfl, hp2, hl, hacc, hmem⟩ := forGo_nx (t := .nm 4) (c := b__law_bends_0) (k := none) (e := ⟨run Φ k, [0]⟩) (xs := rng 0 many)
    (fun i s => ∃ (acc : List D) (p : D) (o4 o5 : Option D), s = [some p, some x, some (.int many), some (.lst true acc), o4, o5] ∧ IsPool (N + 1000 * (many.toNat - i)) p ∧ acc.length = i + 1 ∧ (∀ d ∈ acc, Sv (b + 32) (n + 4) d) ∧ x ∈ acc)
    (fun i y s hy hi => by
      obtain ⟨acc, p, o4, o5, rfl, hp, hl, hacc, hmem⟩ := hi
      obtain ⟨rfl, hbd⟩ := rng_get hy
      obtain ⟨r1, p1, hp1, hr1, e1⟩ := bent_run hk hd hbt (b := b) (by omega) (n := n) (N := N + 1000 * (many.toNat - (i + 1)) + 700) (hp.le (by omega)) (k := k) (by omega) (.inl hx)
      obtain ⟨r5, p2, hr50, hr5, hp2, e2⟩ := draw_run' hd (n := N + 1000 * (many.toNat - (i + 1)) + 600) (hp1.le (by omega)) (m := 5) (by omega) (k := k) (by omega)
      have hsz := szOk_small (n := acc.length + 1) (by omega)
      refine ⟨rfl, [some p, some x, some (.int many), some (.lst true acc), some (.int i), o5], ?_⟩
      by_cases h5 : r5 = 0
      · subst h5
        obtain ⟨r2, p3, hp3, hr2, e3⟩ := bent_run hk hd hbt (b := b + 16) (by omega) (n := n + 2) (N := N + 1000 * (many.toNat - (i + 1))) (hp2.le (by omega)) (k := k) (by omega) hr1
        have ez1 := hp1.frz
        have ez2 := hp2.frz
        have ez := hp.frz
        have hf := (hr2.le (c := b + 32) (m := n + 4) (by omega) (by omega)).fz
        have done : ∀ r1z : frz r1 = true ∨ ∃ xs, r1 = .lst true xs, ∀ r2z : frz r2 = true ∨ ∃ xs, r2 = .lst true xs, ∃ s2, b__law_bends_0 ⟨run Φ k, [0]⟩ [some p, some x, some (.int many), some (.lst true acc), some (.int i), o5] = .ok .nx s2 ∧ s2 = [some p3, some x, some (.int many), some (.lst true (acc ++ [fz r2])), some (.int i), some (fz r2)] := by
          intro h1 h2
          refine ⟨_, ?_, rfl⟩
          rcases h1 with h1 | ⟨xs, rfl⟩
          · rcases h2 with h2 | ⟨ys, rfl⟩
            · have e4 := fz_of_frz h2
              simp [b__law_bends_0, ez, hxz, e1, e2, e3, h1, h2, ez1, ez2, hsz, e4]
            · simp [b__law_bends_0, ez, hxz, e1, e2, e3, h1, ez1, ez2, hsz]
          · rcases h2 with h2 | ⟨ys, rfl⟩
            · have e4 := fz_of_frz h2
              simp [b__law_bends_0, ez, hxz, e1, e2, e3, h2, ez1, ez2, hsz, e4]
            · simp [b__law_bends_0, ez, hxz, e1, e2, e3, ez1, ez2, hsz]
        obtain ⟨s2, e4, rfl⟩ := done hr1.frzE hr2.frzE
        refine ⟨_, by simp, e4, rfl, acc ++ [fz r2], p3, _, _, rfl, hp3, by simp [hl], sv_app hacc fun d hd => by rw [List.mem_singleton.mp hd]; exact hf, List.mem_append_left _ hmem⟩
      · have ez1 := hp1.frz
        have ez2 := hp2.frz
        have ez := hp.frz
        have hf := (hr1.le (c := b + 32) (m := n + 4) (by omega) (by omega)).fz
        have done : ∀ r1z : frz r1 = true ∨ ∃ xs, r1 = .lst true xs, ∃ s2, b__law_bends_0 ⟨run Φ k, [0]⟩ [some p, some x, some (.int many), some (.lst true acc), some (.int i), o5] = .ok .nx s2 ∧ s2 = [some p2, some x, some (.int many), some (.lst true (acc ++ [fz r1])), some (.int i), some (fz r1)] := by
          intro h1
          refine ⟨_, ?_, rfl⟩
          rcases h1 with h1 | ⟨xs, rfl⟩
          · have e4 := fz_of_frz h1
            simp [b__law_bends_0, ez, hxz, e1, e2, h1, ez1, ez2, hsz, e4, h5]
          · simp [b__law_bends_0, ez, hxz, e1, e2, ez1, ez2, hsz, h5]
        obtain ⟨s2, e4, rfl⟩ := done hr1.frzE
        refine ⟨_, by simp, e4, rfl, acc ++ [fz r1], p2, _, _, rfl, hp2.le (by omega), by simp [hl], sv_app hacc fun d hd => by rw [List.mem_singleton.mp hd]; exact hf, List.mem_append_left _ hmem⟩)
    [some p, some x, some (.int many), some (.lst true [x]), none, none] ⟨[x], p, none, none, rfl, hp.le (by omega), rfl, fun d hd => by rw [List.mem_singleton.mp hd]; exact hx.le (by omega) (by omega), List.mem_singleton.mpr rfl⟩
  have hl : acc.length = many.toNat + 1 := by simpa using hl
  have hsz := szOk_small (n := acc.length + 10) (by omega)
  have hz : frzL acc = true := Sv.frzL hacc
  have rk : rngOk many = true := rngOk_small (by omega) (by omega)
  have ez := hp.frz
  have sx : asc "x" = true := by decide +kernel
  have lx : ("x" : Str).length = 1 := by decide +kernel
  have s0 : asc "" = true := by decide +kernel
  have l0 : ("" : Str).length = 0 := by decide +kernel
  refine ⟨acc ++ [.non, .int 0, .bl true, .str "", .tup [], .lst false [], .str "x", .tup [.int 0], .tup [.str "x", .int 1], x], p2, hp2.le (by omega), by simp; omega, sv_app hacc ?_, List.mem_append_left _ hmem, ?_⟩
  · intro d hd
    simp only [List.mem_cons, List.not_mem_nil, or_false] at hd
    rcases hd with rfl | rfl | rfl | rfl | rfl | rfl | rfl | rfl | rfl | rfl
    · exact .non
    · exact .int (by simp)
    · exact .bl
    · exact .str s0 (by omega)
    · exact .tup (by simp) (by simp)
    · exact .lst (by simp) (by simp)
    · exact .str sx (by omega)
    · exact .tup (by simp) (by intro d hd; rw [List.mem_singleton.mp hd]; exact .int (by simp))
    · refine .tup (by simp) (by
        intro d hd
        simp only [List.mem_cons, List.not_mem_nil, or_false] at hd
        rcases hd with rfl | rfl
        · exact .str sx (by omega)
        · exact .int (by simp))
    · exact hx.le (by omega) (by omega)
  · rw [run_succ h]
    simp only [F__law_bends, c__law_bends]
    simp [ez, hxz, e1, rk, hsz, hz, hx.fz]
end
end Tw

set_option Elab.async false
set_option linter.all false
set_option maxRecDepth 100000
/-! shared defs as terms. -/
namespace Tw
namespace Lib
noncomputable def c_is_integer : List (Sm Fl) := [rtS (andE (isi .int (vP 0)) (blE (notB (truB (isi .bool (vP 0))))))]
noncomputable def F_is_integer : Fn := ⟨1, 1, blk c_is_integer⟩
noncomputable def c_is_number : List (Sm Fl) := [rtS (andE (call "is_integer" [.inl 0]) (blE (chn .LtE .LtE true (vP 1) (vP 0) (vP 2))))]
noncomputable def F_is_number : Fn := ⟨3, 3, blk c_is_number⟩
noncomputable def c_is_tuple : List (Sm Fl) := [rtS (andE (isi .tuple (vP 0)) (blE (cmp .Eq true (blt1 .len (vP 0)) (vP 1))))]
noncomputable def F_is_tuple : Fn := ⟨2, 2, blk c_is_tuple⟩
noncomputable def c_is_between : List (Sm Fl) := [rtS (andE (isi .tuple (vP 0)) (blE (chn .LtE .LtE true (vP 1) (blt1 .len (vP 0)) (vP 2))))]
noncomputable def F_is_between : Fn := ⟨3, 3, blk c_is_between⟩
noncomputable def c_is_tagged : List (Sm Fl) := [rtS (andE (call "is_tuple" [.inl 0, .inl 2]) (andE (isi .str (idxP true (vP 0) (ret (.int 0)))) (blE (cmp .Eq true (idxP true (vP 0) (ret (.int 0))) (vP 1)))))]
noncomputable def F_is_tagged : Fn := ⟨3, 3, blk c_is_tagged⟩
noncomputable def v_is_word_0 : Sm D := call "is_number" [.inl 3, .inr (ret (.int 0)), .inr (bin .Sub true (vP 0) (ret (.int 1)))]
noncomputable def c_is_word : List (Sm Fl) := [rtS (andE (call "is_between" [.inl 2, .inr (ret (.int 0)), .inl 1]) (blt1 .all (frE (lc [3] (.nm 3) (itS (itV 2)) [] v_is_word_0))))]
noncomputable def F_is_word : Fn := ⟨3, 4, blk c_is_word⟩
end Lib
end Tw

set_option Elab.async false
set_option linter.all false
set_option maxRecDepth 100000
set_option maxHeartbeats 1000000
/-! Tw.LibF: comprehensions that change nothing; the program's kinds. -/
namespace Tw
open Lib
open PySem (Str)
/-! ### comprehensions that change nothing -/
theorem lcGo_pure {e : Env} {j : Nat} {elt : Sm D} {ifs : List (Sm Bool)} {s : S} {xs : List D} (g : D → D) (p : D → Bool) (hr : e.refs.contains j = false) (hz : ∀ x ∈ xs, frz x = true) (hl : xs.length ≤ 100000)
    (hp : ∀ x ∈ xs, allT ifs e (s.set j (some x)) = .ok (p x) (s.set j (some x)))
    (h : ∀ x ∈ xs, p x = true → elt e (s.set j (some x)) = .ok (g x) (s.set j (some x))) : lcGo [j] (.nm j) ifs elt none [] xs e (s.set j none) = .ok ((xs.filter p).map g) (s.set j none) := by
  obtain ⟨ds, s', e1, rfl, s1, rfl⟩ := lcGo_inv (own := [j]) (tg := .nm j) (ifs := ifs) (elt := elt) (k := none) (e := e) (xs := xs) []
    (fun i ds s' => ds = ((xs.take i).filter p).map g ∧ ∃ o, s' = s.set j o)
    (fun i x acc s' hx hi => by
      obtain ⟨rfl, o, rfl⟩ := hi
      have hm := List.mem_of_getElem? hx
      have hil := (List.getElem?_eq_some_iff.mp hx).1
      have e2 : wipeD [j] (s.set j o) = s.set j none := by rw [wipeD_cons, wipeD_nil, List.set_set]
      refine ⟨hz x hm, s.set j (some x), by rw [e2, setT_nm, setv_ap, hr, List.set_set]; rfl, p x, _, hp x hm, ?_⟩
      cases hpx : p x with
      | true =>
        refine .inl ⟨rfl, g x, _, h x hm hpx, rfl, szOk_small ?_, ?_, _, rfl⟩
        · rw [List.length_map]
          have := List.length_filter_le p (xs.take i)
          rw [List.length_take] at this
          omega
        · rw [List.take_add_one, hx, List.filter_append, List.map_append]
          simp [hpx]
      | false =>
        refine .inr ⟨rfl, rfl, ?_, _, rfl⟩
        rw [List.take_add_one, hx, List.filter_append, List.map_append]
        simp [hpx])
    (s.set j none) ⟨rfl, none, rfl⟩
  rw [e1, List.take_length, wipeD_cons, wipeD_nil, List.set_set]
theorem lc_pure {e : Env} {j : Nat} {it : Sm Wk} {elt : Sm D} {ifs : List (Sm Bool)} {s : S} {xs : List D} (g : D → D) (p : D → Bool) (hit : it e s = .ok (xs, none) s) (hs : s[j]? = some none) (hr : e.refs.contains j = false) (hz : ∀ x ∈ xs, frz x = true) (hl : xs.length ≤ 100000)
    (hp : ∀ x ∈ xs, allT ifs e (s.set j (some x)) = .ok (p x) (s.set j (some x)))
    (h : ∀ x ∈ xs, p x = true → elt e (s.set j (some x)) = .ok (g x) (s.set j (some x))) : lc [j] (.nm j) it ifs elt e s = .ok (.lst true ((xs.filter p).map g)) s := by
  have hsn : s.set j none = s := by
    obtain ⟨hj, e1⟩ := List.getElem?_eq_some_iff.mp hs
    apply List.ext_getElem (by simp)
    intro i h1 h2
    rw [List.getElem_set]
    split
    · rename_i q; subst q; exact e1.symm
    · rfl
  have e1 := lc_run (own := [j]) (tg := .nm j) (ifs := ifs) (elt := elt) hit (by rw [ownOk_cons, hs]; simp only [List.contains_eq_mem] at hr; simp [hr]) (ds := (xs.filter p).map g) (s2 := s.set j none) (lcGo_pure g p hr hz hl hp h)
  rw [e1, putB_cons, putB_nil, hs]
  show R.ok _ ((s.set j none).set j none) = _
  rw [hsn, hsn]
theorem lc_map {e : Env} {j : Nat} {it : Sm Wk} {elt : Sm D} {s : S} {xs : List D} (g : D → D) (hit : it e s = .ok (xs, none) s) (hs : s[j]? = some none) (hr : e.refs.contains j = false) (hz : ∀ x ∈ xs, frz x = true) (hl : xs.length ≤ 100000)
    (h : ∀ x ∈ xs, elt e (s.set j (some x)) = .ok (g x) (s.set j (some x))) : lc [j] (.nm j) it [] elt e s = .ok (.lst true (xs.map g)) s := by
  have e1 := lc_pure (ifs := []) g (fun _ => true) hit hs hr hz hl (fun x hx => rfl) (fun x hx _ => h x hx)
  rw [List.filter_eq_self.mpr (fun _ _ => rfl)] at e1
  exact e1
theorem allB_map {xs : List D} {q : D → Bool} : allB (xs.map fun x => .bl (q x)) = some (xs.map q) := by
  induction xs with
  | nil => rfl
  | cons x xs ih => rw [List.map_cons]; show (allB _).map _ = _; rw [ih]; rfl
theorem fzL_bls {xs : List D} {q : D → Bool} : fzL (xs.map fun x => .bl (q x)) = xs.map fun x => .bl (q x) := by
  induction xs with
  | nil => rfl
  | cons x xs ih => rw [List.map_cons, fzL_cons, ih]; rfl
/-! ### kinds -/
def isIntD : D → Bool
  | .int _ => true
  | _ => false
section
variable {Φ : Str → Option Fn} {b m : Nat}
theorem is_integer_run (h : Φ "is_integer" = some F_is_integer) {k : Nat} (hk : 1 ≤ k) {x : D} (hp : pl x = true) : run Φ k "is_integer" [x] = .ok (.bl (isIntD x)) [some x] := by
  obtain ⟨k, rfl⟩ : ∃ j, k = j + 1 := ⟨k - 1, by omega⟩
  rw [run_succ h]
  simp only [F_is_integer, c_is_integer]
  have hx := pl_frz hp
  cases x with
  | dic o ks vs => simp at hp
  | _ => simp [hx, isIntD]
theorem is_number_run (hi : Φ "is_integer" = some F_is_integer) (h : Φ "is_number" = some F_is_number) {k : Nat} (hk : 2 ≤ k) {x : D} (hp : pl x = true) {lo up : Int} : run Φ k "is_number" [x, .int lo, .int up] = .ok (.bl (lawInt x lo up)) [some x, some (.int lo), some (.int up)] := by
  obtain ⟨k, rfl⟩ : ∃ j, k = j + 1 := ⟨k - 1, by omega⟩
  rw [run_succ h]
  simp only [F_is_number, c_is_number]
  have hx := pl_frz hp
  have e := is_integer_run hi (k := k) (by omega) hp
  cases x with
  | int i =>
    simp [hx, e, isIntD, lawInt]
    by_cases h1 : lo ≤ i <;> simp [h1]
  | dic o ks vs => simp at hp
  | _ => simp [hx, e, isIntD, lawInt]
def lawTuple (x : D) (n : Int) : Bool := match x with
  | .tup xs => decide ((xs.length : Int) = n)
  | _ => false
def lawBetween (x : D) (lo up : Int) : Bool := match x with
  | .tup xs => decide (lo ≤ (xs.length : Int)) && decide ((xs.length : Int) ≤ up)
  | _ => false
theorem is_tuple_run (h : Φ "is_tuple" = some F_is_tuple) {k : Nat} (hk : 1 ≤ k) {x : D} (hp : pl x = true) {n : Int} : run Φ k "is_tuple" [x, .int n] = .ok (.bl (lawTuple x n)) [some x, some (.int n)] := by
  obtain ⟨k, rfl⟩ : ∃ j, k = j + 1 := ⟨k - 1, by omega⟩
  rw [run_succ h]
  simp only [F_is_tuple, c_is_tuple]
  have hx := pl_frz hp
  cases x with
  | tup xs =>
    have hxs : frzL xs = true := by simpa using hx
    simp [hxs, lawTuple]
  | dic o ks vs => simp at hp
  | _ => simp [hx, lawTuple]
theorem is_between_run (h : Φ "is_between" = some F_is_between) {k : Nat} (hk : 1 ≤ k) {x : D} (hp : pl x = true) {lo up : Int} : run Φ k "is_between" [x, .int lo, .int up] = .ok (.bl (lawBetween x lo up)) [some x, some (.int lo), some (.int up)] := by
  obtain ⟨k, rfl⟩ : ∃ j, k = j + 1 := ⟨k - 1, by omega⟩
  rw [run_succ h]
  simp only [F_is_between, c_is_between]
  have hx := pl_frz hp
  cases x with
  | tup xs =>
    have hxs : frzL xs = true := by simpa using hx
    simp [hxs, lawBetween]
    by_cases h1 : lo ≤ (xs.length : Int) <;> simp [h1, hxs]
  | dic o ks vs => simp at hp
  | _ => simp [hx, lawBetween]
theorem is_tagged_run (ht : Φ "is_tuple" = some F_is_tuple) (h : Φ "is_tagged" = some F_is_tagged) {k : Nat} (hk : 2 ≤ k) {x : D} (hp : pl x = true) {w : Str} {n : Int} (hn : 1 ≤ n) : run Φ k "is_tagged" [x, .str w, .int n] = .ok (.bl (lawTag x w n)) [some x, some (.str w), some (.int n)] := by
  obtain ⟨k, rfl⟩ : ∃ j, k = j + 1 := ⟨k - 1, by omega⟩
  rw [run_succ h]
  simp only [F_is_tagged, c_is_tagged]
  have hx := pl_frz hp
  have e := is_tuple_run ht (k := k) (by omega) hp (n := n)
  cases x with
  | tup xs =>
    have hpl : plL xs = true := by simpa using hp
    have hxs : frzL xs = true := by simpa using hx
    cases xs with
    | nil =>
      have : ¬ ((0 : Int) = n) := by omega
      simp [hxs, lawTag, lawTuple, this, e]
    | cons x xs =>
      by_cases hl : ((xs.length : Int) + 1 = n)
      · subst hl
        cases x <;> simp_all [lawTag, lawTuple]
      · cases x <;> simp_all [lawTag, lawTuple]
  | dic o ks vs => simp at hp
  | _ => simp [hx, lawTag, lawTuple, e]
theorem pis_word_run (hi : Φ "is_integer" = some F_is_integer) (hn : Φ "is_number" = some F_is_number) (hb : Φ "is_between" = some F_is_between) (h : Φ "is_word" = some F_is_word) {k : Nat} (kk : 4 ≤ k) {x : D} (hp : pl x = true) (hl : ∀ xs, x = .tup xs → xs.length ≤ 100000) {l n : Int} : run Φ k "is_word" [.int l, .int n, x] = .ok (.bl (lawIsWord l n x)) [some (.int l), some (.int n), some x] := by
  obtain ⟨k, rfl⟩ : ∃ j, k = j + 1 := ⟨k - 1, by omega⟩
  rw [run_succ h]
  simp only [F_is_word, c_is_word]
  have hx := pl_frz hp
  have e := is_between_run hb (k := k) (by omega) hp (lo := 0) (up := n)
  cases x with
  | tup xs =>
    have hxs : frzL xs = true := by simpa using hx
    have e1 : lc [3] (.nm 3) (itS (itV 2)) [] v_is_word_0 ⟨run Φ k, []⟩ [some (.int l), some (.int n), some (.tup xs), none] = .ok (.lst true (xs.map fun x => .bl (lawInt x 0 (l - 1)))) [some (.int l), some (.int n), some (.tup xs), none] := by
      refine lc_map (fun x => .bl (lawInt x 0 (l - 1))) (by simp [hxs]) rfl rfl (frz_of hxs) (hl xs rfl) fun x hx => ?_
      have hz := frz_of hxs x hx
      have hpx := pl_of (show plL xs = true by simpa using hp) x hx
      have e2 := is_number_run hi hn (k := k) (by omega) hpx (lo := 0) (up := l - 1)
      simp [v_is_word_0, hz, e2]
    by_cases hle : (xs.length : Int) ≤ n
    · have : lawBetween (.tup xs) 0 n = true := by simp [lawBetween, hle]
      simp [hxs, e, this, e1, fzL_bls, allB_map, lawIsWord, lawInts, hle]
    · have : lawBetween (.tup xs) 0 n = false := by simp [lawBetween, hle]
      simp [hxs, e, this, lawIsWord, hle]
  | dic o ks vs => simp at hp
  | _ => simp [hx, e, lawIsWord, lawBetween]
end
end Tw
namespace Tw
@[simp] theorem numsD_take (a : List Int) (k : Nat) : (numsD a).take k = numsD (a.take k) := by unfold numsD; simp
@[simp] theorem numsD_drop (a : List Int) (k : Nat) : (numsD a).drop k = numsD (a.drop k) := by unfold numsD; simp
@[simp] theorem numsD_isEmpty (a : List Int) : (numsD a).isEmpty = a.isEmpty := by cases a <;> rfl
@[simp] theorem numsD_reverse (a : List Int) : (numsD a).reverse = numsD a.reverse := by unfold numsD; simp
theorem numsD_inj {a b : List Int} : numsD a = numsD b ↔ a = b := by
  constructor
  · intro h
    have h2 : (toPyL (numsD a)) = toPyL (numsD b) := by rw [h]
    have h3 := toPyL_nums a b
    rw [h2, toPyL_nums b b] at h3
    simpa using h3.symm
  · intro h; rw [h]
/-! equations -/
theorem toPy_tup {xs} : toPy (.tup xs) = .tuple (toPyL xs) := by conv => lhs; unfold toPy
theorem toPy_lst {o xs} : toPy (.lst o xs) = .list (toPyL xs) := by conv => lhs; unfold toPy
theorem toPy_int {i} : toPy (.int i) = .int i := by unfold toPy; rfl
theorem toPy_bl {i} : toPy (.bl i) = .bool i := by unfold toPy; rfl
theorem toPy_str {i} : toPy (.str i) = .str i := by unfold toPy; rfl
theorem toPy_non : toPy .non = .none := by unfold toPy; rfl
theorem toPyL_nil : toPyL [] = [] := by unfold toPyL; rfl
theorem toPyL_cons {x xs} : toPyL (x :: xs) = toPy x :: toPyL xs := by conv => lhs; unfold toPyL
theorem eqv_tup {xs ys} : PySem.PyData.eqv (.tuple xs) (.tuple ys) = PySem.PyData.eqvAll xs ys := by conv => lhs; unfold PySem.PyData.eqv
theorem eqv_lst {xs ys} : PySem.PyData.eqv (.list xs) (.list ys) = PySem.PyData.eqvAll xs ys := by conv => lhs; unfold PySem.PyData.eqv
theorem eqv_int {i j} : PySem.PyData.eqv (.int i) (.int j) = (i == j) := by unfold PySem.PyData.eqv; rfl
theorem eqv_str {i j} : PySem.PyData.eqv (.str i) (.str j) = (i == j) := by unfold PySem.PyData.eqv; rfl
theorem eqv_bl {i j} : PySem.PyData.eqv (.bool i) (.bool j) = (i == j) := by unfold PySem.PyData.eqv; rfl
theorem eqv_non : PySem.PyData.eqv .none .none = true := by unfold PySem.PyData.eqv; rfl
theorem eqvAll_nil : PySem.PyData.eqvAll [] [] = true := by unfold PySem.PyData.eqvAll; rfl
theorem eqvAll_cons {x xs y ys} : PySem.PyData.eqvAll (x :: xs) (y :: ys) = (PySem.PyData.eqv x y && PySem.PyData.eqvAll xs ys) := by conv => lhs; unfold PySem.PyData.eqvAll
theorem eqvAll_nc {y ys} : PySem.PyData.eqvAll [] (y :: ys) = false := by unfold PySem.PyData.eqvAll; rfl
theorem eqvAll_cn {y ys} : PySem.PyData.eqvAll (y :: ys) [] = false := by unfold PySem.PyData.eqvAll; rfl
theorem shp_tup {n xs} : shp (n + 1) (.tup xs) = shpL n xs := by conv => lhs; unfold shp
theorem shp_lst {n o xs} : shp (n + 1) (.lst o xs) = shpL n xs := by conv => lhs; unfold shp
theorem shp_int {n i} : shp n (.int i) = true := by unfold shp; rfl
theorem shp_bl {n i} : shp n (.bl i) = true := by unfold shp; rfl
theorem shp_non {n} : shp n .non = true := by unfold shp; rfl
theorem shpL_nil {n} : shpL n [] = true := by unfold shpL; rfl
theorem shpL_cons {n x xs} : shpL n (x :: xs) = (shp n x && shpL n xs) := by conv => lhs; unfold shpL
@[simp] theorem eqD_wi {a b : List Int} {i j : Int} : eqD (.tup [.tup (numsD a), .int i]) (.tup [.tup (numsD b), .int j]) = some (decide (a = b) && decide (i = j)) := by
  have hs : ∀ (a : List Int) (i : Int), shp 60 (.tup [.tup (numsD a), .int i]) = true := fun a i => by
    rw [shp_tup, shpL_cons, shpL_cons, shpL_nil, shp_int, shp_tup, shp_nums]; rfl
  rw [eqD_any (hs a i) (hs b j) (fun _ _ h => by cases h)]
  simp only [toPy_tup, toPyL_cons, toPyL_nil, eqv_tup, eqvAll_cons, eqvAll_nil, toPy_int, eqv_int, toPyL_nums, Bool.and_true]
  rfl
theorem lawInt_true {x : D} {lo up : Int} (h : lawInt x lo up = true) : ∃ i, x = .int i ∧ lo ≤ i ∧ i ≤ up := by
  unfold lawInt at h
  split at h
  · rw [Bool.and_eq_true, decide_eq_true_eq, decide_eq_true_eq] at h
    exact ⟨_, rfl, h⟩
  · cases h
theorem lawTag_true {x : D} {w : PySem.Str} {n : Int} (h : lawTag x w n = true) : ∃ xs, x = .tup (.str w :: xs) ∧ (xs.length : Int) + 1 = n := by
  unfold lawTag at h
  split at h
  · rw [Bool.and_eq_true, decide_eq_true_eq, decide_eq_true_eq] at h
    obtain ⟨h1, rfl⟩ := h
    exact ⟨_, rfl, h1⟩
  · cases h
theorem lawInts_nums {xs : List D} {lo up : Int} (h : xs.all (lawInt · lo up) = true) : ∃ a, xs = numsD a ∧ ∀ x ∈ a, lo ≤ x ∧ x ≤ up := by
  induction xs with
  | nil => exact ⟨[], rfl, fun x h => by cases h⟩
  | cons x xs ih =>
    rw [List.all_cons, Bool.and_eq_true] at h
    obtain ⟨i, rfl, h1⟩ := lawInt_true h.1
    obtain ⟨a, rfl, h2⟩ := ih h.2
    refine ⟨i :: a, rfl, fun y hy => ?_⟩
    rcases List.mem_cons.mp hy with rfl | hy
    · exact h1
    · exact h2 y hy
theorem lawIsWord_true {l m : Int} {x : D} (h : lawIsWord l m x = true) : ∃ a, x = .tup (numsD a) ∧ (a.length : Int) ≤ m ∧ ∀ x ∈ a, 0 ≤ x ∧ x ≤ l - 1 := by
  unfold lawIsWord at h
  split at h
  · rw [Bool.and_eq_true, decide_eq_true_eq] at h
    obtain ⟨a, rfl, h2⟩ := lawInts_nums h.1
    exact ⟨a, rfl, by simpa using h.2, h2⟩
  · cases h
theorem lawInts_of {a : List Int} {lo up : Int} (h : ∀ x ∈ a, lo ≤ x ∧ x ≤ up) : (numsD a).all (lawInt · lo up) = true := by
  rw [List.all_eq_true]
  intro d hd
  obtain ⟨x, hx, rfl⟩ := List.mem_map.mp hd
  have := h x hx
  simp [lawInt, this]
theorem lawIsWord_of {l m : Int} {a : List Int} (h1 : (a.length : Int) ≤ m) (h : ∀ x ∈ a, 0 ≤ x ∧ x ≤ l - 1) : lawIsWord l m (.tup (numsD a)) = true := by
  unfold lawIsWord lawInts
  simp [lawInts_of h, h1]
end Tw
namespace Tw
section
variable {b n : Nat} {x y z w : D}
theorem Sv.t0 : Sv b (n + 1) (.tup []) := .tup (by simp) (by simp)
theorem Sv.t1 (hb : 1 ≤ b) (h1 : Sv b n x) : Sv b (n + 1) (.tup [x]) := .tup (by simpa using hb) fun d hd => by
  rw [List.mem_singleton.mp hd]; exact h1
theorem Sv.t2 (hb : 2 ≤ b) (h1 : Sv b n x) (h2 : Sv b n y) : Sv b (n + 1) (.tup [x, y]) := .tup (by simpa using hb) fun d hd => by
  simp only [List.mem_cons, List.not_mem_nil, or_false] at hd
  rcases hd with rfl | rfl <;> assumption
theorem Sv.t3 (hb : 3 ≤ b) (h1 : Sv b n x) (h2 : Sv b n y) (h3 : Sv b n z) : Sv b (n + 1) (.tup [x, y, z]) := .tup (by simpa using hb) fun d hd => by
  simp only [List.mem_cons, List.not_mem_nil, or_false] at hd
  rcases hd with rfl | rfl | rfl <;> assumption
theorem Sv.t4 (hb : 4 ≤ b) (h1 : Sv b n x) (h2 : Sv b n y) (h3 : Sv b n z) (h4 : Sv b n w) : Sv b (n + 1) (.tup [x, y, z, w]) := .tup (by simpa using hb) fun d hd => by
  simp only [List.mem_cons, List.not_mem_nil, or_false] at hd
  rcases hd with rfl | rfl | rfl | rfl <;> assumption
end
end Tw

set_option Elab.async false
set_option linter.all false
set_option maxRecDepth 100000
/-! Tw.LibW: words, their powers and turns. -/
namespace Tw
section
variable {α : Type}
def rep (a : List α) (k : Nat) : List α := (List.replicate k a).flatten
@[simp] theorem rep_zero (a : List α) : rep a 0 = [] := (rfl)
theorem rep_succ (a : List α) (k : Nat) : rep a (k + 1) = a ++ rep a k := by unfold rep; rw [List.replicate_succ, List.flatten_cons]
@[simp] theorem rep_length (a : List α) (k : Nat) : (rep a k).length = k * a.length := by
  induction k with
  | zero => simp
  | succ k ih => rw [rep_succ, List.length_append, ih, Nat.succ_mul, Nat.add_comm]
@[simp] theorem rep_one (a : List α) : rep a 1 = a := by rw [rep_succ]; simp
@[simp] theorem rep_nil (k : Nat) : rep ([] : List α) k = [] := by
  induction k with
  | zero => rfl
  | succ k ih => rw [rep_succ, ih]; rfl
theorem rep_add (a : List α) (k l : Nat) : rep a (k + l) = rep a k ++ rep a l := by
  induction k with
  | zero => simp
  | succ k ih => rw [Nat.succ_add, rep_succ, rep_succ, ih, List.append_assoc]
theorem rep_get (a : List α) (k : Nat) {i : Nat} (h : i < k * a.length) : (rep a k)[i]? = a[i % a.length]? := by
  induction k generalizing i with
  | zero => omega
  | succ k ih =>
    rw [rep_succ]
    by_cases hi : i < a.length
    · rw [List.getElem?_append_left hi, Nat.mod_eq_of_lt hi]
    · rw [List.getElem?_append_right (by omega), ih (by rw [Nat.succ_mul] at h; omega), ← Nat.mod_eq_sub_mod (by omega)]
/-- a word kept by a turn of k letters -/
def Inv (x : List α) (k : Nat) : Prop := ∀ i, i < x.length → x[i]? = x[(i + k) % x.length]?
theorem Inv.len (x : List α) : Inv x x.length := fun i h => by rw [Nat.add_mod_right, Nat.mod_eq_of_lt h]
theorem Inv.zero (x : List α) : Inv x 0 := fun i h => by rw [Nat.add_zero, Nat.mod_eq_of_lt h]
theorem Inv.sub {x : List α} {k l : Nat} (h : Inv x k) (h' : Inv x l) (le : l ≤ k) : Inv x (k - l) := fun i hi => by
  have hm : (i + (k - l)) % x.length < x.length := Nat.mod_lt _ (by omega)
  rw [h' _ hm, h i hi]
  congr 1
  rw [Nat.mod_add_mod]
  congr 1
  omega
theorem Inv.modL {x : List α} {k l : Nat} (h : Inv x k) (h' : Inv x l) : Inv x (k % l) := by
  induction k using Nat.strongRecOn with
  | _ k ih =>
    by_cases q : k < l
    · rw [Nat.mod_eq_of_lt q]; exact h
    · by_cases z : l = 0
      · subst z; rw [Nat.mod_zero]; exact h
      · rw [Nat.mod_eq_sub_mod (by omega)]
        exact ih (k - l) (by omega) (h.sub h' (by omega))
theorem Inv.gcd {x : List α} {k l : Nat} : Inv x k → Inv x l → Inv x (Nat.gcd k l) := by
  induction k, l using Nat.gcd.induction with
  | H0 n => intro _ h; rw [Nat.gcd_zero_left]; exact h
  | H1 m n hm ih =>
    intro h1 h2
    rw [Nat.gcd_rec]
    exact ih (h2.modL h1) h1
theorem Inv.mul {x : List α} {k : Nat} (h : Inv x k) : ∀ n, ∀ i, i < x.length → x[i]? = x[(i + n * k) % x.length]? := by
  intro n
  induction n with
  | zero => intro i hi; rw [Nat.zero_mul, Nat.add_zero, Nat.mod_eq_of_lt hi]
  | succ n ih =>
    intro i hi
    have hm : (i + n * k) % x.length < x.length := Nat.mod_lt _ (by omega)
    rw [ih i hi, h _ hm]
    congr 1
    rw [Nat.mod_add_mod]
    congr 1
    rw [Nat.succ_mul]; omega
/-- each letter is the one of its place's rest -/
theorem Inv.rest {x : List α} {k : Nat} (h : Inv x k) (hk : 0 < k) {i : Nat} (hi : i < x.length) : x[i]? = x[i % k]? := by
  have hr : i % k ≤ i := Nat.mod_le _ _
  have hl : i % k < x.length := by omega
  rw [h.mul (i / k) (i % k) hl]
  have : i % k + i / k * k = i := by rw [Nat.mul_comm]; exact Nat.mod_add_div i k
  rw [this, Nat.mod_eq_of_lt hi]
/-- a power -/
theorem Inv.pow {x : List α} {d : Nat} (h : Inv x d) (hd : 0 < d) (hx : d ∣ x.length) : x = rep (x.take d) (x.length / d) := by
  by_cases h0 : x.length = 0
  · have : x = [] := List.eq_nil_of_length_eq_zero h0
    subst this; simp
  · have hle : d ≤ x.length := Nat.le_of_dvd (by omega) hx
    have hl : (x.take d).length = d := by rw [List.length_take]; omega
    have e : x.length / d * d = x.length := Nat.div_mul_cancel hx
    apply List.ext_getElem?
    intro i
    by_cases hi : i < x.length
    · rw [rep_get _ _ (by rw [hl, e]; exact hi), hl, List.getElem?_take_of_lt (Nat.mod_lt _ hd)]
      exact h.rest hd hi
    · rw [List.getElem?_eq_none (by omega), List.getElem?_eq_none (by rw [rep_length, hl, e]; omega)]
/-- powers are kept -/
theorem Inv.ofPow {w : List α} {n : Nat} : Inv (rep w n) w.length := by
  intro i hi
  rw [rep_length] at hi
  have hn : 0 < n * w.length := by omega
  rw [rep_get _ _ hi, rep_get _ _ (by rw [rep_length]; exact Nat.mod_lt _ hn), rep_length]
  congr 1
  rw [Nat.mod_mod_of_dvd _ (Nat.dvd_mul_left _ _), Nat.add_mod_right]
theorem Inv.dvd {x : List α} {k l : Nat} (h : Inv x k) (hd : k ∣ l) : Inv x l := by
  obtain ⟨c, rfl⟩ := hd
  intro i hi
  have := h.mul c i hi
  rwa [Nat.mul_comm] at this
/-- words that commute -/
theorem comm_inv {u v : List α} (h : u ++ v = v ++ u) : Inv (u ++ v) u.length := by
  intro i hi
  rw [List.length_append] at hi
  have e : (u ++ v)[i]? = (v ++ u)[i]? := by rw [h]
  rw [e]
  by_cases hv : i < v.length
  · rw [List.getElem?_append_left hv, Nat.mod_eq_of_lt (by rw [List.length_append]; omega), List.getElem?_append_right (by omega)]
    congr 1; omega
  · rw [List.getElem?_append_right (by omega)]
    have : (i + u.length) % (u ++ v).length = i - v.length := by
      rw [List.length_append, Nat.mod_eq_sub_mod (by omega), Nat.mod_eq_of_lt (by omega)]; omega
    rw [this, List.getElem?_append_left (by omega)]
theorem comm_pow {u v : List α} (h : u ++ v = v ++ u) (hu : u ≠ []) : 0 < Nat.gcd u.length v.length ∧ u = rep (u.take (Nat.gcd u.length v.length)) (u.length / Nat.gcd u.length v.length) ∧ v = rep (u.take (Nat.gcd u.length v.length)) (v.length / Nat.gcd u.length v.length) := by
  have hp : 0 < u.length := List.length_pos_iff.mpr hu
  have hg : 0 < Nat.gcd u.length v.length := Nat.gcd_pos_of_pos_left _ hp
  have hgu : Nat.gcd u.length v.length ∣ u.length := Nat.gcd_dvd_left _ _
  have hgv : Nat.gcd u.length v.length ∣ v.length := Nat.gcd_dvd_right _ _
  have i1 := comm_inv h
  have i2 : Inv (u ++ v) (Nat.gcd u.length v.length) := by
    have := i1.gcd (Inv.len (u ++ v))
    rw [List.length_append, Nat.gcd_self_add_right] at this
    exact this
  have e := i2.pow hg (by rw [List.length_append]; exact Nat.dvd_add hgu hgv)
  have hle : Nat.gcd u.length v.length ≤ u.length := Nat.le_of_dvd hp hgu
  have hadd : (u.length + v.length) / Nat.gcd u.length v.length = u.length / Nat.gcd u.length v.length + v.length / Nat.gcd u.length v.length := by
    obtain ⟨c, hc⟩ := hgu
    generalize Nat.gcd u.length v.length = g at *
    rw [hc, Nat.mul_add_div hg, Nat.mul_div_cancel_left _ hg]
  rw [List.take_append_of_le_length hle, List.length_append, hadd, rep_add] at e
  have hl : (u.take (Nat.gcd u.length v.length)).length = Nat.gcd u.length v.length := by rw [List.length_take]; omega
  have e2 := List.append_inj e (by rw [rep_length, hl, Nat.div_mul_cancel hgu])
  exact ⟨hg, e2.1, e2.2⟩
/-- the least root: the size -/
def IsRoot [DecidableEq α] (x : List α) (d : Nat) : Bool := decide (x.length % d = 0) && decide (rep (x.take d) (x.length / d) = x)
theorem isRoot_inv [DecidableEq α] {x : List α} {d : Nat} (hd : 0 < d) (h : IsRoot x d = true) : Inv x d := by
  unfold IsRoot at h
  rw [Bool.and_eq_true, decide_eq_true_eq, decide_eq_true_eq] at h
  by_cases h0 : x.length = 0
  · intro i hi; omega
  have hle : d ≤ x.length := Nat.le_of_dvd (by omega) (Nat.dvd_of_mod_eq_zero h.1)
  have hl : (x.take d).length = d := by rw [List.length_take]; omega
  have := Inv.ofPow (w := x.take d) (n := x.length / d)
  rw [h.2, hl] at this
  exact this
theorem inv_isRoot [DecidableEq α] {x : List α} {d : Nat} (hd : 0 < d) (h : Inv x d) (hx : d ∣ x.length) : IsRoot x d = true := by
  unfold IsRoot
  rw [Bool.and_eq_true, decide_eq_true_eq, decide_eq_true_eq]
  exact ⟨Nat.mod_eq_zero_of_dvd hx, (h.pow hd hx).symm⟩
def rootSz [DecidableEq α] (x : List α) : Nat := match (List.range' 1 (x.length - 1)).find? (IsRoot x) with
  | some d => d
  | none => x.length
theorem rootSz_spec [DecidableEq α] {x : List α} (hx : x ≠ []) : 0 < rootSz x ∧ rootSz x ≤ x.length ∧ rootSz x ∣ x.length ∧ Inv x (rootSz x) ∧ ∀ d, 0 < d → d ∣ x.length → Inv x d → rootSz x ≤ d := by
  have hp : 0 < x.length := List.length_pos_iff.mpr hx
  unfold rootSz
  split
  · rename_i d e
    have h1 := List.find?_some e
    have h2 := List.mem_of_find?_eq_some e
    rw [List.mem_range'_1] at h2
    have hd : d ∣ x.length := by
      unfold IsRoot at h1
      rw [Bool.and_eq_true, decide_eq_true_eq] at h1
      exact Nat.dvd_of_mod_eq_zero h1.1
    refine ⟨by omega, by omega, hd, isRoot_inv (by omega) h1, fun d' h0 hd' hi => ?_⟩
    rw [List.find?_eq_some_iff_getElem] at e
    obtain ⟨_, i, hi1, e2, hlt⟩ := e
    by_cases q : d ≤ d'
    · exact q
    · have := hlt (d' - 1) (by rw [List.getElem_range'] at e2; omega)
      rw [List.getElem_range'] at this
      have e3 : 1 + 1 * (d' - 1) = d' := by omega
      rw [e3, inv_isRoot h0 hi hd'] at this
      cases this
  · rename_i e
    refine ⟨hp, Nat.le_refl _, Nat.dvd_refl _, Inv.len x, fun d' h0 hd' hi => ?_⟩
    by_cases q : x.length ≤ d'
    · exact q
    · rw [List.find?_eq_none] at e
      have := e d' (by rw [List.mem_range'_1]; omega)
      rw [inv_isRoot h0 hi hd'] at this
      exact (this rfl).elim
/-- the root of the one is the root of both -/
theorem comm_root [DecidableEq α] {u v : List α} (h : u ++ v = v ++ u) (hu : u ≠ []) : u = rep (u.take (rootSz u)) (u.length / rootSz u) ∧ v = rep (u.take (rootSz u)) (v.length / rootSz u) := by
  obtain ⟨h1, h2, h3, h4, h5⟩ := rootSz_spec hu
  have hp : 0 < u.length := List.length_pos_iff.mpr hu
  refine ⟨h4.pow h1 h3, ?_⟩
  obtain ⟨hg, eu, ev⟩ := comm_pow h hu
  have hgu : Nat.gcd u.length v.length ∣ u.length := Nat.gcd_dvd_left _ _
  have hgv : Nat.gcd u.length v.length ∣ v.length := Nat.gcd_dvd_right _ _
  generalize Nat.gcd u.length v.length = g at *
  have hle : g ≤ u.length := Nat.le_of_dvd hp hgu
  have hl : (u.take g).length = g := by rw [List.length_take]; omega
  have ig : Inv u g := by
    have := Inv.ofPow (w := u.take g) (n := u.length / g)
    rw [← eu, hl] at this
    exact this
  have i3 := h4.gcd ig
  have hd : rootSz u ∣ g := by
    have hpos : 0 < Nat.gcd (rootSz u) g := Nat.gcd_pos_of_pos_left _ h1
    have l1 := h5 _ hpos (Nat.dvd_trans (Nat.gcd_dvd_left _ _) h3) i3
    have l2 := Nat.le_of_dvd h1 (Nat.gcd_dvd_left (rootSz u) g)
    have e : Nat.gcd (rootSz u) g = rootSz u := by omega
    rw [← e]
    exact Nat.gcd_dvd_right _ _
  -- the other one
  have hlr : (u.take (rootSz u)).length = rootSz u := by rw [List.length_take]; omega
  have hlv : v.length / rootSz u * rootSz u = v.length := Nat.div_mul_cancel (Nat.dvd_trans hd hgv)
  have hlg : v.length / g * g = v.length := Nat.div_mul_cancel hgv
  apply List.ext_getElem?
  intro i
  by_cases hi : i < v.length
  · rw [rep_get _ _ (by rw [hlr, hlv]; exact hi), hlr, List.getElem?_take_of_lt (Nat.mod_lt _ h1)]
    conv => lhs; rw [ev]
    rw [rep_get _ _ (by rw [hl, hlg]; exact hi), hl, List.getElem?_take_of_lt (Nat.mod_lt _ hg)]
    have hm : i % g < u.length := by have := Nat.mod_lt i hg; omega
    rw [h4.rest h1 hm, Nat.mod_mod_of_dvd _ hd]
  · rw [List.getElem?_eq_none (by omega), List.getElem?_eq_none (by rw [rep_length, hlr, hlv]; omega)]
end
end Tw
namespace Tw
@[simp] theorem repD_nums (a : List Int) (k : Int) : repD (numsD a) k = numsD (rep a k.toNat) := by
  unfold repD
  generalize k.toNat = n
  induction n with
  | zero => rfl
  | succ n ih => rw [List.replicate_succ, List.flatten_cons, ih, rep_succ, numsD_append]
theorem repOk_small {n : Nat} {k : Int} (hn : n ≤ 1000) (h0 : 0 ≤ k) (hk : k ≤ 1000) : repOk n k = true := by
  unfold repOk
  simp only [Bool.and_eq_true, decide_eq_true_eq]
  omega
end Tw

set_option Elab.async false
set_option linter.all false
set_option maxRecDepth 100000
set_option maxHeartbeats 1000000
/-! Tw.LibO: the order of words, the least turn. -/
namespace Tw
open Lib
open PySem.W (dataLt dataLe listLt)
theorem toPy_word (a : List Int) : toPy (.tup (numsD a)) = .tuple (a.map .int) := by
  rw [toPy_tup]
  congr 1
  induction a with
  | nil => rfl
  | cons x xs ih => show toPyL (.int x :: numsD xs) = _; rw [toPyL_cons, toPy_int, ih]; rfl
theorem lt_word (a b : List Int) : dataLt (toPy (.tup (numsD a))) (toPy (.tup (numsD b))) = listLt a b := by
  rw [toPy_word, toPy_word]
  exact PySem.W.DatumOrd.lt_eq (α := PySem.W.Tup Int) ⟨a⟩ ⟨b⟩
theorem listLt_iff : ∀ {a b : List Int}, listLt a b = true ↔ a < b
  | [], [] => by unfold listLt; simp
  | [], _ :: _ => by unfold listLt; simp
  | _ :: _, [] => by unfold listLt; simp
  | x :: xs, y :: ys => by
    unfold listLt
    rw [List.cons_lt_cons_iff]
    by_cases h : x = y
    · subst h
      rw [if_pos rfl, listLt_iff]
      simp
    · rw [if_neg h]
      show decide (x < y) = true ↔ _
      rw [decide_eq_true_eq]
      simp [h]
/-- the turn by k letters -/
def rot (k : Nat) (a : List Int) : List Int := a.drop k ++ a.take k
def turnsI (a : List Int) : List (List Int) := (List.range (max 1 a.length)).map fun k => rot k a
def IsTurn (a b : List Int) : Prop := ∃ u v, a = u ++ v ∧ b = v ++ u
theorem mem_turns {a b : List Int} : b ∈ turnsI a ↔ IsTurn a b := by
  unfold turnsI IsTurn
  rw [List.mem_map]
  constructor
  · rintro ⟨k, hk, rfl⟩
    exact ⟨a.take k, a.drop k, (List.take_append_drop k a).symm, rfl⟩
  · rintro ⟨u, v, rfl, rfl⟩
    by_cases hv : v = []
    · subst hv
      refine ⟨0, List.mem_range.mpr (by omega), ?_⟩
      unfold rot
      simp
    · refine ⟨u.length, List.mem_range.mpr ?_, ?_⟩
      · have : 0 < v.length := List.length_pos_iff.mpr hv
        rw [List.length_append]
        omega
      · unfold rot; simp
theorem IsTurn.refl (a : List Int) : IsTurn a a := ⟨[], a, rfl, by simp⟩
theorem IsTurn.symm {a b : List Int} : IsTurn a b → IsTurn b a := fun ⟨u, v, h1, h2⟩ => ⟨v, u, h2, h1⟩
theorem IsTurn.trans {a b c : List Int} : IsTurn a b → IsTurn b c → IsTurn a c := by
  rintro ⟨u, v, rfl, rfl⟩ ⟨u2, v2, h, rfl⟩
  rcases List.append_eq_append_iff.mp h with ⟨t, h1, h2⟩ | ⟨t, h1, h2⟩
  · subst h1 h2
    exact ⟨t, v2 ++ v, by simp, by simp⟩
  · subst h1 h2
    exact ⟨u ++ u2, t, by simp, by simp⟩
theorem IsTurn.len {a b : List Int} : IsTurn a b → a.length = b.length := by
  rintro ⟨u, v, rfl, rfl⟩
  simp [Nat.add_comm]
/-- the least turn -/
def leastI (a : List Int) : List Int := (turnsI a).foldl (fun x y => if y < x then y else x) a
theorem foldl_least : ∀ (xs : List (List Int)) (x : List Int), (xs.foldl (fun x y => if y < x then y else x) x) ∈ x :: xs ∧ ∀ y ∈ x :: xs, ¬ y < xs.foldl (fun x y => if y < x then y else x) x
  | [], x => ⟨List.mem_cons_self, fun y hy => by
    rw [List.mem_singleton.mp hy]
    exact List.lt_irrefl x⟩
  | z :: zs, x => by
    obtain ⟨h1, h2⟩ := foldl_least zs (if z < x then z else x)
    rw [List.foldl_cons]
    generalize hm : zs.foldl (fun x y => if y < x then y else x) (if z < x then z else x) = m at h1 h2
    refine ⟨?_, fun y hy => ?_⟩
    · rcases List.mem_cons.mp h1 with h | h
      · by_cases hz : z < x
        · rw [if_pos hz] at h; rw [h]; exact List.mem_cons_of_mem _ List.mem_cons_self
        · rw [if_neg hz] at h; rw [h]; exact List.mem_cons_self
      · exact List.mem_cons_of_mem _ (List.mem_cons_of_mem _ h)
    · have hw := h2 _ List.mem_cons_self
      rcases List.mem_cons.mp hy with rfl | hy
      · by_cases hz : z < y
        · rw [if_pos hz] at hw
          intro hlt
          exact hw (List.lt_trans hz hlt)
        · rw [if_neg hz] at hw; exact hw
      · rcases List.mem_cons.mp hy with rfl | hy
        · by_cases hz : y < x
          · rw [if_pos hz] at hw; exact hw
          · rw [if_neg hz] at hw
            intro hlt
            -- y < m, m ≤ x
            have hmx : ¬ x < m := hw
            have hyx : ¬ y < x := hz
            have h3 : x ≤ y := List.not_lt.mp hyx
            have h4 : m ≤ x := List.not_lt.mp hmx
            exact List.not_lt.mpr (List.le_trans h4 h3) hlt
        · exact h2 y (List.mem_cons_of_mem _ hy)
theorem leastI_mem (a : List Int) : leastI a ∈ turnsI a := by
  have h := (foldl_least (turnsI a) a).1
  rcases List.mem_cons.mp h with h | h
  · unfold leastI; rw [h]; exact mem_turns.mpr (IsTurn.refl a)
  · exact h
theorem leastI_le {a t : List Int} (h : t ∈ turnsI a) : leastI a ≤ t := List.not_lt.mp ((foldl_least (turnsI a) a).2 t (List.mem_cons_of_mem _ h))
theorem least_uniq {a m : List Int} (h : m ∈ turnsI a) (h2 : ∀ t ∈ turnsI a, m ≤ t) : m = leastI a := List.le_antisymm (h2 _ (leastI_mem a)) (leastI_le h)
theorem leastI_turn {a b : List Int} (h : IsTurn a b) : leastI a = leastI b := by
  refine least_uniq (mem_turns.mpr (h.symm.trans (mem_turns.mp (leastI_mem a)))) fun t ht => leastI_le (mem_turns.mpr (h.trans (mem_turns.mp ht)))
theorem turn_iff {a b : List Int} : leastI a = leastI b ↔ IsTurn a b :=
  ⟨fun h => (mem_turns.mp (leastI_mem a)).trans (by rw [h]; exact (mem_turns.mp (leastI_mem b)).symm), leastI_turn⟩
end Tw

set_option Elab.async false
set_option linter.all false
set_option maxRecDepth 100000
/-! shared defs as terms. -/
namespace Tw
namespace Lib
noncomputable def b_root_of_0 : Sm Fl := blk [iteS (andB (cmp .Eq true (bin .Mod true (blt1 .len (vP 0)) (vP 1)) (ret (.int 0))) (cmp .Eq true (bin .Mult true (slc true (vP 0) none (some (vP 1))) (bin .FloorDiv true (blt1 .len (vP 0)) (vP 1))) (vP 0))) (blk [rtS (tupE [slc true (vP 0) none (some (vP 1)), bin .FloorDiv true (blt1 .len (vP 0)) (vP 1)])]) (blk [])]
noncomputable def c_root_of : List (Sm Fl) := [forS (.nm 1) (itR2 (ret (.int 1)) (blt1 .len (vP 0))) b_root_of_0,
    rtS (tupE [vE 0, ret (.int 1)])]
noncomputable def F_root_of : Fn := ⟨1, 2, blk c_root_of⟩
noncomputable def v_turns_of_0 : Sm D := bin .Add true (slc true (vP 0) (some (vP 1)) none) (slc true (vP 0) none (some (vP 1)))
noncomputable def v_turns_of_1 : Sm D := ret (.bl true)
noncomputable def c_turns_of : List (Sm Fl) := [rtS (srt (dc [1] (.nm 1) (itR1 (blt2 .max true (ret (.int 1)) (blt1 .len (vP 0)))) [] v_turns_of_0 v_turns_of_1))]
noncomputable def F_turns_of : Fn := ⟨1, 2, blk c_turns_of⟩
noncomputable def b_turned_by_0 : Sm Fl := blk [iteS (cmp .Eq true (bin .Add true (slc true (vP 0) (some (vP 2)) none) (slc true (vP 0) none (some (vP 2)))) (vP 1)) (blk [rtS (vR 2)]) (blk [])]
noncomputable def c_turned_by : List (Sm Fl) := [forS (.nm 2) (itR1 (blt2 .max true (ret (.int 1)) (blt1 .len (vP 0)))) b_turned_by_0,
    rtS (ret .non)]
noncomputable def F_turned_by : Fn := ⟨2, 3, blk c_turned_by⟩
noncomputable def c_least_turn : List (Sm Fl) := [rtS (idx true (call "turns_of" [.inl 0]) (ret (.int 0)))]
noncomputable def F_least_turn : Fn := ⟨1, 1, blk c_least_turn⟩
noncomputable def v__law_words_0 : Sm D := bin .Add true (vP 6) (tupE [vE 7])
noncomputable def b__law_words_1 : Sm Fl := blk [asg 5 (binV .Add 5 (frE (lc [7] (.nm 7) (itR1 (vP 0)) [] v__law_words_0)))]
noncomputable def b__law_words_2 : Sm Fl := blk [asg 5 (lstE []),
    forS (.nm 6) (itS (itV 3)) b__law_words_1,
    asg 3 (vE 5),
    asg 2 (bin .Add true (vP 2) (vP 3))]
noncomputable def c__law_words : List (Sm Fl) := [asg 2 (lstE [tupE []]),
    asg 3 (lstE [tupE []]),
    forS (.nm 4) (itR1 (vP 1)) b__law_words_2,
    rtS (vR 2)]
noncomputable def F__law_words : Fn := ⟨2, 8, blk c__law_words⟩
end Lib
end Tw

set_option Elab.async false
set_option linter.all false
set_option maxRecDepth 100000
set_option maxHeartbeats 1000000
/-! Tw.LibP: words as keys; sorted words; dict comprehensions of words. -/
namespace Tw
open Lib
open PySem (Str NestedKey)
open PySem.W (dataLt dataLe)
/-- a word, as a value -/
abbrev wD (a : List Int) : D := .tup (numsD a)
theorem nkL_nums : ∀ a : List Int, nkL (numsD a) = some (a.map NestedKey.num)
  | [] => rfl
  | x :: xs => by
    show nkL (.int x :: numsD xs) = _
    unfold nkL
    rw [nkL_nums xs]; rfl
theorem nk_word (a : List Int) : nk (wD a) = some (.tup (a.map NestedKey.num)) := by
  unfold nk
  rw [nkL_nums]; rfl
theorem num_inj : ∀ {a b : List Int}, a.map NestedKey.num = b.map NestedKey.num → a = b
  | [], [], _ => rfl
  | [], _ :: _, h => by cases h
  | _ :: _, [], h => by cases h
  | x :: xs, y :: ys, h => by
    rw [List.map_cons, List.map_cons] at h
    injection h with h1 h2
    injection h1 with h1
    rw [h1, num_inj h2]
theorem sameK_word (a b : List Int) : sameK (wD a) (wD b) = decide (a = b) := by
  unfold sameK
  rw [nk_word, nk_word]
  by_cases h : a = b
  · subst h; simp
  · have : ¬ (some (NestedKey.tup (a.map NestedKey.num)) = some (NestedKey.tup (b.map NestedKey.num))) := fun q => h (by
      injection q with q
      injection q with q
      exact num_inj q)
    rw [decide_eq_false this, decide_eq_false h]
theorem depth_nums : ∀ a : List Int, NestedKey.depthAll (a.map NestedKey.num) ≤ 1
  | [] => by unfold List.map NestedKey.depthAll; omega
  | x :: xs => by
    rw [List.map_cons]
    unfold NestedKey.depthAll NestedKey.depth
    have := depth_nums xs
    omega
theorem kOk_word (a : List Int) : kOk (wD a) = true := by
  show (match nkL (numsD a) with
    | some q => decide ((NestedKey.tup q).depth ≤ 8)
    | none => false) = true
  rw [nkL_nums]
  have := depth_nums a
  refine decide_eq_true ?_
  unfold NestedKey.depth
  omega
theorem homK_words (ws : List (List Int)) (a : List Int) : homK (ws.map wD) (wD a) = true := by
  unfold homK
  rw [kOk_word, Bool.true_and, List.all_map, List.all_eq_true]
  intro w _
  show (kOk (wD w) && (true == true)) = true
  rw [kOk_word]; rfl
theorem hasK_words (ws : List (List Int)) (a : List Int) : hasK (ws.map wD) (wD a) = decide (a ∈ ws) := by
  unfold hasK
  rw [List.any_map]
  induction ws with
  | nil => rfl
  | cons w ws ih =>
    rw [List.any_cons, ih]
    show (sameK (wD w) (wD a) || _) = _
    rw [sameK_word]
    by_cases h : w = a
    · subst h; simp
    · have : ¬ a = w := fun q => h q.symm
      simp [h, this]
/-- each once, where it first stands -/
def onceF (acc : List (List Int)) (a : List Int) : List (List Int) := if a ∈ acc then acc else acc ++ [a]
def once (ws : List (List Int)) : List (List Int) := ws.foldl onceF []
theorem putVs_true : ∀ (ks : List D) (k : D) (n : D), putVs ks (ks.map fun _ => n) k n = ks.map fun _ => n
  | [], _, _ => rfl
  | j :: js, k, n => by
    rw [List.map_cons]
    show (if sameK j k = true then n :: putVs js (js.map fun _ => n) k n else n :: putVs js (js.map fun _ => n) k n) = _
    rw [putVs_true js k n]
    split <;> rfl
theorem putK_words (ws : List (List Int)) (a : List Int) (n : D) : putK (ws.map wD) ((ws.map wD).map fun _ => n) (wD a) n = ((onceF ws a).map wD, ((onceF ws a).map wD).map fun _ => n) := by
  unfold putK onceF
  rw [hasK_words]
  by_cases h : a ∈ ws
  · rw [decide_eq_true h, if_pos rfl, if_pos h, putVs_true]
  · rw [decide_eq_false h, if_neg Bool.false_ne_true, if_neg h]
    simp
theorem once_mem_go : ∀ (ws acc : List (List Int)) (a : List Int), a ∈ ws.foldl onceF acc ↔ a ∈ acc ∨ a ∈ ws
  | [], acc, a => by simp
  | w :: ws, acc, a => by
    rw [List.foldl_cons, once_mem_go ws]
    unfold onceF
    by_cases h : w ∈ acc
    · rw [if_pos h]
      constructor
      · rintro (q | q)
        · exact .inl q
        · exact .inr (List.mem_cons_of_mem _ q)
      · rintro (q | q)
        · exact .inl q
        · rcases List.mem_cons.mp q with rfl | q
          · exact .inl h
          · exact .inr q
    · rw [if_neg h]
      simp only [List.mem_append, List.mem_singleton, List.mem_cons, or_assoc]
      try simp
theorem once_mem {ws : List (List Int)} {a : List Int} : a ∈ once ws ↔ a ∈ ws := by
  unfold once
  rw [once_mem_go]
  simp
theorem once_nodup_go : ∀ (ws acc : List (List Int)), acc.Nodup → (ws.foldl onceF acc).Nodup
  | [], acc, h => h
  | w :: ws, acc, h => by
    rw [List.foldl_cons]
    refine once_nodup_go ws _ ?_
    unfold onceF
    by_cases q : w ∈ acc
    · rw [if_pos q]; exact h
    · rw [if_neg q]
      rw [List.nodup_append]
      exact ⟨h, by simp, fun a ha b hb => by
        rw [List.mem_singleton.mp hb]
        exact fun e => q (e ▸ ha)⟩
theorem once_nodup (ws : List (List Int)) : (once ws).Nodup := once_nodup_go ws [] List.nodup_nil
theorem once_len_go : ∀ (ws acc : List (List Int)), (ws.foldl onceF acc).length ≤ acc.length + ws.length
  | [], acc => by simp
  | w :: ws, acc => by
    rw [List.foldl_cons]
    have := once_len_go ws (onceF acc w)
    have h2 : (onceF acc w).length ≤ acc.length + 1 := by
      unfold onceF
      split <;> simp
    rw [List.length_cons]
    omega
theorem once_len (ws : List (List Int)) : (once ws).length ≤ ws.length := by
  have := once_len_go ws []
  unfold once
  simpa using this
/-! ### sorted words -/
def wSort (ws : List (List Int)) : List (List Int) := ws.mergeSort fun a b => decide (a ≤ b)
theorem leD_word (a b : List Int) : dataLe false toPy (wD a) (wD b) = decide (a ≤ b) := by
  rw [PySem.W.dataLe_eq]
  show (!dataLt (toPy (wD b)) (toPy (wD a))) = _
  rw [lt_word]
  by_cases h : b < a
  · rw [listLt_iff.mpr h, decide_eq_false (fun q => (List.not_lt.mpr q) h)]; rfl
  · have : PySem.W.listLt b a = false := by
      cases e : PySem.W.listLt b a with
      | false => rfl
      | true => exact absurd (listLt_iff.mp e) h
    rw [this, decide_eq_true (List.not_lt.mp h)]; rfl
theorem srtL_words (ws : List (List Int)) : srtL (ws.map wD) = (wSort ws).map wD := by
  unfold srtL wSort
  exact (List.map_mergeSort fun a _ b _ => (leD_word a b).symm).symm
theorem alike_words (a b : List Int) : PySem.W.alike (toPy (wD a)) (toPy (wD b)) = true := by
  rw [toPy_word, toPy_word]
  unfold PySem.W.alike
  exact PySem.W.alike_ints a b
theorem frzL_map_word (ws : List (List Int)) : frzL (ws.map wD) = true := by
  induction ws with
  | nil => rfl
  | cons w ws ih => rw [List.map_cons, frzL_cons, ih]; simp
theorem okS_words {ws : List (List Int)} (hl : ws.length ≤ 100000) (hne : ws.length ≤ 1 ∨ ∀ w ∈ ws, w ≠ []) : okS (ws.map wD) = true := by
  unfold okS
  rw [Bool.and_eq_true, Bool.and_eq_true, Bool.and_eq_true, Bool.and_eq_true, Bool.or_eq_true]
  have sh : ∀ a : List Int, shp 60 (wD a) = true := fun a => by
    rw [shp_tup]
    induction a with
    | nil => unfold shpL; rfl
    | cons x xs ih => show shpL 59 (.int x :: numsD xs) = true; unfold shpL; rw [shp_int, ih]; rfl
  rw [Bool.or_eq_true, decide_eq_true_eq]
  refine ⟨frzL_map_word ws, szOk_small (by rw [List.length_map]; omega), ?_, ?_, hne.imp (fun h => by rw [List.length_map]; exact h) fun hne => .inl ?_⟩
  · rw [List.all_eq_true]
    intro x hx
    obtain ⟨a, _, rfl⟩ := List.mem_map.mp hx
    exact sh a
  · rw [List.all_eq_true]
    intro x hx
    obtain ⟨a, _, rfl⟩ := List.mem_map.mp hx
    rw [List.all_eq_true]
    intro y hy
    obtain ⟨b, _, rfl⟩ := List.mem_map.mp hy
    exact alike_words a b
  · rw [List.all_eq_true]
    intro x hx
    obtain ⟨a, ha, rfl⟩ := List.mem_map.mp hx
    cases a with
    | nil => exact absurd rfl (hne _ ha)
    | cons y ys => rfl
end Tw

set_option Elab.async false
set_option linter.all false
set_option maxRecDepth 100000
set_option maxHeartbeats 1000000
/-! Tw.LibQ: dict comprehensions that change nothing. -/
namespace Tw
open Lib
open PySem (Str NestedKey)
theorem dcGo_inv {e : Env} {own : List Nat} {tg : Tg} {ifs : List (Sm Bool)} {ek ev : Sm D} {k : Option (Nat × D)} : ∀ {xs : List D} (ks vs : List D) (I : Nat → List D → List D → S → Prop),
    (∀ i x ks vs s, xs[i]? = some x → I i ks vs s → frz x = true ∧ ∃ s1, setT tg x e (wipeD own s) = .ok () s1 ∧ ∃ b s2, allT ifs e s1 = .ok b s2 ∧
      ((b = true ∧ ∃ a s3, ek e s2 = .ok a s3 ∧ ∃ d s4, ev e s3 = .ok d s4 ∧ still k e s4 = .ok () s4 ∧ (frz d && (homK ks a && szOk (ks.length + 1))) = true ∧ I (i + 1) (putK ks vs a d).1 (putK ks vs a d).2 s4) ∨ (b = false ∧ still k e s2 = .ok () s2 ∧ I (i + 1) ks vs s2))) →
    ∀ s, I 0 ks vs s → ∃ r s', dcGo own tg ifs ek ev k ks vs xs e s = .ok r (wipeD own s') ∧ I xs.length r.1 r.2 s'
  | [], ks, vs, I, h, s, h0 => ⟨(ks, vs), s, rfl, h0⟩
  | x :: xs, ks, vs, I, h, s, h0 => by
    obtain ⟨hz, s1, e1, b, s2, e2, h2⟩ := h 0 x ks vs s rfl h0
    have key : dcGo own tg ifs ek ev k ks vs (x :: xs) e s = ifB (frz x) (R.bind (setT tg x e (wipeD own s)) fun _ s1 => R.bind (allT ifs e s1) fun b s2 => (if b = true
      then bnd ek fun a => bnd ev fun d => bnd (still k) fun _ => grd (frz d && (homK ks a && szOk (ks.length + 1))) (dcGo own tg ifs ek ev k (putK ks vs a d).1 (putK ks vs a d).2 xs)
      else bnd (still k) fun _ => dcGo own tg ifs ek ev k ks vs xs) e s2) .bad := rfl
    rw [key, hz, ifB_true, e1, R.bind_ok, e2, R.bind_ok]
    rcases h2 with ⟨rfl, a, s3, e3, d, s4, e4, e5, hg, h3⟩ | ⟨rfl, e4, h3⟩
    · obtain ⟨r, s', e6, h5⟩ := dcGo_inv (xs := xs) (putK ks vs a d).1 (putK ks vs a d).2 (fun i => I (i + 1)) (fun i y ks vs s hy hi => h (i + 1) y ks vs s (by simpa using hy) hi) s4 h3
      refine ⟨r, s', ?_, h5⟩
      rw [if_pos rfl, bnd_ap, e3, R.bind_ok, bnd_ap, e4, R.bind_ok, bnd_ap, e5, R.bind_ok, grd_ap, hg, ifB_true]
      exact e6
    · obtain ⟨r, s', e6, h5⟩ := dcGo_inv (xs := xs) ks vs (fun i => I (i + 1)) (fun i y ks vs s hy hi => h (i + 1) y ks vs s (by simpa using hy) hi) s2 h3
      refine ⟨r, s', ?_, h5⟩
      rw [if_neg Bool.false_ne_true, bnd_ap, e4, R.bind_ok]
      exact e6
theorem dc_run {own : List Nat} {tg : Tg} {it : Sm Wk} {ifs : List (Sm Bool)} {ek ev : Sm D} {e : Env} {s s1 s2 : S} {xs : List D} {r : List D × List D} (hit : it e s = .ok (xs, none) s1) (hown : (ownOk own s1 && own.all fun i => !e.refs.contains i) = true)
    (hgo : dcGo own tg ifs ek ev none [] [] xs e (wipeD own s1) = .ok r s2) : dc own tg it ifs ek ev e s = .ok (.dic true r.1 r.2) (putB own s1 s2) := by
  show R.bind (it e s) _ = _
  rw [hit, R.bind_ok]
  show inBlk own _ e s1 = _
  unfold inBlk
  rw [if_pos hown, bnd_ap, hgo]
  rfl
/-- words as keys, the value one and the same -/
theorem dc_words {e : Env} {j : Nat} {it : Sm Wk} {ek ev : Sm D} {s : S} {xs : List D} {n : D} (f : D → List Int) (hn : frz n = true) (hit : it e s = .ok (xs, none) s) (hs : s[j]? = some none) (hr : e.refs.contains j = false) (hz : ∀ x ∈ xs, frz x = true) (hl : xs.length ≤ 100000)
    (hk : ∀ x ∈ xs, ek e (s.set j (some x)) = .ok (wD (f x)) (s.set j (some x))) (hv : ∀ x ∈ xs, ev e (s.set j (some x)) = .ok n (s.set j (some x))) :
    dc [j] (.nm j) it [] ek ev e s = .ok (.dic true ((once (xs.map f)).map wD) (((once (xs.map f)).map wD).map fun _ => n)) s := by
  have hsn : s.set j none = s := by
    obtain ⟨hj, e1⟩ := List.getElem?_eq_some_iff.mp hs
    apply List.ext_getElem (by simp)
    intro i h1 h2
    rw [List.getElem_set]
    split
    · rename_i q; subst q; exact e1.symm
    · rfl
  obtain ⟨r, s', e1, ⟨h1, h2, o, rfl⟩⟩ := dcGo_inv (own := [j]) (tg := .nm j) (ifs := []) (ek := ek) (ev := ev) (k := none) (e := e) (xs := xs) [] []
    (fun i ks vs s' => ks = (once ((xs.take i).map f)).map wD ∧ vs = ((once ((xs.take i).map f)).map wD).map (fun _ => n) ∧ ∃ o, s' = s.set j o)
    (fun i x ks vs s' hx hi => by
      obtain ⟨rfl, rfl, o, rfl⟩ := hi
      have hm := List.mem_of_getElem? hx
      have hil := (List.getElem?_eq_some_iff.mp hx).1
      have e2 : wipeD [j] (s.set j o) = s.set j none := by rw [wipeD_cons, wipeD_nil, List.set_set]
      refine ⟨hz x hm, s.set j (some x), by rw [e2, setT_nm, setv_ap, hr, List.set_set]; rfl, true, _, rfl, .inl ⟨rfl, _, _, hk x hm, n, _, hv x hm, rfl, ?_, ?_⟩⟩
      · rw [hn, homK_words, szOk_small]
        · rfl
        · rw [List.length_map]
          have := once_len ((xs.take i).map f)
          rw [List.length_map, List.length_take] at this
          omega
      · rw [putK_words]
        have : once ((xs.take (i + 1)).map f) = onceF (once ((xs.take i).map f)) (f x) := by
          rw [List.take_add_one, hx]
          unfold once
          rw [List.map_append, List.foldl_append]; rfl
        rw [this]
        exact ⟨rfl, rfl, _, rfl⟩)
    (s.set j none) ⟨rfl, rfl, none, rfl⟩
  rw [List.take_length] at h1 h2
  have e3 := dc_run (own := [j]) (tg := .nm j) (ifs := []) (ek := ek) (ev := ev) hit (by rw [ownOk_cons, hs]; simp only [List.contains_eq_mem] at hr; simp [hr]) (r := r) (s2 := s.set j none) (by
    rw [wipeD_cons, wipeD_nil, e1, wipeD_cons, wipeD_nil, List.set_set])
  rw [e3, h1, h2, putB_cons, putB_nil, hs]
  show R.ok _ ((s.set j none).set j none) = _
  rw [hsn, hsn]
theorem sorted_head {ws : List (List Int)} {m : List Int} (hm : m ∈ ws) (h : ∀ t ∈ ws, m ≤ t) : (wSort ws).head? = some m := by
  have hp : (wSort ws).Perm ws := List.mergeSort_perm ws _
  have hs : (wSort ws).Pairwise fun a b => decide (a ≤ b) = true := List.pairwise_mergeSort (fun a b c h1 h2 => by
      rw [decide_eq_true_eq] at *
      exact List.le_trans h1 h2) (fun a b => by
      rw [Bool.or_eq_true, decide_eq_true_eq, decide_eq_true_eq]
      exact List.le_total a b) ws
  cases hw : wSort ws with
  | nil =>
    rw [hw] at hp
    rw [List.Perm.eq_nil hp.symm] at hm
    cases hm
  | cons x xs =>
    rw [hw] at hp hs
    have hx : x ∈ ws := hp.mem_iff.mp List.mem_cons_self
    have hmx : m ∈ x :: xs := hp.mem_iff.mpr hm
    have h1 : m ≤ x := h x hx
    have h2 : x ≤ m := by
      rcases List.mem_cons.mp hmx with rfl | q
      · exact List.le_refl _
      · exact of_decide_eq_true ((List.pairwise_cons.mp hs).1 m q)
    rw [List.le_antisymm h1 h2]; rfl
theorem rng0 (m : Nat) : rng 0 (m : Int) = (List.range m).map (fun k : Nat => D.int (k : Int)) := by
  unfold rng
  rw [show ((m : Int) - 0).toNat = m by omega]
  exact List.map_congr_left fun k _ => by rw [Int.zero_add]
theorem max_one (n : Nat) : bi2 .max (.int 1) (.int (n : Int)) = some (.int ((max 1 n : Nat) : Int)) := by
  rw [bi2_max]
  by_cases h : (n : Int) > 1
  · rw [if_pos h, show max 1 n = n by omega]
  · rw [if_neg h, show max 1 n = 1 by omega]; rfl
/-- a word's turn by a number -/
def rotD (a : List Int) (x : D) : List Int := match x with
  | .int i => rot i.toNat a
  | _ => []
theorem rot_len (k : Nat) (a : List Int) : (rot k a).length = a.length := by
  unfold rot
  rw [List.length_append, List.length_drop, List.length_take]
  omega
theorem turns_rng (a : List Int) : (rng 0 ((max 1 a.length : Nat) : Int)).map (rotD a) = turnsI a := by
  rw [rng0, List.map_map]; rfl
theorem rng_mem {m : Nat} {x : D} (h : x ∈ rng 0 (m : Int)) : ∃ k : Nat, k < m ∧ x = .int (k : Int) := by
  rw [rng0] at h
  obtain ⟨k, hk, rfl⟩ := List.mem_map.mp h
  exact ⟨k, List.mem_range.mp hk, rfl⟩
theorem turnsI_len (a : List Int) : (turnsI a).length = max 1 a.length := by unfold turnsI; simp
theorem once_ne {a : List Int} : (once (turnsI a)).length ≤ 1 ∨ ∀ w ∈ once (turnsI a), w ≠ [] := by
  by_cases h : a = []
  · left
    have := once_len (turnsI a)
    rw [turnsI_len, h] at this
    rw [h]
    exact this
  · right
    intro w hw
    have := (mem_turns.mp (once_mem.mp hw)).len
    intro e
    rw [e] at this
    exact h (List.eq_nil_of_length_eq_zero this)
section
variable {Φ : Str → Option Fn}
theorem turns_of_run (h : Φ "turns_of" = some F_turns_of) {k : Nat} (hk : 1 ≤ k) {a : List Int} (hl : a.length ≤ 1000) :
    run Φ k "turns_of" [wD a] = .ok (.lst true ((wSort (once (turnsI a))).map wD)) [some (wD a)] := by
  obtain ⟨k, rfl⟩ : ∃ j, k = j + 1 := ⟨k - 1, by omega⟩
  rw [run_succ h]
  simp only [F_turns_of, c_turns_of]
  have rk : rngOk ((max 1 a.length : Nat) : Int) = true := rngOk_small (by omega) (by omega)
  have e1 : dc [1] (.nm 1) (itR1 (blt2 .max true (ret (.int 1)) (blt1 .len (vP 0)))) [] v_turns_of_0 v_turns_of_1 ⟨run Φ k, []⟩ [some (wD a), none] = .ok (.dic true ((once (turnsI a)).map wD) (((once (turnsI a)).map wD).map fun _ => .bl true)) [some (wD a), none] := by
    have q := dc_words (e := ⟨run Φ k, []⟩) (j := 1) (it := itR1 (blt2 .max true (ret (.int 1)) (blt1 .len (vP 0)))) (ek := v_turns_of_0) (ev := v_turns_of_1) (s := [some (wD a), none]) (xs := rng 0 ((max 1 a.length : Nat) : Int)) (n := .bl true)
      (rotD a) rfl (by simp [-bi2_max, max_one, rk]) rfl rfl (fun x hx => by obtain ⟨k, _, rfl⟩ := rng_mem hx; rfl) (by rw [rng_len]; omega)
      (fun x hx => by
        obtain ⟨k, hk, rfl⟩ := rng_mem hx
        have hk2 : k ≤ 1000 := by omega
        have z1 : szOk ((a.length - k) + min k a.length) = true := szOk_small (by omega)
        simp [v_turns_of_0, cut_to, cut_from, rotD, rot, z1])
      (fun x hx => by simp [v_turns_of_1])
    rw [turns_rng] at q
    exact q
  have ok := okS_words (ws := once (turnsI a)) (by have := once_len (turnsI a); rw [turnsI_len] at this; omega) once_ne
  have es : sortD (.dic true ((once (turnsI a)).map wD) (((once (turnsI a)).map wD).map fun _ => .bl true)) = some (.lst true ((wSort (once (turnsI a))).map wD)) := by
    show (if okS ((once (turnsI a)).map wD) = true then some (D.lst true (srtL ((once (turnsI a)).map wD))) else none) = _
    rw [if_pos ok, srtL_words]
  rw [List.map_map] at e1 es
  simp [e1, es]
theorem least_turn_run (ht : Φ "turns_of" = some F_turns_of) (h : Φ "least_turn" = some F_least_turn) {k : Nat} (hk : 2 ≤ k) {a : List Int} (hl : a.length ≤ 1000) :
    run Φ k "least_turn" [wD a] = .ok (wD (leastI a)) [some (wD a)] := by
  obtain ⟨k, rfl⟩ : ∃ j, k = j + 1 := ⟨k - 1, by omega⟩
  rw [run_succ h]
  simp only [F_least_turn, c_least_turn]
  have e1 := turns_of_run ht (k := k) (by omega) hl
  have hh := sorted_head (ws := once (turnsI a)) (once_mem.mpr (leastI_mem a)) (fun t ht => leastI_le (once_mem.mp ht))
  cases hw : wSort (once (turnsI a)) with
  | nil => rw [hw] at hh; cases hh
  | cons x xs =>
    rw [hw] at hh
    cases Option.some.inj hh
    rw [hw] at e1
    simp [e1]
end
end Tw

set_option Elab.async false
set_option linter.all false
set_option maxRecDepth 100000
set_option maxHeartbeats 1000000
/-! Tw.LibR: roots, turns by a number. -/
namespace Tw
open Lib
open PySem (Str)
/-- the root and the power -/
def rootI (a : List Int) : D := match (List.range' 1 (a.length - 1)).find? (IsRoot a) with
  | some d => .tup [.tup (numsD (a.take d)), .int ((a.length : Int) / (d : Int))]
  | none => .tup [.tup (numsD a), .int 1]
theorem isRoot_test {a : List Int} {d : Nat} (h1 : 1 ≤ d) (hl : a.length ≤ 1000) (hd : d < a.length) : IsRoot a d = (decide ((a.length : Int) % (d : Int) = 0) && decide (rep (a.take d) (((a.length : Int) / (d : Int)).toNat) = a)) := by
  unfold IsRoot
  have e1 : ((a.length : Int) / (d : Int)).toNat = a.length / d := by
    rw [← Int.natCast_ediv, Int.toNat_natCast]
  have e2 : ((a.length : Int) % (d : Int) = 0) ↔ (a.length % d = 0) := by
    rw [← Int.natCast_emod]
    exact Int.natCast_eq_zero
  rw [e1, decide_eq_decide.mpr e2]
theorem root_of_run {Φ : Str → Option Fn} (h : Φ "root_of" = some F_root_of) {k : Nat} (hk : 1 ≤ k) {a : List Int} (hl : a.length ≤ 1000) : run Φ k "root_of" [.tup (numsD a)] = .ok (rootI a) [some (.tup (numsD a))] := by
  obtain ⟨k, rfl⟩ : ∃ j, k = j + 1 := ⟨k - 1, by omega⟩
  rw [run_succ h]
  simp only [F_root_of, c_root_of]
  obtain ⟨f, s', e1, o1, rfl, q⟩ := forGo_inv (t := .nm 1) (c := b_root_of_0) (k := none) (e := ⟨run Φ k, []⟩) (xs := rng 1 a.length)
    (fun i s => ∃ o1, s = [some (.tup (numsD a)), o1] ∧ (List.range' 1 i).find? (IsRoot a) = none)
    (fun f s => ∃ o1, s = [some (.tup (numsD a)), o1] ∧ ((f = .nx ∧ (List.range' 1 (a.length - 1)).find? (IsRoot a) = none) ∨ (f = .rt (rootI a))))
    (fun i x s hx hi => by
      obtain ⟨o1, rfl, hn⟩ := hi
      obtain ⟨rfl, hb⟩ := rng_get hx
      have hd : (1 : Int) + (i : Int) = ((1 + i : Nat) : Int) := by omega
      rw [hd]
      have hlt : 1 + i < a.length := by omega
      have t := isRoot_test (a := a) (d := 1 + i) (by omega) hl hlt
      have ct := cut_to (numsD a) (1 + i)
      generalize hdd : 1 + i = d at *
      have hq : ((a.length : Int) / (d : Int)) = ((a.length / d : Nat) : Int) := (Int.natCast_ediv _ _).symm
      have hql := Nat.div_le_self a.length d
      have ro : repOk (min d a.length) ((a.length : Int) / (d : Int)) = true := by
        rw [hq]
        generalize a.length / d = q at *
        exact repOk_small (by omega) (by omega) (by omega)
      have d0' : 0 < d := by omega
      have d0 : (0 : Int) < (d : Int) := by omega
      have d1 : (d : Int) < 1073741824 := by omega
      have hnext : List.range' 1 (i + 1) = List.range' 1 i ++ [d] := by rw [List.range'_concat, Nat.one_mul, hdd]
      refine ⟨rfl, [some (.tup (numsD a)), some (.int d)], by simp, ?_⟩
      cases hr : IsRoot a d with
      | true =>
        have hrt : rootI a = .tup [.tup (numsD (a.take d)), .int ((a.length : Int) / (d : Int))] := by
          unfold rootI
          have : (List.range' 1 (a.length - 1)).find? (IsRoot a) = some d := by
            have e : List.range' 1 (a.length - 1) = List.range' 1 i ++ (d :: List.range' (d + 1) (a.length - 1 - i - 1)) := by
              have : a.length - 1 = i + (1 + (a.length - 1 - i - 1)) := by omega
              rw [this, ← List.range'_append, Nat.one_mul, hdd, Nat.add_comm 1, List.range'_succ]
              simp
            rw [e, List.find?_append, hn]
            simp [hr]
          rw [this]
        rw [hr] at t
        have t := t.symm
        rw [Bool.and_eq_true, decide_eq_true_eq, decide_eq_true_eq] at t
        obtain ⟨t1, t2⟩ := t
        refine ⟨.rt (rootI a), [some (.tup (numsD a)), some (.int d)], ?_, some (.int d), rfl, .inr rfl⟩
        rw [hrt]
        simp [b_root_of_0, d0, d0', d1, t1, ct, ro, t2]
      | false =>
        rw [hr] at t
        refine ⟨.nx, [some (.tup (numsD a)), some (.int d)], ?_, rfl, some (.int d), rfl, by rw [hnext, List.find?_append, hn]; simp [hr]⟩
        by_cases t1 : (a.length : Int) % (d : Int) = 0
        · have t2 : ¬ rep (a.take d) ((a.length : Int) / (d : Int)).toNat = a := by
            intro q
            rw [decide_eq_true t1, decide_eq_true q] at t
            cases t
          simp [b_root_of_0, d0, d0', d1, t1, ct, ro, t2]
        · simp [b_root_of_0, d0, d0', t1])
    (fun s hs => by
      obtain ⟨o1, rfl, hn⟩ := hs
      refine ⟨o1, rfl, .inl ⟨rfl, ?_⟩⟩
      rw [rng_len] at hn
      have : ((a.length : Int) - 1).toNat = a.length - 1 := by omega
      rw [this] at hn
      exact hn)
    [some (.tup (numsD a)), none] ⟨none, rfl, rfl⟩
  have rk : rngOk (a.length : Int) = true := rngOk_small (by omega) (by omega)
  have rk1 : rngOk 1 = true := rngOk_small (by omega) (by omega)
  rcases q with ⟨rfl, q⟩ | rfl
  · have hrt : rootI a = .tup [.tup (numsD a), .int 1] := by unfold rootI; rw [q]
    simp [e1, rk, rk1, hrt]
  · simp [e1, rk, rk1]
/-- the first place where they differ -/
def firstU (a b : List Int) : D := match (List.range a.length).find? (fun i => decide (a[i]? ≠ b[i]?)) with
  | some i => .int i
  | none => .non

/-- the first number of letters that turns one into the other -/
def tbI (a b : List Int) : Option Nat := (List.range (max 1 a.length)).find? fun k => decide (rot k a = b)
def tbD (a b : List Int) : D := match tbI a b with
  | some k => .int k
  | none => .non
theorem turned_by_run {Φ : Str → Option Fn} (h : Φ "turned_by" = some F_turned_by) {k : Nat} (hk : 1 ≤ k) {a b : List Int} (hl : a.length ≤ 1000) :
    run Φ k "turned_by" [wD a, wD b] = .ok (tbD a b) [some (wD a), some (wD b)] := by
  obtain ⟨k, rfl⟩ : ∃ j, k = j + 1 := ⟨k - 1, by omega⟩
  rw [run_succ h]
  simp only [F_turned_by, c_turned_by]
  have rk : rngOk ((max 1 a.length : Nat) : Int) = true := rngOk_small (by omega) (by omega)
  obtain ⟨f, s', e1, o1, rfl, q⟩ := forGo_inv (t := .nm 2) (c := b_turned_by_0) (k := none) (e := ⟨run Φ k, []⟩) (xs := rng 0 ((max 1 a.length : Nat) : Int))
    (fun i s => ∃ o1, s = [some (wD a), some (wD b), o1] ∧ (List.range i).find? (fun k => decide (rot k a = b)) = none)
    (fun f s => ∃ o1, s = [some (wD a), some (wD b), o1] ∧ ((f = .nx ∧ tbI a b = none) ∨ (∃ k, tbI a b = some k ∧ f = .rt (.int k))))
    (fun i x s hx hi => by
      obtain ⟨o1, rfl, hn⟩ := hi
      obtain ⟨rfl, hb⟩ := rng_get hx
      rw [Int.zero_add]
      have hlt : i < max 1 a.length := by omega
      have z1 : szOk ((a.length - i) + min i a.length) = true := szOk_small (by omega)
      refine ⟨rfl, [some (wD a), some (wD b), some (.int i)], by simp, ?_⟩
      by_cases hr : rot i a = b
      · have ht : tbI a b = some i := by
          unfold tbI
          have e : List.range (max 1 a.length) = List.range i ++ (i :: List.range' (i + 1) (max 1 a.length - i - 1)) := by
            have : max 1 a.length = i + (1 + (max 1 a.length - i - 1)) := by omega
            rw [this, List.range_eq_range', List.range_eq_range', ← List.range'_append, Nat.one_mul, Nat.add_comm 1, List.range'_succ]
            simp
          rw [e, List.find?_append, hn]
          simp [hr]
        refine ⟨.rt (.int i), _, ?_, some (.int i), rfl, .inr ⟨i, ht, rfl⟩⟩
        have hr2 : a.drop i ++ a.take i = b := hr
        simp [b_turned_by_0, cut_to, cut_from, z1, hr2]
      · refine ⟨.nx, [some (wD a), some (wD b), some (.int i)], ?_, rfl, some (.int i), rfl, by rw [List.range_succ, List.find?_append, hn]; simp [hr]⟩
        have hr2 : ¬ a.drop i ++ a.take i = b := hr
        simp [b_turned_by_0, cut_to, cut_from, z1, hr2])
    (fun s hs => by
      obtain ⟨o1, rfl, hn⟩ := hs
      refine ⟨o1, rfl, .inl ⟨rfl, ?_⟩⟩
      rw [rng_len] at hn
      have : (((max 1 a.length : Nat) : Int) - 0).toNat = max 1 a.length := by omega
      rw [this] at hn
      exact hn)
    [some (wD a), some (wD b), none] ⟨none, rfl, rfl⟩
  rcases q with ⟨rfl, q⟩ | ⟨k, q, rfl⟩
  · have hrt : tbD a b = .non := by unfold tbD; rw [q]
    simp [-bi2_max, max_one, e1, rk, hrt]
  · have hrt : tbD a b = .int k := by unfold tbD; rw [q]
    simp [-bi2_max, max_one, e1, rk, hrt]
theorem tbI_some {a b : List Int} {k : Nat} (h : tbI a b = some k) : k < max 1 a.length ∧ rot k a = b := by
  have h1 := List.find?_some h
  have h2 := List.mem_of_find?_eq_some h
  exact ⟨List.mem_range.mp h2, of_decide_eq_true h1⟩
theorem tbI_none {a b : List Int} (h : tbI a b = none) : ¬ IsTurn a b := by
  intro t
  obtain ⟨k, hk, e⟩ := List.mem_map.mp (mem_turns.mpr t)
  have := List.find?_eq_none.mp h k hk
  exact this (decide_eq_true e)
end Tw

set_option Elab.async false
set_option linter.all false
set_option maxRecDepth 100000
set_option maxHeartbeats 1000000
/-! Tw.LibS: what stands between a word and its turn. -/
namespace Tw
open Lib
theorem rot_app (x y : List Int) : rot x.length (x ++ y) = y ++ x := by unfold rot; simp
theorem rot_add {a : List Int} {n d : Nat} (h : n + d ≤ a.length) : rot d (rot n a) = rot (n + d) a := by
  obtain ⟨x, y, w, rfl, hx, hy⟩ : ∃ x y w, a = x ++ (y ++ w) ∧ x.length = n ∧ y.length = d := by
    refine ⟨a.take n, (a.drop n).take d, (a.drop n).drop d, by rw [List.take_append_drop, List.take_append_drop], ?_, ?_⟩
    · rw [List.length_take]; omega
    · rw [List.length_take, List.length_drop]; omega
  subst hx hy
  rw [rot_app, List.append_assoc, rot_app]
  have := rot_app (x ++ y) w
  rw [List.length_append, List.append_assoc] at this
  rw [this, List.append_assoc]
theorem rot_inj {x y : List Int} {n : Nat} (hl : x.length = y.length) (h : rot n x = rot n y) : x = y := by
  unfold rot at h
  obtain ⟨h1, h2⟩ := List.append_inj h (by rw [List.length_drop, List.length_drop, hl])
  rw [← List.take_append_drop n x, ← List.take_append_drop n y, h1, h2]
theorem rot_inv {a : List Int} {d : Nat} (h : rot d a = a) : Inv a (a.take d).length := by
  have e : a.take d ++ a.drop d = a.drop d ++ a.take d := by rw [List.take_append_drop]; exact h.symm
  have := comm_inv e
  rwa [List.take_append_drop] at this
theorem rootSz_dvd {a : List Int} (ha : a ≠ []) {d : Nat} (h : Inv a d) : rootSz a ∣ d := by
  obtain ⟨h1, h2, h3, h4, h5⟩ := rootSz_spec ha
  have hg := Inv.gcd h h4
  have hp : 0 < Nat.gcd d (rootSz a) := Nat.gcd_pos_of_pos_right _ h1
  have hle := h5 _ hp (Nat.dvd_trans (Nat.gcd_dvd_right _ _) h3) hg
  have := Nat.le_of_dvd h1 (Nat.gcd_dvd_right d (rootSz a))
  have e : Nat.gcd d (rootSz a) = rootSz a := by omega
  rw [← e]
  exact Nat.gcd_dvd_left _ _
theorem rot_same {a : List Int} (ha : a ≠ []) {i k : Nat} (hi : i ≤ a.length) (hk : k ≤ a.length) (h : rot i a = rot k a) : i % rootSz a = k % rootSz a := by
  have key : ∀ {i k : Nat}, i ≤ k → k ≤ a.length → rot i a = rot k a → i % rootSz a = k % rootSz a := by
    intro i k hik hk h
    have e1 : rot (k - i) a = a := by
      have h1 : rot (k - i) (rot i a) = rot k a := by rw [rot_add (by omega), show i + (k - i) = k by omega]
      have h2 : rot i (rot (k - i) a) = rot k a := by rw [rot_add (by omega), show k - i + i = k by omega]
      exact rot_inj (n := i) (rot_len _ _) (by rw [h2, h])
    have h3 := rot_inv e1
    rw [List.length_take, show min (k - i) a.length = k - i by omega] at h3
    obtain ⟨c, hc⟩ := rootSz_dvd ha h3
    rw [show k = i + rootSz a * c by omega, Nat.add_mul_mod_self_left]
  rcases Nat.le_total i k with q | q
  · exact key q hk h
  · exact (key q hi h.symm).symm
/-- what goes between -/
def Btw (a b z : List Int) : Prop := a ++ z = z ++ b
theorem btw_form {a b : List Int} (ha : a ≠ []) : ∀ (n : Nat) {z : List Int}, z.length ≤ n → Btw a b z → ∃ i, i < a.length ∧ rot i a = b ∧ z = rep a (z.length / a.length) ++ a.take i ∧ i = z.length % a.length := by
  intro n
  have hp : 0 < a.length := List.length_pos_iff.mpr ha
  induction n with
  | zero =>
    intro z hz h
    have : z = [] := List.eq_nil_of_length_eq_zero (by omega)
    subst this
    unfold Btw at h
    rw [List.append_nil, List.nil_append] at h
    subst h
    exact ⟨0, hp, by unfold rot; simp, by simp [rep], by simp⟩
  | succ n ih =>
    intro z hz h
    unfold Btw at h
    rcases Nat.lt_or_ge z.length a.length with hl | hl
    · obtain ⟨y, rfl⟩ : ∃ y, a = z ++ y := by
        refine ⟨a.drop z.length, ?_⟩
        have e := congrArg (List.take z.length) h
        rw [List.take_append_of_le_length (by omega), List.take_append_of_le_length (Nat.le_refl _), List.take_length] at e
        conv => lhs; rw [← List.take_append_drop z.length a, e]
      refine ⟨z.length, hl, ?_, ?_, (Nat.mod_eq_of_lt hl).symm⟩
      · rw [rot_app]
        rw [List.append_assoc] at h
        exact List.append_cancel_left h
      · rw [Nat.div_eq_of_lt hl]
        unfold rep; simp
    · obtain ⟨y, rfl⟩ : ∃ y, z = a ++ y := by
        refine ⟨z.drop a.length, ?_⟩
        have e := congrArg (List.take a.length) h
        rw [List.take_append_of_le_length (Nat.le_refl _), List.take_append_of_le_length hl, List.take_length] at e
        conv => lhs; rw [← List.take_append_drop a.length z, ← e]
      have h2 : Btw a b y := by
        unfold Btw
        rw [List.append_assoc] at h
        exact List.append_cancel_left h
      obtain ⟨i, h3, h4, h5, h6⟩ := ih (by rw [List.length_append] at hz; omega) h2
      refine ⟨i, h3, h4, ?_, by rw [List.length_append, Nat.add_mod_left]; exact h6⟩
      rw [List.length_append, Nat.add_div_left _ hp, rep_succ, List.append_assoc, ← h5]
/-- of one length there is one -/
theorem btw_uniq {a b z y : List Int} (ha : a ≠ []) (h : Btw a b z) (h' : Btw a b y) (hl : z.length = y.length) : z = y := by
  obtain ⟨i, _, _, e1, e2⟩ := btw_form ha z.length (Nat.le_refl _) h
  obtain ⟨j, _, _, e3, e4⟩ := btw_form ha y.length (Nat.le_refl _) h'
  rw [e1, e3, e2, e4, hl]
theorem rep_rep (r : List Int) (m n : Nat) : rep (rep r m) n = rep r (m * n) := by
  induction n with
  | zero => simp [rep]
  | succ n ih => rw [rep_succ, ih, ← rep_add, Nat.mul_succ, Nat.add_comm]
theorem rep_take (r : List Int) {m i : Nat} (hr : 0 < r.length) (h : i ≤ m * r.length) : (rep r m).take i = rep r (i / r.length) ++ r.take (i % r.length) := by
  induction m generalizing i with
  | zero =>
    have : i = 0 := by omega
    subst this
    simp [rep]
  | succ m ih =>
    rw [rep_succ]
    rcases Nat.lt_or_ge i r.length with hl | hl
    · rw [List.take_append_of_le_length (by omega), Nat.div_eq_of_lt hl, Nat.mod_eq_of_lt hl]
      simp [rep]
    · obtain ⟨j, rfl⟩ : ∃ j, i = r.length + j := ⟨i - r.length, by omega⟩
      rw [List.take_length_add_append, ih (by rw [Nat.succ_mul] at h; omega), Nat.add_div_left _ hr, rep_succ, Nat.add_mod_left, List.append_assoc]
/-- all between words are of the form that the program builds -/
theorem btw_root {a b : List Int} (ha : a ≠ []) {k : Nat} (hk : k ≤ a.length) (hb : rot k a = b) {z : List Int} (h : Btw a b z) :
    ∃ t, z = rep (a.take (rootSz a)) t ++ (a.take k).take (k % rootSz a) := by
  obtain ⟨h1, h2, h3, h4, h5⟩ := rootSz_spec ha
  have hr : a = rep (a.take (rootSz a)) (a.length / rootSz a) := Inv.pow h4 h1 h3
  have hrl : (a.take (rootSz a)).length = rootSz a := by rw [List.length_take]; omega
  obtain ⟨i, e1, e2, e3, e4⟩ := btw_form ha z.length (Nat.le_refl _) h
  have hm := rot_same ha (Nat.le_of_lt e1) hk (e2.trans hb.symm)
  have e5 : a.take i = rep (a.take (rootSz a)) (i / rootSz a) ++ (a.take (rootSz a)).take (i % rootSz a) := by
    have := rep_take (a.take (rootSz a)) (m := a.length / rootSz a) (i := i) (by omega) (by rw [hrl, Nat.div_mul_cancel h3]; omega)
    rw [← hr, hrl] at this
    exact this
  have e6 : (a.take (rootSz a)).take (i % rootSz a) = (a.take k).take (k % rootSz a) := by
    rw [List.take_take, List.take_take, hm]
    have q1 := Nat.mod_lt k h1
    have q2 := Nat.mod_le k (rootSz a)
    rw [show min (k % rootSz a) (rootSz a) = k % rootSz a by omega, show min (k % rootSz a) k = k % rootSz a by omega]
  refine ⟨(a.length / rootSz a) * (z.length / a.length) + i / rootSz a, ?_⟩
  rw [rep_add, ← rep_rep, ← hr, List.append_assoc, ← e6, ← e5]
  exact e3
/-- the first of them goes between -/
theorem btw_rest {a b : List Int} (ha : a ≠ []) {k : Nat} (hk : k ≤ a.length) (hb : rot k a = b) : Btw a b ((a.take k).take (k % rootSz a)) := by
  obtain ⟨h1, h2, h3, h4, h5⟩ := rootSz_spec ha
  have hr : a = rep (a.take (rootSz a)) (a.length / rootSz a) := Inv.pow h4 h1 h3
  have hrl : (a.take (rootSz a)).length = rootSz a := by rw [List.length_take]; omega
  have q2 := Nat.mod_le k (rootSz a)
  have e0 : (a.take k).take (k % rootSz a) = a.take (k % rootSz a) := by rw [List.take_take, show min (k % rootSz a) k = k % rootSz a by omega]
  have e5 : a.take k = rep (a.take (rootSz a)) (k / rootSz a) ++ a.take (k % rootSz a) := by
    have := rep_take (a.take (rootSz a)) (m := a.length / rootSz a) (i := k) (by omega) (by rw [hrl, Nat.div_mul_cancel h3]; omega)
    rw [← hr, hrl] at this
    have q1 := Nat.mod_lt k h1
    rw [this, List.take_take, show min (k % rootSz a) (rootSz a) = k % rootSz a by omega]
  -- one turn by k is one by k % the root
  have hs : rot (k % rootSz a) a = b := by
    rw [← hb]
    have hinv : Inv a (rootSz a * (k / rootSz a)) := Inv.dvd h4 (Nat.dvd_mul_right _ _)
    have hle : rootSz a * (k / rootSz a) ≤ k := Nat.mul_div_le k (rootSz a)
    have hsum : rootSz a * (k / rootSz a) + k % rootSz a = k := Nat.div_add_mod k (rootSz a)
    have hrot : rot (rootSz a * (k / rootSz a)) a = a := by
      apply List.ext_getElem? 
      intro j
      unfold rot
      generalize rootSz a * (k / rootSz a) = d at *
      rcases Nat.lt_or_ge j a.length with hj | hj
      · rw [hinv j hj]
        rcases Nat.lt_or_ge j (a.length - d) with hq | hq
        · rw [List.getElem?_append_left (by rw [List.length_drop]; exact hq), List.getElem?_drop, Nat.mod_eq_of_lt (by omega), Nat.add_comm]
        · rw [List.getElem?_append_right (by rw [List.length_drop]; exact hq), List.length_drop, List.getElem?_take_of_lt (by omega)]
          congr 1
          rw [Nat.mod_eq_sub_mod (by omega), Nat.mod_eq_of_lt (by omega)]
          omega
      · rw [List.getElem?_eq_none (by rw [List.length_append, List.length_drop, List.length_take]; omega), List.getElem?_eq_none hj]
    have := rot_add (a := a) (n := rootSz a * (k / rootSz a)) (d := k % rootSz a) (by omega)
    rw [hrot, hsum] at this
    exact this
  rw [e0, ← hs]
  unfold Btw rot
  rw [← List.append_assoc, List.take_append_drop]
end Tw

set_option Elab.async false
set_option linter.all false
set_option maxRecDepth 100000
set_option maxHeartbeats 2000000
/-! Tw.LibT: all words up to a length. -/
namespace Tw
open Lib
open PySem (Str)
/-- a word's longer ones -/
def exts (l : Nat) (w : List Int) : List (List Int) := (List.range l).map fun i : Nat => w ++ [(i : Int)]
def step (l : Nat) (ws : List (List Int)) : List (List Int) := ws.flatMap (exts l)
def front (l : Nat) : Nat → List (List Int)
  | 0 => [[]]
  | n + 1 => step l (front l n)
def upTo (l : Nat) : Nat → List (List Int)
  | 0 => [[]]
  | n + 1 => upTo l n ++ front l (n + 1)
theorem exts_len (l : Nat) (w : List Int) : (exts l w).length = l := by unfold exts; simp
theorem step_len (l : Nat) (ws : List (List Int)) : (step l ws).length = ws.length * l := by
  induction ws with
  | nil => simp [step]
  | cons w ws ih =>
    unfold step at *
    rw [List.flatMap_cons, List.length_append, ih, exts_len, List.length_cons, Nat.succ_mul]; omega
theorem mem_front {l n : Nat} {w : List Int} : w ∈ front l n ↔ w.length = n ∧ ∀ x ∈ w, 0 ≤ x ∧ x < (l : Int) := by
  induction n generalizing w with
  | zero =>
    unfold front
    rw [List.mem_singleton]
    constructor
    · rintro rfl; simp
    · rintro ⟨h, _⟩; exact List.eq_nil_of_length_eq_zero h
  | succ n ih =>
    unfold front step
    rw [List.mem_flatMap]
    constructor
    · rintro ⟨v, hv, hw⟩
      obtain ⟨h1, h2⟩ := ih.mp hv
      obtain ⟨i, hi, rfl⟩ := List.mem_map.mp hw
      have := List.mem_range.mp hi
      refine ⟨by simp [h1], fun x hx => ?_⟩
      rcases List.mem_append.mp hx with hx | hx
      · exact h2 x hx
      · rw [List.mem_singleton.mp hx]; omega
    · rintro ⟨h1, h2⟩
      have hne : w ≠ [] := fun e => by rw [e] at h1; simp at h1
      have e := List.dropLast_concat_getLast hne
      have hl := h2 (w.getLast hne) (List.getLast_mem hne)
      refine ⟨w.dropLast, ih.mpr ⟨by rw [List.length_dropLast]; omega, fun x hx => h2 x (List.dropLast_subset _ hx)⟩, List.mem_map.mpr ⟨(w.getLast hne).toNat, List.mem_range.mpr (by omega), ?_⟩⟩
      rw [Int.toNat_of_nonneg hl.1]
      exact e
theorem front_nodup (l n : Nat) : (front l n).Nodup := by
  induction n with
  | zero => simp [front]
  | succ n ih =>
    unfold front step
    rw [List.nodup_iff_pairwise_ne, List.pairwise_flatMap]
    refine ⟨fun w _ => ?_, ?_⟩
    · unfold exts
      rw [List.pairwise_map]
      refine (List.nodup_iff_pairwise_ne.mp List.nodup_range).imp fun h q => h ?_
      have := List.append_cancel_left q
      exact Int.ofNat_inj.mp (by simpa using this)
    · refine (List.nodup_iff_pairwise_ne.mp ih).imp fun {v w} h x hx y hy q => h ?_
      subst q
      obtain ⟨i, _, rfl⟩ := List.mem_map.mp hx
      obtain ⟨j, _, e⟩ := List.mem_map.mp hy
      exact (List.append_inj' e (by simp)).1.symm
theorem mem_upTo {l n : Nat} {w : List Int} : w ∈ upTo l n ↔ w.length ≤ n ∧ ∀ x ∈ w, 0 ≤ x ∧ x < (l : Int) := by
  induction n with
  | zero =>
    unfold upTo
    have := mem_front (l := l) (n := 0) (w := w)
    unfold front at this
    rw [this, Nat.le_zero]
  | succ n ih =>
    unfold upTo
    rw [List.mem_append, ih, mem_front]
    constructor
    · rintro (⟨h1, h2⟩ | ⟨h1, h2⟩)
      · exact ⟨by omega, h2⟩
      · exact ⟨by omega, h2⟩
    · rintro ⟨h1, h2⟩
      rcases Nat.lt_or_ge n w.length with q | q
      · exact .inr ⟨by omega, h2⟩
      · exact .inl ⟨q, h2⟩
/-- ascending by length, each once -/
theorem upTo_up (l n : Nat) : (upTo l n).Pairwise fun x y => x.length ≤ y.length ∧ x ≠ y := by
  induction n with
  | zero => simp [upTo]
  | succ n ih =>
    unfold upTo
    rw [List.pairwise_append]
    refine ⟨ih, ?_, fun x hx y hy => ?_⟩
    · have h1 := List.nodup_iff_pairwise_ne.mp (front_nodup l (n + 1))
      refine List.Pairwise.imp_of_mem (fun {a b} ha hb h => ⟨?_, h⟩) h1
      rw [(mem_front.mp ha).1, (mem_front.mp hb).1]; exact Nat.le_refl _
    · have h1 := (mem_upTo.mp hx).1
      have h2 := (mem_front.mp hy).1
      exact ⟨by omega, fun e => by rw [e] at h1; omega⟩
theorem front_len (l n : Nat) (hl : l ≤ 3) : (front l n).length ≤ 3 ^ n := by
  induction n with
  | zero => simp [front]
  | succ n ih =>
    unfold front
    rw [step_len, Nat.pow_succ]
    exact Nat.mul_le_mul ih hl
theorem upTo_len (l n : Nat) (hl : l ≤ 3) : (upTo l n).length ≤ (n + 1) * 3 ^ n := by
  induction n with
  | zero => simp [upTo]
  | succ n ih =>
    unfold upTo
    rw [List.length_append]
    have h1 := front_len l (n + 1) hl
    have h2 : (n + 1) * 3 ^ n ≤ (n + 1) * 3 ^ (n + 1) := Nat.mul_le_mul_left _ (by rw [Nat.pow_succ]; omega)
    rw [show n + 1 + 1 = (n + 1) + 1 from rfl, Nat.succ_mul]
    omega
mutual
theorem sameD_rfl : ∀ d : D, sameD d d = true
  | .non => by unfold sameD; rfl
  | .bl b => by unfold sameD; simp
  | .int i => by unfold sameD; simp
  | .str x => by unfold sameD; simp
  | .tup xs => by unfold sameD; exact sameL_rfl xs
  | .lst o xs => by unfold sameD; rw [sameL_rfl xs]; simp
  | .dic o ks vs => by unfold sameD; rw [sameL_rfl ks, sameL_rfl vs]; simp
  | .scr ns => by unfold sameD; simp
theorem sameL_rfl : ∀ ds : List D, sameL ds ds = true
  | [] => by unfold sameL; rfl
  | d :: ds => by unfold sameL; rw [sameD_rfl d, sameL_rfl ds]; rfl
end
theorem still_same {k : Option (Nat × D)} {e : Env} {s : S} (h : ∀ i d, k = some (i, d) → s[i]? = some (some d)) : still k e s = .ok () s := by
  cases k with
  | none => rfl
  | some p =>
    obtain ⟨i, d⟩ := p
    unfold still
    dsimp only
    rw [h i d rfl]
    dsimp only
    rw [if_pos (sameD_rfl d)]
theorem fzL_words' (ws : List (List Int)) : fzL (ws.map wD) = ws.map wD := by
  induction ws with
  | nil => rfl
  | cons w ws ih => rw [List.map_cons, fzL_cons, ih]; simp
theorem words_inner {e : Env} (h5 : e.refs.contains 5 = false) (h6 : e.refs.contains 6 = false) (h7 : e.refs.contains 7 = false) {l : Nat} (hl : l ≤ 3) {n1 f2 o4 o6 : Option D} {fr : D} {k : Option (Nat × D)} (hk : ∀ i d, k = some (i, d) → i = 3 ∧ d = fr) {ws : List (List Int)} (hw : ws.length ≤ 1000) (hwl : ∀ w ∈ ws, w.length ≤ 1000) :
    ∃ o6', forGo (.nm 6) b__law_words_1 k (ws.map wD) e [some (.int l), n1, f2, some fr, o4, some (.lst true []), o6, none] = .ok .nx [some (.int l), n1, f2, some fr, o4, some (.lst true ((step l ws).map wD)), o6', none] := by
  have m5 : ¬ 5 ∈ e.refs := by simpa using h5
  have m6 : ¬ 6 ∈ e.refs := by simpa using h6
  obtain ⟨f, s', e1, rfl, o6', rfl⟩ := forGo_inv (t := .nm 6) (c := b__law_words_1) (k := k) (e := e) (xs := ws.map wD)
    (fun i s => ∃ o6', s = [some (.int l), n1, f2, some fr, o4, some (.lst true ((step l (ws.take i)).map wD)), o6', none])
    (fun f s => f = .nx ∧ ∃ o6', s = [some (.int l), n1, f2, some fr, o4, some (.lst true ((step l ws).map wD)), o6', none])
    (fun i x s hx hi => by
      obtain ⟨o6', rfl⟩ := hi
      rw [List.getElem?_map] at hx
      obtain ⟨w, hw1, rfl⟩ := Option.map_eq_some_iff.mp hx
      have hil := (List.getElem?_eq_some_iff.mp hw1).1
      have e2 : lc [7] (.nm 7) (itR1 (vP 0)) [] v__law_words_0 e [some (.int l), n1, f2, some fr, o4, some (.lst true ((step l (ws.take i)).map wD)), some (wD w), none] = .ok (.lst true ((exts l w).map wD)) [some (.int l), n1, f2, some fr, o4, some (.lst true ((step l (ws.take i)).map wD)), some (wD w), none] := by
        have rk : rngOk (l : Int) = true := rngOk_small (by omega) (by omega)
        have q := lc_map (e := e) (j := 7) (it := itR1 (vP 0)) (elt := v__law_words_0) (s := [some (.int l), n1, f2, some fr, o4, some (.lst true ((step l (ws.take i)).map wD)), some (wD w), none]) (xs := rng 0 (l : Int))
          (fun x => match x with | .int i => wD (w ++ [i]) | _ => .non) (by simp [rk]) rfl h7 (fun x hx => by obtain ⟨k, _, rfl⟩ := rng_mem hx; rfl) (by rw [rng_len]; omega)
          (fun x hx => by
            obtain ⟨k, hk, rfl⟩ := rng_mem hx
            have z1 : szOk (w.length + 1) = true := szOk_small (by have := hwl w (List.mem_of_getElem? hw1); omega)
            have z2 : numsD w ++ [D.int (k : Int)] = numsD (w ++ [(k : Int)]) := by unfold numsD; simp
            simp [v__law_words_0, z1, z2])
        rw [rng0, List.map_map] at q
        unfold exts
        rw [List.map_map]
        exact q
      have sl := step_len l (ws.take i)
      rw [List.length_take] at sl
      have el := exts_len l w
      have hle : min i ws.length * l ≤ 1000 * 3 := Nat.mul_le_mul (by omega) hl
      have sz : szOk ((step l (ws.take i)).length + (exts l w).length) = true := szOk_small (by omega)
      have hst : step l (ws.take (i + 1)) = step l (ws.take i) ++ exts l w := by
        rw [List.take_add_one, hw1]
        unfold step
        rw [List.flatMap_append]; simp
      refine ⟨by simp, [some (.int l), n1, f2, some fr, o4, some (.lst true ((step l (ws.take i)).map wD)), some (wD w), none], by simp [m6], .nx, [some (.int l), n1, f2, some fr, o4, some (.lst true ((step l (ws.take (i + 1))).map wD)), some (wD w), none], ?_, ?_⟩
      · simp [b__law_words_1, e2, fzL_words', sz, m5, hst, frzL_map_word]
      · exact ⟨still_same fun i d q => by obtain ⟨rfl, rfl⟩ := hk i d q; rfl, _, rfl⟩)
    (fun s hs => by
      obtain ⟨o6', rfl⟩ := hs
      rw [List.length_map, List.take_length]
      exact ⟨rfl, o6', rfl⟩)
    [some (.int l), n1, f2, some fr, o4, some (.lst true []), o6, none] ⟨o6, rfl⟩
  exact ⟨o6', e1⟩
theorem law_words_run {Φ : Str → Option Fn} (h : Φ "_law_words" = some F__law_words) {k : Nat} (hk : 1 ≤ k) {l n : Nat} (hl : l ≤ 3) (hn : n ≤ 7) :
    run Φ k "_law_words" [.int l, .int n] = .ok (.lst true ((upTo l n).map wD)) [some (.int l), some (.int n)] := by
  obtain ⟨k, rfl⟩ : ∃ j, k = j + 1 := ⟨k - 1, by omega⟩
  rw [run_succ h]
  simp only [F__law_words, c__law_words]
  have fl : ∀ m, m ≤ 6 → (front l m).length ≤ 1000 := fun m hm => by
    have h1 := front_len l m hl
    have h2 : 3 ^ m ≤ 3 ^ 6 := Nat.pow_le_pow_right (by omega) hm
    omega
  have fl7 : ∀ m, m ≤ 7 → (front l m).length ≤ 3000 := fun m hm => by
    have h1 := front_len l m hl
    have h2 : 3 ^ m ≤ 3 ^ 7 := Nat.pow_le_pow_right (by omega) hm
    omega
  have ul : ∀ m, m ≤ 7 → (upTo l m).length ≤ 20000 := fun m hm => by
    have h1 := upTo_len l m hl
    have h2 : 3 ^ m ≤ 3 ^ 7 := Nat.pow_le_pow_right (by omega) hm
    have h3 : (m + 1) * 3 ^ m ≤ 8 * 3 ^ 7 := Nat.mul_le_mul (by omega) h2
    omega
  obtain ⟨f, s', e1, rfl, o3, o4, o5, o6, rfl⟩ := forGo_inv (t := .nm 4) (c := b__law_words_2) (k := none) (e := ⟨run Φ k, []⟩) (xs := rng 0 (n : Int))
    (fun i s => ∃ o o4 o5 o6, s = [some (.int l), some (.int n), some (.lst true ((upTo l i).map wD)), some (.lst o ((front l i).map wD)), o4, o5, o6, none])
    (fun f s => f = .nx ∧ ∃ o o4 o5 o6, s = [some (.int l), some (.int n), some (.lst true ((upTo l n).map wD)), some (.lst o ((front l n).map wD)), o4, o5, o6, none])
    (fun i x s hx hi => by
      obtain ⟨o, o4, o5, o6, rfl⟩ := hi
      obtain ⟨rfl, hb⟩ := rng_get hx
      rw [Int.zero_add]
      have hi : i < 7 := by omega
      have f1 := fl i (by omega)
      have f2 := fl7 (i + 1) (by omega)
      have u1 := ul i (by omega)
      have sz : szOk ((upTo l i).length + (front l (i + 1)).length) = true := szOk_small (by omega)
      have hwl : ∀ w ∈ front l i, w.length ≤ 1000 := fun w hw => by have := (mem_front.mp hw).1; omega
      refine ⟨rfl, [some (.int l), some (.int n), some (.lst true ((upTo l i).map wD)), some (.lst o ((front l i).map wD)), some (.int i), o5, o6, none], by simp, ?_⟩
      have hst : step l (front l i) = front l (i + 1) := rfl
      have hup : upTo l i ++ front l (i + 1) = upTo l (i + 1) := rfl
      have hm : (upTo l i).map wD ++ (front l (i + 1)).map wD = (upTo l (i + 1)).map wD := by rw [← List.map_append, hup]
      cases o with
      | false =>
        obtain ⟨o6', e2⟩ := words_inner (e := ⟨run Φ k, []⟩) rfl rfl rfl hl (n1 := some (.int n)) (f2 := some (.lst true ((upTo l i).map wD))) (o4 := some (.int i)) (o6 := o6) (fr := .lst false ((front l i).map wD)) (k := none) (fun i d q => by cases q) f1 hwl
        rw [hst] at e2
        refine ⟨.nx, [some (.int l), some (.int n), some (.lst true ((upTo l (i + 1)).map wD)), some (.lst false ((front l (i + 1)).map wD)), some (.int i), some (.lst false ((front l (i + 1)).map wD)), o6', none], ?_, rfl, ⟨false, some (.int i), _, o6', rfl⟩⟩
        simp [b__law_words_2, e2, frzL_map_word, fzL_words', sz, hm, withRef]
      | true =>
        obtain ⟨o6', e2⟩ := words_inner (e := ⟨run Φ k, [3]⟩) rfl rfl rfl hl (n1 := some (.int n)) (f2 := some (.lst true ((upTo l i).map wD))) (o4 := some (.int i)) (o6 := o6) (fr := .lst true ((front l i).map wD)) (k := some (3, .lst true ((front l i).map wD))) (fun i d q => by cases q; exact ⟨rfl, rfl⟩) f1 hwl
        rw [hst] at e2
        refine ⟨.nx, [some (.int l), some (.int n), some (.lst true ((upTo l (i + 1)).map wD)), some (.lst false ((front l (i + 1)).map wD)), some (.int i), some (.lst false ((front l (i + 1)).map wD)), o6', none], ?_, rfl, ⟨false, some (.int i), _, o6', rfl⟩⟩
        simp [b__law_words_2, e2, frzL_map_word, fzL_words', sz, hm, withRef])
    (fun s hs => by
      obtain ⟨o, o4, o5, o6, rfl⟩ := hs
      rw [rng_len, show ((n : Int) - 0).toNat = n by omega]
      exact ⟨rfl, o, o4, o5, o6, rfl⟩)
    [some (.int l), some (.int n), some (.lst true ((upTo l 0).map wD)), some (.lst true ((front l 0).map wD)), none, none, none, none] ⟨true, none, none, none, rfl⟩
  have rk : rngOk (n : Int) = true := rngOk_small (by omega) (by omega)
  have e0 : (upTo l 0).map wD = [.tup []] := rfl
  have e0' : (front l 0).map wD = [.tup []] := rfl
  rw [e0, e0'] at e1
  simp [e1, rk, withRef]
end Tw

set_option Elab.async false
set_option linter.all false
set_option maxRecDepth 100000
set_option maxHeartbeats 1000000
/-! Tw.LibU: comprehensions over typed rows. -/
namespace Tw
open Lib
open PySem (Str)
@[simp] theorem numsD_ge {ns : List Int} {i : Nat} (h : i < (numsD ns).length) : (numsD ns)[i] = .int (ns[i]'(by simpa using h)) := by simp only [numsD, List.getElem_map]
@[simp] theorem revD_tup {xs : List D} : revD (.tup xs) = some (.tup xs.reverse) := (rfl)
@[simp] theorem numsD_rev {ns : List Int} : (numsD ns).reverse = numsD ns.reverse := by unfold numsD; rw [List.map_reverse]
@[simp] theorem nat1_ne (n : Nat) : ((n : Int) + 1 = 0) = False := by simp only [eq_iff_iff, iff_false]; omega
@[simp] theorem nat1_pos (n : Nat) : (0 < (n : Int) + 1) = True := by simp only [eq_iff_iff, iff_true]; omega
@[simp] theorem nat1_nneg (n : Nat) : (0 ≤ (n : Int) + 1) = True := by simp only [eq_iff_iff, iff_true]; omega
@[simp] theorem szOk_0 : szOk 0 = true := by decide +kernel
@[simp] theorem szOk_1 : szOk 1 = true := by decide +kernel
@[simp] theorem szOk_2 : szOk 2 = true := by decide +kernel
@[simp] theorem szOk_3 : szOk 3 = true := by decide +kernel
@[simp] theorem szOk_4 : szOk 4 = true := by decide +kernel
@[simp] theorem ixOf_last (n : Nat) : ixOf (n + 1) (-1) = some n := by
  show (if (0 : Int) ≤ -1 then _ else if -((n + 1 : Nat) : Int) ≤ -1 then some (-1 + ((n + 1 : Nat) : Int)).toNat else none) = _
  rw [if_neg (by omega), if_pos (by omega)]
  congr 1; omega
@[simp] theorem frzL_mw (ws : List (List Int)) : frzL (ws.map wD) = true := frzL_map_word ws
@[simp] theorem fzL_mw (ws : List (List Int)) : fzL (ws.map wD) = ws.map wD := fzL_words' ws
@[simp] theorem augI_add {a b : Int} : augI .Add (.int a) (.int b) = some (.int (a + b)) := (rfl)
@[simp] theorem augI_sub {a b : Int} : augI .Sub (.int a) (.int b) = some (.int (a - b)) := (rfl)
@[simp] theorem augI_mul {a b : Int} : augI .Mult (.int a) (.int b) = ifB (mulOk a b) (some (.int (a * b))) none := (rfl)
@[simp] theorem augI_div {a b : Int} : augI .FloorDiv (.int a) (.int b) = ifB (decide (0 < b) && decide (b < 1073741824)) (some (.int (a / b))) none := (rfl)
theorem set_none {s : S} {j : Nat} (hs : s[j]? = some none) : s.set j none = s := by
  obtain ⟨hj, e1⟩ := List.getElem?_eq_some_iff.mp hs
  apply List.ext_getElem (by simp)
  intro i h1 h2
  rw [List.getElem_set]
  split
  · rename_i q; subst q; exact e1.symm
  · rfl
section
variable {α : Type} {e : Env} {j : Nat} {it : Sm Wk} {elt : Sm D} {ifs : List (Sm Bool)} {s s' : S}
theorem lcGo_M (l : List α) (enc : α → D) (p : α → Bool) (g : α → D) (hs : s'[j]? = some none) (hr : e.refs.contains j = false) (hz : ∀ x ∈ l, frz (enc x) = true) (hl : l.length ≤ 100000)
    (hp : ∀ x ∈ l, allT ifs e (s'.set j (some (enc x))) = .ok (p x) (s'.set j (some (enc x))))
    (h : ∀ x ∈ l, p x = true → elt e (s'.set j (some (enc x))) = .ok (g x) (s'.set j (some (enc x)))) : lcGo [j] (.nm j) ifs elt none [] (l.map enc) e s' = .ok ((l.filter p).map g) s' := by
  have hr' : ¬ j ∈ e.refs := by simpa using hr
  obtain ⟨ds, s2, e1, rfl, e2⟩ := lcGo_inv (e := e) (own := [j]) (tg := .nm j) (ifs := ifs) (elt := elt) (k := none) (xs := l.map enc) []
    (fun i acc s => acc = ((l.take i).filter p).map g ∧ s.set j none = s')
    (fun i x acc s hx ⟨ha, hss⟩ => by
      obtain ⟨y, hy, rfl⟩ : ∃ y, l[i]? = some y ∧ enc y = x := by simpa using hx
      have hm := List.mem_of_getElem? hy
      have ht : l.take (i + 1) = l.take i ++ [y] := by rw [List.take_add_one, hy]; rfl
      have hw : wipeD [j] s = s' := by simpa using hss
      refine ⟨hz y hm, s'.set j (some (enc y)), by rw [hw]; simp [hr'], p y, _, hp y hm, ?_⟩
      have hback : (s'.set j (some (enc y))).set j none = s' := by rw [List.set_set, set_none hs]
      cases hpy : p y with
      | true =>
        refine .inl ⟨rfl, g y, _, h y hm hpy, rfl, ?_, ?_, hback⟩
        · subst ha
          have := List.length_filter_le p (l.take i)
          rw [List.length_take] at this
          exact szOk_small (by rw [List.length_map]; have := (List.getElem?_eq_some_iff.mp hy).1; omega)
        · subst ha
          simp [ht, hpy]
      | false =>
        refine .inr ⟨rfl, rfl, ?_, hback⟩
        subst ha
        simp [ht, hpy]) s' ⟨rfl, set_none hs⟩
  have e3 : wipeD [j] s2 = s' := by simpa using e2
  rw [e1, e3, List.length_map, List.take_length]
theorem lc_M (l : List α) (enc : α → D) (p : α → Bool) (g : α → D) (hit : it e s = .ok (l.map enc, none) s') (hs : s'[j]? = some none) (hr : e.refs.contains j = false) (hz : ∀ x ∈ l, frz (enc x) = true) (hl : l.length ≤ 100000)
    (hp : ∀ x ∈ l, allT ifs e (s'.set j (some (enc x))) = .ok (p x) (s'.set j (some (enc x))))
    (h : ∀ x ∈ l, p x = true → elt e (s'.set j (some (enc x))) = .ok (g x) (s'.set j (some (enc x)))) : lc [j] (.nm j) it ifs elt e s = .ok (.lst true ((l.filter p).map g)) s' := by
  have e1 := lc_run (own := [j]) (tg := .nm j) (ifs := ifs) (elt := elt) hit (by rw [ownOk_cons, hs]; simp only [List.contains_eq_mem] at hr; simp [hr]) (ds := (l.filter p).map g) (s2 := s') (by
    have : wipeD [j] s' = s' := by rw [wipeD_cons, wipeD_nil, set_none hs]
    rw [this]
    exact lcGo_M l enc p g hs hr hz hl hp h)
  rw [e1, putB_cons, putB_nil, hs]
  show R.ok _ (s'.set j none) = _
  rw [set_none hs]
/-- the block's name holds something -/
theorem lc_Mo (l : List α) (enc : α → D) (p : α → Bool) (g : α → D) {o : D} (hit : it e s = .ok (l.map enc, none) s') (hs : s'[j]? = some (some o)) (ho : frz o = true) (hr : e.refs.contains j = false) (hz : ∀ x ∈ l, frz (enc x) = true) (hl : l.length ≤ 100000)
    (hp : ∀ x ∈ l, allT ifs e (s'.set j (some (enc x))) = .ok (p x) (s'.set j (some (enc x))))
    (h : ∀ x ∈ l, p x = true → elt e (s'.set j (some (enc x))) = .ok (g x) (s'.set j (some (enc x)))) : lc [j] (.nm j) it ifs elt e s = .ok (.lst true ((l.filter p).map g)) s' := by
  obtain ⟨hj, hj2⟩ := List.getElem?_eq_some_iff.mp hs
  have e1 := lc_run (own := [j]) (tg := .nm j) (ifs := ifs) (elt := elt) hit (by rw [ownOk_cons, hs]; simp only [List.contains_eq_mem] at hr; simp [hr, ho]) (ds := (l.filter p).map g) (s2 := s'.set j none) (by
    rw [wipeD_cons, wipeD_nil]
    refine lcGo_M l enc p g (by rw [List.getElem?_set_self hj]) hr hz hl (fun x hx => ?_) (fun x hx hpx => ?_)
    · rw [List.set_set]; exact hp x hx
    · rw [List.set_set]; exact h x hx hpx)
  rw [e1, putB_cons, putB_nil, hs]
  show R.ok _ ((s'.set j none).set j (some o)) = _
  rw [List.set_set]
  congr 1
  apply List.ext_getElem (by simp)
  intro i h1 h2
  rw [List.getElem_set]
  split
  · rename_i q; subst q; exact hj2.symm
  · rfl
theorem lc_Mx (l : List α) (enc : α → D) (p : α → Bool) (g : α → D) (hit : it e s = .ok (l.map enc, none) s') (hs : s'[j]? = some none ∨ ∃ o, s'[j]? = some (some o) ∧ frz o = true) (hr : e.refs.contains j = false) (hz : ∀ x ∈ l, frz (enc x) = true) (hl : l.length ≤ 100000)
    (hp : ∀ x ∈ l, allT ifs e (s'.set j (some (enc x))) = .ok (p x) (s'.set j (some (enc x))))
    (h : ∀ x ∈ l, p x = true → elt e (s'.set j (some (enc x))) = .ok (g x) (s'.set j (some (enc x)))) : lc [j] (.nm j) it ifs elt e s = .ok (.lst true ((l.filter p).map g)) s' := by
  rcases hs with hs | ⟨o, hs, ho⟩
  · exact lc_M l enc p g hit hs hr hz hl hp h
  · exact lc_Mo l enc p g hit hs ho hr hz hl hp h
/-- no test -/
theorem lc_M0 (l : List α) (enc : α → D) (g : α → D) (hit : it e s = .ok (l.map enc, none) s') (hs : s'[j]? = some none) (hr : e.refs.contains j = false) (hz : ∀ x ∈ l, frz (enc x) = true) (hl : l.length ≤ 100000)
    (h : ∀ x ∈ l, elt e (s'.set j (some (enc x))) = .ok (g x) (s'.set j (some (enc x)))) : lc [j] (.nm j) it [] elt e s = .ok (.lst true (l.map g)) s' := by
  have := lc_M (ifs := []) l enc (fun _ => true) g hit hs hr hz hl (fun _ _ => rfl) (fun x hx _ => h x hx)
  rw [List.filter_eq_self.mpr (fun _ _ => rfl)] at this
  exact this
theorem sat_lc {Q : D → S → Prop} (l : List α) (enc : α → D) (p : α → Bool) (g : α → D) (hit : it e s = .ok (l.map enc, none) s') (hs : s'[j]? = some none) (hr : e.refs.contains j = false) (hz : ∀ x ∈ l, frz (enc x) = true) (hl : l.length ≤ 100000)
    (hp : ∀ x ∈ l, allT ifs e (s'.set j (some (enc x))) = .ok (p x) (s'.set j (some (enc x))))
    (h : ∀ x ∈ l, p x = true → elt e (s'.set j (some (enc x))) = .ok (g x) (s'.set j (some (enc x)))) (q : Q (.lst true ((l.filter p).map g)) s') : Sat (lc [j] (.nm j) it ifs elt e s) Q := sat_eq (lc_M l enc p g hit hs hr hz hl hp h) q
theorem sat_lc0 {Q : D → S → Prop} (l : List α) (enc : α → D) (g : α → D) (hit : it e s = .ok (l.map enc, none) s') (hs : s'[j]? = some none) (hr : e.refs.contains j = false) (hz : ∀ x ∈ l, frz (enc x) = true) (hl : l.length ≤ 100000)
    (h : ∀ x ∈ l, elt e (s'.set j (some (enc x))) = .ok (g x) (s'.set j (some (enc x)))) (q : Q (.lst true (l.map g)) s') : Sat (lc [j] (.nm j) it [] elt e s) Q := sat_eq (lc_M0 l enc g hit hs hr hz hl h) q
end
@[simp high] theorem allT_one {e : Env} {s : S} {c : Sm Bool} : allT [c] e s = c e s := by
  rw [allT_cons]
  cases c e s with
  | ok b s => cases b <;> rfl
  | exc d s => rfl
  | bad => rfl
section
variable {α β : Type} {e : Env} {own vs1 : List Nat} {tg tg1 : Tg} {it m1 : Sm Wk} {elt : Sm D} {ifs ifs1 : List (Sm Bool)} {s s' : S}
theorem lcGo_G (enc : α → D) (st : α → S) (p : α → Bool) (g : α → D) (hw : wipeD own s' = s') (L : List α)
    (hset : ∀ x ∈ L, frz (enc x) = true ∧ setT tg (enc x) e s' = .ok () (st x) ∧ wipeD own (st x) = s')
    (hp : ∀ x ∈ L, allT ifs e (st x) = .ok (p x) (st x))
    (h : ∀ x ∈ L, p x = true → elt e (st x) = .ok (g x) (st x)) : ∀ (l : List α) (acc : List D) (s : S), (∀ x ∈ l, x ∈ L) → acc.length + l.length ≤ 100000 → wipeD own s = s' → lcGo own tg ifs elt none acc (l.map enc) e s = .ok (acc ++ (l.filter p).map g) s'
  | [], acc, s, _, _, hs => by
    show R.ok acc (wipeD own s) = _
    rw [hs]; simp
  | x :: l, acc, s, hm, hl, hs => by
    have hx := hm x List.mem_cons_self
    obtain ⟨h1, h2, h3⟩ := hset x hx
    have key : lcGo own tg ifs elt none acc ((x :: l).map enc) e s = ifB (frz (enc x)) (R.bind (setT tg (enc x) e (wipeD own s)) fun _ s1 => R.bind (allT ifs e s1) fun b s2 => (if b = true
      then bnd elt fun d => bnd (still none) fun _ => grd (szOk (acc.length + 1)) (lcGo own tg ifs elt none (acc ++ [d]) (l.map enc))
      else bnd (still none) fun _ => lcGo own tg ifs elt none acc (l.map enc)) e s2) .bad := rfl
    rw [key, h1, ifB_true, hs, h2, R.bind_ok, hp x hx, R.bind_ok]
    rw [List.length_cons] at hl
    cases hpx : p x with
    | true =>
      rw [if_pos rfl, bnd_ap, h x hx hpx, R.bind_ok, bnd_ap, still_none, R.bind_ok, grd_ap, szOk_small (by omega), ifB_true]
      rw [lcGo_G enc st p g hw L hset hp h l (acc ++ [g x]) (st x) (fun y hy => hm y (List.mem_cons_of_mem _ hy)) (by simp; omega) h3]
      simp [hpx]
    | false =>
      rw [if_neg Bool.false_ne_true, bnd_ap, still_none, R.bind_ok]
      rw [lcGo_G enc st p g hw L hset hp h l acc (st x) (fun y hy => hm y (List.mem_cons_of_mem _ hy)) (by omega) h3]
      simp [hpx]
theorem lc_G (l : List α) (enc : α → D) (st : α → S) (p : α → Bool) (g : α → D) (hit : it e s = .ok (l.map enc, none) s') (hown : (ownOk own s' && own.all fun i => !e.refs.contains i) = true) (hw : wipeD own s' = s') (hput : putB own s' s' = s') (hl : l.length ≤ 100000)
    (hset : ∀ x ∈ l, frz (enc x) = true ∧ setT tg (enc x) e s' = .ok () (st x) ∧ wipeD own (st x) = s')
    (hp : ∀ x ∈ l, allT ifs e (st x) = .ok (p x) (st x))
    (h : ∀ x ∈ l, p x = true → elt e (st x) = .ok (g x) (st x)) : lc own tg it ifs elt e s = .ok (.lst true ((l.filter p).map g)) s' := by
  have e1 := lc_run (own := own) (tg := tg) (ifs := ifs) (elt := elt) hit hown (ds := (l.filter p).map g) (s2 := s') (by
    rw [hw]
    have := lcGo_G enc st p g hw l hset hp h l [] s' (fun _ h => h) (by simpa using hl) hw
    simpa using this)
  rw [e1, hput]
theorem sat_lcG {Q : D → S → Prop} (l : List α) (enc : α → D) (st : α → S) (p : α → Bool) (g : α → D) (hit : it e s = .ok (l.map enc, none) s') (hown : (ownOk own s' && own.all fun i => !e.refs.contains i) = true) (hw : wipeD own s' = s') (hput : putB own s' s' = s') (hl : l.length ≤ 100000)
    (hset : ∀ x ∈ l, frz (enc x) = true ∧ setT tg (enc x) e s' = .ok () (st x) ∧ wipeD own (st x) = s')
    (hp : ∀ x ∈ l, allT ifs e (st x) = .ok (p x) (st x))
    (h : ∀ x ∈ l, p x = true → elt e (st x) = .ok (g x) (st x)) (q : Q (.lst true ((l.filter p).map g)) s') : Sat (lc own tg it ifs elt e s) Q := sat_eq (lc_G l enc st p g hit hown hw hput hl hset hp h) q
/-- two clauses: the inner one -/
theorem lcIn_G (enc : β → D) (st : β → S) (p : β → Bool) (g : β → D) {s0 sw : S} (hw : wipeD vs1 s0 = s0) (hw' : wipeD own s0 = sw) (L : List β)
    (hset : ∀ x ∈ L, frz (enc x) = true ∧ setT tg1 (enc x) e s0 = .ok () (st x) ∧ wipeD vs1 (st x) = s0 ∧ wipeD own (st x) = sw)
    (hp : ∀ x ∈ L, allT ifs1 e (st x) = .ok (p x) (st x))
    (h : ∀ x ∈ L, p x = true → elt e (st x) = .ok (g x) (st x)) : ∀ (l : List β) (acc : List D) (s : S), (∀ x ∈ l, x ∈ L) → acc.length + (l.filter p).length ≤ 100000 → wipeD vs1 s = s0 → wipeD own s = sw → ∃ s2, lcIn vs1 tg1 ifs1 elt none acc (l.map enc) e s = .ok (acc ++ (l.filter p).map g) s2 ∧ wipeD own s2 = sw
  | [], acc, s, _, _, hs, hs' => ⟨s, by show R.ok acc s = _; simp, hs'⟩
  | x :: l, acc, s, hm, hl, hs, hs' => by
    have hx := hm x List.mem_cons_self
    obtain ⟨h1, h2, h3, h4⟩ := hset x hx
    have key : lcIn vs1 tg1 ifs1 elt none acc ((x :: l).map enc) e s = ifB (frz (enc x)) (R.bind (setT tg1 (enc x) e (wipeD vs1 s)) fun _ s1 => R.bind (allT ifs1 e s1) fun b s2 => (if b = true
      then bnd elt fun d => bnd (still none) fun _ => grd (szOk (acc.length + 1)) (lcIn vs1 tg1 ifs1 elt none (acc ++ [d]) (l.map enc))
      else bnd (still none) fun _ => lcIn vs1 tg1 ifs1 elt none acc (l.map enc)) e s2) .bad := rfl
    rw [key, h1, ifB_true, hs, h2, R.bind_ok, hp x hx, R.bind_ok]
    cases hpx : p x with
    | true =>
      have hl2 : acc.length + 1 + (l.filter p).length ≤ 100000 := by
        rw [List.filter_cons, if_pos hpx, List.length_cons] at hl; omega
      rw [if_pos rfl, bnd_ap, h x hx hpx, R.bind_ok, bnd_ap, still_none, R.bind_ok, grd_ap, szOk_small (by omega), ifB_true]
      obtain ⟨s2, e2, e3⟩ := lcIn_G enc st p g hw hw' L hset hp h l (acc ++ [g x]) (st x) (fun y hy => hm y (List.mem_cons_of_mem _ hy)) (by simpa using hl2) h3 h4
      exact ⟨s2, by rw [e2]; simp [hpx], e3⟩
    | false =>
      have hl2 : acc.length + (l.filter p).length ≤ 100000 := by
        rw [List.filter_cons, if_neg (by rw [hpx]; exact Bool.false_ne_true)] at hl; exact hl
      rw [if_neg Bool.false_ne_true, bnd_ap, still_none, R.bind_ok]
      obtain ⟨s2, e2, e3⟩ := lcIn_G enc st p g hw hw' L hset hp h l acc (st x) (fun y hy => hm y (List.mem_cons_of_mem _ hy)) hl2 h3 h4
      exact ⟨s2, by rw [e2]; simp [hpx], e3⟩
/-- what two clauses give -/
def lc2L (l : List α) (p : α → Bool) (l2 : α → List β) (p2 : α → β → Bool) (g : α → β → D) : List D := (l.filter p).flatMap fun x => ((l2 x).filter (p2 x)).map (g x)
theorem lc2Go_G (enc : α → D) (st : α → S) (p : α → Bool) (l2 : α → List β) (enc2 : α → β → D) (st2 : α → β → S) (p2 : α → β → Bool) (g : α → β → D) (hw : wipeD own s' = s') (L : List α)
    (hset : ∀ x ∈ L, frz (enc x) = true ∧ setT tg (enc x) e s' = .ok () (st x) ∧ wipeD own (st x) = s' ∧ wipeD vs1 (st x) = st x)
    (hp : ∀ x ∈ L, allT ifs e (st x) = .ok (p x) (st x))
    (hm : ∀ x ∈ L, p x = true → m1 e (st x) = .ok ((l2 x).map (enc2 x), none) (st x))
    (hset2 : ∀ x ∈ L, p x = true → ∀ y ∈ l2 x, frz (enc2 x y) = true ∧ setT tg1 (enc2 x y) e (st x) = .ok () (st2 x y) ∧ wipeD vs1 (st2 x y) = st x ∧ wipeD own (st2 x y) = s')
    (hp2 : ∀ x ∈ L, p x = true → ∀ y ∈ l2 x, allT ifs1 e (st2 x y) = .ok (p2 x y) (st2 x y))
    (h : ∀ x ∈ L, p x = true → ∀ y ∈ l2 x, p2 x y = true → elt e (st2 x y) = .ok (g x y) (st2 x y)) : ∀ (l : List α) (acc : List D) (s : S), (∀ x ∈ l, x ∈ L) → acc.length + (lc2L l p l2 p2 g).length ≤ 100000 → wipeD own s = s' →
    lc2Go own vs1 tg ifs m1 tg1 ifs1 elt none acc (l.map enc) e s = .ok (acc ++ lc2L l p l2 p2 g) s'
  | [], acc, s, _, _, hs => by
    show R.ok acc (wipeD own s) = _
    rw [hs]; simp [lc2L]
  | x :: l, acc, s, hmm, hl, hs => by
    have hx := hmm x List.mem_cons_self
    obtain ⟨h1, h2, h3, h4⟩ := hset x hx
    have key : lc2Go own vs1 tg ifs m1 tg1 ifs1 elt none acc ((x :: l).map enc) e s = ifB (frz (enc x)) (R.bind (setT tg (enc x) e (wipeD own s)) fun _ s1 => R.bind (allT ifs e s1) fun b s2 => (if b = true
      then bnd m1 fun w => grd (okW vs1 w.2) <| bnd (withRef w.2 (lcIn vs1 tg1 ifs1 elt w.2 acc w.1)) fun acc' => bnd (still none) fun _ => lc2Go own vs1 tg ifs m1 tg1 ifs1 elt none acc' (l.map enc)
      else bnd (still none) fun _ => lc2Go own vs1 tg ifs m1 tg1 ifs1 elt none acc (l.map enc)) e s2) .bad := rfl
    rw [key, h1, ifB_true, hs, h2, R.bind_ok, hp x hx, R.bind_ok]
    cases hpx : p x with
    | true =>
      have hlc : lc2L (x :: l) p l2 p2 g = ((l2 x).filter (p2 x)).map (g x) ++ lc2L l p l2 p2 g := by unfold lc2L; rw [List.filter_cons, if_pos hpx, List.flatMap_cons]
      rw [hlc, List.length_append, List.length_map] at hl
      obtain ⟨s2, e2, e3⟩ := lcIn_G (own := own) (e := e) (vs1 := vs1) (tg1 := tg1) (ifs1 := ifs1) (elt := elt) (enc2 x) (st2 x) (p2 x) (g x) h4 h3 (l2 x) (hset2 x hx hpx) (hp2 x hx hpx) (h x hx hpx) (l2 x) acc (st x) (fun _ h => h) (by omega) h4 h3
      rw [if_pos rfl, bnd_ap, hm x hx hpx, R.bind_ok, grd_ap]
      show ifB true _ _ = _
      rw [ifB_true, bnd_ap, withRef_none, e2, R.bind_ok, bnd_ap, still_none, R.bind_ok]
      rw [lc2Go_G enc st p l2 enc2 st2 p2 g hw L hset hp hm hset2 hp2 h l _ s2 (fun y hy => hmm y (List.mem_cons_of_mem _ hy)) (by simp; omega) e3, hlc, List.append_assoc]
    | false =>
      have hlc : lc2L (x :: l) p l2 p2 g = lc2L l p l2 p2 g := by unfold lc2L; rw [List.filter_cons, if_neg (by rw [hpx]; exact Bool.false_ne_true)]
      rw [hlc] at hl
      rw [if_neg Bool.false_ne_true, bnd_ap, still_none, R.bind_ok]
      rw [lc2Go_G enc st p l2 enc2 st2 p2 g hw L hset hp hm hset2 hp2 h l _ (st x) (fun y hy => hmm y (List.mem_cons_of_mem _ hy)) hl h3, hlc]
theorem lc2_G (l : List α) (enc : α → D) (st : α → S) (p : α → Bool) (l2 : α → List β) (enc2 : α → β → D) (st2 : α → β → S) (p2 : α → β → Bool) (g : α → β → D)
    (hit : it e s = .ok (l.map enc, none) s') (hown : (ownOk own s' && own.all fun i => !e.refs.contains i) = true) (hw : wipeD own s' = s') (hput : putB own s' s' = s') (hl : (lc2L l p l2 p2 g).length ≤ 100000)
    (hset : ∀ x ∈ l, frz (enc x) = true ∧ setT tg (enc x) e s' = .ok () (st x) ∧ wipeD own (st x) = s' ∧ wipeD vs1 (st x) = st x)
    (hp : ∀ x ∈ l, allT ifs e (st x) = .ok (p x) (st x))
    (hm : ∀ x ∈ l, p x = true → m1 e (st x) = .ok ((l2 x).map (enc2 x), none) (st x))
    (hset2 : ∀ x ∈ l, p x = true → ∀ y ∈ l2 x, frz (enc2 x y) = true ∧ setT tg1 (enc2 x y) e (st x) = .ok () (st2 x y) ∧ wipeD vs1 (st2 x y) = st x ∧ wipeD own (st2 x y) = s')
    (hp2 : ∀ x ∈ l, p x = true → ∀ y ∈ l2 x, allT ifs1 e (st2 x y) = .ok (p2 x y) (st2 x y))
    (h : ∀ x ∈ l, p x = true → ∀ y ∈ l2 x, p2 x y = true → elt e (st2 x y) = .ok (g x y) (st2 x y)) : lc2 own vs1 tg it ifs m1 tg1 ifs1 elt e s = .ok (.lst true (lc2L l p l2 p2 g)) s' := by
  show R.bind (it e s) _ = _
  rw [hit, R.bind_ok]
  show inBlk own _ e s' = _
  unfold inBlk
  rw [if_pos hown, bnd_ap, hw]
  have := lc2Go_G enc st p l2 enc2 st2 p2 g hw l hset hp hm hset2 hp2 h l [] s' (fun _ h => h) (by simpa using hl) hw
  rw [this]
  show R.ok _ (putB own s' s') = _
  rw [hput]
  rfl
end
/-- a range of whole numbers of at least 0 -/
def iN (i : Nat) : D := .int i
@[simp] theorem frz_iN {i : Nat} : frz (iN i) = true := (rfl)
theorem rngN {a b : Nat} : rng (a : Int) (b : Int) = (List.range' a (b - a)).map iN := by
  unfold rng
  rw [List.range'_eq_map_range, List.map_map]
  have : ((b : Int) - (a : Int)).toNat = b - a := by omega
  rw [this]
  rfl
theorem rngN0 {b : Nat} : rng 0 (b : Int) = (List.range b).map iN := by
  have := rngN (a := 0) (b := b)
  rw [List.range_eq_range']
  exact this
section
variable {Φ : Str → Option Fn}
theorem draw_k (h : Φ "_law_draw" = some F__law_draw) {N : Nat} {p : D} (hp : IsPool N p) {m : Int} {k : Nat} (hN : 1 ≤ N) (hm : 0 < m) (hk : 1 ≤ k) :
    ∃ (r : Int) (p' : D), 0 ≤ r ∧ r < m ∧ IsPool (N - 1) p' ∧ frz p' = false ∧ run Φ k "_law_draw" [p, .int m] = .ok (.int r) [some p', some (.int m)] := by
  obtain ⟨r, p', h1, h2, h3, h4⟩ := draw_run' h (n := N - 1) (hp.le (by omega)) hm hk
  exact ⟨r, p', h1, h2, h3, h3.frz, h4⟩
theorem word_k (hd : Φ "_law_draw" = some F__law_draw) (h : Φ "_law_word" = some F__law_word) {N : Nat} {p : D} (hp : IsPool N p) {l most : Int} {k : Nat} (hN : most.toNat + 1 ≤ N) (hl : 0 < l) (h0 : 0 ≤ most) (hm : most ≤ 1000) (hk : 2 ≤ k) :
    ∃ (a : List Int) (p' : D), IsWord l most.toNat a ∧ IsPool (N - (most.toNat + 1)) p' ∧ frz p' = false ∧ run Φ k "_law_word" [p, .int l, .int most] = .ok (wD a) [some p', some (.int l), some (.int most)] := by
  obtain ⟨a, p', h1, h2, h3⟩ := word_run hd h (n := N - (most.toNat + 1)) (hp.le (by omega)) hl h0 hm hk
  exact ⟨a, p', h1, h2, h2.frz, h3⟩
end
end Tw

set_option Elab.async false
set_option linter.all false
set_option maxRecDepth 100000
set_option maxHeartbeats 1000000
/-! Tw.LibL: Lyndon words. -/
namespace Tw
theorem lt_at {a b : List Int} {m : Nat} {x y : Int} (h : ∀ i, i < m → a[i]? = b[i]?) (hx : a[m]? = some x) (hy : b[m]? = some y) (hl : x < y) : a < b := by
  rw [List.lt_iff_exists]
  right
  obtain ⟨h1, e1⟩ := List.getElem?_eq_some_iff.mp hx
  obtain ⟨h2, e2⟩ := List.getElem?_eq_some_iff.mp hy
  refine ⟨m, h1, h2, fun j hj => ?_, by rw [e1, e2]; exact hl⟩
  have := h j hj
  rw [List.getElem?_eq_getElem (by omega), List.getElem?_eq_getElem (by omega)] at this
  exact Option.some.inj this
/-- a less word of at least the length of the other one is less at some place -/
theorem at_lt {a b : List Int} (h : a < b) (hl : b.length ≤ a.length) : ∃ (m : Nat) (x y : Int), (∀ i, i < m → a[i]? = b[i]?) ∧ a[m]? = some x ∧ b[m]? = some y ∧ x < y := by
  rw [List.lt_iff_exists] at h
  rcases h with ⟨_, h⟩ | ⟨m, h1, h2, h3, h4⟩
  · omega
  · refine ⟨m, a[m], b[m], fun i hi => ?_, List.getElem?_eq_getElem h1, List.getElem?_eq_getElem h2, h4⟩
    rw [List.getElem?_eq_getElem (by omega), List.getElem?_eq_getElem (by omega), h3 i hi]
/-- less than all that stands behind a part of it -/
def LynS (w : List Int) : Prop := w ≠ [] ∧ ∀ k, 1 ≤ k → k < w.length → w < w.drop k
/-- less than all its turns -/
def Lyn (w : List Int) : Prop := w ≠ [] ∧ ∀ k, 1 ≤ k → k < w.length → w < rot k w
theorem lyn_of {w : List Int} (h : LynS w) : Lyn w := by
  refine ⟨h.1, fun k h1 h2 => ?_⟩
  obtain ⟨m, x, y, a1, a2, a3, a4⟩ := at_lt (h.2 k h1 h2) (by simp)
  have hm : m < (w.drop k).length := (List.getElem?_eq_some_iff.mp a3).1
  refine lt_at (m := m) (fun i hi => ?_) a2 ?_ a4
  · rw [a1 i hi]; unfold rot; rw [List.getElem?_append_left (by omega)]
  · unfold rot; rw [List.getElem?_append_left hm]; exact a3
theorem append_lt {s a b : List Int} (h : a < b) : s ++ a < s ++ b := by
  induction s with
  | nil => exact h
  | cons x s ih => exact List.cons_lt_cons_iff.mpr (.inr ⟨rfl, ih⟩)
theorem lt_append {s a b : List Int} (h : s ++ a < s ++ b) : a < b := by
  induction s with
  | nil => exact h
  | cons x s ih =>
    rcases List.cons_lt_cons_iff.mp h with q | ⟨_, q⟩
    · exact absurd q (Int.lt_irrefl _)
    · exact ih q
theorem lt_of_append {a b s t : List Int} (hl : a.length = b.length) (h : a ++ s < b ++ t) : a < b ∨ (a = b ∧ s < t) := by
  induction a generalizing b with
  | nil =>
    have : b = [] := List.eq_nil_of_length_eq_zero hl.symm
    subst this; exact .inr ⟨rfl, h⟩
  | cons x a ih =>
    cases b with
    | nil => simp at hl
    | cons y b =>
      rcases List.cons_lt_cons_iff.mp h with q | ⟨rfl, q⟩
      · exact .inl (List.cons_lt_cons_iff.mpr (.inl q))
      · rcases ih (by simpa using hl) q with q | ⟨e, q⟩
        · exact .inl (List.cons_lt_cons_iff.mpr (.inr ⟨rfl, q⟩))
        · exact .inr ⟨by rw [e], q⟩
theorem of_lyn {w : List Int} (h : Lyn w) : LynS w := by
  refine ⟨h.1, fun k h1 h2 => ?_⟩
  have hr := h.2 k h1 h2
  obtain ⟨m, x, y, a1, a2, a3, a4⟩ := at_lt hr (by rw [rot_len]; exact Nat.le_refl _)
  by_cases hm : m < w.length - k
  · refine lt_at (m := m) (fun i hi => ?_) a2 ?_ a4
    · rw [a1 i hi]; unfold rot; rw [List.getElem?_append_left (by simp; omega)]
    · rw [← a3]; unfold rot; rw [List.getElem?_append_left (by simp; omega)]
  · exfalso
    -- w begins with what stands behind k
    have hpre : w.take (w.length - k) = w.drop k := by
      apply List.ext_getElem?
      intro i
      rw [List.getElem?_take]
      split
      · rename_i hi
        rw [a1 i (by omega)]; unfold rot; rw [List.getElem?_append_left (by simp; omega)]
      · rename_i hi
        exact (List.getElem?_eq_none (by simp; omega)).symm
    have h3 : w < w.drop k ++ w.take k := hr
    have h4 : w < w.drop (w.length - k) ++ w.take (w.length - k) := h.2 (w.length - k) (by omega) (by omega)
    have e1 : w = w.drop k ++ w.drop (w.length - k) := by
      conv => lhs; rw [← List.take_append_drop (w.length - k) w]
      rw [hpre]
    have e2 : w = w.take k ++ w.drop k := (List.take_append_drop k w).symm
    have h5 : w.drop (w.length - k) < w.take k := by
      have h3' : w.drop k ++ w.drop (w.length - k) < w.drop k ++ w.take k := by rw [← e1]; exact h3
      exact lt_append h3'
    have h6 : w.take k ++ w.drop k < w.drop (w.length - k) ++ w.take (w.length - k) := by rw [← e2]; exact h4
    rcases lt_of_append (by simp; omega) h6 with q | ⟨q, _⟩
    · exact List.lt_irrefl _ (List.lt_trans h5 q)
    · rw [q] at h5; exact List.lt_irrefl _ h5
theorem lyn_iff {w : List Int} : Lyn w ↔ LynS w := ⟨of_lyn, lyn_of⟩
/-- a word's start turns round: p letters, again and again, m letters in all -/
structure Per (r : List Int) (p m : Nat) : Prop where
  hp : 1 ≤ p
  hm : p ≤ m
  hl : m ≤ r.length
  per : ∀ i, i + p < m → r[i]? = r[i + p]?
  lyn : LynS (r.take p)
theorem Per.mul {r : List Int} {p m : Nat} (h : Per r p m) : ∀ q i, i + q * p < m → r[i]? = r[i + q * p]?
  | 0, i, _ => by simp
  | q + 1, i, hi => by
    rw [Nat.succ_mul] at hi ⊢
    rw [h.mul q i (by omega), h.per (i + q * p) (by omega)]
    congr 1; omega
theorem Per.rest {r : List Int} {p m : Nat} (h : Per r p m) {i : Nat} (hi : i < m) : r[i]? = r[i % p]? := by
  have := Nat.mod_add_div i p
  have e : i % p + (i / p) * p = i := by rw [Nat.mul_comm]; exact this
  rw [h.mul (i / p) (i % p) (by omega), e]
theorem Per.one {r : List Int} (h : r ≠ []) : Per r 1 1 := by
  have : 1 ≤ r.length := by cases r with
    | nil => exact absurd rfl h
    | cons x r => simp
  refine ⟨by omega, by omega, this, fun i hi => by omega, ?_, fun k h1 h2 => ?_⟩
  · cases r with
    | nil => exact absurd rfl h
    | cons x r => simp
  · simp at h2; omega
theorem Per.more {r : List Int} {p m : Nat} (h : Per r p m) (hl : m < r.length) (e : r[m - p]? = r[m]?) : Per r p (m + 1) := by
  refine ⟨h.hp, by have := h.hm; omega, hl, fun i hi => ?_, h.lyn⟩
  by_cases q : i + p < m
  · exact h.per i q
  · have : i + p = m := by omega
    rw [this, ← e]; congr 1; omega
/-- a greater letter: the whole is a Lyndon word -/
theorem Per.up {r : List Int} {p m : Nat} (h : Per r p m) {x y : Int} (hx : r[m - p]? = some x) (hy : r[m]? = some y) (hl : x < y) : Per r (m + 1) (m + 1) := by
  have hml : m < r.length := (List.getElem?_eq_some_iff.mp hy).1
  have hp := h.hp
  have hm := h.hm
  refine ⟨by omega, by omega, hml, fun i hi => by omega, ?_, fun j h1 h2 => ?_⟩
  · intro e
    have : (r.take (m + 1)).length = 0 := by rw [e]; rfl
    rw [List.length_take] at this; omega
  · have hn : (r.take (m + 1)).length = m + 1 := by simp; omega
    rw [hn] at h2
    have gw : ∀ i, i ≤ m → (r.take (m + 1))[i]? = r[i]? := fun i hi => by rw [List.getElem?_take, if_pos (by omega)]
    have gs : ∀ i, j + i ≤ m → ((r.take (m + 1)).drop j)[i]? = r[j + i]? := fun i hi => by rw [List.getElem?_drop, gw _ hi]
    have hv : (r.take p).length = p := by simp; omega
    have gv : ∀ i, i < p → (r.take p)[i]? = r[i]? := fun i hi => by rw [List.getElem?_take, if_pos hi]
    -- the last letter, were it to go on
    have hlast : ∀ t, t < p → t = m % p → r[t]? = some x := fun t ht e => by
      rw [← hx, h.rest (i := m - p) (by omega)]
      congr 1
      rw [e, Nat.mod_eq_sub_mod hm]
    by_cases hj : j % p = 0
    · -- whole rounds
      obtain ⟨q, rfl⟩ : ∃ q, j = q * p := ⟨j / p, by have := Nat.mod_add_div j p; rw [hj, Nat.zero_add, Nat.mul_comm] at this; exact this.symm⟩
      refine lt_at (m := m - q * p) (x := x) (y := y) (fun i hi => ?_) ?_ ?_ hl
      · rw [gw i (by omega), gs i (by omega), h.mul q i (by omega)]
        congr 1; omega
      · have hq1 : 1 ≤ q * p := h1
        have hqp : p ≤ q * p := by
          rcases Nat.eq_zero_or_pos q with z | z
          · subst z; omega
          · exact Nat.le_mul_of_pos_left p z
        rw [gw _ (by omega), ← hx]
        have e1 := h.rest (i := m - q * p) (by omega)
        have e2 := h.rest (i := m - p) (by omega)
        rw [e1, e2]
        congr 1
        rw [← Nat.mod_eq_sub_mod hm]
        have : m - q * p + q * p = m := by omega
        calc (m - q * p) % p = (m - q * p + q * p) % p := by rw [Nat.add_mul_mod_self_right]
          _ = m % p := by rw [this]
      · rw [gs _ (by omega), show q * p + (m - q * p) = m by omega]; exact hy
    · -- within a round
      generalize ht : j % p = t at hj
      have htp : t < p := by rw [← ht]; exact Nat.mod_lt _ (by omega)
      obtain ⟨d, u, v, a1, a2, a3, a4⟩ := at_lt (h.lyn.2 t (by omega) (by rw [hv]; exact htp)) (by simp)
      have hd : t + d < p := by
        have := (List.getElem?_eq_some_iff.mp a3).1
        rw [List.length_drop, hv] at this; omega
      have b2 : r[d]? = some u := by rw [← gv d (by omega)]; exact a2
      have b3 : r[t + d]? = some v := by rw [List.getElem?_drop] at a3; rw [← gv _ hd]; exact a3
      have b1 : ∀ i, i < d → r[i]? = r[t + i]? := fun i hi => by
        have := a1 i hi
        rw [List.getElem?_drop, gv i (by omega), gv (t + i) (by omega)] at this
        exact this
      -- r at j + i is r at t + i, while that is known
      have hji : ∀ i, t + i < p → j + i < m → r[j + i]? = r[t + i]? := fun i hi hh => by
        rw [h.rest hh]
        congr 1
        rw [Nat.add_mod, ht, Nat.mod_eq_of_lt (a := i) (by omega), Nat.mod_eq_of_lt hi]
      by_cases hd2 : j + d < m
      · refine lt_at (m := d) (x := u) (y := v) (fun i hi => ?_) ?_ ?_ a4
        · rw [gw i (by omega), gs i (by omega), hji i (by omega) (by omega), b1 i hi]
        · rw [gw d (by omega)]; exact b2
        · rw [gs d (by omega), hji d hd hd2]; exact b3
      · -- the greater letter comes ahead of that
        have hi0 : m - j ≤ d := by omega
        have hjm : j ≤ m := by omega
        have hmod : t + (m - j) = m % p := by
          have : m = j + (m - j) := by omega
          rw [this, Nat.add_mod, ht, Nat.mod_eq_of_lt (a := m - j) (by omega), Nat.mod_eq_of_lt (by omega)]
          omega
        have hxt := hlast (t + (m - j)) (by omega) hmod
        have hux : ∃ u', r[m - j]? = some u' ∧ u' ≤ x := by
          by_cases q : m - j < d
          · exact ⟨x, by rw [b1 _ q]; exact hxt, Int.le_refl _⟩
          · have : m - j = d := by omega
            rw [this] at hxt ⊢
            rw [b3] at hxt
            cases hxt
            exact ⟨u, b2, Int.le_of_lt a4⟩
        obtain ⟨u', e1, e2⟩ := hux
        refine lt_at (m := m - j) (x := u') (y := y) (fun i hi => ?_) ?_ ?_ (by omega)
        · rw [gw i (by omega), gs i (by omega), hji i (by omega) (by omega), b1 i (by omega)]
        · rw [gw _ (by omega)]; exact e1
        · rw [gs _ (by omega), show j + (m - j) = m by omega]; exact hy
/-- a less letter, or the end: no longer start is a Lyndon word -/
theorem Per.most {r : List Int} {p m : Nat} (h : Per r p m) (hend : m = r.length ∨ ∃ x y, r[m - p]? = some x ∧ r[m]? = some y ∧ y < x) {n : Nat} (h1 : p < n) (h2 : n ≤ r.length) : ¬ LynS (r.take n) := by
  intro q
  have hp := h.hp
  have hm := h.hm
  have hn : (r.take n).length = n := by simp; omega
  have ql := q.2 p hp (by rw [hn]; exact h1)
  have gw : ∀ i, i < n → (r.take n)[i]? = r[i]? := fun i hi => by rw [List.getElem?_take, if_pos hi]
  have gs : ∀ i, p + i < n → ((r.take n).drop p)[i]? = r[p + i]? := fun i hi => by rw [List.getElem?_drop, gw _ hi]
  obtain ⟨d, u, v, a1, a2, a3, a4⟩ := at_lt ql (by simp)
  have hd : p + d < n := by
    have := (List.getElem?_eq_some_iff.mp a3).1
    rw [List.length_drop, hn] at this; omega
  rw [gw d (by omega)] at a2
  rw [gs d hd] at a3
  by_cases hdm : d + p < m
  · have := h.per d hdm
    rw [a2, show d + p = p + d by omega, a3] at this
    cases this
    exact Int.lt_irrefl _ a4
  · rcases hend with e | ⟨x, y, e1, e2, e3⟩
    · omega
    · by_cases hdm2 : d + p = m
      · have : m - p = d := by omega
        rw [this, a2] at e1
        rw [show m = p + d by omega, a3] at e2
        cases e1; cases e2
        omega
      · have := a1 (m - p) (by omega)
        rw [gw _ (by omega), gs _ (by omega), e1, show p + (m - p) = m by omega, e2] at this
        cases this
        exact Int.lt_irrefl _ e3
/-- behind the first round -/
theorem Per.next {r : List Int} {p m : Nat} (h : Per r p m) (hm : 2 * p ≤ m) : Per (r.drop p) p (m - p) := by
  refine ⟨h.hp, by omega, by have := h.hl; rw [List.length_drop]; omega, fun i hi => ?_, ?_⟩
  · rw [List.getElem?_drop, List.getElem?_drop, h.per (p + i) (by omega)]
    congr 1; omega
  · have : (r.drop p).take p = r.take p := by
      apply List.ext_getElem?
      intro i
      rw [List.getElem?_take, List.getElem?_take]
      split
      · rename_i hi
        rw [List.getElem?_drop, h.per i (by omega)]
        congr 1; omega
      · rfl
    rw [this]; exact h.lyn
/-- the longest start that is a Lyndon word -/
structure IsLpl (r : List Int) (p : Nat) : Prop where
  h1 : 1 ≤ p
  h2 : p ≤ r.length
  lyn : LynS (r.take p)
  most : ∀ n, p < n → n ≤ r.length → ¬ LynS (r.take n)
theorem IsLpl.uniq {r : List Int} {p q : Nat} (h : IsLpl r p) (h' : IsLpl r q) : p = q := by
  rcases Nat.lt_trichotomy p q with l | l | l
  · exact absurd h'.lyn (h.most q l h'.h2)
  · exact l
  · exact absurd h.lyn (h'.most p l h.h2)
theorem Per.lpl {r : List Int} {p m : Nat} (h : Per r p m) (hend : m = r.length ∨ ∃ x y, r[m - p]? = some x ∧ r[m]? = some y ∧ y < x) : IsLpl r p :=
  ⟨h.hp, Nat.le_trans h.hm h.hl, h.lyn, fun n h1 h2 => h.most hend h1 h2⟩
inductive Facs : List Int → List (List Int) → Prop where
  | nil : Facs [] []
  | cons {r : List Int} {p : Nat} {fs : List (List Int)} (h : IsLpl r p) (t : Facs (r.drop p) fs) : Facs r (r.take p :: fs)
theorem IsLpl.ne {r : List Int} {p : Nat} (h : IsLpl r p) : r ≠ [] := fun e => by
  have h1 := h.h1; have h2 := h.h2; rw [e] at h2; simp at h2; omega
theorem Facs.uniq {r : List Int} {fs gs : List (List Int)} (h : Facs r fs) (h' : Facs r gs) : fs = gs := by
  induction h generalizing gs with
  | nil => cases h' with
    | nil => rfl
    | cons hp _ => exact absurd rfl hp.ne
  | @cons r p fs hp t ih =>
    cases h' with
    | nil => exact absurd rfl hp.ne
    | @cons _ q gs hq t' =>
      have := hp.uniq hq
      subst this
      rw [ih t']
theorem Facs.flat {r : List Int} {fs : List (List Int)} (h : Facs r fs) : fs.flatten = r := by
  induction h with
  | nil => rfl
  | @cons r p fs hp t ih => rw [List.flatten_cons, ih, List.take_append_drop]
theorem Facs.lyn {r : List Int} {fs : List (List Int)} (h : Facs r fs) : ∀ f ∈ fs, LynS f := by
  induction h with
  | nil => intro f hf; cases hf
  | cons hp t ih =>
    intro f hf
    rcases List.mem_cons.mp hf with rfl | hf
    · exact hp.lyn
    · exact ih f hf
theorem Facs.len {r : List Int} {fs : List (List Int)} (h : Facs r fs) : fs.length ≤ r.length := by
  induction h with
  | nil => exact Nat.le_refl _
  | @cons r p fs hp t ih =>
    rw [List.length_drop] at ih
    have := hp.h1; have := hp.h2
    rw [List.length_cons]; omega
theorem lt_app {a b c : List Int} (h : a < b) (hl : b.length ≤ a.length) : a ++ c < b := by
  obtain ⟨m, x, y, a1, a2, a3, a4⟩ := at_lt h hl
  have hm := (List.getElem?_eq_some_iff.mp a2).1
  exact lt_at (m := m) (fun i hi => by rw [List.getElem?_append_left (by omega)]; exact a1 i hi) (by rw [List.getElem?_append_left hm]; exact a2) a3 a4
theorem lt_app2 {a b c d : List Int} (h : a < b) (hl : b.length ≤ a.length) : a ++ c < b ++ d := by
  obtain ⟨m, x, y, a1, a2, a3, a4⟩ := at_lt h hl
  have hm := (List.getElem?_eq_some_iff.mp a2).1
  have hm2 := (List.getElem?_eq_some_iff.mp a3).1
  exact lt_at (m := m) (fun i hi => by rw [List.getElem?_append_left (by omega), List.getElem?_append_left (by omega)]; exact a1 i hi) (by rw [List.getElem?_append_left hm]; exact a2) (by rw [List.getElem?_append_left hm2]; exact a3) a4
theorem lyn_app {u w : List Int} (hu : LynS u) (hw : LynS w) (h : u < w) : LynS (u ++ w) := by
  have huw : u ++ w < w := by
    have := List.lt_iff_exists.mp h
    rcases this with ⟨e, l⟩ | ⟨m, h1, h2, h3, h4⟩
    · have e2 : w = u ++ w.drop u.length := by
        conv => lhs; rw [← List.take_append_drop u.length w, ← e]
      have hpos : 1 ≤ u.length := by
        rcases Nat.eq_zero_or_pos u.length with z | z
        · exact absurd (List.eq_nil_of_length_eq_zero z) hu.1
        · exact z
      have := append_lt (s := u) (hw.2 u.length hpos l)
      rw [← e2] at this
      exact this
    · exact lt_at (m := m) (x := u[m]) (y := w[m]) (fun i hi => by
        rw [List.getElem?_append_left (by omega), List.getElem?_eq_getElem (by omega), List.getElem?_eq_getElem (by omega), h3 i hi]) (by rw [List.getElem?_append_left h1, List.getElem?_eq_getElem h1]) (List.getElem?_eq_getElem h2) h4
  refine ⟨fun e => hu.1 (List.append_eq_nil_iff.mp e).1, fun k h1 h2 => ?_⟩
  rw [List.length_append] at h2
  rw [List.drop_append]
  rcases Nat.lt_trichotomy k u.length with l | l | l
  · rw [show k - u.length = 0 by omega, List.drop_zero]
    exact lt_app2 (hu.2 k h1 l) (by simp)
  · rw [l, List.drop_length, Nat.sub_self, List.drop_zero]
    exact huw
  · rw [List.drop_eq_nil_of_le (by omega), List.nil_append]
    exact List.lt_trans huw (hw.2 (k - u.length) (by omega) (by omega))
/-- none is less than the next one -/
theorem Facs.fall {r : List Int} {fs : List (List Int)} (h : Facs r fs) : ∀ i u w, fs[i]? = some u → fs[i + 1]? = some w → ¬ u < w := by
  induction h with
  | nil => intro i u w hu; simp at hu
  | @cons r p fs hp t ih =>
    intro i u w hu hw hl
    cases i with
    | succ i => exact ih i u w (by simpa using hu) (by simpa using hw) hl
    | zero =>
      simp at hu hw
      subst hu
      generalize hr' : r.drop p = r' at t ih
      cases t with
      | nil => simp at hw
      | @cons _ q fs hq t' =>
        simp at hw
        have hql := hq.h2
        rw [← hr', List.length_drop] at hql
        have := lyn_app hp.lyn hq.lyn (by rw [hw]; exact hl)
        have e : r.take p ++ r'.take q = r.take (p + q) := by rw [List.take_add, hr']
        rw [e] at this
        exact hp.most (p + q) (by have := hq.h1; omega) (by have := hp.h2; omega) this
end Tw

set_option Elab.async false
set_option linter.all false
set_option maxRecDepth 100000
/-! shared defs as terms. -/
namespace Tw
namespace Lib
noncomputable def v_is_lyndon_0 : Sm D := blE (cmp .Lt true (vP 0) (bin .Add true (slc true (vP 0) (some (vP 1)) none) (slc true (vP 0) none (some (vP 1)))))
noncomputable def c_is_lyndon : List (Sm Fl) := [rtS (andE (blE (cmp .Gt true (blt1 .len (vP 0)) (ret (.int 0)))) (blt1 .all (frE (lc [1] (.nm 1) (itR2 (ret (.int 1)) (blt1 .len (vP 0))) [] v_is_lyndon_0))))]
noncomputable def F_is_lyndon : Fn := ⟨1, 2, blk c_is_lyndon⟩
noncomputable def t_lyndon_factors_0 : Sm Bool := cmp .Lt true (vP 2) (blt1 .len (vP 0))
noncomputable def t_lyndon_factors_1 : Sm Bool := andB (cmp .Lt true (bin .Add true (bin .Add true (vP 2) (vP 4)) (vP 3)) (blt1 .len (vP 0))) (cmp .LtE true (idxP true (vP 0) (bin .Add true (vP 2) (vP 4))) (idxP true (vP 0) (bin .Add true (bin .Add true (vP 2) (vP 4)) (vP 3))))
noncomputable def b_lyndon_factors_2 : Sm Fl := blk [iteS (cmp .Lt true (idxP true (vP 0) (bin .Add true (vP 2) (vP 4))) (idxP true (vP 0) (bin .Add true (bin .Add true (vP 2) (vP 4)) (vP 3)))) (blk [par2 3 4 (bin .Add true (bin .Add true (vP 4) (vP 3)) (ret (.int 1))) (ret (.int 0))]) (blk [aug .Add 4 (ret (.int 1))])]
noncomputable def t_lyndon_factors_3 : Sm Bool := cmp .GtE true (vP 4) (ret (.int 0))
noncomputable def b_lyndon_factors_4 : Sm Fl := blk [expS (append 1 [] (slc true (vP 0) (some (vP 2)) (some (bin .Add true (vP 2) (vP 3))))),
    aug .Add 2 (vP 3),
    aug .Sub 4 (vP 3)]
noncomputable def b_lyndon_factors_5 : Sm Fl := blk [asgT (.tp [.nm 3, .nm 4]) (tupE [ret (.int 1), ret (.int 0)]),
    whileS t_lyndon_factors_1 b_lyndon_factors_2,
    whileS t_lyndon_factors_3 b_lyndon_factors_4]
noncomputable def c_lyndon_factors : List (Sm Fl) := [asg 1 (lstE []),
    asg 2 (ret (.int 0)),
    whileS t_lyndon_factors_0 b_lyndon_factors_5,
    rtS (vR 1)]
noncomputable def F_lyndon_factors : Fn := ⟨1, 5, blk c_lyndon_factors⟩
noncomputable def v_rings_of_0 : Sm D := bin .Add true (vP 4) (tupE [vE 5])
noncomputable def b_rings_of_1 : Sm Fl := blk [fzS 2 (asg 2 (lc2 [4, 5] [5] (.nm 4) (itS (itV 2)) [] (itR1 (vP 0)) (.nm 5) [] v_rings_of_0))]
noncomputable def v_rings_of_2 : Sm D := vE 4
noncomputable def c_rings_of : List (Sm Fl) := [fzS 2 (asg 2 (lstE [tupE []])),
    forS (.nm 3) (itR1 (vP 1)) b_rings_of_1,
    rtS (lc [4] (.nm 4) (itS (itV 2)) [cmp .Eq true (call "least_turn" [.inl 4]) (vP 4)] v_rings_of_2)]
noncomputable def F_rings_of : Fn := ⟨2, 6, blk c_rings_of⟩
noncomputable def v_lyndon_words_0 : Sm D := vE 2
noncomputable def c_lyndon_words : List (Sm Fl) := [rtS (lc [2] (.nm 2) (itS (itE (call "rings_of" [.inl 0, .inl 1]))) [truB (call "is_lyndon" [.inl 2])] v_lyndon_words_0)]
noncomputable def F_lyndon_words : Fn := ⟨2, 3, blk c_lyndon_words⟩
noncomputable def v__law_of_length_0 : Sm D := vE 2
noncomputable def c__law_of_length : List (Sm Fl) := [rtS (lc [2] (.nm 2) (itS (itE (call "_law_words" [.inl 0, .inl 1]))) [cmp .Eq true (blt1 .len (vP 2)) (vP 1)] v__law_of_length_0)]
noncomputable def F__law_of_length : Fn := ⟨2, 3, blk c__law_of_length⟩
noncomputable def b__law_power_0 : Sm Fl := blk [asg 2 (bin .Mult true (vP 2) (vP 0))]
noncomputable def c__law_power : List (Sm Fl) := [asg 2 (ret (.int 1)),
    forS (.nm 3) (itR1 (vP 1)) b__law_power_0,
    rtS (vR 2)]
noncomputable def F__law_power : Fn := ⟨2, 4, blk c__law_power⟩
end Lib
end Tw

set_option Elab.async false
set_option linter.all false
set_option maxRecDepth 100000
set_option maxHeartbeats 2000000
/-! Tw.LibL1: Lyndon words: the runs. -/
namespace Tw
open Lib
open PySem (Str)
open PySem.W (listLt)
theorem shp_wD (a : List Int) : shp 60 (wD a) = true := by rw [shp_tup]; exact shp_nums a 59
@[simp] theorem cmp_lt_word (a b : List Int) : cmpOp .Lt (.tup (numsD a)) (.tup (numsD b)) = some (decide (a < b)) := by
  show (if (shp 60 (wD a) && (shp 60 (wD b) && (PySem.W.alike (toPy (wD a)) (toPy (wD b)) && nnD (wD a)))) = true then some (PySem.W.dataLt (toPy (wD a)) (toPy (wD b))) else none) = _
  simp only [shp_wD, alike_words, nnD, Bool.and_self, if_true, lt_word]
  congr 1
  rw [Bool.eq_iff_iff, listLt_iff]; simp
@[simp] theorem cmp_le_word (a b : List Int) : cmpOp .LtE (.tup (numsD a)) (.tup (numsD b)) = some (decide (a ≤ b)) := by
  show (if (shp 60 (wD a) && (shp 60 (wD b) && (PySem.W.alike (toPy (wD a)) (toPy (wD b)) && nnD (wD a)))) = true then some (!PySem.W.dataLt (toPy (wD b)) (toPy (wD a))) else none) = _
  simp only [shp_wD, alike_words, nnD, Bool.and_self, if_true, lt_word]
  congr 1
  by_cases h : b < a
  · rw [listLt_iff.mpr h, decide_eq_false (by exact fun q => absurd h (List.not_lt.mpr q))]; rfl
  · have : listLt b a = false := by
      cases e : listLt b a with
      | false => rfl
      | true => exact absurd (listLt_iff.mp e) h
    rw [this, decide_eq_true (List.not_lt.mp h)]; rfl
/-- is it a Lyndon word -/
def lynB (a : List Int) : Bool := decide (a ≠ []) && (List.range' 1 (a.length - 1)).all fun k => decide (a < rot k a)
theorem lynB_iff {a : List Int} : lynB a = true ↔ LynS a := by
  rw [← lyn_iff]
  unfold lynB Lyn
  rw [Bool.and_eq_true, decide_eq_true_eq, List.all_eq_true]
  constructor
  · rintro ⟨h1, h2⟩
    refine ⟨h1, fun k k1 k2 => ?_⟩
    simpa using h2 k (List.mem_range'_1.mpr ⟨k1, by omega⟩)
  · rintro ⟨h1, h2⟩
    refine ⟨h1, fun k hk => ?_⟩
    have := List.mem_range'_1.mp hk
    simpa using h2 k this.1 (by omega)
section
variable {Φ : Str → Option Fn}
theorem is_lyndon_run (h : Φ "is_lyndon" = some F_is_lyndon) {k : Nat} (hk : 1 ≤ k) {a : List Int} (hl : a.length ≤ 1000) : run Φ k "is_lyndon" [wD a] = .ok (.bl (lynB a)) [some (wD a)] := by
  obtain ⟨k, rfl⟩ : ∃ j, k = j + 1 := ⟨k - 1, by omega⟩
  refine run_sat (sat_run h rfl ?_)
  have r1 : rngOk 1 = true := rngOk_small (by omega) (by omega)
  have r2 : rngOk (a.length : Int) = true := rngOk_small (by omega) (by omega)
  have e1 := rngN (a := 1) (b := a.length)
  by_cases ha : a = []
  · subst ha
    simp [F_is_lyndon, c_is_lyndon, lynB]
  · have hp : 0 < a.length := by
      rcases Nat.eq_zero_or_pos a.length with z | z
      · exact absurd (List.eq_nil_of_length_eq_zero z) ha
      · exact z
    have hp' : (0 : Int) < a.length := by omega
    have e2 := lc_M0 (e := ⟨run Φ k, []⟩) (j := 1) (it := itR2 (ret (.int 1)) (blt1 .len (vP 0))) (elt := v_is_lyndon_0) (s := [some (wD a), none]) (s' := [some (wD a), none]) (List.range' 1 (a.length - 1)) iN (fun k => .bl (decide (a < rot k a)))
      (by simp [r1, r2]; exact e1) rfl rfl (fun _ _ => rfl) (by simp; omega) (fun x hx => by
        have hx := List.mem_range'_1.mp hx
        have sz : szOk ((a.length - x) + min x a.length) = true := szOk_small (by omega)
        simp [v_is_lyndon_0, iN, cut_from, cut_to, sz, rot]
        exact decide_eq_decide.mpr Iff.rfl)
    have e3 : fzL ((List.range' 1 (a.length - 1)).map fun k => D.bl (decide (a < rot k a))) = (List.range' 1 (a.length - 1)).map fun k => D.bl (decide (a < rot k a)) := fzL_of fun d hd => by
      obtain ⟨k, _, rfl⟩ := List.mem_map.mp hd; rfl
    have e4 : bi1 .all (.lst false ((List.range' 1 (a.length - 1)).map fun k => D.bl (decide (a < rot k a)))) = some (.bl ((List.range' 1 (a.length - 1)).all fun k => decide (a < rot k a))) := by
      have : ∀ l : List Nat, allB (l.map fun k => D.bl (decide (a < rot k a))) = some (l.map fun k => decide (a < rot k a)) := by
        intro l
        induction l with
        | nil => rfl
        | cons x l ih => rw [List.map_cons]; show (allB _).map _ = _; rw [ih]; rfl
      show (allB _).map _ = _
      rw [this]
      simp [List.all_map]
    simp [F_is_lyndon, c_is_lyndon, lynB, hp, ha, e2, e3, e4]
theorem lyndon_factors_run (h : Φ "lyndon_factors" = some F_lyndon_factors) {k : Nat} (hk : 1 ≤ k) {a : List Int} (hl : a.length ≤ 1000) : ∃ fs, Facs a fs ∧ run Φ k "lyndon_factors" [wD a] = .ok (.lst true (fs.map wD)) [some (wD a)] := by
  obtain ⟨k, rfl⟩ : ∃ j, k = j + 1 := ⟨k - 1, by omega⟩
  suffices hs : Sat (run Φ (k + 1) "lyndon_factors" [wD a]) (fun d s => ∃ fs, Facs a fs ∧ d = .lst true (fs.map wD) ∧ s = [some (wD a)]) by
    obtain ⟨d, s, e, fs, h1, rfl, rfl⟩ := sat_ex hs
    exact ⟨fs, h1, e⟩
  refine sat_run h rfl ?_
  simp [F_lyndon_factors, c_lyndon_factors]
  -- the whole: what is found, and what is left
  refine sat_bind (sat_while a.length (fun m s => ∃ (at_ : Nat) (fs : List (List Int)) (o3 o4 : Option D), s = [some (wD a), some (.lst true (fs.map wD)), some (.int at_), o3, o4] ∧ at_ ≤ a.length ∧ m = a.length - at_ ∧ fs.length ≤ at_ ∧ ∀ gs, Facs (a.drop at_) gs → Facs a (fs ++ gs))
    ⟨0, [], none, none, rfl, by omega, rfl, by simp, fun gs h => by simpa using h⟩ ?_)
  rintro m s ⟨t, fs, o3, o4, rfl, h1, rfl, h2, h3⟩
  by_cases q1 : t < a.length
  · simp [t_lyndon_factors_0, b_lyndon_factors_5, q1]
    have hne : a.drop t ≠ [] := fun e => by
      have := congrArg List.length e
      rw [List.length_drop] at this; simp at this; omega
    refine sat_bind (sat_while (a.length - t - 1) (fun m s => ∃ (p c : Nat), s = [some (wD a), some (.lst true (fs.map wD)), some (.int t), some (.int p), some (.int c)] ∧ Per (a.drop t) p (c + p) ∧ m = a.length - t - (c + p))
      ⟨1, 0, rfl, Per.one hne, by omega⟩ ?_)
    rintro m s ⟨p, c, rfl, hP, rfl⟩
    have hPl := hP.hl
    have hp1 := hP.hp
    rw [List.length_drop] at hPl
    -- what stands behind the start that turns round
    have third : (c + p = (a.drop t).length ∨ ∃ x y, (a.drop t)[c + p - p]? = some x ∧ (a.drop t)[c + p]? = some y ∧ y < x) → ∀ Q : Fl → S → Prop,
        (∀ (at_ : Nat) (gs : List (List Int)) (o3 o4 : Option D), t < at_ → at_ ≤ a.length → gs.length ≤ at_ → (∀ hs, Facs (a.drop at_) hs → Facs a (gs ++ hs)) → Q .nx [some (wD a), some (.lst true (gs.map wD)), some (.int at_), o3, o4]) →
        Sat (whileS t_lyndon_factors_3 b_lyndon_factors_4 ⟨run Φ k, []⟩ [some (wD a), some (.lst true (fs.map wD)), some (.int t), some (.int p), some (.int c)]) Q := by
      intro hend Q hQ
      refine sat_while (c + p) (fun m s => ∃ (u : Nat) (ah : Int) (gs : List (List Int)), s = [some (wD a), some (.lst true (gs.map wD)), some (.int u), some (.int p), some (.int ah)] ∧ t ≤ u ∧ u ≤ a.length ∧ gs.length ≤ u ∧ (∀ hs, Facs (a.drop u) hs → Facs a (gs ++ hs)) ∧ m = (ah + p).toNat ∧ -(p : Int) ≤ ah ∧
          (ah < 0 → t < u) ∧ (0 ≤ ah → Per (a.drop u) p (ah.toNat + p) ∧ (ah.toNat + p = (a.drop u).length ∨ ∃ x y, (a.drop u)[ah.toNat]? = some x ∧ (a.drop u)[ah.toNat + p]? = some y ∧ y < x)))
        ⟨t, c, fs, rfl, Nat.le_refl _, h1, h2, h3, by omega, by omega, by omega, fun _ => ⟨hP, by simpa using hend⟩⟩ ?_
      rintro m s ⟨u, ah, gs, rfl, g1, g2, g3, g4, rfl, g5, g6, g7⟩
      by_cases q : 0 ≤ ah
      · obtain ⟨P, he⟩ := g7 q
        obtain ⟨c, rfl⟩ := Int.eq_ofNat_of_zero_le q
        have hPl2 := P.hl
        have e0 : ((c : Int)).toNat = c := by omega
        rw [e0] at P he hPl2
        rw [List.length_drop] at hPl2
        have hlp := P.lpl (by simpa using he)
        have sz : szOk (gs.length + 1) = true := szOk_small (by omega)
        have cb : cutD (numsD a) (some (u : Int)) (some ((u : Int) + p)) = numsD ((a.drop u).take p) := by
          have := cut_both (numsD a) u (u + p)
          rw [show ((u + p : Nat) : Int) = (u : Int) + p by omega] at this
          rw [this, show u + p - u = p by omega]
          unfold numsD; rw [List.map_take, List.map_drop]
        have mp : (gs.map wD) ++ [D.tup (numsD ((a.drop u).take p))] = (gs ++ [(a.drop u).take p]).map wD := by simp
        simp only [t_lyndon_factors_3, b_lyndon_factors_4]
        simp [cb, sz, mp, -List.map_append]
        refine ⟨_, ?_, u + p, (c : Int) - p, gs ++ [(a.drop u).take p], ⟨rfl, by omega, rfl⟩, by omega, by omega, by simp; omega, fun hs hh => ?_, rfl, by omega, by omega, fun hc => ?_⟩
        · omega
        · rw [List.append_assoc]
          refine g4 _ (.cons hlp ?_)
          rw [List.drop_drop]
          exact hh
        · have e1 : ((c : Int) - p).toNat = c - p := by omega
          have hn := P.next (by omega)
          rw [List.drop_drop] at hn
          rw [e1]
          refine ⟨by rw [show c - p + p = c + p - p by omega]; exact hn, ?_⟩
          rcases he with he | ⟨x, y, y1, y2, y3⟩
          · left
            rw [List.length_drop] at he
            try rw [List.length_drop]
            omega
          · right
            rw [List.getElem?_drop] at y1 y2
            refine ⟨x, ?_, y, ?_, y3⟩
            · rw [← y1]; congr 1; omega
            · rw [← y2]; congr 1; omega
      · have q' : ¬ (0 ≤ ah) := q
        simp [t_lyndon_factors_3, q']
        exact hQ u gs _ _ (g6 (by omega)) g2 g3 g4
    have fin : ∀ (at_ : Nat) (gs : List (List Int)) (o3 o4 : Option D), t < at_ → at_ ≤ a.length → gs.length ≤ at_ → (∀ hs, Facs (a.drop at_) hs → Facs a (gs ++ hs)) →
        ∃ m, m < a.length - t ∧ ∃ (at' : Nat) (fs : List (List Int)) (o3' o4' : Option D), [some (wD a), some (.lst true (gs.map wD)), some (.int (at_ : Int)), o3, o4] = [some (wD a), some (.lst true (fs.map wD)), some (.int (at' : Int)), o3', o4'] ∧ at' ≤ a.length ∧ m = a.length - at' ∧ fs.length ≤ at' ∧ ∀ gs, Facs (a.drop at') gs → Facs a (fs ++ gs) :=
      fun at_ gs o3 o4 i1 i2 i3 i4 => ⟨_, by omega, at_, gs, o3, o4, rfl, i2, rfl, i3, i4⟩
    by_cases q2 : t + c + p < a.length
    · have q2' : (t : Int) + c + p < a.length := by omega
      have x1 : t + c < a.length := by omega
      have e1 : (t : Int) + c = ((t + c : Nat) : Int) := by omega
      have e2 : ((t + c : Nat) : Int) + p = ((t + c + p : Nat) : Int) := by omega
      have gx : (a.drop t)[c]? = some a[t + c] := by rw [List.getElem?_drop, List.getElem?_eq_getElem]
      have gy : (a.drop t)[c + p]? = some a[t + c + p] := by rw [List.getElem?_drop, show t + (c + p) = t + c + p by omega, List.getElem?_eq_getElem]
      by_cases q3 : a[t + c] ≤ a[t + c + p]
      · by_cases q4 : a[t + c] < a[t + c + p]
        · simp [t_lyndon_factors_1, b_lyndon_factors_2, e1, e2, q2, ixOf_nat, x1, q3, q4, -Int.natCast_add]
          refine ⟨_, ?_, c + p + 1, 0, ⟨by omega, by omega⟩, ?_, rfl⟩
          · omega
          · have := hP.up (x := a[t + c]) (y := a[t + c + p]) (by rw [show c + p - p = c by omega]; exact gx) gy q4
            rw [show 0 + (c + p + 1) = c + p + 1 by omega]
            exact this
        · have q5 : a[t + c] = a[t + c + p] := by omega
          simp [t_lyndon_factors_1, b_lyndon_factors_2, e1, e2, q2, ixOf_nat, x1, q3, q4, -Int.natCast_add]
          refine ⟨_, ?_, p, c + 1, ⟨rfl, by omega⟩, ?_, rfl⟩
          · omega
          · have := hP.more (by rw [List.length_drop]; omega) (by rw [show c + p - p = c by omega, gx, gy, q5])
            rw [show c + 1 + p = c + p + 1 by omega]
            exact this
      · simp [t_lyndon_factors_1, b_lyndon_factors_2, e1, e2, q2, ixOf_nat, x1, q3, -Int.natCast_add]
        refine third (.inr ⟨a[t + c], a[t + c + p], by rw [show c + p - p = c by omega]; exact gx, gy, by omega⟩) _ fun at_ gs o3 o4 i1 i2 i3 i4 => ?_
        simpa using fin at_ gs o3 o4 i1 i2 i3 i4
    · have e1 : (t : Int) + c = ((t + c : Nat) : Int) := by omega
      have e2 : ((t + c : Nat) : Int) + p = ((t + c + p : Nat) : Int) := by omega
      simp [t_lyndon_factors_1, e1, e2, q2, -Int.natCast_add]
      refine third (.inl (by rw [List.length_drop]; omega)) _ fun at_ gs o3 o4 i1 i2 i3 i4 => ?_
      simpa using fin at_ gs o3 o4 i1 i2 i3 i4
  · simp [t_lyndon_factors_0, q1]
    refine ⟨fs, ?_, rfl⟩
    have := h3 [] (by rw [List.drop_eq_nil_of_le (by omega)]; exact .nil)
    simpa using this
end
end Tw

set_option Elab.async false
set_option linter.all false
set_option maxRecDepth 100000
set_option maxHeartbeats 2000000
/-! Tw.LibL2: rings of a length. -/
namespace Tw
open Lib
open PySem (Str)
theorem front_le {l m : Nat} (hl : l ≤ 3) (hm : m ≤ 7) : (front l m).length ≤ 3000 := by
  have h1 := front_len l m hl
  have h2 : 3 ^ m ≤ 3 ^ 7 := Nat.pow_le_pow_right (by omega) hm
  omega
/-- one letter more for each: what the clauses give -/
theorem exts_lc2 (l n : Nat) : lc2L (front l n) (fun _ => true) (fun _ => List.range l) (fun _ _ => true) (fun w j => wD (w ++ [(j : Int)])) = (front l (n + 1)).map wD := by
  unfold lc2L
  rw [List.filter_eq_self.mpr (fun _ _ => rfl)]
  show _ = (step l (front l n)).map wD
  unfold step exts
  rw [List.map_flatMap]
  refine congrArg (fun f => (front l n).flatMap f) (funext fun w => ?_)
  rw [List.filter_eq_self.mpr (fun _ _ => rfl), List.map_map]; rfl
def ringsI (l n : Nat) : List (List Int) := (front l n).filter fun w => decide (leastI w = w)
section
variable {Φ : Str → Option Fn}
theorem rings_of_run (ht : Φ "turns_of" = some F_turns_of) (hlt : Φ "least_turn" = some F_least_turn) (h : Φ "rings_of" = some F_rings_of) {k : Nat} (hk : 3 ≤ k) {l n : Nat} (hl : l ≤ 3) (hn : n ≤ 7) :
    run Φ k "rings_of" [.int l, .int n] = .ok (.lst true ((ringsI l n).map wD)) [some (.int l), some (.int n)] := by
  obtain ⟨k, rfl⟩ : ∃ j, k = j + 1 := ⟨k - 1, by omega⟩
  refine run_sat (sat_run h rfl ?_)
  have rk : rngOk (n : Int) = true := rngOk_small (by omega) (by omega)
  have rl : rngOk (l : Int) = true := rngOk_small (by omega) (by omega)
  simp [F_rings_of, c_rings_of, rk]
  refine sat_bind (sat_forGo (fun i s => ∃ o : Option D, s = [some (.int l), some (.int n), some (.lst false ((front l i).map wD)), o, none, none]) ⟨none, rfl⟩ ?_ ?_)
  · rintro i x s hx ⟨o, rfl⟩
    obtain ⟨rfl, hi⟩ := rng_get hx
    refine ⟨rfl, ?_⟩
    have e1 : lc2 [4, 5] [5] (.nm 4) (itS (itV 2)) [] (itR1 (vP 0)) (.nm 5) [] v_rings_of_0 ⟨run Φ k, []⟩ [some (.int l), some (.int n), some (.lst false ((front l i).map wD)), some (.int (0 + i)), none, none] =
        .ok (.lst true ((front l (i + 1)).map wD)) [some (.int l), some (.int n), some (.lst false ((front l i).map wD)), some (.int (0 + i)), none, none] := by
      have e3 := front_le (m := i + 1) hl (by omega)
      rw [← exts_lc2]
      refine lc2_G (front l i) wD (fun w => [some (.int l), some (.int n), some (.lst false ((front l i).map wD)), some (.int (0 + i)), some (wD w), none]) (fun _ => true) (fun _ => List.range l) (fun _ => iN)
        (fun w j => [some (.int l), some (.int n), some (.lst false ((front l i).map wD)), some (.int (0 + i)), some (wD w), some (iN j)]) (fun _ _ => true) (fun w j => wD (w ++ [(j : Int)]))
        (by simp) (by simp) rfl rfl (by rw [exts_lc2, List.length_map]; omega) (fun w hw => by simp) (fun w hw => by simp) (fun w hw _ => by simp [rl, rngN0]) (fun w hw _ j hj => by simp) (fun w hw _ j hj => by simp) (fun w hw _ j hj _ => ?_)
      have hwl := (mem_front.mp hw).1
      have sz : szOk (w.length + 1) = true := szOk_small (by omega)
      simp [v_rings_of_0, sz, iN, numsD]
    rw [Int.zero_add] at *
    simp [b_rings_of_1, e1]
  · rintro s ⟨o, rfl⟩
    simp
    have e4 := front_le (m := n) hl (by omega)
    refine sat_bind (sat_lc (s' := [some (.int l), some (.int n), some (.lst false ((front l n).map wD)), o, none, none]) (front l n) wD (fun w => decide (leastI w = w)) wD (by simp) rfl rfl (fun _ _ => by simp) (by omega) (fun w hw => ?_) (fun w hw _ => by simp [v_rings_of_2]) (by simp [ringsI]))
    have hwl := (mem_front.mp hw).1
    have e5 := least_turn_run ht hlt (k := k) (by omega) (a := w) (by omega)
    simp [e5]
theorem lyndon_words_run (ht : Φ "turns_of" = some F_turns_of) (hlt : Φ "least_turn" = some F_least_turn) (hr : Φ "rings_of" = some F_rings_of) (hi : Φ "is_lyndon" = some F_is_lyndon) (h : Φ "lyndon_words" = some F_lyndon_words) {k : Nat} (hk : 4 ≤ k) {l n : Nat} (hl : l ≤ 3) (hn : n ≤ 7) :
    run Φ k "lyndon_words" [.int l, .int n] = .ok (.lst true (((ringsI l n).filter lynB).map wD)) [some (.int l), some (.int n)] := by
  obtain ⟨k, rfl⟩ : ∃ j, k = j + 1 := ⟨k - 1, by omega⟩
  refine run_sat (sat_run h rfl ?_)
  have e1 := rings_of_run ht hlt hr (k := k) (by omega) hl hn
  simp [F_lyndon_words, c_lyndon_words]
  have e4 := front_le (m := n) hl (by omega)
  have e5 : (ringsI l n).length ≤ (front l n).length := List.length_filter_le _ _
  refine sat_bind (sat_lc (s' := [some (.int l), some (.int n), none]) (ringsI l n) wD lynB wD (by simp [e1]) rfl rfl (fun _ _ => by simp) (by omega) (fun w hw => ?_) (fun w hw _ => by simp [v_lyndon_words_0]) (by simp))
  have hwl := (mem_front.mp (List.mem_filter.mp hw).1).1
  have e6 := is_lyndon_run hi (k := k) (by omega) (a := w) (by omega)
  simp [e6]
theorem of_length_eq (l n : Nat) : (upTo l n).filter (fun w => decide (w.length = n)) = front l n := by
  cases n with
  | zero => simp [upTo, front]
  | succ n =>
    show (upTo l n ++ front l (n + 1)).filter _ = _
    rw [List.filter_append]
    have h1 : (upTo l n).filter (fun w => decide (w.length = n + 1)) = [] := by
      rw [List.filter_eq_nil_iff]
      intro w hw
      have := (mem_upTo.mp hw).1
      simp; omega
    have h2 : (front l (n + 1)).filter (fun w => decide (w.length = n + 1)) = front l (n + 1) := by
      rw [List.filter_eq_self]
      intro w hw
      simpa using (mem_front.mp hw).1
    rw [h1, h2]; rfl
theorem law_of_length_run (hw : Φ "_law_words" = some F__law_words) (h : Φ "_law_of_length" = some F__law_of_length) {k : Nat} (hk : 2 ≤ k) {l n : Nat} (hl : l ≤ 3) (hn : n ≤ 7) : run Φ k "_law_of_length" [.int l, .int n] = .ok (.lst true ((front l n).map wD)) [some (.int l), some (.int n)] := by
  obtain ⟨k, rfl⟩ : ∃ j, k = j + 1 := ⟨k - 1, by omega⟩
  refine run_sat (sat_run h rfl ?_)
  have e1 := law_words_run (Φ := Φ) hw (k := k) (by omega) (l := l) (n := n) hl hn
  have ul : (upTo l n).length ≤ 20000 := by
    have h1 := upTo_len l n hl
    have h2 : 3 ^ n ≤ 3 ^ 7 := Nat.pow_le_pow_right (by omega) hn
    have h3 : (n + 1) * 3 ^ n ≤ 8 * 3 ^ 7 := Nat.mul_le_mul (by omega) h2
    omega
  have e2 := lc_M (e := ⟨run Φ k, []⟩) (j := 2) (it := itS (itE (call "_law_words" [.inl 0, .inl 1]))) (elt := v__law_of_length_0) (ifs := [cmp .Eq true (blt1 .len (vP 2)) (vP 1)]) (s := [some (.int l), some (.int n), none]) (s' := [some (.int l), some (.int n), none])
    (upTo l n) wD (fun w => decide (w.length = n)) wD (by simp [e1]) rfl rfl (fun _ _ => by simp) (by omega) (fun w hw => by
      have : ((w.length : Int) = (n : Int)) = (w.length = n) := by simp only [eq_iff_iff]; omega
      simp [this]) (fun w hw _ => by simp [v__law_of_length_0])
  rw [of_length_eq] at e2
  simp [F__law_of_length, c__law_of_length, e2]
theorem mul3 {a l : Int} (h0 : 0 ≤ l) (h3 : l ≤ 1000) : mulOk a l = true := by
  unfold mulOk
  rw [Bool.or_eq_true]; right
  rw [decide_eq_true_eq]; omega
theorem law_power_run (h : Φ "_law_power" = some F__law_power) {k : Nat} (hk : 1 ≤ k) {l n : Nat} (hl : l ≤ 3) (hn : n ≤ 1000) : run Φ k "_law_power" [.int l, .int n] = .ok (.int ((l ^ n : Nat) : Int)) [some (.int l), some (.int n)] := by
  obtain ⟨k, rfl⟩ : ∃ j, k = j + 1 := ⟨k - 1, by omega⟩
  refine run_sat (sat_run h rfl ?_)
  have rk : rngOk (n : Int) = true := rngOk_small (by omega) (by omega)
  simp [F__law_power, c__law_power, rk]
  refine sat_bind (sat_forGo (fun i s => ∃ o : Option D, s = [some (.int l), some (.int n), some (.int ((l ^ i : Nat) : Int)), o]) ⟨none, rfl⟩ ?_ ?_)
  · rintro i x s hx ⟨o, rfl⟩
    obtain ⟨rfl, hi⟩ := rng_get hx
    refine ⟨rfl, ?_⟩
    have mo : mulOk ((l : Int) ^ i) (l : Int) = true := mul3 (by omega) (by omega)
    simp [b__law_power_0, mo, Int.pow_succ]
  · rintro s ⟨o, rfl⟩
    simp
end
/-- a value is equal to itself, lists of words -/
theorem words_eq {Φ : Str → Option Fn} (hk0 : Φ "_law_kind" = some F__law_kind) (he : Φ "_law_equal" = some F__law_equal) {k : Nat} (hk : 5 ≤ k) {b : Nat} {ws : List (List Int)} {o p : Bool} (hl : ws.length ≤ b) (hb : b ≤ 100000) (h : ∀ w ∈ ws, Sv b 1 (wD w)) :
    run Φ k "_law_equal" [.lst o (ws.map wD), .lst p (ws.map wD)] = .ok (.bl true) [some (.lst o (ws.map wD)), some (.lst p (ws.map wD))] := by
  refine equal_run hk0 he (b := b) (by omega) (n := 2) (by omega) (by omega) (.inr ⟨o, p, ws.map wD, rfl, rfl, .lst (by rw [List.length_map]; omega) fun d hd => ?_⟩)
  obtain ⟨w, hw, rfl⟩ := List.mem_map.mp hd
  exact h w hw
theorem val_eq {Φ : Str → Option Fn} (hk0 : Φ "_law_kind" = some F__law_kind) (he : Φ "_law_equal" = some F__law_equal) {k : Nat} {n b : Nat} {x : D} (h : Sv b n x) (hb : b ≤ 1000000) (hn : n ≤ 6) (hk : 9 ≤ k) : run Φ k "_law_equal" [x, x] = .ok (.bl true) [some x, some x] :=
  equal_run hk0 he (b := b) hb (n := n) (by omega) (by omega) (.inl ⟨h, rfl⟩)
theorem nats_eq {Φ : Str → Option Fn} (hk0 : Φ "_law_kind" = some F__law_kind) (he : Φ "_law_equal" = some F__law_equal) {k : Nat} (hk : 5 ≤ k) {b : Nat} {ks : List Nat} {o p : Bool} (hl : ks.length ≤ b) (hb : b ≤ 100000) (h : ∀ x ∈ ks, x ≤ b) :
    run Φ k "_law_equal" [.lst o (ks.map iN), .lst p (ks.map iN)] = .ok (.bl true) [some (.lst o (ks.map iN)), some (.lst p (ks.map iN))] := by
  refine equal_run hk0 he (b := b) (by omega) (n := 2) (by omega) (by omega) (.inr ⟨o, p, ks.map iN, rfl, rfl, .lst (by rw [List.length_map]; omega) fun d hd => ?_⟩)
  obtain ⟨w, hw, rfl⟩ := List.mem_map.mp hd
  exact .int (by have := h w hw; omega)
theorem int_eq {Φ : Str → Option Fn} (hk0 : Φ "_law_kind" = some F__law_kind) (he : Φ "_law_equal" = some F__law_equal) {k : Nat} {i : Int} (hk : 6 ≤ k) : run Φ k "_law_equal" [.int i, .int i] = .ok (.bl true) [some (.int i), some (.int i)] := by
  obtain ⟨k, rfl⟩ : ∃ j, k = j + 1 := ⟨k - 1, by omega⟩
  rw [run_succ he]
  simp only [F__law_equal, c__law_equal]
  have e := kind_run hk0 (k := k) (by omega) (x := .int i) (.inl rfl)
  simp [e, kindD]
theorem word_sub {l : Int} {n m : Nat} {a b : List Int} (h : IsWord l n a) (hl : b.length ≤ m) (hs : ∀ x ∈ b, x ∈ a) : IsWord l m b := ⟨hl, fun x hx => h.2 x (hs x hx)⟩
theorem word_app {l : Int} {n m : Nat} {a b : List Int} (h : IsWord l n a) (h' : IsWord l m b) : IsWord l (n + m) (a ++ b) := ⟨by rw [List.length_append]; have := h.1; have := h'.1; omega, fun x hx => by
  rcases List.mem_append.mp hx with q | q
  · exact h.2 x q
  · exact h'.2 x q⟩
theorem numsD_app (a b : List Int) : numsD a ++ numsD b = numsD (a ++ b) := by unfold numsD; rw [List.map_append]
/-- a word in a row of words -/
theorem in_words {o : Bool} {ws : List (List Int)} {a : List Int} : inD (wD a) (.lst o (ws.map wD)) = some (decide (a ∈ ws)) := by
  have hs : shp 60 (D.lst o (ws.map wD)) = true := by
    rw [shp_lst]
    refine shpL_of fun d hd => ?_
    obtain ⟨w, _, rfl⟩ := List.mem_map.mp hd
    rw [shp_tup]; exact shp_nums w 58
  have ha : shp 60 (wD a) = true := by rw [shp_tup]; exact shp_nums a 59
  show (if (shp 60 (wD a) && shp 60 (D.lst o (ws.map wD))) = true then some ((ws.map wD).any fun y => PySem.PyData.eqv (toPy y) (toPy (wD a))) else none) = _
  rw [ha, hs, Bool.true_and, if_pos rfl, List.any_map]
  congr 1
  rw [Bool.eq_iff_iff, List.any_eq_true, decide_eq_true_eq]
  have e : ∀ w : List Int, PySem.PyData.eqv (toPy (wD w)) (toPy (wD a)) = decide (w = a) := fun w => by
    rw [toPy_tup, toPy_tup, eqv_tup, toPyL_nums]
  constructor
  · rintro ⟨w, hw, h⟩
    have h : PySem.PyData.eqv (toPy (wD w)) (toPy (wD a)) = true := h
    rw [e, decide_eq_true_eq] at h
    subst h; exact hw
  · intro h
    refine ⟨a, h, ?_⟩
    show PySem.PyData.eqv (toPy (wD a)) (toPy (wD a)) = true
    rw [e]; simp
theorem le_or (a b : List Int) (h : a ≤ b) : a = b ∨ a < b := by
  by_cases q : a < b
  · exact .inr q
  · exact .inl (List.le_antisymm h (List.not_lt.mp q))
theorem lt_uniq : ∀ {a b : List (List Int)}, a.Pairwise (· < ·) → b.Pairwise (· < ·) → (∀ x, x ∈ a ↔ x ∈ b) → a = b
  | [], [], _, _, _ => rfl
  | [], y :: b, _, _, h => by have := (h y).mpr List.mem_cons_self; cases this
  | x :: a, [], _, _, h => by have := (h x).mp List.mem_cons_self; cases this
  | x :: a, y :: b, ha, hb, h => by
    obtain ⟨a1, a2⟩ := List.pairwise_cons.mp ha
    obtain ⟨b1, b2⟩ := List.pairwise_cons.mp hb
    have e : x = y := by
      rcases List.mem_cons.mp ((h x).mp List.mem_cons_self) with e | e
      · exact e
      · rcases List.mem_cons.mp ((h y).mpr List.mem_cons_self) with e' | e'
        · exact e'.symm
        · exact absurd (b1 x e) (List.not_lt.mpr (List.le_of_lt (a1 y e')))
    subst e
    rw [lt_uniq a2 b2 fun z => ?_]
    have hz := h z
    simp only [List.mem_cons] at hz
    constructor
    · intro q
      rcases hz.mp (.inr q) with e | e
      · subst e; exact absurd (a1 z q) (List.lt_irrefl z)
      · exact e
    · intro q
      rcases hz.mpr (.inr q) with e | e
      · subst e; exact absurd (b1 z q) (List.lt_irrefl z)
      · exact e
theorem wSort_sorted (ws : List (List Int)) : (wSort ws).Pairwise (· ≤ ·) := by
  have := List.pairwise_mergeSort (le := fun a b : List Int => decide (a ≤ b)) (fun a b c h1 h2 => by
    simp only [decide_eq_true_eq] at *; exact List.le_trans h1 h2) (fun a b => by
    simp only [Bool.or_eq_true, decide_eq_true_eq]; exact List.le_total a b) ws
  exact this.imp fun h => by simpa using h
theorem wSort_mem {ws : List (List Int)} {a : List Int} : a ∈ wSort ws ↔ a ∈ ws := List.mem_mergeSort
/-- sorted by inserting: what the kernel can reckon -/
def insW (a : List Int) : List (List Int) → List (List Int)
  | [] => [a]
  | b :: bs => if a ≤ b then a :: b :: bs else b :: insW a bs
def isW (ws : List (List Int)) : List (List Int) := ws.foldr insW []
theorem insW_mem (a : List Int) : ∀ (bs : List (List Int)) (x : List Int), x ∈ insW a bs ↔ x = a ∨ x ∈ bs
  | [], x => by simp [insW]
  | b :: bs, x => by
    unfold insW
    split
    · simp
    · rw [List.mem_cons, insW_mem a bs x, List.mem_cons]
      constructor
      · rintro (h | h | h) <;> simp [h]
      · rintro (h | h | h) <;> simp [h]
theorem insW_lt (a : List Int) : ∀ (bs : List (List Int)), a ∉ bs → bs.Pairwise (· < ·) → (insW a bs).Pairwise (· < ·)
  | [], _, _ => List.pairwise_singleton _ _
  | b :: bs, h, hp => by
    obtain ⟨h1, h2⟩ := List.pairwise_cons.mp hp
    have hab : a ≠ b := fun e => h (by simp [e])
    unfold insW
    split
    · rename_i q
      refine List.pairwise_cons.mpr ⟨fun x hx => ?_, hp⟩
      have hlt : a < b := (le_or a b q).resolve_left hab
      rcases List.mem_cons.mp hx with rfl | hx
      · exact hlt
      · exact List.lt_trans hlt (h1 x hx)
    · rename_i q
      refine List.pairwise_cons.mpr ⟨fun x hx => ?_, insW_lt a bs (fun e => h (List.mem_cons_of_mem _ e)) h2⟩
      rcases (insW_mem a bs x).mp hx with rfl | hx
      · exact List.not_le.mp q
      · exact h1 x hx
theorem isW_spec : ∀ {ws : List (List Int)}, ws.Nodup → (isW ws).Pairwise (· < ·) ∧ ∀ x, x ∈ isW ws ↔ x ∈ ws
  | [], _ => ⟨List.Pairwise.nil, fun x => by simp [isW]⟩
  | a :: ws, h => by
    obtain ⟨n1, n2⟩ := List.nodup_cons.mp h
    obtain ⟨h1, h2⟩ := isW_spec n2
    have e : isW (a :: ws) = insW a (isW ws) := rfl
    rw [e]
    refine ⟨insW_lt a _ (fun q => n1 ((h2 a).mp q)) h1, fun x => ?_⟩
    rw [insW_mem, h2, List.mem_cons]
theorem wSort_isW {ws : List (List Int)} (h : ws.Nodup) : wSort ws = isW ws := by
  obtain ⟨h1, h2⟩ := isW_spec h
  refine lt_uniq ?_ h1 fun x => by rw [wSort_mem, h2]
  have g1 := wSort_sorted ws
  have g2 : (wSort ws).Nodup := (List.mergeSort_perm _ _).nodup_iff.mpr h
  rw [List.nodup_iff_pairwise_ne] at g2
  exact (g1.and g2).imp fun ⟨p, q⟩ => (le_or _ _ p).resolve_left q
end Tw

set_option Elab.async false
set_option linter.all false
set_option maxRecDepth 100000
set_option maxHeartbeats 1000000
/-! Tw.LibM: dicts as rows of keys and values. -/
namespace Tw
open Lib
open PySem (Str)
/-- how keys are told -/
structure KE {κ : Type} [DecidableEq κ] (enc : κ → D) : Prop where
  ok : ∀ k, kOk (enc k) = true
  tp : ∀ j k, kTp (enc j) = kTp (enc k)
  same : ∀ j k, sameK (enc j) (enc k) = decide (j = k)
section
variable {κ : Type} [DecidableEq κ] {enc : κ → D}
def dicM (o : Bool) (enc : κ → D) (m : List (κ × D)) : D := .dic o (m.map fun p => enc p.1) (m.map fun p => p.2)
def getM (m : List (κ × D)) (k : κ) : Option D := (m.find? fun p => decide (p.1 = k)).map (·.2)
def putM (m : List (κ × D)) (k : κ) (v : D) : List (κ × D) := if k ∈ m.map (·.1) then m.map fun p => if p.1 = k then (p.1, v) else p else m ++ [(k, v)]
theorem homK_M (K : KE enc) (m : List (κ × D)) (k : κ) : homK (m.map fun p => enc p.1) (enc k) = true := by
  unfold homK
  rw [K.ok, Bool.true_and, List.all_eq_true]
  intro d hd
  obtain ⟨p, _, rfl⟩ := List.mem_map.mp hd
  rw [K.ok, K.tp p.1 k]
  simp
theorem findK_M (K : KE enc) : ∀ (m : List (κ × D)) (k : κ), findK (m.map fun p => enc p.1) (m.map fun p => p.2) (enc k) = getM m k
  | [], k => rfl
  | p :: m, k => by
    show (if sameK (enc p.1) (enc k) = true then some p.2 else findK (m.map fun p => enc p.1) (m.map fun p => p.2) (enc k)) = _
    rw [K.same, findK_M K m k]
    unfold getM
    rw [List.find?_cons]
    by_cases h : p.1 = k <;> simp [h]
theorem getK_M (K : KE enc) {o : Bool} {m : List (κ × D)} {k : κ} : getK (dicM o enc m) (enc k) = some (getM m k) := by
  show (if homK (m.map fun p => enc p.1) (enc k) = true then some (findK (m.map fun p => enc p.1) (m.map fun p => p.2) (enc k)) else none) = _
  rw [homK_M K, if_pos rfl, findK_M K]
theorem hasK_M (K : KE enc) (m : List (κ × D)) (k : κ) : hasK (m.map fun p => enc p.1) (enc k) = decide (k ∈ m.map (·.1)) := by
  unfold hasK
  rw [Bool.eq_iff_iff, List.any_eq_true, decide_eq_true_eq]
  constructor
  · rintro ⟨d, hd, h⟩
    obtain ⟨p, hp, rfl⟩ := List.mem_map.mp hd
    rw [K.same, decide_eq_true_eq] at h
    exact List.mem_map.mpr ⟨p, hp, h⟩
  · intro h
    obtain ⟨p, hp, h⟩ := List.mem_map.mp h
    exact ⟨enc p.1, List.mem_map.mpr ⟨p, hp, rfl⟩, by rw [K.same, h]; simp⟩
theorem putVs_M (K : KE enc) (k : κ) (v : D) : ∀ m : List (κ × D), putVs (m.map fun p => enc p.1) (m.map fun p => p.2) (enc k) v = (m.map fun p => if p.1 = k then (p.1, v) else p).map fun p => p.2
  | [] => rfl
  | p :: m => by
    show (if sameK (enc p.1) (enc k) = true then v :: putVs (m.map fun p => enc p.1) (m.map fun p => p.2) (enc k) v else p.2 :: putVs (m.map fun p => enc p.1) (m.map fun p => p.2) (enc k) v) = _
    rw [K.same, putVs_M K k v m]
    by_cases h : p.1 = k <;> simp [h]
theorem putK_M (K : KE enc) (m : List (κ × D)) (k : κ) (v : D) : putK (m.map fun p => enc p.1) (m.map fun p => p.2) (enc k) v = ((putM m k v).map fun p => enc p.1, (putM m k v).map fun p => p.2) := by
  unfold putK putM
  rw [hasK_M K]
  by_cases h : k ∈ m.map (·.1)
  · rw [if_pos (decide_eq_true h), if_pos h, putVs_M K]
    congr 1
    rw [List.map_map]
    refine List.map_congr_left fun p _ => ?_
    show enc p.1 = enc (if p.1 = k then (p.1, v) else p).1
    split <;> rfl
  · rw [if_neg (by simpa using h), if_neg h]
    simp
theorem setAt_M (K : KE enc) {m : List (κ × D)} {k : κ} {v : D} : setAt (enc k) v (dicM true enc m) = ifB (szOk (m.length + 1)) (some (dicM true enc (putM m k v), .non)) none := by
  show (if (homK (m.map fun p => enc p.1) (enc k) && szOk ((m.map fun p => enc p.1).length + 1)) = true then some (D.dic true (putK (m.map fun p => enc p.1) (m.map fun p => p.2) (enc k) v).1 (putK (m.map fun p => enc p.1) (m.map fun p => p.2) (enc k) v).2, D.non) else none) = _
  rw [homK_M K, Bool.true_and, List.length_map, putK_M K]
  rfl
theorem itemD_M (K : KE enc) {o : Bool} {m : List (κ × D)} {k : κ} : itemD (dicM o enc m) (enc k) = getM m k := by
  have h : itemD (dicM o enc m) (enc k) = (getK (dicM o enc m) (enc k)).bind id := by
    show itemD (.dic o _ _) (enc k) = _
    unfold itemD
    cases enc k <;> rfl
  rw [h, getK_M K]; rfl
theorem inD_M (K : KE enc) {o : Bool} {m : List (κ × D)} {k : κ} : inD (enc k) (dicM o enc m) = some (getM m k).isSome := by
  have h : inD (enc k) (dicM o enc m) = (getK (dicM o enc m) (enc k)).map (·.isSome) := by
    show inD (enc k) (.dic o _ _) = _
    unfold inD
    cases enc k <;> rfl
  rw [h, getK_M K]; rfl
theorem len_M {o : Bool} {m : List (κ × D)} : lenD (dicM o enc m) = some (.int m.length) := by
  show some (D.int (m.map fun p => enc p.1).length) = _
  rw [List.length_map]
theorem getM_none {m : List (κ × D)} {k : κ} : getM m k = none ↔ k ∉ m.map (·.1) := by
  unfold getM
  rw [Option.map_eq_none_iff, List.find?_eq_none]
  constructor
  · intro h q
    obtain ⟨p, hp, e⟩ := List.mem_map.mp q
    exact h p hp (decide_eq_true e)
  · intro h p hp q
    exact h (List.mem_map.mpr ⟨p, hp, of_decide_eq_true q⟩)
theorem getM_some_mem {m : List (κ × D)} {k : κ} {v : D} (h : getM m k = some v) : (k, v) ∈ m := by
  unfold getM at h
  obtain ⟨p, hp, rfl⟩ := Option.map_eq_some_iff.mp h
  have h1 := List.find?_some hp
  have h2 := List.mem_of_find?_eq_some hp
  simp at h1
  subst h1
  exact h2
theorem getM_mem {m : List (κ × D)} (nd : (m.map (·.1)).Nodup) {k : κ} {v : D} (h : (k, v) ∈ m) : getM m k = some v := by
  unfold getM
  induction m with
  | nil => cases h
  | cons p m ih =>
    rw [List.map_cons] at nd
    obtain ⟨n1, n2⟩ := List.nodup_cons.mp nd
    rw [List.find?_cons]
    rcases List.mem_cons.mp h with e | h
    · subst e; simp
    · have : p.1 ≠ k := fun e => n1 (by rw [e]; exact List.mem_map.mpr ⟨_, h, rfl⟩)
      simp [this]
      have := ih n2 h
      simpa using this
theorem putM_new {m : List (κ × D)} {k : κ} {v : D} (h : k ∉ m.map (·.1)) : putM m k v = m ++ [(k, v)] := by unfold putM; rw [if_neg h]
theorem getM_app_new {m : List (κ × D)} {j k : κ} {v : D} (h : k ∉ m.map (·.1)) : getM (m ++ [(k, v)]) j = if j = k then some v else getM m j := by
  unfold getM
  rw [List.find?_append]
  by_cases e : j = k
  · subst e
    have : m.find? (fun p => decide (p.1 = j)) = none := by
      rw [List.find?_eq_none]
      intro p hp
      simp
      intro q
      exact h (List.mem_map.mpr ⟨p, hp, q⟩)
    rw [this]; simp
  · rw [if_neg e]
    cases m.find? (fun p => decide (p.1 = j)) with
    | some p => rfl
    | none =>
      have : ¬ k = j := fun q => e q.symm
      simp [this]
theorem getM_put {m : List (κ × D)} {j k : κ} {v : D} : getM (putM m k v) j = if j = k then some v else getM m j := by
  by_cases h : k ∈ m.map (·.1)
  · unfold putM
    rw [if_pos h]
    unfold getM
    induction m with
    | nil => simp at h
    | cons p m ih =>
      rw [List.map_cons, List.find?_cons, List.find?_cons]
      by_cases e : p.1 = k
      · subst e
        by_cases e2 : p.1 = j
        · subst e2; simp
        · have e3 : ¬ j = p.1 := fun q => e2 q.symm
          simp only [if_pos, e2, e3, decide_false, if_false, if_true]
          by_cases h2 : p.1 ∈ m.map (·.1)
          · have := ih h2
            rw [if_neg e3] at this
            exact this
          · have : (m.map fun q => if q.1 = p.1 then (q.1, v) else q) = m := by
              conv => rhs; rw [← List.map_id m]
              refine List.map_congr_left fun q hq => ?_
              rw [if_neg]; rfl
              intro e; exact h2 (List.mem_map.mpr ⟨q, hq, e⟩)
            rw [this]
      · have h2 : k ∈ m.map (·.1) := by
          rw [List.map_cons] at h
          rcases List.mem_cons.mp h with q | q
          · exact absurd q.symm e
          · exact q
        have := ih h2
        rw [if_neg e]
        by_cases e2 : p.1 = j
        · have e3 : ¬ j = k := fun q => e (e2.trans q)
          subst e2
          simp [e3]
        · simp only [e2, decide_false]
          exact this
  · rw [putM_new h, getM_app_new h]
end
theorem ke_iN : KE iN := ⟨fun _ => rfl, fun _ _ => rfl, fun j k => by
  unfold sameK
  show decide (some (PySem.NestedKey.num (j : Int)) = some (PySem.NestedKey.num (k : Int))) = _
  rw [Bool.eq_iff_iff]
  simp
  omega⟩
theorem ke_int : KE D.int := ⟨fun _ => rfl, fun _ _ => rfl, fun j k => by
  unfold sameK
  show decide (some (PySem.NestedKey.num j) = some (PySem.NestedKey.num k)) = _
  rw [Bool.eq_iff_iff]
  simp⟩
theorem ke_word : KE (fun a : List Int => wD a) := ⟨kOk_word, fun _ _ => rfl, sameK_word⟩
end Tw

set_option Elab.async false
set_option linter.all false
set_option maxRecDepth 100000
namespace K70
open PySem PySem.Spec PyProof.Rows L2 Tw Tw.Lib
def top (i : Nat) : Stmt := PySem.Challenge.pw_turnwords_k70_whole_rings_with_all_words.main.body.getD i (.Pass ⟨0, 0, 0, 0⟩)
def cs : List (Str × Gv) := [("sorted", .free), ("range", .free), ("max", .free), ("len", .free), ("all", .free), ("enumerate", .free), ("int", .free), ("min", .free), ("isinstance", .free), ("bool", .free), ("str", .free), ("tuple", .free), ("list", .free)]
def gl : List (Str × Gv) := ([("turns_of", .fn 1), ("least_turn", .fn 1), ("is_lyndon", .fn 1), ("lyndon_factors", .fn 1), ("rings_of", .fn 2), ("ring_of_all", .fn 2), ("lyndon_words", .fn 2), ("stands_in_ring", .fn 2), ("_law_cell", .fn 2), ("_law_numbers", .fn 2), ("_law_pool", .fn 1), ("_law_draw", .fn 2), ("_law_kind", .fn 1), ("_law_equal", .fn 2), ("_law_int", .fn 3), ("_law_word", .fn 3), ("_law_words", .fn 2), ("_law_of_length", .fn 2), ("_law_power", .fn 2), ("_law_places", .fn 2), ("_law_greedy", .fn 2), ("law", .fn 1)] : List (Str × Gv)) ++ cs
noncomputable def d_turns_of : Df := ⟨"turns_of", defArgs (top 1), ["word"], ["word", "size"], defScope (top 1), defBody (top 1), F_turns_of⟩
theorem fit_turns_of : mapS (stC (comp fuel) ⟨["word", "size"], (defScope (top 1)).names, gl⟩ [] fuel) (defBody (top 1)) = some c_turns_of := by kernel_rfl
theorem ok_turns_of : DfOk d_turns_of gl := ⟨⟨_, c_turns_of, fit_turns_of, rfl⟩, by decide +kernel, by decide +kernel, ⟨rfl, rfl, rfl, by decide +kernel, rfl, by decide +kernel, by decide +kernel⟩⟩
noncomputable def d_least_turn : Df := ⟨"least_turn", defArgs (top 3), ["word"], ["word"], defScope (top 3), defBody (top 3), F_least_turn⟩
theorem fit_least_turn : mapS (stC (comp fuel) ⟨["word"], (defScope (top 3)).names, gl⟩ [] fuel) (defBody (top 3)) = some c_least_turn := by kernel_rfl
theorem ok_least_turn : DfOk d_least_turn gl := ⟨⟨_, c_least_turn, fit_least_turn, rfl⟩, by decide +kernel, by decide +kernel, ⟨rfl, rfl, rfl, by decide +kernel, rfl, by decide +kernel, by decide +kernel⟩⟩
noncomputable def d_is_lyndon : Df := ⟨"is_lyndon", defArgs (top 4), ["word"], ["word", "size"], defScope (top 4), defBody (top 4), F_is_lyndon⟩
theorem fit_is_lyndon : mapS (stC (comp fuel) ⟨["word", "size"], (defScope (top 4)).names, gl⟩ [] fuel) (defBody (top 4)) = some c_is_lyndon := by kernel_rfl
theorem ok_is_lyndon : DfOk d_is_lyndon gl := ⟨⟨_, c_is_lyndon, fit_is_lyndon, rfl⟩, by decide +kernel, by decide +kernel, ⟨rfl, rfl, rfl, by decide +kernel, rfl, by decide +kernel, by decide +kernel⟩⟩
noncomputable def d_lyndon_factors : Df := ⟨"lyndon_factors", defArgs (top 5), ["word"], ["word", "found", "at", "size", "ahead"], defScope (top 5), defBody (top 5), F_lyndon_factors⟩
theorem fit_lyndon_factors : mapS (stC (comp fuel) ⟨["word", "found", "at", "size", "ahead"], (defScope (top 5)).names, gl⟩ [] fuel) (defBody (top 5)) = some c_lyndon_factors := by kernel_rfl
theorem ok_lyndon_factors : DfOk d_lyndon_factors gl := ⟨⟨_, c_lyndon_factors, fit_lyndon_factors, rfl⟩, by decide +kernel, by decide +kernel, ⟨rfl, rfl, rfl, by decide +kernel, rfl, by decide +kernel, by decide +kernel⟩⟩
noncomputable def d_rings_of : Df := ⟨"rings_of", defArgs (top 6), ["letters", "length"], ["letters", "length", "found", "_", "word", "letter"], defScope (top 6), defBody (top 6), F_rings_of⟩
theorem fit_rings_of : mapS (stC (comp fuel) ⟨["letters", "length", "found", "_", "word", "letter"], (defScope (top 6)).names, gl⟩ ["found"] fuel) (defBody (top 6)) = some c_rings_of := by kernel_rfl
theorem ok_rings_of : DfOk d_rings_of gl := ⟨⟨_, c_rings_of, fit_rings_of, rfl⟩, by decide +kernel, by decide +kernel, ⟨rfl, rfl, rfl, by decide +kernel, rfl, by decide +kernel, by decide +kernel⟩⟩
noncomputable def b_ring_of_all_0 : Sm Fl := blk [iteS (cmp .Eq true (bin .Mod true (vP 1) (vP 3)) (ret (.int 0))) (blk [expS (extend 2 [] (call "lyndon_words" [.inl 0, .inl 3]))]) (blk [])]
noncomputable def b_ring_of_all_1 : Sm Fl := blk [asg 4 (bin .Add true (vP 4) (vP 5))]
noncomputable def c_ring_of_all : List (Sm Fl) := [asg 2 (lstE []),
    forS (.nm 3) (itR2 (ret (.int 1)) (bin .Add true (vP 1) (ret (.int 1)))) b_ring_of_all_0,
    asg 4 (tupE []),
    forS (.nm 5) (itS (itE (srt (vP 2)))) b_ring_of_all_1,
    rtS (vR 4)]
noncomputable def F_ring_of_all : Fn := ⟨2, 6, blk c_ring_of_all⟩
noncomputable def d_ring_of_all : Df := ⟨"ring_of_all", defArgs (top 7), ["letters", "length"], ["letters", "length", "rows", "size", "found", "word"], defScope (top 7), defBody (top 7), F_ring_of_all⟩
theorem fit_ring_of_all : mapS (stC (comp fuel) ⟨["letters", "length", "rows", "size", "found", "word"], (defScope (top 7)).names, gl⟩ [] fuel) (defBody (top 7)) = some c_ring_of_all := by kernel_rfl
theorem ok_ring_of_all : DfOk d_ring_of_all gl := ⟨⟨_, c_ring_of_all, fit_ring_of_all, rfl⟩, by decide +kernel, by decide +kernel, ⟨rfl, rfl, rfl, by decide +kernel, rfl, by decide +kernel, by decide +kernel⟩⟩
noncomputable def d_lyndon_words : Df := ⟨"lyndon_words", defArgs (top 8), ["letters", "length"], ["letters", "length", "word"], defScope (top 8), defBody (top 8), F_lyndon_words⟩
theorem fit_lyndon_words : mapS (stC (comp fuel) ⟨["letters", "length", "word"], (defScope (top 8)).names, gl⟩ [] fuel) (defBody (top 8)) = some c_lyndon_words := by kernel_rfl
theorem ok_lyndon_words : DfOk d_lyndon_words gl := ⟨⟨_, c_lyndon_words, fit_lyndon_words, rfl⟩, by decide +kernel, by decide +kernel, ⟨rfl, rfl, rfl, by decide +kernel, rfl, by decide +kernel, by decide +kernel⟩⟩
noncomputable def v_stands_in_ring_0 : Sm D := blE (cmp .Eq true (idxP true (vP 0) (bin .Mod true (bin .Add true (vP 3) (vP 4)) (vP 2))) (vP 5))
noncomputable def v_stands_in_ring_1 : Sm D := vE 3
noncomputable def c_stands_in_ring : List (Sm Fl) := [asg 2 (blt1 .len (vP 0)),
    rtS (lc [3] (.nm 3) (itR1 (vP 2)) [truB (blt1 .all (frE (lc [4, 5] (.tp [.nm 4, .nm 5]) (itN (itV 1)) [] v_stands_in_ring_0)))] v_stands_in_ring_1)]
noncomputable def F_stands_in_ring : Fn := ⟨2, 6, blk c_stands_in_ring⟩
noncomputable def d_stands_in_ring : Df := ⟨"stands_in_ring", defArgs (top 9), ["ring", "word"], ["ring", "word", "size", "at", "k", "letter"], defScope (top 9), defBody (top 9), F_stands_in_ring⟩
theorem fit_stands_in_ring : mapS (stC (comp fuel) ⟨["ring", "word", "size", "at", "k", "letter"], (defScope (top 9)).names, gl⟩ [] fuel) (defBody (top 9)) = some c_stands_in_ring := by kernel_rfl
theorem ok_stands_in_ring : DfOk d_stands_in_ring gl := ⟨⟨_, c_stands_in_ring, fit_stands_in_ring, rfl⟩, by decide +kernel, by decide +kernel, ⟨rfl, rfl, rfl, by decide +kernel, rfl, by decide +kernel, by decide +kernel⟩⟩
noncomputable def d__law_cell : Df := ⟨"_law_cell", defArgs (top 11), ["script", "k"], ["script", "k"], defScope (top 11), defBody (top 11), F__law_cell⟩
theorem fit__law_cell : mapS (stC (comp fuel) ⟨["script", "k"], (defScope (top 11)).names, gl⟩ [] fuel) (defBody (top 11)) = some c__law_cell := by kernel_rfl
theorem ok__law_cell : DfOk d__law_cell gl := ⟨⟨_, c__law_cell, fit__law_cell, rfl⟩, by decide +kernel, by decide +kernel, ⟨rfl, rfl, rfl, by decide +kernel, rfl, by decide +kernel, by decide +kernel⟩⟩
noncomputable def d__law_numbers : Df := ⟨"_law_numbers", defArgs (top 12), ["cell", "many"], ["cell", "many", "rows", "left", "k", "mixed"], defScope (top 12), defBody (top 12), F__law_numbers⟩
theorem fit__law_numbers : mapS (stC (comp fuel) ⟨["cell", "many", "rows", "left", "k", "mixed"], (defScope (top 12)).names, gl⟩ [] fuel) (defBody (top 12)) = some c__law_numbers := by kernel_rfl
theorem ok__law_numbers : DfOk d__law_numbers gl := ⟨⟨_, c__law_numbers, fit__law_numbers, rfl⟩, by decide +kernel, by decide +kernel, ⟨rfl, rfl, rfl, by decide +kernel, rfl, by decide +kernel, by decide +kernel⟩⟩
noncomputable def d__law_pool : Df := ⟨"_law_pool", defArgs (top 13), ["script"], ["script", "rows", "k"], defScope (top 13), defBody (top 13), F__law_pool⟩
theorem fit__law_pool : mapS (stC (comp fuel) ⟨["script", "rows", "k"], (defScope (top 13)).names, gl⟩ [] fuel) (defBody (top 13)) = some c__law_pool := by kernel_rfl
theorem ok__law_pool : DfOk d__law_pool gl := ⟨⟨_, c__law_pool, fit__law_pool, rfl⟩, by decide +kernel, by decide +kernel, ⟨rfl, rfl, rfl, by decide +kernel, rfl, by decide +kernel, by decide +kernel⟩⟩
noncomputable def d__law_draw : Df := ⟨"_law_draw", defArgs (top 14), ["pool", "many"], ["pool", "many", "at", "turn"], defScope (top 14), defBody (top 14), F__law_draw⟩
theorem fit__law_draw : mapS (stC (comp fuel) ⟨["pool", "many", "at", "turn"], (defScope (top 14)).names, gl⟩ [] fuel) (defBody (top 14)) = some c__law_draw := by kernel_rfl
theorem ok__law_draw : DfOk d__law_draw gl := ⟨⟨_, c__law_draw, fit__law_draw, rfl⟩, by decide +kernel, by decide +kernel, ⟨rfl, rfl, rfl, by decide +kernel, rfl, by decide +kernel, by decide +kernel⟩⟩
noncomputable def d__law_kind : Df := ⟨"_law_kind", defArgs (top 15), ["x"], ["x"], defScope (top 15), defBody (top 15), F__law_kind⟩
theorem fit__law_kind : mapS (stC (comp fuel) ⟨["x"], (defScope (top 15)).names, gl⟩ [] fuel) (defBody (top 15)) = some c__law_kind := by kernel_rfl
theorem ok__law_kind : DfOk d__law_kind gl := ⟨⟨_, c__law_kind, fit__law_kind, rfl⟩, by decide +kernel, by decide +kernel, ⟨rfl, rfl, rfl, by decide +kernel, rfl, by decide +kernel, by decide +kernel⟩⟩
noncomputable def d__law_equal : Df := ⟨"_law_equal", defArgs (top 16), ["x", "due"], ["x", "due", "k"], defScope (top 16), defBody (top 16), F__law_equal⟩
theorem fit__law_equal : mapS (stC (comp fuel) ⟨["x", "due", "k"], (defScope (top 16)).names, gl⟩ [] fuel) (defBody (top 16)) = some c__law_equal := by kernel_rfl
theorem ok__law_equal : DfOk d__law_equal gl := ⟨⟨_, c__law_equal, fit__law_equal, rfl⟩, by decide +kernel, by decide +kernel, ⟨rfl, rfl, rfl, by decide +kernel, rfl, by decide +kernel, by decide +kernel⟩⟩
noncomputable def d__law_int : Df := ⟨"_law_int", defArgs (top 17), ["x", "low", "high"], ["x", "low", "high"], defScope (top 17), defBody (top 17), F__law_int⟩
theorem fit__law_int : mapS (stC (comp fuel) ⟨["x", "low", "high"], (defScope (top 17)).names, gl⟩ [] fuel) (defBody (top 17)) = some c__law_int := by kernel_rfl
theorem ok__law_int : DfOk d__law_int gl := ⟨⟨_, c__law_int, fit__law_int, rfl⟩, by decide +kernel, by decide +kernel, ⟨rfl, rfl, rfl, by decide +kernel, rfl, by decide +kernel, by decide +kernel⟩⟩
noncomputable def d__law_word : Df := ⟨"_law_word", defArgs (top 18), ["pool", "letters", "most"], ["pool", "letters", "most", "k"], defScope (top 18), defBody (top 18), F__law_word⟩
theorem fit__law_word : mapS (stC (comp fuel) ⟨["pool", "letters", "most", "k"], (defScope (top 18)).names, gl⟩ [] fuel) (defBody (top 18)) = some c__law_word := by kernel_rfl
theorem ok__law_word : DfOk d__law_word gl := ⟨⟨_, c__law_word, fit__law_word, rfl⟩, by decide +kernel, by decide +kernel, ⟨rfl, rfl, rfl, by decide +kernel, rfl, by decide +kernel, by decide +kernel⟩⟩
noncomputable def d__law_words : Df := ⟨"_law_words", defArgs (top 19), ["letters", "length"], ["letters", "length", "found", "front", "k", "further", "word", "letter"], defScope (top 19), defBody (top 19), F__law_words⟩
theorem fit__law_words : mapS (stC (comp fuel) ⟨["letters", "length", "found", "front", "k", "further", "word", "letter"], (defScope (top 19)).names, gl⟩ [] fuel) (defBody (top 19)) = some c__law_words := by kernel_rfl
theorem ok__law_words : DfOk d__law_words gl := ⟨⟨_, c__law_words, fit__law_words, rfl⟩, by decide +kernel, by decide +kernel, ⟨rfl, rfl, rfl, by decide +kernel, rfl, by decide +kernel, by decide +kernel⟩⟩
noncomputable def d__law_of_length : Df := ⟨"_law_of_length", defArgs (top 20), ["letters", "length"], ["letters", "length", "word"], defScope (top 20), defBody (top 20), F__law_of_length⟩
theorem fit__law_of_length : mapS (stC (comp fuel) ⟨["letters", "length", "word"], (defScope (top 20)).names, gl⟩ [] fuel) (defBody (top 20)) = some c__law_of_length := by kernel_rfl
theorem ok__law_of_length : DfOk d__law_of_length gl := ⟨⟨_, c__law_of_length, fit__law_of_length, rfl⟩, by decide +kernel, by decide +kernel, ⟨rfl, rfl, rfl, by decide +kernel, rfl, by decide +kernel, by decide +kernel⟩⟩
noncomputable def d__law_power : Df := ⟨"_law_power", defArgs (top 21), ["base", "times"], ["base", "times", "found", "k"], defScope (top 21), defBody (top 21), F__law_power⟩
theorem fit__law_power : mapS (stC (comp fuel) ⟨["base", "times", "found", "k"], (defScope (top 21)).names, gl⟩ [] fuel) (defBody (top 21)) = some c__law_power := by kernel_rfl
theorem ok__law_power : DfOk d__law_power gl := ⟨⟨_, c__law_power, fit__law_power, rfl⟩, by decide +kernel, by decide +kernel, ⟨rfl, rfl, rfl, by decide +kernel, rfl, by decide +kernel, by decide +kernel⟩⟩
noncomputable def v__law_places_0 : Sm D := vE 4
noncomputable def b__law_places_1 : Sm Fl := blk [iteS (cmp .Eq true (blt1 .len (frE (lc [4] (.nm 4) (itR1 (blt1 .len (vP 1))) [cmp .NotEq true (idxP true (vP 0) (bin .Mod true (blt1 .int (bin .Add true (vP 3) (vP 4))) (blt1 .len (vP 0)))) (idxP true (vP 1) (vP 4))] v__law_places_0))) (ret (.int 0))) (blk [expS (append 2 [] (vE 3))]) (blk [])]
noncomputable def c__law_places : List (Sm Fl) := [asg 2 (lstE []),
    forS (.nm 3) (itR1 (blt1 .len (vP 0))) b__law_places_1,
    rtS (vR 2)]
noncomputable def F__law_places : Fn := ⟨2, 5, blk c__law_places⟩
noncomputable def d__law_places : Df := ⟨"_law_places", defArgs (top 22), ["ring", "word"], ["ring", "word", "found", "at", "k"], defScope (top 22), defBody (top 22), F__law_places⟩
theorem fit__law_places : mapS (stC (comp fuel) ⟨["ring", "word", "found", "at", "k"], (defScope (top 22)).names, gl⟩ [] fuel) (defBody (top 22)) = some c__law_places := by kernel_rfl
theorem ok__law_places : DfOk d__law_places gl := ⟨⟨_, c__law_places, fit__law_places, rfl⟩, by decide +kernel, by decide +kernel, ⟨rfl, rfl, rfl, by decide +kernel, rfl, by decide +kernel, by decide +kernel⟩⟩
noncomputable def v__law_greedy_0 : Sm D := vE 7
noncomputable def b__law_greedy_1 : Sm Fl := blk [fzS 6 (asg 6 (lc [7] (.nm 7) (itR1 (vP 0)) [cmp .NotIn true (slc true (bin .Add true (vP 2) (tupE [vE 7])) (some (ret (.int 1))) none) (vP 3)] v__law_greedy_0)),
    iteS (cmp .Gt true (blt1 .len (vP 6)) (ret (.int 0))) (blk [asg 2 (slc true (bin .Add true (vP 2) (tupE [idx true (vP 6) (ret (.int 0))])) (some (ret (.int 1))) none),
    expS (append 3 [] (vE 2)),
    asg 4 (bin .Add true (vP 4) (tupE [idx true (vP 6) (ret (.int 0))]))]) (blk [])]
noncomputable def c__law_greedy : List (Sm Fl) := [asg 2 (bin .Mult true (tupE [bin .Sub true (vP 0) (ret (.int 1))]) (vP 1)),
    asg 3 (lstE [vE 2]),
    asg 4 (tupE []),
    forS (.nm 5) (itR1 (call "_law_power" [.inl 0, .inl 1])) b__law_greedy_1,
    rtS (bin .Add true (vP 4) (tupE [bin .Sub true (vP 0) (ret (.int 1))]))]
noncomputable def F__law_greedy : Fn := ⟨2, 8, blk c__law_greedy⟩
noncomputable def d__law_greedy : Df := ⟨"_law_greedy", defArgs (top 23), ["letters", "length"], ["letters", "length", "ring", "seen", "out", "k", "free", "letter"], defScope (top 23), defBody (top 23), F__law_greedy⟩
theorem fit__law_greedy : mapS (stC (comp fuel) ⟨["letters", "length", "ring", "seen", "out", "k", "free", "letter"], (defScope (top 23)).names, gl⟩ ["free"] fuel) (defBody (top 23)) = some c__law_greedy := by kernel_rfl
theorem ok__law_greedy : DfOk d__law_greedy gl := ⟨⟨_, c__law_greedy, fit__law_greedy, rfl⟩, by decide +kernel, by decide +kernel, ⟨rfl, rfl, rfl, by decide +kernel, rfl, by decide +kernel, by decide +kernel⟩⟩
noncomputable def v_law_0 : Sm D := ret (.int 1)
noncomputable def b_law_1 : Sm Fl := blk [iteS (orB (notB (truB (call "_law_equal" [.inr (call "stands_in_ring" [.inl 4, .inl 5]), .inr (call "_law_places" [.inl 4, .inl 5])]))) (cmp .NotEq true (blt1 .len (call "_law_places" [.inl 4, .inl 5])) (ret (.int 1)))) (blk [rtS (ret (.bl false))]) (blk [])]
noncomputable def v_law_2 : Sm D := vE 9
noncomputable def c_law : List (Sm Fl) := [asg 1 (call "_law_pool" [.inl 0]),
    asg 2 (binH .Add (ret (.int 1)) (call "_law_draw" [.inl 1, .inr (ret (.int 3))])),
    asg 3 (binH .Add (ret (.int 1)) (call "_law_draw" [.inl 1, .inr (idx true (frE (lstE [ret (.int 5), ret (.int 5), ret (.int 3)])) (bin .Sub true (vP 2) (ret (.int 1))))])),
    asg 4 (call "ring_of_all" [.inl 2, .inl 3]),
    iteS (orB (cmpH .NotEq (blt1 .len (vP 4)) (call "_law_power" [.inl 2, .inl 3])) (cmp .Gt true (blt1 .len (frE (lc [8] (.nm 8) (itS (itV 4)) [notB (truB (call "_law_int" [.inl 8, .inr (ret (.int 0)), .inr (bin .Sub true (vP 2) (ret (.int 1)))]))] v_law_0))) (ret (.int 0)))) (blk [rtS (ret (.bl false))]) (blk []),
    forS (.nm 5) (itS (itE (call "_law_of_length" [.inl 2, .inl 3]))) b_law_1,
    iteS (notB (truB (call "_law_equal" [.inl 4, .inr (call "_law_greedy" [.inl 2, .inl 3])]))) (blk [rtS (ret (.bl false))]) (blk []),
    asg 6 (bin .Add true (call "_law_word" [.inl 1, .inl 2, .inr (ret (.int 7))]) (tupE [ret (.int 0)])),
    asg 5 (call "_law_word" [.inl 1, .inl 2, .inr (ret (.int 9))]),
    iteS (notB (truB (call "_law_equal" [.inr (call "stands_in_ring" [.inl 6, .inl 5]), .inr (call "_law_places" [.inl 6, .inl 5])]))) (blk [rtS (ret (.bl false))]) (blk []),
    fzS 7 (asg 7 (call "lyndon_factors" [.inr (bin .Add true (vP 4) (slc true (vP 4) none (some (ret (.int 0)))))])),
    rtS (blE (cmp .Eq true (blt1 .len (frE (lc [9] (.nm 9) (itS (itV 7)) [notB (isB true (call "is_lyndon" [.inl 9]))] v_law_2))) (ret (.int 0))))]
noncomputable def F_law : Fn := ⟨1, 10, blk c_law⟩
noncomputable def d_law : Df := ⟨"law", defArgs (top 24), ["script"], ["script", "pool", "letters", "length", "ring", "word", "other", "factors", "letter", "own"], defScope (top 24), defBody (top 24), F_law⟩
theorem fit_law : mapS (stC (comp fuel) ⟨["script", "pool", "letters", "length", "ring", "word", "other", "factors", "letter", "own"], (defScope (top 24)).names, gl⟩ ["factors"] fuel) (defBody (top 24)) = some c_law := by kernel_rfl
theorem ok_law : DfOk d_law gl := ⟨⟨_, c_law, fit_law, rfl⟩, by decide +kernel, by decide +kernel, ⟨rfl, rfl, rfl, by decide +kernel, rfl, by decide +kernel, by decide +kernel⟩⟩
noncomputable def tab : List Df := [d_turns_of, d_least_turn, d_is_lyndon, d_lyndon_factors, d_rings_of, d_ring_of_all, d_lyndon_words, d_stands_in_ring, d__law_cell, d__law_numbers, d__law_pool, d__law_draw, d__law_kind, d__law_equal, d__law_int, d__law_word, d__law_words, d__law_of_length, d__law_power, d__law_places, d__law_greedy, d_law]
noncomputable abbrev Φ := phi tab
theorem tab_nd : (tab.map (·.name)).Nodup := by decide +kernel
theorem gl_eq : gOf tab cs = gl := by rfl
theorem phi_turns_of : Φ "turns_of" = some F_turns_of := phi_mem (d := d_turns_of) tab_nd (by simp [tab])
theorem phi_least_turn : Φ "least_turn" = some F_least_turn := phi_mem (d := d_least_turn) tab_nd (by simp [tab])
theorem phi_is_lyndon : Φ "is_lyndon" = some F_is_lyndon := phi_mem (d := d_is_lyndon) tab_nd (by simp [tab])
theorem phi_lyndon_factors : Φ "lyndon_factors" = some F_lyndon_factors := phi_mem (d := d_lyndon_factors) tab_nd (by simp [tab])
theorem phi_rings_of : Φ "rings_of" = some F_rings_of := phi_mem (d := d_rings_of) tab_nd (by simp [tab])
theorem phi_ring_of_all : Φ "ring_of_all" = some F_ring_of_all := phi_mem (d := d_ring_of_all) tab_nd (by simp [tab])
theorem phi_lyndon_words : Φ "lyndon_words" = some F_lyndon_words := phi_mem (d := d_lyndon_words) tab_nd (by simp [tab])
theorem phi_stands_in_ring : Φ "stands_in_ring" = some F_stands_in_ring := phi_mem (d := d_stands_in_ring) tab_nd (by simp [tab])
theorem phi__law_cell : Φ "_law_cell" = some F__law_cell := phi_mem (d := d__law_cell) tab_nd (by simp [tab])
theorem phi__law_numbers : Φ "_law_numbers" = some F__law_numbers := phi_mem (d := d__law_numbers) tab_nd (by simp [tab])
theorem phi__law_pool : Φ "_law_pool" = some F__law_pool := phi_mem (d := d__law_pool) tab_nd (by simp [tab])
theorem phi__law_draw : Φ "_law_draw" = some F__law_draw := phi_mem (d := d__law_draw) tab_nd (by simp [tab])
theorem phi__law_kind : Φ "_law_kind" = some F__law_kind := phi_mem (d := d__law_kind) tab_nd (by simp [tab])
theorem phi__law_equal : Φ "_law_equal" = some F__law_equal := phi_mem (d := d__law_equal) tab_nd (by simp [tab])
theorem phi__law_int : Φ "_law_int" = some F__law_int := phi_mem (d := d__law_int) tab_nd (by simp [tab])
theorem phi__law_word : Φ "_law_word" = some F__law_word := phi_mem (d := d__law_word) tab_nd (by simp [tab])
theorem phi__law_words : Φ "_law_words" = some F__law_words := phi_mem (d := d__law_words) tab_nd (by simp [tab])
theorem phi__law_of_length : Φ "_law_of_length" = some F__law_of_length := phi_mem (d := d__law_of_length) tab_nd (by simp [tab])
theorem phi__law_power : Φ "_law_power" = some F__law_power := phi_mem (d := d__law_power) tab_nd (by simp [tab])
theorem phi__law_places : Φ "_law_places" = some F__law_places := phi_mem (d := d__law_places) tab_nd (by simp [tab])
theorem phi__law_greedy : Φ "_law_greedy" = some F__law_greedy := phi_mem (d := d__law_greedy) tab_nd (by simp [tab])
theorem phi_law : Φ "law" = some F_law := phi_mem (d := d_law) tab_nd (by simp [tab])
/-! ### the head -/
def dd_turns_of : He.DefD := ⟨("turns_of", none), "turns_of", "turns_of", defArgs (top 1), defBody (top 1), defScope (top 1), [], []⟩
def dd_least_turn : He.DefD := ⟨("least_turn", none), "least_turn", "least_turn", defArgs (top 3), defBody (top 3), defScope (top 3), [], []⟩
def dd_is_lyndon : He.DefD := ⟨("is_lyndon", none), "is_lyndon", "is_lyndon", defArgs (top 4), defBody (top 4), defScope (top 4), [], []⟩
def dd_lyndon_factors : He.DefD := ⟨("lyndon_factors", none), "lyndon_factors", "lyndon_factors", defArgs (top 5), defBody (top 5), defScope (top 5), [], []⟩
def dd_rings_of : He.DefD := ⟨("rings_of", none), "rings_of", "rings_of", defArgs (top 6), defBody (top 6), defScope (top 6), [], []⟩
def dd_ring_of_all : He.DefD := ⟨("ring_of_all", none), "ring_of_all", "ring_of_all", defArgs (top 7), defBody (top 7), defScope (top 7), [], []⟩
def dd_lyndon_words : He.DefD := ⟨("lyndon_words", none), "lyndon_words", "lyndon_words", defArgs (top 8), defBody (top 8), defScope (top 8), [], []⟩
def dd_stands_in_ring : He.DefD := ⟨("stands_in_ring", none), "stands_in_ring", "stands_in_ring", defArgs (top 9), defBody (top 9), defScope (top 9), [], []⟩
def dd__law_cell : He.DefD := ⟨("_law_cell", none), "_law_cell", "_law_cell", defArgs (top 11), defBody (top 11), defScope (top 11), [], []⟩
def dd__law_numbers : He.DefD := ⟨("_law_numbers", none), "_law_numbers", "_law_numbers", defArgs (top 12), defBody (top 12), defScope (top 12), [], []⟩
def dd__law_pool : He.DefD := ⟨("_law_pool", none), "_law_pool", "_law_pool", defArgs (top 13), defBody (top 13), defScope (top 13), [], []⟩
def dd__law_draw : He.DefD := ⟨("_law_draw", none), "_law_draw", "_law_draw", defArgs (top 14), defBody (top 14), defScope (top 14), [], []⟩
def dd__law_kind : He.DefD := ⟨("_law_kind", none), "_law_kind", "_law_kind", defArgs (top 15), defBody (top 15), defScope (top 15), [], []⟩
def dd__law_equal : He.DefD := ⟨("_law_equal", none), "_law_equal", "_law_equal", defArgs (top 16), defBody (top 16), defScope (top 16), [], []⟩
def dd__law_int : He.DefD := ⟨("_law_int", none), "_law_int", "_law_int", defArgs (top 17), defBody (top 17), defScope (top 17), [], []⟩
def dd__law_word : He.DefD := ⟨("_law_word", none), "_law_word", "_law_word", defArgs (top 18), defBody (top 18), defScope (top 18), [], []⟩
def dd__law_words : He.DefD := ⟨("_law_words", none), "_law_words", "_law_words", defArgs (top 19), defBody (top 19), defScope (top 19), [], []⟩
def dd__law_of_length : He.DefD := ⟨("_law_of_length", none), "_law_of_length", "_law_of_length", defArgs (top 20), defBody (top 20), defScope (top 20), [], []⟩
def dd__law_power : He.DefD := ⟨("_law_power", none), "_law_power", "_law_power", defArgs (top 21), defBody (top 21), defScope (top 21), [], []⟩
def dd__law_places : He.DefD := ⟨("_law_places", none), "_law_places", "_law_places", defArgs (top 22), defBody (top 22), defScope (top 22), [], []⟩
def dd__law_greedy : He.DefD := ⟨("_law_greedy", none), "_law_greedy", "_law_greedy", defArgs (top 23), defBody (top 23), defScope (top 23), [], []⟩
def dd_law : He.DefD := ⟨("law", none), "law", "law", defArgs (top 24), defBody (top 24), defScope (top 24), [], []⟩
def fn : List He.DefD := [dd_turns_of, dd_least_turn, dd_is_lyndon, dd_lyndon_factors, dd_rings_of, dd_ring_of_all, dd_lyndon_words, dd_stands_in_ring, dd__law_cell, dd__law_numbers, dd__law_pool, dd__law_draw, dd__law_kind, dd__law_equal, dd__law_int, dd__law_word, dd__law_words, dd__law_of_length, dd__law_power, dd__law_places, dd__law_greedy, dd_law]
def fa : List He.Fa := [.glo "turns_of", .glo "least_turn", .glo "is_lyndon", .glo "lyndon_factors", .glo "rings_of", .glo "ring_of_all", .glo "lyndon_words", .glo "stands_in_ring", .glo "_law_cell", .glo "_law_numbers", .glo "_law_pool", .glo "_law_draw", .glo "_law_kind", .glo "_law_equal", .glo "_law_int", .glo "_law_word", .glo "_law_words", .glo "_law_of_length", .glo "_law_power", .glo "_law_places", .glo "_law_greedy", .glo "law", .free "sorted", .free "range", .free "max", .free "len", .free "all", .free "enumerate", .free "int", .free "min", .free "isinstance", .free "bool", .free "str", .free "tuple", .free "list"]
abbrev Rw : PySem.W.OpenRow := PySem.W.OpenLaw.row PySem.Challenge.rw_turnwords_k70_whole_rings_with_all_words
abbrev hk : PySem.W.Hook := He.hookD 4 fa fn
def ob (s : PySem.W.SharedT) : He.AlD := He.obsDG 4 fa fn (HandSHeadRun.getT s)
theorem ob_eq (s : PySem.W.SharedT) : ob s = hk.obs s.abs := He.obsDG_eq (HandSHeadRun.getT_eq s)
def loose : List Str := (["turns_of", "least_turn", "is_lyndon", "lyndon_factors", "rings_of", "ring_of_all", "lyndon_words", "stands_in_ring", "_law_cell", "_law_numbers", "_law_pool", "_law_draw", "_law_kind", "_law_equal", "_law_int", "_law_word", "_law_words", "_law_of_length", "_law_power", "_law_places", "_law_greedy"] : List Str)
theorem run_eq (w : World) : HandSHeadRun.RunEq Rw (PySem.W.view Rw.prog [24]) hk ob 20000 loose w := by
  intro os
  kernel_rfl
theorem head_facts {K : PySem.W.Frag} {h : Heap} {mg : Str → Option Value} (X : K.In h) (G : h.Ns mainGlobals mg) (c : He.SaysD fa fn K) :
    (∀ d ∈ tab, ∃ f fd, FunD K d.name d.name d.params d.body d.scope [] [] f fd ∧ mg d.name = some (.ref f)) ∧ (∀ p ∈ cs, CstOk mg p.1 p.2) := by
  refine ⟨?_, ?_⟩
  · intro d hd
    simp only [tab, List.mem_cons, List.not_mem_nil, or_false] at hd
    rcases hd with rfl | rfl | rfl | rfl | rfl | rfl | rfl | rfl | rfl | rfl | rfl | rfl | rfl | rfl | rfl | rfl | rfl | rfl | rfl | rfl | rfl | rfl
    · exact let ⟨fd, F⟩ := c.def_ 0 (d := dd_turns_of) rfl; ⟨_, fd, F, He.glo_ok X G (c.fact 0 (f := .glo "turns_of") rfl)⟩
    · exact let ⟨fd, F⟩ := c.def_ 1 (d := dd_least_turn) rfl; ⟨_, fd, F, He.glo_ok X G (c.fact 1 (f := .glo "least_turn") rfl)⟩
    · exact let ⟨fd, F⟩ := c.def_ 2 (d := dd_is_lyndon) rfl; ⟨_, fd, F, He.glo_ok X G (c.fact 2 (f := .glo "is_lyndon") rfl)⟩
    · exact let ⟨fd, F⟩ := c.def_ 3 (d := dd_lyndon_factors) rfl; ⟨_, fd, F, He.glo_ok X G (c.fact 3 (f := .glo "lyndon_factors") rfl)⟩
    · exact let ⟨fd, F⟩ := c.def_ 4 (d := dd_rings_of) rfl; ⟨_, fd, F, He.glo_ok X G (c.fact 4 (f := .glo "rings_of") rfl)⟩
    · exact let ⟨fd, F⟩ := c.def_ 5 (d := dd_ring_of_all) rfl; ⟨_, fd, F, He.glo_ok X G (c.fact 5 (f := .glo "ring_of_all") rfl)⟩
    · exact let ⟨fd, F⟩ := c.def_ 6 (d := dd_lyndon_words) rfl; ⟨_, fd, F, He.glo_ok X G (c.fact 6 (f := .glo "lyndon_words") rfl)⟩
    · exact let ⟨fd, F⟩ := c.def_ 7 (d := dd_stands_in_ring) rfl; ⟨_, fd, F, He.glo_ok X G (c.fact 7 (f := .glo "stands_in_ring") rfl)⟩
    · exact let ⟨fd, F⟩ := c.def_ 8 (d := dd__law_cell) rfl; ⟨_, fd, F, He.glo_ok X G (c.fact 8 (f := .glo "_law_cell") rfl)⟩
    · exact let ⟨fd, F⟩ := c.def_ 9 (d := dd__law_numbers) rfl; ⟨_, fd, F, He.glo_ok X G (c.fact 9 (f := .glo "_law_numbers") rfl)⟩
    · exact let ⟨fd, F⟩ := c.def_ 10 (d := dd__law_pool) rfl; ⟨_, fd, F, He.glo_ok X G (c.fact 10 (f := .glo "_law_pool") rfl)⟩
    · exact let ⟨fd, F⟩ := c.def_ 11 (d := dd__law_draw) rfl; ⟨_, fd, F, He.glo_ok X G (c.fact 11 (f := .glo "_law_draw") rfl)⟩
    · exact let ⟨fd, F⟩ := c.def_ 12 (d := dd__law_kind) rfl; ⟨_, fd, F, He.glo_ok X G (c.fact 12 (f := .glo "_law_kind") rfl)⟩
    · exact let ⟨fd, F⟩ := c.def_ 13 (d := dd__law_equal) rfl; ⟨_, fd, F, He.glo_ok X G (c.fact 13 (f := .glo "_law_equal") rfl)⟩
    · exact let ⟨fd, F⟩ := c.def_ 14 (d := dd__law_int) rfl; ⟨_, fd, F, He.glo_ok X G (c.fact 14 (f := .glo "_law_int") rfl)⟩
    · exact let ⟨fd, F⟩ := c.def_ 15 (d := dd__law_word) rfl; ⟨_, fd, F, He.glo_ok X G (c.fact 15 (f := .glo "_law_word") rfl)⟩
    · exact let ⟨fd, F⟩ := c.def_ 16 (d := dd__law_words) rfl; ⟨_, fd, F, He.glo_ok X G (c.fact 16 (f := .glo "_law_words") rfl)⟩
    · exact let ⟨fd, F⟩ := c.def_ 17 (d := dd__law_of_length) rfl; ⟨_, fd, F, He.glo_ok X G (c.fact 17 (f := .glo "_law_of_length") rfl)⟩
    · exact let ⟨fd, F⟩ := c.def_ 18 (d := dd__law_power) rfl; ⟨_, fd, F, He.glo_ok X G (c.fact 18 (f := .glo "_law_power") rfl)⟩
    · exact let ⟨fd, F⟩ := c.def_ 19 (d := dd__law_places) rfl; ⟨_, fd, F, He.glo_ok X G (c.fact 19 (f := .glo "_law_places") rfl)⟩
    · exact let ⟨fd, F⟩ := c.def_ 20 (d := dd__law_greedy) rfl; ⟨_, fd, F, He.glo_ok X G (c.fact 20 (f := .glo "_law_greedy") rfl)⟩
    · exact let ⟨fd, F⟩ := c.def_ 21 (d := dd_law) rfl; ⟨_, fd, F, He.glo_ok X G (c.fact 21 (f := .glo "law") rfl)⟩
  · intro p hp
    simp only [cs, List.mem_cons, List.not_mem_nil, or_false] at hp
    rcases hp with rfl | rfl | rfl | rfl | rfl | rfl | rfl | rfl | rfl | rfl | rfl | rfl | rfl
    · exact He.free_ok X G (c.fact 22 (f := .free "sorted") rfl)
    · exact He.free_ok X G (c.fact 23 (f := .free "range") rfl)
    · exact He.free_ok X G (c.fact 24 (f := .free "max") rfl)
    · exact He.free_ok X G (c.fact 25 (f := .free "len") rfl)
    · exact He.free_ok X G (c.fact 26 (f := .free "all") rfl)
    · exact He.free_ok X G (c.fact 27 (f := .free "enumerate") rfl)
    · exact He.free_ok X G (c.fact 28 (f := .free "int") rfl)
    · exact He.free_ok X G (c.fact 29 (f := .free "min") rfl)
    · exact He.free_ok X G (c.fact 30 (f := .free "isinstance") rfl)
    · exact He.free_ok X G (c.fact 31 (f := .free "bool") rfl)
    · exact He.free_ok X G (c.fact 32 (f := .free "str") rfl)
    · exact He.free_ok X G (c.fact 33 (f := .free "tuple") rfl)
    · exact He.free_ok X G (c.fact 34 (f := .free "list") rfl)
theorem oks : ∀ d ∈ tab, DfOk d (gOf tab cs) := by
  rw [gl_eq]
  intro d hd
  simp only [tab, List.mem_cons, List.not_mem_nil, or_false] at hd
  rcases hd with rfl | rfl | rfl | rfl | rfl | rfl | rfl | rfl | rfl | rfl | rfl | rfl | rfl | rfl | rfl | rfl | rfl | rfl | rfl | rfl | rfl | rfl
  · exact ok_turns_of
  · exact ok_least_turn
  · exact ok_is_lyndon
  · exact ok_lyndon_factors
  · exact ok_rings_of
  · exact ok_ring_of_all
  · exact ok_lyndon_words
  · exact ok_stands_in_ring
  · exact ok__law_cell
  · exact ok__law_numbers
  · exact ok__law_pool
  · exact ok__law_draw
  · exact ok__law_kind
  · exact ok__law_equal
  · exact ok__law_int
  · exact ok__law_word
  · exact ok__law_words
  · exact ok__law_of_length
  · exact ok__law_power
  · exact ok__law_places
  · exact ok__law_greedy
  · exact ok_law
end K70

set_option Elab.async false
set_option linter.all false
set_option maxRecDepth 100000
set_option maxHeartbeats 2000000
namespace K70
open Tw Tw.Lib
open PySem (Str)
def rowsI (l n : Nat) (m : Nat) : List (List Int) := (List.range' 1 m).flatMap fun s => if n % s = 0 then (ringsI l s).filter lynB else []
def ringI (l n : Nat) : List Int := (isW (rowsI l n n)).flatten
/-- where a word stands -/
def plI (r w : List Int) : List Nat := (List.range r.length).filter fun a => (List.range w.length).all fun k => decide (r[(a + k) % r.length]? = w[k]?)
def gStep (l : Nat) (s : List Int × List (List Int) × List Int) : List Int × List (List Int) × List Int := match (List.range l).find? fun c : Nat => decide (((s.1 ++ [(c : Int)]).drop 1) ∉ s.2.1) with
  | some c => ((s.1 ++ [(c : Int)]).drop 1, s.2.1 ++ [(s.1 ++ [(c : Int)]).drop 1], s.2.2 ++ [(c : Int)])
  | none => s
def gIter (l : Nat) : Nat → List Int × List (List Int) × List Int → List Int × List (List Int) × List Int
  | 0, s => s
  | i + 1, s => gStep l (gIter l i s)
def gInit (l n : Nat) : List Int × List (List Int) × List Int := (List.replicate n ((l : Int) - 1), [List.replicate n ((l : Int) - 1)], [])
def greedyI (l n : Nat) : List Int := (gIter l (l ^ n) (gInit l n)).2.2 ++ [(l : Int) - 1]
def okR (l n : Nat) : Bool := decide ((ringI l n).length = l ^ n) && ((ringI l n).all (fun x => decide (0 ≤ x) && decide (x ≤ (l : Int) - 1)) && ((front l n).all (fun w => decide ((plI (ringI l n) w).length = 1)) && (decide (ringI l n = greedyI l n) && (decide ((rowsI l n n).length ≤ 60) && decide ((rowsI l n n).Nodup)))))
theorem ok1 : (List.range' 1 5).all (okR 1) = true := by decide +kernel
theorem ok2 : (List.range' 1 5).all (okR 2) = true := by decide +kernel
theorem ok3 : (List.range' 1 3).all (okR 3) = true := by decide +kernel
theorem ok_all {l n : Nat} (h1 : 1 ≤ l) (h3 : l ≤ 3) (n1 : 1 ≤ n) (n5 : n ≤ 5) (h : l = 3 → n ≤ 3) : okR l n = true := by
  rcases (show l = 1 ∨ l = 2 ∨ l = 3 by omega) with rfl | rfl | rfl
  · exact List.all_eq_true.mp ok1 n (List.mem_range'_1.mpr ⟨n1, by omega⟩)
  · exact List.all_eq_true.mp ok2 n (List.mem_range'_1.mpr ⟨n1, by omega⟩)
  · exact List.all_eq_true.mp ok3 n (List.mem_range'_1.mpr ⟨n1, by have := h rfl; omega⟩)
end K70

set_option Elab.async false
set_option linter.all false
set_option maxRecDepth 100000
set_option maxHeartbeats 2000000
namespace K70
open Tw Tw.Lib
open PySem (Str)
theorem rowsI_succ (l n m : Nat) : rowsI l n (m + 1) = rowsI l n m ++ (if n % (m + 1) = 0 then (ringsI l (m + 1)).filter lynB else []) := by
  unfold rowsI
  rw [List.range'_concat, List.flatMap_append]
  simp [Nat.add_comm]
theorem rowsI_len {l n : Nat} (hl : l ≤ 3) : ∀ m, m ≤ 7 → (rowsI l n m).length ≤ 3000 * m
  | 0, _ => by simp [rowsI]
  | m + 1, h => by
    rw [rowsI_succ, List.length_append]
    have h1 := rowsI_len (n := n) hl m (by omega)
    have h2 : (if n % (m + 1) = 0 then (ringsI l (m + 1)).filter lynB else []).length ≤ 3000 := by
      split
      · have a1 := List.length_filter_le lynB (ringsI l (m + 1))
        have a2 : (ringsI l (m + 1)).length ≤ _ := List.length_filter_le _ _
        have a3 := front_le (m := m + 1) hl h
        omega
      · simp
    omega
theorem rowsI_mem {l n m : Nat} {w : List Int} (h : w ∈ rowsI l n m) : ∃ s, 1 ≤ s ∧ s ≤ m ∧ w ∈ front l s ∧ lynB w = true := by
  unfold rowsI at h
  obtain ⟨s, hs, hw⟩ := List.mem_flatMap.mp h
  have hs := List.mem_range'_1.mp hs
  split at hw
  · obtain ⟨h1, h2⟩ := List.mem_filter.mp hw
    exact ⟨s, hs.1, by omega, (List.mem_filter.mp h1).1, h2⟩
  · cases hw
theorem ring_of_all_run {k : Nat} (hk : 6 ≤ k) {l n : Nat} (h1 : 1 ≤ l) (h3 : l ≤ 3) (n1 : 1 ≤ n) (n5 : n ≤ 5) (hR : okR l n = true) : run Φ k "ring_of_all" [.int l, .int n] = .ok (wD (ringI l n)) [some (.int l), some (.int n)] := by
  obtain ⟨k, rfl⟩ : ∃ j, k = j + 1 := ⟨k - 1, by omega⟩
  refine run_sat (sat_run phi_ring_of_all rfl ?_)
  have r1 : rngOk 1 = true := rngOk_small (by omega) (by omega)
  have rn : rngOk ((n : Int) + 1) = true := rngOk_small (by omega) (by omega)
  simp [F_ring_of_all, c_ring_of_all, r1, rn]
  refine sat_bind (sat_forGo (fun i s => ∃ o : Option D, s = [some (.int l), some (.int n), some (.lst true ((rowsI l n i).map wD)), o, none, none]) ⟨none, rfl⟩ ?_ ?_)
  · rintro i x s hx ⟨o, rfl⟩
    obtain ⟨rfl, hi⟩ := rng_get hx
    refine ⟨rfl, ?_⟩
    have en : (1 : Int) + (i : Int) = ((i + 1 : Nat) : Int) := by omega
    rw [en, rowsI_succ]
    have e1 := lyndon_words_run phi_turns_of phi_least_turn phi_rings_of phi_is_lyndon phi_lyndon_words (k := k) (by omega) (l := l) (n := i + 1) h3 (by omega)
    have q : 0 < i + 1 := by omega
    have e2 : (n : Int) % ((i + 1 : Nat) : Int) = ((n % (i + 1) : Nat) : Int) := by omega
    obtain ⟨r, hr⟩ : ∃ r, n % (i + 1) = r := ⟨_, rfl⟩
    rw [hr] at e2
    have z : ((r : Int) = 0) = (r = 0) := by simp only [eq_iff_iff]; omega
    have hl1 := rowsI_len (n := n) h3 i (by omega)
    have a1 := List.length_filter_le lynB (ringsI l (i + 1))
    have a2 : (ringsI l (i + 1)).length ≤ _ := List.length_filter_le _ _
    have a3 := front_le (m := i + 1) h3 (by omega)
    have sz : szOk ((rowsI l n i).length + ((ringsI l (i + 1)).filter lynB).length) = true := szOk_small (by omega)
    rw [hr]
    by_cases q3 : r = 0
    · have mp : (rowsI l n i).map wD ++ ((ringsI l (i + 1)).filter lynB).map wD = (rowsI l n i ++ (ringsI l (i + 1)).filter lynB).map wD := by rw [List.map_append]
      simp [b_ring_of_all_0, e1, e2, q, z, q3, sz, -Int.natCast_add]
    · simp [b_ring_of_all_0, e1, e2, q, z, q3, -Int.natCast_add]
  · rintro s ⟨o, rfl⟩
    rw [rng_len, show ((n : Int) + 1 - 1).toNat = n by omega]
    unfold okR at hR
    simp only [Bool.and_eq_true, decide_eq_true_eq] at hR
    obtain ⟨g1, g2, g3, g4, g5, g6⟩ := hR
    have hos := okS_words (ws := rowsI l n n) (by omega) (.inr fun w hw e => by
      obtain ⟨s, s1, _, hf, _⟩ := rowsI_mem hw
      have := (mem_front.mp hf).1
      rw [e] at this; simp at this; omega)
    have hs : sortD (.lst true ((rowsI l n n).map wD)) = some (.lst true ((isW (rowsI l n n)).map wD)) := by
      show (if okS ((rowsI l n n).map wD) = true then some (D.lst true (srtL ((rowsI l n n).map wD))) else none) = _
      rw [if_pos hos, srtL_words, wSort_isW g6]
    have hil : (ringI l n).length ≤ 243 := by
      rw [g1]
      exact Nat.le_trans (Nat.pow_le_pow_left h3 n) (Nat.pow_le_pow_right (by omega) n5)
    simp [hs]
    refine sat_bind (sat_forGo (fun i s => ∃ o5 : Option D, s = [some (.int l), some (.int n), some (.lst true ((rowsI l n n).map wD)), o, some (wD ((isW (rowsI l n n)).take i).flatten), o5]) ⟨none, rfl⟩ ?_ ?_)
    · rintro i x s hx ⟨o5, rfl⟩
      obtain ⟨w, hw, rfl⟩ : ∃ w, (isW (rowsI l n n))[i]? = some w ∧ wD w = x := by simpa using hx
      refine ⟨by simp, ?_⟩
      have hst : ((isW (rowsI l n n)).take (i + 1)).flatten = ((isW (rowsI l n n)).take i).flatten ++ w := by rw [List.take_add_one, hw]; simp
      have e : (isW (rowsI l n n)).flatten.length = ((isW (rowsI l n n)).take (i + 1)).flatten.length + ((isW (rowsI l n n)).drop (i + 1)).flatten.length := by rw [← List.length_append, ← List.flatten_append, List.take_append_drop]
      have hil' : (isW (rowsI l n n)).flatten.length ≤ 243 := hil
      rw [hst, List.length_append] at e
      have sz : szOk (((isW (rowsI l n n)).take i).flatten.length + w.length) = true := szOk_small (by omega)
      rw [hst]
      generalize ((isW (rowsI l n n)).take i).flatten = acc at *
      simp [b_ring_of_all_1, sz, numsD_app]
    · rintro s ⟨o5, rfl⟩
      rw [List.length_map, List.take_length]
      simp [ringI]
theorem plI_sub (r w : List Int) : ∀ x ∈ plI r w, x < r.length := fun x hx => List.mem_range.mp (List.mem_filter.mp hx).1
theorem law_places_run {k : Nat} (hk : 1 ≤ k) {r w : List Int} (hr : r.length ≤ 1000) (hw : w.length ≤ 1000) : run Φ k "_law_places" [wD r, wD w] = .ok (.lst true ((plI r w).map iN)) [some (wD r), some (wD w)] := by
  obtain ⟨k, rfl⟩ : ∃ j, k = j + 1 := ⟨k - 1, by omega⟩
  refine run_sat (sat_run phi__law_places rfl ?_)
  have rr : rngOk (r.length : Int) = true := rngOk_small (by omega) (by omega)
  have rw' : rngOk (w.length : Int) = true := rngOk_small (by omega) (by omega)
  simp [F__law_places, c__law_places, rr]
  refine sat_bind (sat_forGo (fun i s => ∃ o : Option D, s = [some (wD r), some (wD w), some (.lst true (((List.range i).filter fun a => (List.range w.length).all fun k => decide (r[(a + k) % r.length]? = w[k]?)).map iN)), o, none]) ⟨none, rfl⟩ ?_ ?_)
  · rintro i x s hx ⟨o, rfl⟩
    obtain ⟨rfl, hi⟩ := rng_get hx
    have hi : i < r.length := by omega
    refine ⟨rfl, ?_⟩
    rw [Int.zero_add, List.range_succ, List.filter_append]
    have it : ∀ x : Int, bi1 .int (.int x) = some (.int x) := fun _ => rfl
    have fl := List.length_filter_le (fun a => (List.range w.length).all fun k => decide (r[(a + k) % r.length]? = w[k]?)) (List.range i)
    rw [List.length_range] at fl
    generalize (List.range i).filter (fun a => (List.range w.length).all fun k => decide (r[(a + k) % r.length]? = w[k]?)) = acc at *
    have e1 := lc_M (e := ⟨run Φ k, []⟩) (j := 4) (it := itR1 (blt1 .len (vP 1))) (elt := v__law_places_0) (ifs := [cmp .NotEq true (idxP true (vP 0) (bin .Mod true (blt1 .int (bin .Add true (vP 3) (vP 4))) (blt1 .len (vP 0)))) (idxP true (vP 1) (vP 4))]) (s := [some (wD r), some (wD w), some (.lst true (acc.map iN)), some (.int i), none]) (s' := [some (wD r), some (wD w), some (.lst true (acc.map iN)), some (.int i), none])
      (List.range w.length) iN (fun k => !decide (r[(i + k) % r.length]? = w[k]?)) iN (by simp [rw', rngN0]) rfl rfl (fun _ _ => rfl) (by simp; omega)
      (fun x hx => by
        have hx := List.mem_range.mp hx
        have q : 0 < r.length := by omega
        have hm : (i + x) % r.length < r.length := Nat.mod_lt _ q
        have em : ((i : Int) + (x : Int)) % (r.length : Int) = (((i + x) % r.length : Nat) : Int) := by rw [← Int.natCast_add, ← Int.natCast_emod]
        simp [iN, it, q, em, ixOf_nat, hm, hx, -Int.natCast_emod])
      (fun x hx _ => by simp [v__law_places_0, iN])
    have e2 : ((List.range w.length).filter fun k => !decide (r[(i + k) % r.length]? = w[k]?)) = [] ↔ ((List.range w.length).all fun k => decide (r[(i + k) % r.length]? = w[k]?)) = true := by
      rw [List.filter_eq_nil_iff, List.all_eq_true]
      constructor
      · intro h x hx; simpa using h x hx
      · intro h x hx; simpa using h x hx
    generalize hG : (List.range w.length).filter (fun k => !decide (r[(i + k) % r.length]? = w[k]?)) = G at *
    have hz : fzL (G.map iN) = G.map iN := fzL_of fun d hd => by obtain ⟨k, _, rfl⟩ := List.mem_map.mp hd; rfl
    have sz : szOk (acc.length + 1) = true := szOk_small (by omega)
    by_cases q : G = []
    · have q2 := e2.mp q
      simp [b__law_places_1, e1, hz, q, sz, q2, iN]
    · have q2 : ((List.range w.length).all fun k => decide (r[(i + k) % r.length]? = w[k]?)) = false := by
        cases h : (List.range w.length).all fun k => decide (r[(i + k) % r.length]? = w[k]?) with
        | false => rfl
        | true => exact absurd (e2.mpr h) q
      simp [b__law_places_1, e1, hz, q, q2]
  · rintro s ⟨o, rfl⟩
    simp [plI]
theorem enumD_map : ∀ (l : List Int) (i : Nat), enumD i (numsD l) = (l.zipIdx i).map fun p => D.tup [.int (p.2 : Nat), .int p.1]
  | [], i => rfl
  | x :: l, i => by
    show D.tup [.int (i : Nat), .int x] :: enumD (i + 1) (numsD l) = _
    rw [enumD_map l (i + 1), List.zipIdx_cons]; rfl
theorem stands_run {k : Nat} (hk : 1 ≤ k) {r w : List Int} (hr : r.length ≤ 1000) (hw : w.length ≤ 1000) : run Φ k "stands_in_ring" [wD r, wD w] = .ok (.lst true ((plI r w).map iN)) [some (wD r), some (wD w)] := by
  obtain ⟨k, rfl⟩ : ∃ j, k = j + 1 := ⟨k - 1, by omega⟩
  refine run_sat (sat_run phi_stands_in_ring rfl ?_)
  have rr : rngOk (r.length : Int) = true := rngOk_small (by omega) (by omega)
  simp [F_stands_in_ring, c_stands_in_ring]
  refine sat_bind (sat_lc (s' := [some (wD r), some (wD w), some (.int r.length), none, none, none]) (List.range r.length) iN (fun a => (List.range w.length).all fun k => decide (r[(a + k) % r.length]? = w[k]?)) iN (by simp [rr, rngN0]) rfl rfl (fun _ _ => rfl) (by simp; omega) (fun a ha => ?_) (fun a ha _ => by simp [v_stands_in_ring_1, iN]) (by simp [plI]))
  have ha := List.mem_range.mp ha
  have q : 0 < r.length := by omega
  have e1 := lc_G (e := ⟨run Φ k, []⟩) (own := [4, 5]) (tg := .tp [.nm 4, .nm 5]) (it := itN (itV 1)) (ifs := []) (elt := v_stands_in_ring_0) (s := [some (wD r), some (wD w), some (.int r.length), some (.int a), none, none]) (s' := [some (wD r), some (wD w), some (.int r.length), some (.int a), none, none])
    (w.zipIdx 0) (fun p => D.tup [.int (p.2 : Nat), .int p.1]) (fun p => [some (wD r), some (wD w), some (.int r.length), some (.int a), some (.int (p.2 : Nat)), some (.int p.1)]) (fun _ => true) (fun p => .bl (decide (r[(a + p.2) % r.length]? = w[p.2]?)))
    (by simp [enumD_map]) rfl rfl rfl (by simp; omega) (fun p hp => by simp) (fun p hp => rfl) (fun p hp _ => by
      obtain ⟨x, j⟩ := p
      have hj := List.mem_zipIdx_iff_getElem?.mp hp
      have hj : w[j]? = some x := by simpa using hj
      obtain ⟨hj1, hj2⟩ := List.getElem?_eq_some_iff.mp hj
      have hm : (a + j) % r.length < r.length := Nat.mod_lt _ q
      have em : ((a : Int) + (j : Int)) % (r.length : Int) = (((a + j) % r.length : Nat) : Int) := by rw [← Int.natCast_add, ← Int.natCast_emod]
      simp [v_stands_in_ring_0, q, em, ixOf_nat, hm, hj1, hj2, -Int.natCast_emod])
  rw [List.filter_eq_self.mpr (fun _ _ => rfl)] at e1
  have e2 : (w.zipIdx 0).map (fun p => D.bl (decide (r[(a + p.2) % r.length]? = w[p.2]?))) = (List.range w.length).map fun k => D.bl (decide (r[(a + k) % r.length]? = w[k]?)) := by
    have : List.range w.length = (w.zipIdx 0).map (·.2) := by rw [List.zipIdx_map_snd, List.range_eq_range']
    rw [this, List.map_map]; rfl
  rw [e2] at e1
  have e3 : fzL ((List.range w.length).map fun k => D.bl (decide (r[(a + k) % r.length]? = w[k]?))) = (List.range w.length).map fun k => D.bl (decide (r[(a + k) % r.length]? = w[k]?)) := fzL_of fun d hd => by
    obtain ⟨k, _, rfl⟩ := List.mem_map.mp hd; rfl
  have e4 : bi1 .all (.lst false ((List.range w.length).map fun k => D.bl (decide (r[(a + k) % r.length]? = w[k]?)))) = some (.bl ((List.range w.length).all fun k => decide (r[(a + k) % r.length]? = w[k]?))) := by
    have : ∀ l : List Nat, allB (l.map fun k => D.bl (decide (r[(a + k) % r.length]? = w[k]?))) = some (l.map fun k => decide (r[(a + k) % r.length]? = w[k]?)) := by
      intro l
      induction l with
      | nil => rfl
      | cons x l ih => rw [List.map_cons]; show (allB _).map _ = _; rw [ih]; rfl
    show (allB _).map _ = _
    rw [this]
    simp [List.all_map]
  simp [iN, e1, e3, e4]
end K70

set_option Elab.async false
set_option linter.all false
set_option maxRecDepth 100000
set_option maxHeartbeats 4000000
namespace K70
open Tw Tw.Lib
open PySem (Str)
theorem gStep_len {l n i : Nat} {s : List Int × List (List Int) × List Int} (h1 : s.1.length = n) (h2 : s.2.1.length ≤ i + 1) (h3 : s.2.2.length ≤ i) : (gStep l s).1.length = n ∧ (gStep l s).2.1.length ≤ i + 2 ∧ (gStep l s).2.2.length ≤ i + 1 := by
  unfold gStep
  split
  · simp; omega
  · exact ⟨h1, by omega, by omega⟩
theorem gIter_len {l n : Nat} : ∀ i, (gIter l i (gInit l n)).1.length = n ∧ (gIter l i (gInit l n)).2.1.length ≤ i + 1 ∧ (gIter l i (gInit l n)).2.2.length ≤ i
  | 0 => by simp [gIter, gInit]
  | i + 1 => by
    obtain ⟨h1, h2, h3⟩ := gIter_len i
    exact gStep_len h1 h2 h3
theorem greedy_run {k : Nat} (hk : 2 ≤ k) {l n : Nat} (h1 : 1 ≤ l) (h3 : l ≤ 3) (n5 : n ≤ 5) : run Φ k "_law_greedy" [.int l, .int n] = .ok (wD (greedyI l n)) [some (.int l), some (.int n)] := by
  obtain ⟨k, rfl⟩ : ∃ j, k = j + 1 := ⟨k - 1, by omega⟩
  refine run_sat (sat_run phi__law_greedy rfl ?_)
  have pl : l ^ n ≤ 243 := Nat.le_trans (Nat.pow_le_pow_left h3 n) (Nat.pow_le_pow_right (by omega) n5)
  have e0 := law_power_run phi__law_power (k := k) (by omega) (l := l) (n := n) h3 (by omega)
  have rp : rngOk ((l ^ n : Nat) : Int) = true := rngOk_small (by omega) (by omega)
  have rl : rngOk (l : Int) = true := rngOk_small (by omega) (by omega)
  have ro : repOk 1 (n : Int) = true := repOk_small (by omega) (by omega) (by omega)
  have er : repD [D.int ((l : Int) - 1)] (n : Int) = numsD (List.replicate n ((l : Int) - 1)) := by
    unfold repD numsD
    rw [show ((n : Int)).toNat = n by omega, List.map_replicate]
    clear e0 rp pl ro n5
    induction n with
    | zero => rfl
    | succ n ih => rw [List.replicate_succ, List.flatten_cons, ih, List.replicate_succ]; rfl
  simp [F__law_greedy, c__law_greedy, ro, er, e0, rp, -Int.natCast_pow]
  refine sat_bind (sat_forGo (fun i s => ∃ o5 o6 : Option D, s = [some (.int l), some (.int n), some (wD (gIter l i (gInit l n)).1), some (.lst true ((gIter l i (gInit l n)).2.1.map wD)), some (wD (gIter l i (gInit l n)).2.2), o5, o6, none]) ⟨none, none, rfl⟩ ?_ ?_)
  · rintro i x s hx ⟨o5, o6, rfl⟩
    obtain ⟨rfl, hi⟩ := rng_get hx
    have hi : i < 243 := by omega
    refine ⟨rfl, ?_⟩
    obtain ⟨l1, l2, l3⟩ := gIter_len (l := l) (n := n) i
    have hst : gIter l (i + 1) (gInit l n) = gStep l (gIter l i (gInit l n)) := rfl
    rw [hst]
    generalize gIter l i (gInit l n) = st at *
    obtain ⟨ring, seen, out⟩ := st
    dsimp only at l1 l2 l3 ⊢
    have s1 : szOk (ring.length + 1) = true := szOk_small (by omega)
    have s2 : szOk (seen.length + 1) = true := szOk_small (by omega)
    have s3 : szOk (out.length + 1) = true := szOk_small (by omega)
    have na : ∀ (a : List Int) (c : Int), numsD a ++ [D.int c] = numsD (a ++ [c]) := fun a c => numsD_app a [c]
    have cf : ∀ xs, cutD xs (some 1) none = xs.drop 1 := fun xs => cut_from' xs (i := 1) (by omega)
    have nd : ∀ a : List Int, (numsD a).drop 1 = numsD (a.drop 1) := fun a => by unfold numsD; rw [List.map_drop]
    have e1 := lc_M (e := ⟨run Φ k, []⟩) (j := 7) (it := itR1 (vP 0)) (elt := v__law_greedy_0) (ifs := [cmp .NotIn true (slc true (bin .Add true (vP 2) (tupE [vE 7])) (some (ret (.int 1))) none) (vP 3)])
      (s := [some (.int l), some (.int n), some (wD ring), some (.lst true (seen.map wD)), some (wD out), some (.int (0 + i)), o6, none]) (s' := [some (.int l), some (.int n), some (wD ring), some (.lst true (seen.map wD)), some (wD out), some (.int (0 + i)), o6, none])
      (List.range l) iN (fun c : Nat => decide (((ring ++ [(c : Int)]).drop 1) ∉ seen)) iN (by simp [rl, rngN0]) rfl rfl (fun _ _ => rfl) (by simp; omega)
      (fun x hx => by
        have hin := in_words (o := true) (ws := seen) (a := (ring ++ [(x : Int)]).drop 1)
        simp only [List.set_cons_succ, List.set_cons_zero, iN, allT_one, cmp_ap, slc_ap, bin_ap, vP_ap]
        simp [s1, na, cf, -List.drop_one]
        have cn : ∀ x y, cmpOp .NotIn x y = (inD x y).map (!·) := fun _ _ => rfl
        rw [cn, hin]
        simp)
      (fun x hx _ => by simp [v__law_greedy_0, iN])
    have hfind : (List.range l).find? (fun c : Nat => decide (((ring ++ [(c : Int)]).drop 1) ∉ seen)) = ((List.range l).filter (fun c : Nat => decide (((ring ++ [(c : Int)]).drop 1) ∉ seen))).head? := by rw [List.head?_filter]
    unfold gStep
    dsimp only
    rw [hfind]
    generalize (List.range l).filter (fun c : Nat => decide (((ring ++ [(c : Int)]).drop 1) ∉ seen)) = G at *
    have hz : fzL (G.map iN) = G.map iN := fzL_of fun d hd => by obtain ⟨k, _, rfl⟩ := List.mem_map.mp hd; rfl
    rw [Int.zero_add] at e1 ⊢
    cases G with
    | nil =>
      rw [List.map_nil] at e1
      simp [b__law_greedy_1, e1]
    | cons c G =>
      rw [List.map_cons] at e1 hz
      have hfz : fzL (G.map iN) = G.map iN := fzL_of fun d hd => by obtain ⟨k, _, rfl⟩ := List.mem_map.mp hd; rfl
      have hfr : frzL (G.map iN) = true := frzL_of fun d hd => by obtain ⟨k, _, rfl⟩ := List.mem_map.mp hd; rfl
      have ic : iN c = .int c := rfl
      have mp : ∀ w : List Int, seen.map wD ++ [D.tup (numsD w)] = (seen ++ [w]).map wD := fun w => by simp
      simp [b__law_greedy_1, e1, hfz, ic, s1, s2, s3, na, cf, nd, mp, -List.map_append, -List.drop_one]
  · rintro s ⟨o5, o6, rfl⟩
    rw [rng_len, show (((l ^ n : Nat) : Int) - 0).toNat = l ^ n by omega]
    obtain ⟨l1, l2, l3⟩ := gIter_len (l := l) (n := n) (l ^ n)
    have s3 : szOk ((gIter l (l ^ n) (gInit l n)).2.2.length + 1) = true := szOk_small (by omega)
    have na : ∀ (a : List Int) (c : Int), numsD a ++ [D.int c] = numsD (a ++ [c]) := fun a c => numsD_app a [c]
    simp [s3, na, greedyI]
end K70

set_option Elab.async false
set_option linter.all false
set_option maxRecDepth 100000
set_option maxHeartbeats 4000000
namespace K70
open Tw Tw.Lib
open PySem (Str)
theorem stageA (ns : List Int) (hns : ns.length ≤ 63) {Q : Fl → S → Prop} (h : ∀ (p : D) (l n : Nat) (o5 : Option D), IsPool (2 ^ 40) p → 1 ≤ l → l ≤ 3 → 1 ≤ n → n ≤ 5 → okR l n = true →
      Sat (blk (c_law.drop 6) ⟨run Φ 59, []⟩ [some (.scr ns), some p, some (.int l), some (.int n), some (wD (ringI l n)), o5, none, none, none, none]) Q) :
    Sat (blk c_law ⟨run Φ 59, []⟩ [some (.scr ns), none, none, none, none, none, none, none, none, none]) Q := by
  obtain ⟨p0, hp0, e0⟩ := pool_run phi__law_pool phi__law_numbers phi__law_cell hns 57
  obtain ⟨r1, p1, l1, u1, hp1, z1, e1⟩ := draw_k phi__law_draw hp0 (m := 3) (k := 59) (by omega) (by omega) (by omega)
  obtain ⟨l, hl⟩ : ∃ l : Nat, 1 + r1 = (l : Int) := ⟨(1 + r1).toNat, by omega⟩
  obtain ⟨M, hM0, hM5, hM3, hMe⟩ : ∃ M : Int, 0 < M ∧ M ≤ 5 ∧ (l = 3 → M ≤ 3) ∧ itemD (.lst false [.int 5, .int 5, .int 3]) (.int ((l : Int) - 1)) = some (.int M) := by
    rcases (show l = 1 ∨ l = 2 ∨ l = 3 by omega) with rfl | rfl | rfl
    · exact ⟨5, by omega, by omega, by omega, rfl⟩
    · exact ⟨5, by omega, by omega, by omega, rfl⟩
    · exact ⟨3, by omega, by omega, by omega, rfl⟩
  obtain ⟨r2, p2, l2, u2, hp2, z2, e2⟩ := draw_k phi__law_draw hp1 (m := M) (k := 59) (by omega) (by omega) (by omega)
  obtain ⟨n, hn⟩ : ∃ n : Nat, 1 + r2 = (n : Int) := ⟨(1 + r2).toNat, by omega⟩
  have n1 : 1 ≤ n := by omega
  have n5 : n ≤ 5 := by omega
  have h1 : 1 ≤ l := by omega
  have h3 : l ≤ 3 := by omega
  have hR := ok_all h1 h3 n1 n5 (fun q => by have := hM3 q; omega)
  have hR' := hR
  unfold okR at hR'
  simp only [Bool.and_eq_true, decide_eq_true_eq] at hR'
  obtain ⟨g1, g2, g3, g4, g5, g6⟩ := hR'
  have pl : l ^ n ≤ 243 := Nat.le_trans (Nat.pow_le_pow_left h3 n) (Nat.pow_le_pow_right (by omega) n5)
  have z0 := hp0.frz
  have e3 := ring_of_all_run (k := 59) (by omega) h1 h3 n1 n5 hR
  have e4 := law_power_run phi__law_power (k := 59) (by omega) (l := l) (n := n) h3 (by omega)
  have hrl : (ringI l n).length ≤ 243 := by omega
  have hrx : ∀ x ∈ ringI l n, 0 ≤ x ∧ x ≤ (l : Int) - 1 := fun x hx => by
    have := List.all_eq_true.mp g2 x hx
    simpa using this
  have x1 := lc_M (e := ⟨run Φ 59, []⟩) (j := 8) (it := itS (itV 4)) (elt := v_law_0) (ifs := [notB (truB (call "_law_int" [.inl 8, .inr (ret (.int 0)), .inr (bin .Sub true (vP 2) (ret (.int 1)))]))])
    (s := [some (.scr ns), some p2, some (.int l), some (.int n), some (wD (ringI l n)), none, none, none, none, none]) (s' := [some (.scr ns), some p2, some (.int l), some (.int n), some (wD (ringI l n)), none, none, none, none, none])
    (ringI l n) D.int (fun _ => false) D.int (by simp; rfl) rfl rfl (fun _ _ => rfl) (by omega)
    (fun x hx => by
      have e := int_run phi__law_kind phi__law_int (k := 59) (by omega) (x := .int x) rfl (lo := 0) (hi := (l : Int) - 1)
      have e' : lawInt (.int x) 0 ((l : Int) - 1) = true := by
        have := hrx x hx
        simp [lawInt, this]
      rw [e'] at e
      simp [e]) (fun w hw h => by cases h)
  rw [List.filter_eq_nil_iff.mpr (fun _ _ => Bool.false_ne_true), List.map_nil] at x1
  have e5 := law_of_length_run phi__law_words phi__law_of_length (k := 59) (by omega) (l := l) (n := n) h3 (by omega)
  refine sat_cut 6 (by simp [c_law]) ?_
  simp [c_law, e0, z0, e1, z1, hl, hMe, e2, z2, hn, e3, e4, g1, x1, e5, -Int.natCast_pow]
  refine sat_forGo (fun i s => ∃ o5 : Option D, s = [some (.scr ns), some p2, some (.int l), some (.int n), some (wD (ringI l n)), o5, none, none, none, none]) ⟨none, rfl⟩ ?_ ?_
  · rintro i x s hx ⟨o, rfl⟩
    obtain ⟨w, hw, rfl⟩ : ∃ w, (front l n)[i]? = some w ∧ wD w = x := by simpa using hx
    have hwm := List.mem_of_getElem? hw
    have hwl := (mem_front.mp hwm).1
    refine ⟨by simp, ?_⟩
    have y1 := stands_run (k := 59) (by omega) (r := ringI l n) (w := w) (by omega) (by omega)
    have y2 := law_places_run (k := 59) (by omega) (r := ringI l n) (w := w) (by omega) (by omega)
    have y3 : (plI (ringI l n) w).length = 1 := by
      have := List.all_eq_true.mp g3 w hwm
      simpa using this
    have y4 := fun o p => nats_eq phi__law_kind phi__law_equal (k := 59) (by omega) (b := 1000) (ks := plI (ringI l n) w) (o := o) (p := p) (by omega) (by omega) fun x hx => by have := plI_sub _ _ x hx; omega
    simp [b_law_1, y1, y2, y3, y4]
  · rintro s ⟨o, rfl⟩
    exact appQ_nx (h p2 l n o (hp2.le (by omega)) h1 h3 n1 n5 hR)
theorem stageB {ns : List Int} {p : D} {l n : Nat} {o5 : Option D} {Q : Fl → S → Prop} (hp : IsPool (2 ^ 40) p) (h1 : 1 ≤ l) (h3 : l ≤ 3) (n1 : 1 ≤ n) (n5 : n ≤ 5) (hR : okR l n = true) (h : ∀ s, Q (.rt (.bl true)) s) :
    Sat (blk (c_law.drop 6) ⟨run Φ 59, []⟩ [some (.scr ns), some p, some (.int l), some (.int n), some (wD (ringI l n)), o5, none, none, none, none]) Q := by
  unfold okR at hR
  simp only [Bool.and_eq_true, decide_eq_true_eq] at hR
  obtain ⟨g1, g2, g3, g4, g5, g6⟩ := hR
  have pl : l ^ n ≤ 243 := Nat.le_trans (Nat.pow_le_pow_left h3 n) (Nat.pow_le_pow_right (by omega) n5)
  have hrl : (ringI l n).length ≤ 243 := by omega
  have hrx : ∀ x ∈ ringI l n, 0 ≤ x ∧ x ≤ (l : Int) - 1 := fun x hx => by
    have := List.all_eq_true.mp g2 x hx
    simpa using this
  have z := hp.frz
  have hrw : IsWord l 243 (ringI l n) := ⟨hrl, fun x hx => by have := hrx x hx; omega⟩
  have e1 := greedy_run (k := 59) (by omega) (l := l) (n := n) h1 h3 n5
  rw [← g4] at e1
  have e2 := val_eq phi__law_kind phi__law_equal (k := 59) (hrw.sv (b := 1000) (by omega) (by omega)) (by omega) (by omega) (by omega)
  obtain ⟨a, p1, ha, hp1, z1, e3⟩ := word_k phi__law_draw phi__law_word hp (l := l) (most := 7) (k := 59) (by omega) (by omega) (by omega) (by omega) (by omega)
  obtain ⟨w, p2, hw, hp2, z2, e4⟩ := word_k phi__law_draw phi__law_word hp1 (l := l) (most := 9) (k := 59) (by omega) (by omega) (by omega) (by omega) (by omega)
  have hal : a.length ≤ 7 := ha.1
  have hwl : w.length ≤ 9 := hw.1
  have s1 : szOk (a.length + 1) = true := szOk_small (by omega)
  have na : ∀ (a : List Int) (c : Int), numsD a ++ [D.int c] = numsD (a ++ [c]) := fun a c => numsD_app a [c]
  have y1 := stands_run (k := 59) (by omega) (r := a ++ [0]) (w := w) (by simp; omega) (by omega)
  have y2 := law_places_run (k := 59) (by omega) (r := a ++ [0]) (w := w) (by simp; omega) (by omega)
  have yl : (plI (a ++ [0]) w).length ≤ 8 := by
    have : (plI (a ++ [0]) w).length ≤ _ := List.length_filter_le _ _
    rw [List.length_range] at this
    simp at this; omega
  have y4 := fun o p => nats_eq phi__law_kind phi__law_equal (k := 59) (by omega) (b := 1000) (ks := plI (a ++ [0]) w) (o := o) (p := p) (by omega) (by omega) fun x hx => by have := plI_sub _ _ x hx; simp at this; omega
  have c0 := cut_to' (numsD (ringI l n)) (i := 0) (by omega)
  have s2 : szOk (ringI l n).length = true := szOk_small (by omega)
  obtain ⟨fs, F, e5⟩ := lyndon_factors_run phi_lyndon_factors (k := 59) (by omega) (a := ringI l n) (by omega)
  have ffl := F.flat
  have fln := F.len
  have flen : ∀ f ∈ fs, f.length ≤ 243 := fun f hf => by
    have : f.length ≤ fs.flatten.length := List.Sublist.length_le (List.sublist_flatten_of_mem hf)
    rw [ffl] at this; omega
  have x1 := lc_M (e := ⟨run Φ 59, []⟩) (j := 9) (it := itS (itV 7)) (elt := v_law_2) (ifs := [notB (isB true (call "is_lyndon" [.inl 9]))])
    (s := [some (.scr ns), some p2, some (.int l), some (.int n), some (wD (ringI l n)), some (wD w), some (wD (a ++ [0])), some (.lst false (fs.map wD)), none, none]) (s' := [some (.scr ns), some p2, some (.int l), some (.int n), some (wD (ringI l n)), some (wD w), some (wD (a ++ [0])), some (.lst false (fs.map wD)), none, none])
    fs wD (fun _ => false) wD (by simp) rfl rfl (fun _ _ => by simp) (by omega)
    (fun f hf => by
      have e := is_lyndon_run phi_is_lyndon (k := 59) (by omega) (a := f) (by have := flen f hf; omega)
      rw [lynB_iff.mpr (F.lyn f hf)] at e
      simp [e]) (fun w hw h => by cases h)
  rw [List.filter_eq_nil_iff.mpr (fun _ _ => Bool.false_ne_true), List.map_nil] at x1
  simp [c_law, e1, e2, e3, z, z1, s1, na, e4, z2, y1, y2, y4, c0, s2, e5, x1, h]
theorem law_runs : ∀ ns : List Int, ns.length ≤ 63 → ∃ fin, run Φ 60 "law" [.scr ns] = .ok (.bl true) fin := by
  intro ns hns
  have : Sat (run Φ 60 "law" [.scr ns]) fun d _ => d = .bl true := by
    refine sat_run phi_law rfl ?_
    show Sat (blk c_law ⟨run Φ 59, []⟩ _) _
    refine stageA ns hns fun p l n o5 hp h1 h3 n1 n5 hR => ?_
    exact stageB hp h1 h3 n1 n5 hR fun s => rfl
  obtain ⟨d, s, e, rfl⟩ := sat_ex this
  exact ⟨s, e⟩
end K70

open PySem PySem.W PySem.Calls PyProof.Rows in
theorem PySem.Challenge.cw_turnwords_k70_whole_rings_with_all_words_holds : PySem.Challenge.rw_turnwords_k70_whole_rings_with_all_words.Holds := by
  w_on; o_law
  refine HandSHeadRun.head_any (r := OpenLaw.row PySem.Challenge.rw_turnwords_k70_whole_rings_with_all_words) (q := view (OpenLaw.row PySem.Challenge.rw_turnwords_k70_whole_rings_with_all_words).prog [24]) (H := K70.hk) (ob := K70.ob) (M := 20000) (loose := K70.loose) (d := HandSHeadRun.topDef (OpenLaw.row PySem.Challenge.rw_turnwords_k70_whole_rings_with_all_words).prog 24) (kwd := []) K70.ob_eq
    (by kernel_rfl) (fun s => by kernel_rfl) K70.run_eq (by kernel_rfl) (by kernel_rfl) (by kernel_rfl) (by rfl) (by first | assumption | decide +kernel) (by decide +kernel) ⟨rfl, rfl, rfl, rfl, rfl, by decide +kernel⟩ ?hw ?hc
  case hw => w_witness2
  case hc =>
    refine L2.walk_ofE (l := PySem.Challenge.rw_turnwords_k70_whole_rings_with_all_words) (n := 63) (k := 60) (x := "script") (CX := L2.CX0) rfl (by decide) (by kernel_rfl) ⟨rfl, by decide, by decide⟩ ?F (fun _ _ _ _ z => z)
    intro w mg fa h Y G hmg0
    obtain ⟨K, KX, c⟩ := Y
    have hmg : mg ("law" : PySem.Str) = some (.ref fa) := by
      have e : (HandSHeadRun.topDef (OpenLaw.row PySem.Challenge.rw_turnwords_k70_whole_rings_with_all_words).prog 24).name = ("law" : PySem.Str) := by kernel_rfl
      rw [← e]
      exact hmg0
    obtain ⟨hf, hc⟩ := K70.head_facts KX G c
    obtain ⟨f, fd, F, hm⟩ := hf K70.d_law (by simp [K70.tab])
    have e := hmg.symm.trans hm
    cases e
    refine ⟨K, fd, Tw.spLaw K 63, KX, fun s u => ?_, fun H a ns hl hO hS => ⟨a, ns, rfl, hl, hO, hS, fun _ => rfl⟩, fun base _ _ => ?_⟩
    · exact F.bindsA (ps := ["script"]) (fun kV doc pm an cdv ct us hl => Tw.bind_plain (by decide +kernel) (by decide +kernel) (by decide +kernel) kV doc pm an cdv ct us hl) s [u] rfl
    · obtain ⟨f2, fd2, a1, _, _, F2, a2⟩ := Tw.all_ok (base := base) (P := (PySem.Challenge.rw_turnwords_k70_whole_rings_with_all_words).prog) (w := w) K70.tab_nd K70.oks hf hc 60 K70.d_law (by simp [K70.tab])
      have e2 := hmg.symm.trans a1
      cases e2
      obtain ⟨oc, od, dV, kV, doc, pm, an, cdv, ct, osl, e3, lk, _⟩ := F.ex
      obtain ⟨oc', od', dV', kV', doc', pm', an', cdv', ct', osl', e4, lk', _⟩ := F2.ex
      rw [lk] at lk'
      cases lk'
      exact Tw.law_ok a2 K70.law_runs

