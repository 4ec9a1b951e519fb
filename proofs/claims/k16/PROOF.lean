import PyProof.Rows.All
import Wide.All
import OpenK.AllK
import Wide.FinOn
import HandS.ForMost
import KE.KeyNested
import KE.KDictKeyed
import KE.SortData
import KE.DataEq
import KE.DataCmp
import KE.DataMinMax
import HandS.TupAny
import HandS.TupMul
import HandS.TupLe
import HandS.IsInst
import HandS.Conv
import KE.LtSeq
import HandS.CallLocal
import HandS.Zip
import HandS.TupSets
import HandS.SetFor
import HandS.Style
import HandS.Lambda
import PySem.Challenge.RW_familyworks_k16_whole_fewer_questions_th
set_option Elab.async false
set_option linter.all false
set_option maxRecDepth 100000
/-! DL0: a compact text for pure Python defs, its reading over plain data (weakest preconditions), and the look that a compact text is a given text. -/
namespace DL
open PySem PySem.W

/-- plain data; a family of lots, the law's hand, a def as a value, a dict are written as dicts -/
abbrev D := PyData
@[reducible] def dNon : D := .none
def fam (p : Int) (l : List D) : D := .dict [(.bool true, .tuple l), (.int p, .none)]
def hand : D := .dict [(.bool false, .none)]
def scr : D := .dict [(.str "", .none)]
def fnv (k : Nat) : D := .dict [(.int k, .none)]
def dct (kvs : List (D × D)) : D := .dict ((.none, .none) :: kvs)

inductive Op where
  | add | sub | mul | fdiv | mod | pow | shl
  deriving DecidableEq
inductive Cm where
  | eq | ne | lt | le | gt | ge | isin | notin | is_ | isnot
  deriving DecidableEq
inductive Bi where
  | len | tuple | list | sorted | all | any | sum | abs | int | min | max | isInt | isBool | isTup | isStr | sortedSet | lenSet | rangeL
  deriving DecidableEq

mutual
inductive E where
  | var (i : Nat)
  | cst (d : D)
  | gint (x : Str) (i : Int)
  | gfn (k : Nat)
  | tup (es : Es)
  | lst (es : Es)
  | dict0
  | bin (op : Op) (a b : E)
  | neg (a : E)
  | not (a : E)
  | and (es : Es)
  | or (es : Es)
  | cmp (op : Cm) (a b : E)
  | chain (op op' : Cm) (a b c : E)
  | ife (c a b : E)
  | call (k : Nat) (es : Es)
  | callv (i : Nat) (es : Es)
  | some_ (h a : E)
  | bi (b : Bi) (es : Es)
  | reprEq (a b : E)
  | fld (a : E) (k : Nat)
  | idx (a b : E)
  | sl (a : E) (lo hi : Eo)
  | comp (elt : E) (tg : List Nat) (it : I) (ifs : Es)
inductive Es where
  | nil
  | cons (e : E) (es : Es)
inductive Eo where
  | no
  | yes (e : E)
inductive I where
  | vals (e : E)
  | valsT (e : E)
  | rng1 (a : E)
  | rng2 (a b : E)
  | enum (e : E)
  | zip (a b : E)
end

mutual
inductive S where
  | asg (i : Nat) (e : E)
  | asgT (is : List Nat) (es : Es)
  | unp (is : List Nat) (e : E)
  | app (i : Nat) (e : E)
  | ext (i : Nat) (e : E)
  | setI (i : Nat) (k e : E)
  | popApp (i j : Nat) (e : E)
  | ret (e : E)
  | ite (c : E) (a b : Ss)
  | for_ (tg : List Nat) (it : I) (b : Ss)
  | whil (c : E) (b : Ss)
  | drop (e : E)
  | never
  | brk
  | cont
inductive Ss where
  | nil
  | cons (s : S) (ss : Ss)
end

/-! ### data -/
mutual
/-- nothing in it that can be changed -/
@[simp] def imm : D → Bool
  | .none => true
  | .bool _ => true
  | .int _ => true
  | .str _ => true
  | .list _ => false
  | .tuple xs => immAll xs
  | .dict ((.bool true, .tuple l) :: _) => immAll l
  | .dict ((.int _, _) :: _) => true
  | .dict _ => false
@[simp] def immAll : List D → Bool
  | [] => true
  | x :: xs => imm x && immAll xs
end

@[simp] def bAdd : D → D → Option D
  | .int a, .int b => some (.int (a + b))
  | .tuple a, .tuple b => if a.length + b.length ≤ sizeLine then some (.tuple (a ++ b)) else none
  | .list a, .list b => if a.length + b.length ≤ sizeLine then some (.list (a ++ b)) else none
  | _, _ => none
@[simp] def bSub : D → D → Option D
  | .int a, .int b => some (.int (a - b))
  | _, _ => none
@[simp] def bMul : D → D → Option D
  | .int a, .int b => if (-(2 ^ 64) < a ∧ a < 2 ^ 64) ∨ (-(2 ^ 64) < b ∧ b < 2 ^ 64) then some (.int (a * b)) else none
  | .list a, .int k => if -(2 ^ 63) ≤ k ∧ k < 2 ^ 63 ∧ a.length * k.toNat ≤ sizeLine then some (.list (List.replicate k.toNat a).flatten) else none
  | .tuple a, .int k => if a ≠ [] ∧ 2 ≤ k ∧ k ≤ 1000 ∧ a.length ≤ 1000 then some (.tuple (List.replicate k.toNat a).flatten) else none
  | _, _ => none
@[simp] def bFdiv : D → D → Option D
  | .int a, .int b => if b ≠ 0 ∧ b.natAbs < 1073741824 then some (.int (a.fdiv b)) else none
  | _, _ => none
@[simp] def bMod : D → D → Option D
  | .int a, .int b => if b ≠ 0 then some (.int (a.fmod b)) else none
  | _, _ => none
@[simp] def bPow : D → D → Option D
  | .int a, .int b => if 0 ≤ b ∧ b ≤ 1000000 ∧ a.natAbs < 2 ^ 64 then some (.int (a ^ b.toNat)) else none
  | _, _ => none
@[simp] def bShl : D → D → Option D
  | .int a, .int b => if 0 ≤ b ∧ b ≤ 1000000 ∧ a.natAbs < 2 ^ 64 then some (.int (a * 2 ^ b.toNat)) else none
  | _, _ => none
@[simp] def binD : Op → D → D → Option D
  | .add, x, y => bAdd x y
  | .sub, x, y => bSub x y
  | .mul, x, y => bMul x y
  | .fdiv, x, y => bFdiv x y
  | .mod, x, y => bMod x y
  | .pow, x, y => bPow x y
  | .shl, x, y => bShl x y

mutual
/-- a key, up to == -/
def nkey : D → Option NestedKey
  | .none => some .none
  | .bool b => some (.num (if b = true then 1 else 0))
  | .int i => some (.num i)
  | .str x => some (.text x)
  | .tuple xs => (nkeys xs).map .tup
  | _ => none
def nkeys : List D → Option (List NestedKey)
  | [] => some []
  | x :: xs => match nkey x, nkeys xs with
    | some k, some ks => some (k :: ks)
    | _, _ => none
end
@[simp] def isTupD : D → Bool
  | .tuple _ => true
  | _ => false
/-- what may be a key: a tuple -/
def keyOk (x : D) : Bool := isTupD x && match nkey x with
  | some k => decide (k.depth ≤ 8)
  | none => false
def dctGet (kvs : List (D × D)) (x : D) : Option D := (kvs.find? fun p => decide (nkey p.1 = nkey x)).map (·.2)
def dctPut (kvs : List (D × D)) (k v : D) : List (D × D) :=
  if (dctGet kvs k).isSome then kvs.map (fun p => if nkey p.1 = nkey k then (p.1, v) else p) else kvs ++ [(k, v)]

def smallD (d : D) : Bool := decide (d.depth ≤ 32)

@[simp] def isNonD : D → Bool
  | .none => true
  | _ => false
def ordOk (a b : D) : Bool := alike a b && smallD a && a.plain && b.plain && !isNonD a
@[simp] def cIn (neg : Bool) : D → D → Option Bool
  | a, .list xs => if a.plain && PyData.plainAll xs && smallD a then some (xor neg (xs.any fun y => PyData.eqv y a)) else none
  | a, .tuple xs => if a.plain && PyData.plainAll xs && smallD a then some (xor neg (xs.any fun y => PyData.eqv y a)) else none
  | a, .dict ((.none, .none) :: kvs) => if keyOk a then some (xor neg (dctGet kvs a).isSome) else none
  | _, _ => none
@[simp] def cIs (neg : Bool) : D → D → Option Bool
  | .none, .none => some (xor neg true)
  | .bool _, .none => some (xor neg false)
  | .int _, .none => some (xor neg false)
  | .str _, .none => some (xor neg false)
  | .list _, .none => some (xor neg false)
  | .tuple _, .none => some (xor neg false)
  | .bool a, .bool b => some (xor neg (a == b))
  | _, _ => none
@[simp] def cmpD : Cm → D → D → Option Bool
  | .eq, a, b => if a.plain && b.plain && smallD a then some (PyData.eqv a b) else none
  | .ne, a, b => if a.plain && b.plain && smallD a then some (!PyData.eqv a b) else none
  | .lt, a, b => if ordOk a b then some (dataLt a b) else none
  | .gt, a, b => if ordOk a b then some (dataLt b a) else none
  | .le, a, b => if ordOk a b then some (!dataLt b a) else none
  | .ge, a, b => if ordOk a b then some (!dataLt a b) else none
  | .isin, a, b => cIn false a b
  | .notin, a, b => cIn true a b
  | .is_, a, b => cIs false a b
  | .isnot, a, b => cIs true a b

/-- what can be sorted: alike things of a small depth, all tuples or none of them a tuple or None -/
def sortable (xs : List D) : Bool :=
  (xs.all fun a => a.plain && smallD a && xs.all fun b => alike a b) && (xs.all isTupD || xs.all fun a => !isTupD a && !isNonD a)
@[simp] def allB : List D → Option Bool
  | [] => some true
  | .bool b :: r => (allB r).map fun c => b && c
  | _ => none
@[simp] def anyB : List D → Option Bool
  | [] => some false
  | .bool b :: r => (anyB r).map fun c => b || c
  | _ => none
@[simp] def sumI : List D → Option Int
  | [] => some 0
  | .int i :: r => (sumI r).map fun c => i + c
  | _ => none
/-- each once, the first met kept -/
def onceD : List D → List D
  | [] => []
  | x :: xs => x :: (onceD xs).filter fun y => !PyData.eqv x y
@[simp] def intsTup : D → Bool
  | .tuple xs => xs.all fun d => match d with | .int _ => true | _ => false
  | _ => false
@[simp] def isIntD : D → Bool
  | .int _ => true
  | _ => false
def sortD (xs : List D) : List D := xs.mergeSort (dataLe false id)

@[simp] def fLen : List D → Option D
  | [.list xs] => some (.int xs.length)
  | [.tuple xs] => some (.int xs.length)
  | _ => none
@[simp] def fTuple : List D → Option D
  | [.list xs] => some (.tuple xs)
  | [.tuple xs] => some (.tuple xs)
  | _ => none
@[simp] def fList : List D → Option D
  | [.list xs] => some (.list xs)
  | [.tuple xs] => some (.list xs)
  | _ => none
@[simp] def fSorted : List D → Option D
  | [.list xs] => if sortable xs then some (.list (sortD xs)) else none
  | _ => none
@[simp] def fAll : List D → Option D
  | [.list xs] => (allB xs).map .bool
  | _ => none
@[simp] def fAny : List D → Option D
  | [.list xs] => (anyB xs).map .bool
  | _ => none
@[simp] def fSum : List D → Option D
  | [.list xs] => (sumI xs).map .int
  | _ => none
@[simp] def fAbs : List D → Option D
  | [.int i] => some (.int (if i < 0 then -i else i))
  | _ => none
@[simp] def fInt : List D → Option D
  | [.int i] => some (.int i)
  | [.bool b] => some (.int (if b then 1 else 0))
  | _ => none
@[simp] def fMin : List D → Option D
  | [.list (x :: xs)] => if sortable (x :: xs) && immAll (x :: xs) then some (minD x xs) else none
  | _ => none
@[simp] def fMax : List D → Option D
  | [.list (x :: xs)] => if sortable (x :: xs) && immAll (x :: xs) then some (maxD x xs) else none
  | _ => none
@[simp] def isiD (f : D → Bool) : List D → Option D
  | [.dict _] => none
  | [d] => some (.bool (f d))
  | _ => none
@[simp] def intOrB : D → Bool
  | .int _ => true
  | .bool _ => true
  | _ => false
@[simp] def isBoolD : D → Bool
  | .bool _ => true
  | _ => false
@[simp] def isStrD : D → Bool
  | .str _ => true
  | _ => false
@[simp] def fSset : List D → Option D
  | [.tuple xs] => if xs.all intsTup && decide (xs.length < 64) then some (.list (sortD (onceD xs))) else none
  | [.list xs] => if xs.all intsTup && decide (xs.length < 64) then some (.list (sortD (onceD xs))) else none
  | _ => none
@[simp] def fRange : List D → Option D
  | [.int i] => if -(2 ^ 62) ≤ i ∧ i < 2 ^ 62 ∧ i ≤ sizeLine then some (.list ((List.range i.toNat).map fun (k : Nat) => .int k)) else none
  | _ => none
@[simp] def biD : Bi → List D → Option D
  | .len, ds => fLen ds
  | .tuple, ds => fTuple ds
  | .list, ds => fList ds
  | .sorted, ds => fSorted ds
  | .all, ds => fAll ds
  | .any, ds => fAny ds
  | .sum, ds => fSum ds
  | .abs, ds => fAbs ds
  | .int, ds => fInt ds
  | .min, ds => fMin ds
  | .max, ds => fMax ds
  | .isInt, ds => isiD intOrB ds
  | .isBool, ds => isiD isBoolD ds
  | .isTup, ds => isiD isTupD ds
  | .isStr, ds => isiD isStrD ds
  | .sortedSet, ds => fSset ds
  | .lenSet, _ => none
  | .rangeL, ds => fRange ds

/-- xs[i] -/
@[simp] def atD (xs : List D) (i : Int) : Option D := L2.atI xs i
@[simp] def idxD : D → D → Option D
  | .list xs, .int i => atD xs i
  | .tuple xs, .int i => atD xs i
  | .dict ((.none, .none) :: kvs), k => if keyOk k then dctGet kvs k else none
  | _, _ => none
def cutD (xs : List D) (lo hi : Option Int) : List D := (xs.drop (HT.sIx xs.length 0 lo)).take (HT.sIx xs.length xs.length hi - HT.sIx xs.length 0 lo)
@[simp] def slD : D → Option Int → Option Int → Option D
  | .list xs, lo, hi => some (.list (cutD xs lo hi))
  | .tuple xs, lo, hi => some (.tuple (cutD xs lo hi))
  | _, _, _ => none
@[simp] def fldD : D → Nat → Option D
  | .dict [(.bool true, .tuple l), (.int p, .none)], 0 => some (.int p)
  | .dict [(.bool true, .tuple l), (.int p, .none)], 1 => some (.tuple l)
  | _, _ => none

/-! ### the slots -/
inductive Sl where
  | frz (d : D)
  | own (d : D)
@[simp] def Sl.val : Sl → D
  | .frz d => d
  | .own d => d
@[simp] def Sl.isOwn : Sl → Bool
  | .frz _ => false
  | .own _ => true
abbrev Env := List (Option Sl)
@[simp] def Env.at (ρ : Env) (i : Nat) : Option Sl := (ρ[i]?).join
@[simp] def Env.setF (ρ : Env) (i : Nat) (d : D) : Env := ρ.set i (some (.frz d))
@[simp] def Env.setO (ρ : Env) (i : Nat) (d : D) : Env := ρ.set i (some (.own d))
@[simp] def Env.fz (ρ : Env) (i : Nat) : Env := match ρ.at i with
  | some (.own d) => ρ.set i (some (.frz d))
  | _ => ρ
@[simp] def isMutTop : D → Bool
  | .list _ => true
  | .dict ((.none, .none) :: _) => true
  | _ => false

/-- names bound to values -/
@[simp] def bindT : List Nat → D → Env → Option Env
  | [i], d, ρ => some (ρ.setF i d)
  | [i, j], .tuple [x, y], ρ => some ((ρ.setF i x).setF j y)
  | [i, j, k], .tuple [x, y, z], ρ => some (((ρ.setF i x).setF j y).setF k z)
  | _, _, _ => none
def frzAll : List Nat → Env → Env
  | [], ρ => ρ
  | i :: r, ρ => frzAll r (ρ.set i (some (.frz .none)))

@[simp] def E.isVar : E → Bool
  | .var _ => true
  | _ => false
@[simp] def E.asVar : E → Option Nat
  | .var j => some j
  | _ => none
mutual
/-- no top of an own slot lies in what it gives -/
@[simp] def clean : E → Env → Bool
  | .var i, ρ => match ρ.at i with
    | some s => !s.isOwn
    | none => true
  | .cst _, _ => true
  | .gint _ _, _ => true
  | .gfn _, _ => true
  | .tup _, _ => true
  | .lst _, _ => true
  | .dict0, _ => true
  | .bin _ _ _, _ => true
  | .neg _, _ => true
  | .not _, _ => true
  | .and es, ρ => cleans es ρ
  | .or es, ρ => cleans es ρ
  | .cmp _ _ _, _ => true
  | .chain _ _ _ _ _, _ => true
  | .ife _ a b, ρ => clean a ρ && clean b ρ
  | .call _ _, _ => true
  | .callv _ _, _ => true
  | .some_ _ _, _ => true
  | .bi _ _, _ => true
  | .reprEq _ _, _ => true
  | .fld _ _, _ => true
  | .idx _ _, _ => true
  | .sl _ _ _, _ => true
  | .comp _ _ _ _, _ => true
@[simp] def cleans : Es → Env → Bool
  | .nil, _ => true
  | .cons e es, ρ => clean e ρ && cleans es ρ
end
/-- what it gives is a new object -/
@[simp] def fresh : E → Bool
  | .lst _ => true
  | .dict0 => true
  | .bin _ _ _ => true
  | .call _ _ => true
  | .callv _ _ => true
  | .bi _ _ => true
  | .sl _ _ _ => true
  | .comp _ _ _ _ => true
  | .tup _ => false
  | .ife _ a b => fresh a && fresh b
  | _ => false
/-- may be kept -/
@[simp] def okEl (e : E) (ρ : Env) (d : D) : Bool := imm d || clean e ρ
@[simp] def flat : D → Bool
  | .list xs => immAll xs
  | .dict ((.none, .none) :: kvs) => kvs.all fun p => imm p.1 && imm p.2
  | _ => false
/-- may be handed back -/
@[simp] def okRet (e : E) (ρ : Env) (d : D) : Bool := imm d || (flat d && (fresh e || match e with | .var i => (match ρ.at i with | some s => s.isOwn | none => false) | _ => false))

/-- a def's meaning: index, arguments, what is wanted of the value -/
abbrev Calls := Nat → List D → (D → Prop) → Prop

section
variable (C : Calls)
@[simp] def both (o : Option D) (Q : D → Prop) : Prop := match o with
  | some d => Q d
  | none => False
@[simp] def bothB (o : Option Bool) (Q : Bool → Prop) : Prop := match o with
  | some d => Q d
  | none => False
@[simp] def onBool (d : D) (Q : Bool → Prop) : Prop := match d with
  | .bool b => Q b
  | _ => False
@[simp] def onInt (d : D) (Q : Int → Prop) : Prop := match d with
  | .int b => Q b
  | _ => False
mutual
/-- what repr is known of: plain data of a bounded size, of which the signs are known -/
def reprW : D → Option Nat
  | .none => some 8
  | .bool _ => some 8
  | .int i => if 0 ≤ i ∧ i < 1000000 then some 12 else none
  | .str x => if x.length ≤ 20 && x.cps.toList.all (fun c => decide (c < 1000)) then some 260 else none
  | .list xs => (reprWs xs).map (· + 4)
  | .tuple xs => (reprWs xs).map (· + 4)
  | .dict _ => none
def reprWs : List D → Option Nat
  | [] => some 0
  | x :: xs => match reprW x, reprWs xs with
    | some a, some b => some (a + b + 2)
    | _, _ => none
end
/-- what repr is asked of -/
def reprOk (d : D) : Bool := smallD d && match reprW d with
  | some k => decide (k ≤ 1000000)
  | none => false
/-- a comprehension's turns: each gives an item, or none -/
def compL (f : D → (Option D → Prop) → Prop) : List D → List D → (List D → Prop) → Prop
  | [], acc, Q => Q acc
  | x :: xs, acc, Q => f x fun o => match o with
    | some d => acc.length < sizeLine ∧ compL f xs (acc ++ [d]) Q
    | none => compL f xs acc Q
@[simp] def items : D → Option (List D)
  | .list xs => some xs
  | .tuple xs => some xs
  | _ => none

mutual
@[simp] def wE : E → Env → (D → Prop) → Prop
  | .var i, ρ, Q => match ρ.at i with
    | some s => Q s.val
    | none => False
  | .cst d, _, Q => Q d
  | .gint _ i, _, Q => Q (.int i)
  | .gfn k, _, Q => Q (fnv k)
  | .tup es, ρ, Q => wEs true es ρ fun ds => ds.length ≤ sizeLine ∧ Q (.tuple ds)
  | .lst es, ρ, Q => wEs true es ρ fun ds => ds.length ≤ sizeLine ∧ Q (.list ds)
  | .dict0, _, Q => Q (dct [])
  | .bin op a b, ρ, Q => wE a ρ fun x => wE b ρ fun y => both (binD op x y) Q
  | .neg a, ρ, Q => wE a ρ fun x => onInt x fun i => Q (.int (-i))
  | .not a, ρ, Q => wE a ρ fun d => onBool d fun b => Q (.bool (!b))
  | .and es, ρ, Q => wAnd es ρ Q
  | .or es, ρ, Q => wOr es ρ Q
  | .cmp op a b, ρ, Q => wE a ρ fun x => wE b ρ fun y => bothB (cmpD op x y) fun c => Q (.bool c)
  | .chain op op' a b c, ρ, Q => wE a ρ fun x => wE b ρ fun y => bothB (cmpD op x y) fun k => if k = true then wE c ρ fun z => bothB (cmpD op' y z) fun k' => Q (.bool k') else Q (.bool false)
  | .ife c a b, ρ, Q => wT c ρ fun k => if k = true then wE a ρ Q else wE b ρ Q
  | .call k es, ρ, Q => wEs false es ρ fun ds => C k ds Q
  | .callv i es, ρ, Q => match ρ.at i with
    | some (.frz (.dict [(.int k, .none)])) => wEs false es ρ fun ds => C k.toNat ds Q
    | _ => False
  | .some_ h a, ρ, Q => wE h ρ fun x => wE a ρ fun y => match items y with
    | some xs => x = hand ∧ xs ≠ [] ∧ ∀ d, d ∈ xs → Q d
    | none => False
  | .bi b es, ρ, Q => wEs false es ρ fun ds => both (biD b ds) Q
  | .reprEq a b, ρ, Q => wE a ρ fun x => reprOk x = true ∧ wE b ρ fun y => x = y ∧ Q (.bool true)
  | .fld a k, ρ, Q => wE a ρ fun x => both (fldD x k) Q
  | .idx a b, ρ, Q => wE a ρ fun x => wE b ρ fun y => both (idxD x y) Q
  | .sl a lo hi, ρ, Q => wE a ρ fun x => wO lo ρ fun l => wO hi ρ fun h => both (slD x l h) Q
  | .comp elt tg it ifs, ρ, Q => wI it ρ fun xs => compL (fun x K => match bindT tg x ρ with
      | none => False
      | some ρ' => wIfs ifs ρ' fun b => if b = true then wE elt ρ' fun d => okEl elt ρ' d = true ∧ K (some d) else K none) xs [] fun ds => Q (.list ds)
@[simp] def wEs (keep : Bool) : Es → Env → (List D → Prop) → Prop
  | .nil, _, Q => Q []
  | .cons e es, ρ, Q => wE e ρ fun d => (keep = true → okEl e ρ d = true) ∧ wEs keep es ρ fun ds => Q (d :: ds)
@[simp] def wO : Eo → Env → (Option Int → Prop) → Prop
  | .no, _, Q => Q none
  | .yes e, ρ, Q => wE e ρ fun d => onInt d fun i => Q (some i)
@[simp] def wI : I → Env → (List D → Prop) → Prop
  | .vals e, ρ, Q => wE e ρ fun d => match d with
    | .list xs => Q xs
    | _ => False
  | .valsT e, ρ, Q => wE e ρ fun d => match d with
    | .tuple xs => Q xs
    | _ => False
  | .rng1 a, ρ, Q => wE a ρ fun d => onInt d fun i => (-(2 ^ 62) ≤ i ∧ i < 2 ^ 62) ∧ Q ((List.range i.toNat).map fun (k : Nat) => .int k)
  | .rng2 a b, ρ, Q => wE a ρ fun d => wE b ρ fun d' => onInt d fun i => onInt d' fun j => (-(2 ^ 62) ≤ i ∧ i < 2 ^ 62 ∧ -(2 ^ 62) ≤ j ∧ j < 2 ^ 62) ∧ Q ((List.range (j - i).toNat).map fun (k : Nat) => .int (i + k))
  | .enum e, ρ, Q => wE e ρ fun d => match d with
    | .list xs => Q ((List.range xs.length).zip xs |>.map fun p => .tuple [.int p.1, p.2])
    | _ => False
  | .zip a b, ρ, Q => wE a ρ fun x => wE b ρ fun y => match x, y with
    | .list xs, .list ys => Q ((xs.zip ys).map fun p => .tuple [p.1, p.2])
    | .tuple xs, .tuple ys => Q ((xs.zip ys).map fun p => .tuple [p.1, p.2])
    | _, _ => False
@[simp] def wT : E → Env → (Bool → Prop) → Prop
  | .not a, ρ, Q => wT a ρ fun b => Q (!b)
  | .and es, ρ, Q => wAndT es ρ Q
  | .or es, ρ, Q => wOrT es ρ Q
  | .cmp op a b, ρ, Q => wE a ρ fun x => wE b ρ fun y => bothB (cmpD op x y) Q
  | .chain op op' a b c, ρ, Q => wE a ρ fun x => wE b ρ fun y => bothB (cmpD op x y) fun k => if k = true then wE c ρ fun z => bothB (cmpD op' y z) Q else Q false
  | .var i, ρ, Q => match ρ.at i with
    | some s => onBool s.val Q
    | none => False
  | .call k es, ρ, Q => wEs false es ρ fun ds => C k ds fun d => onBool d Q
  | .bi b es, ρ, Q => wEs false es ρ fun ds => both (biD b ds) fun d => onBool d Q
  | _, _, _ => False
@[simp] def wAnd : Es → Env → (D → Prop) → Prop
  | .nil, _, _ => False
  | .cons e .nil, ρ, Q => wE e ρ Q
  | .cons e es, ρ, Q => wE e ρ fun d => onBool d fun b => if b = true then wAnd es ρ Q else Q (.bool false)
@[simp] def wOr : Es → Env → (D → Prop) → Prop
  | .nil, _, _ => False
  | .cons e .nil, ρ, Q => wE e ρ Q
  | .cons e es, ρ, Q => wE e ρ fun d => onBool d fun b => if b = true then Q (.bool true) else wOr es ρ Q
@[simp] def wAndT : Es → Env → (Bool → Prop) → Prop
  | .nil, _, _ => False
  | .cons e .nil, ρ, Q => wT e ρ Q
  | .cons e es, ρ, Q => wT e ρ fun b => if b = true then wAndT es ρ Q else Q false
@[simp] def wOrT : Es → Env → (Bool → Prop) → Prop
  | .nil, _, _ => False
  | .cons e .nil, ρ, Q => wT e ρ Q
  | .cons e es, ρ, Q => wT e ρ fun b => if b = true then Q true else wOrT es ρ Q
@[simp] def wIfs : Es → Env → (Bool → Prop) → Prop
  | .nil, _, Q => Q true
  | .cons e .nil, ρ, Q => wT e ρ Q
  | .cons _ (.cons _ _), _, _ => False
end
end

/-! ### statements -/
/-- what is wanted behind a statement -/
structure En where
  nx : Env → Prop
  rt : Env → D → Prop
  bk : Env → Prop
  ct : Env → Prop

/-- a value put into a slot -/
@[simp] def put (i : Nat) (e : E) (ρ : Env) (d : D) (to : Env) : Option Env :=
  if imm d then some (to.setF i d) else if clean e ρ then (if isMutTop d && fresh e && flat d then some (to.setO i d) else some (to.setF i d)) else none
@[simp] def putAll : List Nat → Es → List D → Env → Env → Option Env
  | [], .nil, [], _, to => some to
  | i :: is, .cons e es, d :: ds, ρ, to => (put i e ρ d to).bind fun t => putAll is es ds ρ t
  | _, _, _, _, _ => none
@[simp] def fzV : E → Env → Env
  | .var j, ρ => ρ.fz j
  | _, ρ => ρ
@[simp] def fzI : I → Env → Env
  | .vals e, ρ => fzV e ρ
  | .valsT e, ρ => fzV e ρ
  | .enum e, ρ => fzV e ρ
  | .zip a b, ρ => fzV b (fzV a ρ)
  | _, ρ => ρ
@[simp] def okI : I → Env → Bool
  | .vals e, ρ => clean e ρ || e.isVar
  | .valsT e, ρ => clean e ρ || e.isVar
  | .rng1 _, _ => true
  | .rng2 _ _, _ => true
  | .enum e, ρ => clean e ρ || e.isVar
  | .zip a b, ρ => (clean a ρ || a.isVar) && (clean b ρ || b.isVar)
def forL (f : D → Env → (Env → Prop) → Prop) : List D → Env → (Env → Prop) → Prop
  | [], ρ, Q => Q ρ
  | x :: xs, ρ, Q => f x ρ fun ρ' => forL f xs ρ' Q
def whileN (c : Env → (Bool → Prop) → Prop) (f : Env → (Env → Prop) → Prop) : Nat → Env → (Env → Prop) → Prop
  | 0, _, _ => False
  | k + 1, ρ, Q => c ρ fun b => if b = true then f ρ fun ρ' => whileN c f k ρ' Q else Q ρ

section
variable (C : Calls)
mutual
@[simp] def wS : S → Env → En → Prop
  | .asg i e, ρ, D => match e.asVar with
    | some j => (match ρ.at j with
      | some (.own d) => D.nx (Env.setO (ρ.set j none) i d)
      | some (.frz d) => D.nx (ρ.setF i d)
      | none => False)
    | none => wE C e ρ fun d => match put i e ρ d ρ with
      | some ρ' => D.nx ρ'
      | none => False
  | .asgT is es, ρ, D => wEs C false es ρ fun ds => match putAll is es ds ρ ρ with
    | some ρ' => D.nx ρ'
    | none => False
  | .unp is e, ρ, D => wE C e ρ fun d => okEl e ρ d = true ∧ match bindT is d ρ with
    | some ρ' => D.nx ρ'
    | none => False
  | .app i e, ρ, D => match ρ.at i with
    | some (.own (.list xs)) => wE C e ρ fun d => okEl e ρ d = true ∧ xs.length < sizeLine ∧ D.nx (ρ.setO i (.list (xs ++ [d])))
    | _ => False
  | .ext i e, ρ, D => match ρ.at i with
    | some (.own (.list xs)) => wE C e ρ fun d => match d with
      | .list ys => xs.length + ys.length ≤ sizeLine ∧ D.nx (ρ.setO i (.list (xs ++ ys)))
      | _ => False
    | _ => False
  | .setI i k e, ρ, D => match ρ.at i with
    | some (.own (.list xs)) => wE C e ρ fun d => okEl e ρ d = true ∧ wE C k ρ fun x => onInt x fun n => match L2.ixN xs.length n with
      | some j => D.nx (ρ.setO i (.list (xs.set j d)))
      | none => False
    | some (.own (.dict ((.none, .none) :: kvs))) => wE C e ρ fun d => okEl e ρ d = true ∧ wE C k ρ fun x => (imm x = true ∧ keyOk x = true) ∧ kvs.length < 1000000 ∧ D.nx (ρ.setO i (dct (dctPut kvs x d)))
    | _ => False
  | .popApp i j e, ρ, D => match ρ.at i, ρ.at j with
    | some (.own (.list xs)), some (.own (.list ys)) => wE C e ρ fun d => onInt d fun k => (0 ≤ k ∧ k < 2 ^ 62) ∧ xs.length < sizeLine ∧ match ys[k.toNat]? with
      | some y => D.nx ((ρ.setO j (.list (ys.eraseIdx k.toNat))).setO i (.list (xs ++ [y])))
      | none => False
    | _, _ => False
  | .ret e, ρ, D => wE C e ρ fun d => okRet e ρ d = true ∧ D.rt ρ d
  | .ite c a b, ρ, D => wT C c ρ fun k => if k = true then wSs a ρ D else wSs b ρ D
  | .for_ tg it b, ρ, D => okI it ρ = true ∧ wI C it ρ fun xs => forL (fun x ρ K => match bindT tg x ρ with
    | some ρ' => wSs b ρ' { nx := K, ct := K, bk := D.nx, rt := D.rt }
    | none => False) xs (fzI it ρ) D.nx
  | .whil c b, ρ, D => ∃ k, whileN (fun ρ Q => wT C c ρ Q) (fun ρ K => wSs b ρ { nx := K, ct := K, bk := D.nx, rt := D.rt }) k ρ D.nx
  | .drop e, ρ, D => wE C e ρ fun _ => D.nx ρ
  | .never, _, _ => False
  | .brk, ρ, D => D.bk ρ
  | .cont, ρ, D => D.ct ρ
@[simp] def wSs : Ss → Env → En → Prop
  | .nil, ρ, D => D.nx ρ
  | .cons s ss, ρ, D => wS s ρ { D with nx := fun ρ' => wSs ss ρ' D }
end
end

/-! ### defs -/
inductive Prim where
  /-- a number below a number -/
  | draw
  /-- the numbers below a number in some order -/
  | mixed
  /-- the hand -/
  | hand
  /-- a family, by the two looks -/
  | family (a b : Nat)
inductive FD where
  | body (np ns : Nat) (b : Ss)
  | prim (p : Prim)
@[simp] def primW (C : Calls) : Prim → List D → (D → Prop) → Prop
  | .draw, [x, .int n], Q => x = DL.hand ∧ 0 < n ∧ n < 2 ^ 30 ∧ ∀ r : Int, 0 ≤ r → r < n → Q (.int r)
  | .mixed, [x, .int n], Q => x = DL.hand ∧ 0 ≤ n ∧ n < 1000 ∧ ∀ p : List Nat, p.Perm (List.range n.toNat) → Q (.list (p.map fun (k : Nat) => .int k))
  | .hand, [x, .int _], Q => x = DL.scr ∧ Q DL.hand
  | .family a b, [p, l], Q => C a [p] (fun d => d = .bool true) ∧ C b [p, l] (fun d => d = .bool true) ∧ match p, l with
    | .int p, .tuple l => immAll l = true ∧ Q (fam p l)
    | _, _ => False
  | _, _, _ => False
@[simp] def start0 (ns : Nat) (ds : List D) : Env := ds.map (fun d => some (.frz d)) ++ List.replicate (ns - ds.length) none
def wC (tab : Nat → FD) : Nat → Calls
  | 0, _, _, _ => False
  | n + 1, k, ds, Q => match tab k with
    | .body np ns b => ds.length = np ∧ wSs (wC tab n) b (start0 ns ds) { nx := fun _ => Q .none, rt := fun _ => Q, bk := fun _ => False, ct := fun _ => False }
    | .prim p => primW (wC tab n) p ds Q
end DL
set_option Elab.async false
set_option linter.all false
set_option maxRecDepth 100000
/-! DL1: the look that a compact text is a given text. -/
namespace DL
open PySem PySem.W L2

/-- the names that a text gives to defs, to whole numbers -/
structure Cfg where
  fns : List Str
  cints : List (Str × Int)

def okN (x : Str) : Bool := !(x == ("__debug__" : Str)) && !(x == ("__classdict__" : Str)) && !(x == ("__name__" : Str))
def visB (sc : Scope) (x : Str) : Bool := match sc.names.lookup x with
  | some .local => true
  | some .cell => true
  | some .free => true
  | _ => false
def locB (sc : Scope) (x : Str) : Bool := match sc.names.lookup x with
  | some .local => true
  | some .cell => true
  | _ => false
def glB (sc : Scope) (x : Str) : Bool := sc.names.lookup x == some .globalImplicit
def opB : Op → Operator → Bool
  | .add, .Add => true
  | .sub, .Sub => true
  | .mul, .Mult => true
  | .fdiv, .FloorDiv => true
  | .mod, .Mod => true
  | .pow, .Pow => true
  | .shl, .LShift => true
  | _, _ => false
def cmB : Cm → CmpOp → Bool
  | .eq, .Eq => true
  | .ne, .NotEq => true
  | .lt, .Lt => true
  | .le, .LtE => true
  | .gt, .Gt => true
  | .ge, .GtE => true
  | .isin, .In => true
  | .notin, .NotIn => true
  | .is_, .Is => true
  | .isnot, .IsNot => true
  | _, _ => false
def cstB : D → Const → Bool
  | .none, .none => true
  | .bool a, .bool b => a == b
  | .int a, .int b => a == b
  | .str a, .str b => a == b
  | _, _ => false
/-- a comprehension's own names with their places -/
def ownOf (N : List Str) : List Nat → List (Str × Nat)
  | [] => []
  | i :: r => match N[i]? with
    | some x => (x, i) :: ownOf N r
    | none => ownOf N r
def tgNames (N : List Str) (sc : Scope) : List Nat → List Expr → Bool
  | [], [] => true
  | i :: r, .Name x _ :: es => N[i]? == some x && locB sc x && okN x && tgNames N sc r es
  | _, _ => false
def tgB (N : List Str) (sc : Scope) : List Nat → Expr → Bool
  | [i], .Name x _ => N[i]? == some x && locB sc x && okN x
  | [i, j], .Tuple es _ _ => tgNames N sc [i, j] es
  | [i, j, k], .Tuple es _ _ => tgNames N sc [i, j, k] es
  | _, _ => false
def okTg : I → List Nat → Bool
  | .enum _, tg => decide (tg.length = 2)
  | .zip _ _, tg => decide (tg.length = 2)
  | _, _ => true
def isTupE : Expr → Bool
  | .Tuple _ _ _ => true
  | _ => false
def biN : Bi → Str
  | .len => "len"
  | .tuple => "tuple"
  | .list => "list"
  | .sorted => "sorted"
  | .all => "all"
  | .any => "any"
  | .sum => "sum"
  | .abs => "abs"
  | .int => "int"
  | .min => "min"
  | .max => "max"
  | _ => ""
def plainBi : Bi → Bool
  | .len => true
  | .tuple => true
  | .list => true
  | .sorted => true
  | .all => true
  | .any => true
  | .sum => true
  | .abs => true
  | .int => true
  | .min => true
  | .max => true
  | _ => false
def isiN : Bi → Option Str
  | .isInt => some "int"
  | .isBool => some "bool"
  | .isTup => some "tuple"
  | .isStr => some "str"
  | _ => none

section
variable (cf : Cfg) (N : List Str)
mutual
def mE (sc : Scope) : E → Expr → Bool
  | .var i, e => match e with
    | .Name x _ => N[i]? == some x && visB sc x && okN x
    | _ => false
  | .cst d, e => match e with
    | .Constant c _ _ => cstB d c
    | _ => false
  | .gint y i, e => match e with
    | .Name x _ => x == y && cf.cints.lookup x == some i && glB sc x && okN x
    | _ => false
  | .gfn k, e => match e with
    | .Name x _ => cf.fns[k]? == some x && glB sc x && okN x
    | _ => false
  | .tup es, e => match e with
    | .Tuple l _ _ => mEs sc es l
    | _ => false
  | .lst es, e => match e with
    | .List l _ => mEs sc es l
    | _ => false
  | .dict0, e => match e with
    | .Dict [] [] _ => true
    | _ => false
  | .bin op a b, e => match e with
    | .BinOp x o y _ => opB op o && mE sc a x && mE sc b y
    | _ => false
  | .neg a, e => match e with
    | .UnaryOp .USub x _ => mE sc a x
    | _ => false
  | .not a, e => match e with
    | .UnaryOp .Not x _ => mE sc a x
    | _ => false
  | .and es, e => match e with
    | .BoolOp .And l _ => mEs sc es l
    | _ => false
  | .or es, e => match e with
    | .BoolOp .Or l _ => mEs sc es l
    | _ => false
  | .cmp op a b, e => match e with
    | .Compare x [o] [y] _ => cmB op o && mE sc a x && mE sc b y
    | _ => false
  | .chain op op' a b c, e => match e with
    | .Compare x [o, o'] [y, z] _ => cmB op o && cmB op' o' && mE sc a x && mE sc b y && mE sc c z
    | _ => false
  | .ife c a b, e => match e with
    | .IfExp z x y _ => mE sc c z && mE sc a x && mE sc b y
    | _ => false
  | .call k es, e => match e with
    | .Call (.Name x _) (y :: l) [] _ => cf.fns[k]? == some x && glB sc x && okN x && mEs sc es (y :: l)
    | _ => false
  | .callv i es, e => match e with
    | .Call (.Name x _) (y :: l) [] _ => N[i]? == some x && visB sc x && okN x && mEs sc es (y :: l)
    | _ => false
  | .some_ h a, e => match e with
    | .Call (.Name x _) [y, z] [] _ => x == ("_law_some" : Str) && glB sc x && mE sc h y && mE sc a z
    | _ => false
  | .bi b es, e => match e with
    | .Call (.Name x _) (y :: l) [] _ =>
      if plainBi b then x == biN b && glB sc x && mEs sc es (y :: l)
      else match es, isiN b with
      | .cons a .nil, some t => x == ("isinstance" : Str) && glB sc x && mE sc a y && (match l with
        | [.Name u _] => u == t && glB sc u
        | _ => false)
      | .cons a .nil, none => (match b, y, l with
        | .sortedSet, .Call (.Name u _) [z] [] _, [] => x == ("sorted" : Str) && glB sc x && u == ("set" : Str) && glB sc u && mE sc a z
        | .rangeL, .Call (.Name u _) [z] [] _, [] => x == ("list" : Str) && glB sc x && u == ("range" : Str) && glB sc u && mE sc a z
        | _, _, _ => false)
      | _, _ => false
    | _ => false
  | .reprEq a b, e => match e with
    | .Compare (.Call (.Name x _) [y] [] _) [.Eq] [.Call (.Name x' _) [y'] [] _] _ => x == ("repr" : Str) && x' == ("repr" : Str) && glB sc x && mE sc a y && mE sc b y'
    | _ => false
  | .fld a k, e => match e with
    | .Attribute x f _ => f == (if k = 0 then ("points" : Str) else "lots") && decide (k ≤ 1) && cf.fns.contains ("Family" : Str) && mE sc a x
    | _ => false
  | .idx a b, e => match e with
    | .Subscript x y _ => mE sc a x && mE sc b y
    | _ => false
  | .sl a lo hi, e => match e with
    | .Subscript x (.Slice l h none _) _ => mE sc a x && mO sc lo l && mO sc hi h
    | _ => false
  | .comp elt tg it ifs, e => match e with
    | .ListComp x [⟨t, i, c, 0⟩] scope _ => mI sc it i && okTg it tg && tg.Nodup && blkC N sc scope (ownOf N tg) && tgB N scope tg t && mE (relS scope sc) elt x && mEs (relS scope sc) ifs c
    | _ => false
def mEs (sc : Scope) : Es → List Expr → Bool
  | .nil, l => match l with
    | [] => true
    | _ => false
  | .cons e es, l => match l with
    | x :: r => mE sc e x && mEs sc es r
    | [] => false
def mO (sc : Scope) : Eo → Option Expr → Bool
  | .no, l => match l with
    | none => true
    | some _ => false
  | .yes e, l => match l with
    | some x => mE sc e x
    | none => false
def mI (sc : Scope) : I → Expr → Bool
  | .vals e, x => mE sc e x
  | .valsT e, x => mE sc e x
  | .rng1 a, x => match x with
    | .Call (.Name u _) [y] [] _ => u == ("range" : Str) && glB sc u && mE sc a y
    | _ => false
  | .rng2 a b, x => match x with
    | .Call (.Name u _) [y, z] [] _ => u == ("range" : Str) && glB sc u && mE sc a y && mE sc b z
    | _ => false
  | .enum a, x => match x with
    | .Call (.Name u _) [y] [] _ => u == ("enumerate" : Str) && glB sc u && mE sc a y
    | _ => false
  | .zip a b, x => match x with
    | .Call (.Name u _) [y, z] [] _ => u == ("zip" : Str) && glB sc u && mE sc a y && mE sc b z
    | _ => false
end

/-- names on one side, all local -/
def allLoc (sc : Scope) : List Expr → Bool
  | [] => true
  | .Name x _ :: r => sc.names.lookup x == some .local && allLoc sc r
  | _ => false
/-- on one line -/
def oneLine : List Expr → Bool
  | a :: r => r.all fun b => b.pos.line == a.pos.line
  | [] => false
def isComp : Expr → Bool
  | .ListComp _ _ _ _ => true
  | _ => false
mutual
def mS (sc : Scope) : S → Stmt → Bool
  | .asg i e, s => match s with
    | .Assign [.Name x p] v q => N[i]? == some x && locB sc x && okN x && mE cf N sc e v && (if isComp v then
        (match v with
          | .ListComp _ _ scope vp => if sc.names.lookup x == some .local && p.line == vp.line && !(scope.names.any fun (n, k) => n == x && (k == .local || k == .cell)) then true else
              !(sc.names.lookup x == some .local && p.line == vp.line && !(scope.names.any fun (n, k) => n == x && (k == .local || k == .cell)))
          | _ => false) else true)
    | _ => false
  | .asgT is es, s => match s with
    | .Assign [.Tuple ts _ _] (.Tuple l _ _) _ => is.Nodup && tgNames N sc is ts && mEs cf N sc es l && decide (is.length = l.length) && decide (is.length ≤ 8) &&
        (l.all (foldedForSure 8) && decide (is.length = 2 ∨ is.length = 3) || decide (4 ≤ is.length) || allLoc sc ts && oneLine ts && !l.all (foldedForSure 8) && !l.all (constantsAlone 8) && decide (is.length = 2 ∨ is.length = 3))
    | _ => false
  | .unp is e, s => match s with
    | .Assign [.Tuple ts _ _] v _ => decide (2 ≤ is.length) && is.Nodup && tgNames N sc is ts && mE cf N sc e v && !isTupE v && !isComp v
    | _ => false
  | .app i e, s => match s with
    | .Expr (.Call (.Attribute (.Name x _) m q) [y] [] q') _ => N[i]? == some x && visB sc x && okN x && m == ("append" : Str) && q.endLine == q'.line && mE cf N sc e y
    | _ => false
  | .ext i e, s => match s with
    | .Expr (.Call (.Attribute (.Name x _) m q) [y] [] q') _ => N[i]? == some x && visB sc x && okN x && m == ("extend" : Str) && q.endLine == q'.line && mE cf N sc e y
    | _ => false
  | .setI i k e, s => match s with
    | .Assign [.Subscript (.Name x _) y _] v _ => N[i]? == some x && visB sc x && okN x && mE cf N sc k y && mE cf N sc e v
    | _ => false
  | .popApp i j e, s => match s with
    | .Expr (.Call (.Attribute (.Name x _) m q) [.Call (.Attribute (.Name y _) m' r) [z] [] r'] [] q') _ => N[i]? == some x && visB sc x && okN x && m == ("append" : Str) && q.endLine == q'.line && N[j]? == some y && visB sc y && okN y && m' == ("pop" : Str) && r.endLine == r'.line && !(i == j) && mE cf N sc e z
    | _ => false
  | .ret e, s => match s with
    | .Return (some x) _ => mE cf N sc e x
    | _ => false
  | .ite c a b, s => match s with
    | .If t x y _ => mE cf N sc c t && mSs sc a x && mSs sc b y
    | _ => false
  | .for_ tg it b, s => match s with
    | .For t i x [] _ => tgB N sc tg t && tg.Nodup && okTg it tg && mI cf N sc it i && mSs sc b x
    | _ => false
  | .whil c b, s => match s with
    | .While t x [] _ => mE cf N sc c t && mSs sc b x
    | _ => false
  | .drop e, s => match s with
    | .Expr x _ => mE cf N sc e x && !isComp x
    | _ => false
  | .never, _ => true
  | .brk, s => match s with
    | .Break _ => true
    | _ => false
  | .cont, s => match s with
    | .Continue _ => true
    | _ => false
def mSs (sc : Scope) : Ss → List Stmt → Bool
  | .nil, l => match l with
    | [] => true
    | _ => false
  | .cons s ss, l => match l with
    | x :: r => mS sc s x && mSs sc ss r
    | [] => false
end
end
end DL
set_option Elab.async false
set_option linter.all false
set_option maxRecDepth 100000
/-! DL2: what is wanted may be weakened. -/
namespace DL
open PySem PySem.W L2

def Mono (C : Calls) : Prop := ∀ k ds (Q Q' : D → Prop), (∀ d, Q d → Q' d) → C k ds Q → C k ds Q'
theorem both_mono {o : Option D} {Q Q' : D → Prop} (h : ∀ d, Q d → Q' d) (w : both o Q) : both o Q' := by
  cases o with
  | none => exact w
  | some d => exact h _ w
theorem bothB_mono {o : Option Bool} {Q Q' : Bool → Prop} (h : ∀ d, Q d → Q' d) (w : bothB o Q) : bothB o Q' := by
  cases o with
  | none => exact w
  | some d => exact h _ w
theorem onBool_mono {d : D} {Q Q' : Bool → Prop} (h : ∀ d, Q d → Q' d) (w : onBool d Q) : onBool d Q' := by
  cases d <;> first | exact w | exact h _ w
theorem onInt_mono {d : D} {Q Q' : Int → Prop} (h : ∀ d, Q d → Q' d) (w : onInt d Q) : onInt d Q' := by
  cases d <;> first | exact w | exact h _ w
theorem ite_mono {b : Bool} {A A' B B' : Prop} (h1 : A → A') (h2 : B → B') (w : if b = true then A else B) : if b = true then A' else B' := by
  cases b with
  | true => exact h1 w
  | false => exact h2 w
theorem compL_mono {f : D → (Option D → Prop) → Prop} (hf : ∀ x K K', (∀ o, K o → K' o) → f x K → f x K') : ∀ (xs acc : List D) (Q Q' : List D → Prop), (∀ d, Q d → Q' d) → compL f xs acc Q → compL f xs acc Q'
  | [], acc, Q, Q', h, w => h _ w
  | x :: xs, acc, Q, Q', h, w => hf x _ _ (fun o q => by
    cases o with
    | none => exact compL_mono hf xs acc Q Q' h q
    | some d => exact ⟨q.1, compL_mono hf xs _ Q Q' h q.2⟩) w
section
variable {C : Calls} (hC : Mono C)
include hC
mutual
theorem wE_mono : ∀ (e : E) (ρ : Env) (Q Q' : D → Prop), (∀ d, Q d → Q' d) → wE C e ρ Q → wE C e ρ Q'
  | .var i, ρ, Q, Q', h, w => by
    unfold wE at w ⊢
    generalize ρ.at i = o at w ⊢
    cases o with
    | none => exact w
    | some s => exact h _ w
  | .cst d, ρ, Q, Q', h, w => h _ w
  | .gint _ i, ρ, Q, Q', h, w => h _ w
  | .gfn k, ρ, Q, Q', h, w => h _ w
  | .tup es, ρ, Q, Q', h, w => wEs_mono true es ρ _ _ (fun ds q => ⟨q.1, h _ q.2⟩) w
  | .lst es, ρ, Q, Q', h, w => wEs_mono true es ρ _ _ (fun ds q => ⟨q.1, h _ q.2⟩) w
  | .dict0, ρ, Q, Q', h, w => h _ w
  | .bin op a b, ρ, Q, Q', h, w => wE_mono a ρ _ _ (fun x q => wE_mono b ρ _ _ (fun y q => both_mono h q) q) w
  | .neg a, ρ, Q, Q', h, w => wE_mono a ρ _ _ (fun x q => onInt_mono (fun i q => h _ q) q) w
  | .not a, ρ, Q, Q', h, w => wE_mono a ρ _ _ (fun x q => onBool_mono (fun b q => h _ q) q) w
  | .and es, ρ, Q, Q', h, w => wAnd_mono es ρ _ _ h w
  | .or es, ρ, Q, Q', h, w => wOr_mono es ρ _ _ h w
  | .cmp op a b, ρ, Q, Q', h, w => wE_mono a ρ _ _ (fun x q => wE_mono b ρ _ _ (fun y q => bothB_mono (fun k q => h _ q) q) q) w
  | .chain op op' a b c, ρ, Q, Q', h, w => wE_mono a ρ _ _ (fun x q => wE_mono b ρ _ _ (fun y q => bothB_mono (fun k q => ite_mono (fun q => wE_mono c ρ _ _ (fun z q => bothB_mono (fun k q => h _ q) q) q) (fun q => h _ q) q) q) q) w
  | .ife c a b, ρ, Q, Q', h, w => wT_mono c ρ _ _ (fun k q => ite_mono (fun q => wE_mono a ρ _ _ h q) (fun q => wE_mono b ρ _ _ h q) q) w
  | .call k es, ρ, Q, Q', h, w => wEs_mono false es ρ _ _ (fun ds q => hC _ _ _ _ h q) w
  | .callv i es, ρ, Q, Q', h, w => by
    unfold wE at w ⊢
    split at w
    · exact wEs_mono false es ρ _ _ (fun ds q => hC _ _ _ _ h q) w
    · exact w
  | .some_ a b, ρ, Q, Q', h, w => wE_mono a ρ _ _ (fun x q => wE_mono b ρ _ _ (fun y q => by
      cases hy : items y with
      | none => rw [hy] at q; exact q
      | some xs => rw [hy] at q; exact ⟨q.1, q.2.1, fun d hd => h _ (q.2.2 d hd)⟩) q) w
  | .bi b es, ρ, Q, Q', h, w => wEs_mono false es ρ _ _ (fun ds q => both_mono h q) w
  | .reprEq a b, ρ, Q, Q', h, w => wE_mono a ρ _ _ (fun x q => ⟨q.1, wE_mono b ρ _ _ (fun y q => ⟨q.1, h _ q.2⟩) q.2⟩) w
  | .fld a k, ρ, Q, Q', h, w => wE_mono a ρ _ _ (fun x q => both_mono h q) w
  | .idx a b, ρ, Q, Q', h, w => wE_mono a ρ _ _ (fun x q => wE_mono b ρ _ _ (fun y q => both_mono h q) q) w
  | .sl a lo hi, ρ, Q, Q', h, w => wE_mono a ρ _ _ (fun x q => wO_mono lo ρ _ _ (fun l q => wO_mono hi ρ _ _ (fun u q => both_mono h q) q) q) w
  | .comp elt tg it ifs, ρ, Q, Q', h, w => wI_mono it ρ _ _ (fun xs q => compL_mono (fun x K K' hk q => by
      cases hb : bindT tg x ρ with
      | none => rw [hb] at q; exact q
      | some ρ' =>
        rw [hb] at q
        exact wIfs_mono ifs ρ' _ _ (fun b q => ite_mono (fun q => wE_mono elt ρ' _ _ (fun d q => ⟨q.1, hk _ q.2⟩) q) (fun q => hk _ q) q) q) xs [] _ _ (fun ds q => h _ q) q) w
theorem wEs_mono (keep : Bool) : ∀ (es : Es) (ρ : Env) (Q Q' : List D → Prop), (∀ d, Q d → Q' d) → wEs C keep es ρ Q → wEs C keep es ρ Q'
  | .nil, ρ, Q, Q', h, w => h _ w
  | .cons e es, ρ, Q, Q', h, w => wE_mono e ρ _ _ (fun d q => ⟨q.1, wEs_mono keep es ρ _ _ (fun ds q => h _ q) q.2⟩) w
theorem wO_mono : ∀ (e : Eo) (ρ : Env) (Q Q' : Option Int → Prop), (∀ d, Q d → Q' d) → wO C e ρ Q → wO C e ρ Q'
  | .no, ρ, Q, Q', h, w => h _ w
  | .yes e, ρ, Q, Q', h, w => wE_mono e ρ _ _ (fun d q => onInt_mono (fun i q => h _ q) q) w
theorem wI_mono : ∀ (e : I) (ρ : Env) (Q Q' : List D → Prop), (∀ d, Q d → Q' d) → wI C e ρ Q → wI C e ρ Q'
  | .vals e, ρ, Q, Q', h, w => wE_mono e ρ _ _ (fun d q => by
      cases d <;> first | exact h _ q | exact q) w
  | .valsT e, ρ, Q, Q', h, w => wE_mono e ρ _ _ (fun d q => by
      cases d <;> first | exact h _ q | exact q) w
  | .rng1 a, ρ, Q, Q', h, w => wE_mono a ρ _ _ (fun d q => onInt_mono (fun i q => ⟨q.1, h _ q.2⟩) q) w
  | .rng2 a b, ρ, Q, Q', h, w => wE_mono a ρ _ _ (fun d q => wE_mono b ρ _ _ (fun d' q => onInt_mono (fun i q => onInt_mono (fun j q => ⟨q.1, h _ q.2⟩) q) q) q) w
  | .enum e, ρ, Q, Q', h, w => wE_mono e ρ _ _ (fun d q => by
      cases d <;> first | exact h _ q | exact q) w
  | .zip a b, ρ, Q, Q', h, w => wE_mono a ρ _ _ (fun x q => wE_mono b ρ _ _ (fun y q => by
      cases x <;> cases y <;> first | exact h _ q | exact q) q) w
theorem wT_mono : ∀ (e : E) (ρ : Env) (Q Q' : Bool → Prop), (∀ d, Q d → Q' d) → wT C e ρ Q → wT C e ρ Q'
  | .var i, ρ, Q, Q', h, w => by
    unfold wT at w ⊢
    generalize ρ.at i = o at w ⊢
    cases o with
    | none => exact w
    | some s => exact onBool_mono h w
  | .cst d, ρ, Q, Q', h, w => w.elim
  | .gint _ i, ρ, Q, Q', h, w => w.elim
  | .gfn k, ρ, Q, Q', h, w => w.elim
  | .tup es, ρ, Q, Q', h, w => w.elim
  | .lst es, ρ, Q, Q', h, w => w.elim
  | .dict0, ρ, Q, Q', h, w => w.elim
  | .bin op a b, ρ, Q, Q', h, w => w.elim
  | .neg a, ρ, Q, Q', h, w => w.elim
  | .not a, ρ, Q, Q', h, w => wT_mono a ρ _ _ (fun x q => h _ q) w
  | .and es, ρ, Q, Q', h, w => wAndT_mono es ρ _ _ h w
  | .or es, ρ, Q, Q', h, w => wOrT_mono es ρ _ _ h w
  | .cmp op a b, ρ, Q, Q', h, w => wE_mono a ρ _ _ (fun x q => wE_mono b ρ _ _ (fun y q => bothB_mono h q) q) w
  | .chain op op' a b c, ρ, Q, Q', h, w => wE_mono a ρ _ _ (fun x q => wE_mono b ρ _ _ (fun y q => bothB_mono (fun k q => ite_mono (fun q => wE_mono c ρ _ _ (fun z q => bothB_mono h q) q) (fun q => h _ q) q) q) q) w
  | .ife c a b, ρ, Q, Q', h, w => w.elim
  | .call k es, ρ, Q, Q', h, w => wEs_mono false es ρ _ _ (fun ds q => hC _ _ _ _ (fun d q => onBool_mono h q) q) w
  | .callv i es, ρ, Q, Q', h, w => w.elim
  | .some_ a b, ρ, Q, Q', h, w => w.elim
  | .bi b es, ρ, Q, Q', h, w => wEs_mono false es ρ _ _ (fun ds q => both_mono (fun d q => onBool_mono h q) q) w
  | .reprEq a b, ρ, Q, Q', h, w => w.elim
  | .fld a k, ρ, Q, Q', h, w => w.elim
  | .idx a b, ρ, Q, Q', h, w => w.elim
  | .sl a lo hi, ρ, Q, Q', h, w => w.elim
  | .comp elt tg it ifs, ρ, Q, Q', h, w => w.elim
theorem wAnd_mono : ∀ (e : Es) (ρ : Env) (Q Q' : D → Prop), (∀ d, Q d → Q' d) → wAnd C e ρ Q → wAnd C e ρ Q'
  | .nil, ρ, Q, Q', h, w => w.elim
  | .cons e .nil, ρ, Q, Q', h, w => wE_mono e ρ _ _ h w
  | .cons e (.cons e' es), ρ, Q, Q', h, w => wE_mono e ρ _ _ (fun d q => onBool_mono (fun b q => ite_mono (fun q => wAnd_mono (.cons e' es) ρ _ _ h q) (fun q => h _ q) q) q) w
theorem wOr_mono : ∀ (e : Es) (ρ : Env) (Q Q' : D → Prop), (∀ d, Q d → Q' d) → wOr C e ρ Q → wOr C e ρ Q'
  | .nil, ρ, Q, Q', h, w => w.elim
  | .cons e .nil, ρ, Q, Q', h, w => wE_mono e ρ _ _ h w
  | .cons e (.cons e' es), ρ, Q, Q', h, w => wE_mono e ρ _ _ (fun d q => onBool_mono (fun b q => ite_mono (fun q => h _ q) (fun q => wOr_mono (.cons e' es) ρ _ _ h q) q) q) w
theorem wAndT_mono : ∀ (e : Es) (ρ : Env) (Q Q' : Bool → Prop), (∀ d, Q d → Q' d) → wAndT C e ρ Q → wAndT C e ρ Q'
  | .nil, ρ, Q, Q', h, w => w.elim
  | .cons e .nil, ρ, Q, Q', h, w => wT_mono e ρ _ _ h w
  | .cons e (.cons e' es), ρ, Q, Q', h, w => wT_mono e ρ _ _ (fun b q => ite_mono (fun q => wAndT_mono (.cons e' es) ρ _ _ h q) (fun q => h _ q) q) w
theorem wOrT_mono : ∀ (e : Es) (ρ : Env) (Q Q' : Bool → Prop), (∀ d, Q d → Q' d) → wOrT C e ρ Q → wOrT C e ρ Q'
  | .nil, ρ, Q, Q', h, w => w.elim
  | .cons e .nil, ρ, Q, Q', h, w => wT_mono e ρ _ _ h w
  | .cons e (.cons e' es), ρ, Q, Q', h, w => wT_mono e ρ _ _ (fun b q => ite_mono (fun q => h _ q) (fun q => wOrT_mono (.cons e' es) ρ _ _ h q) q) w
theorem wIfs_mono : ∀ (e : Es) (ρ : Env) (Q Q' : Bool → Prop), (∀ d, Q d → Q' d) → wIfs C e ρ Q → wIfs C e ρ Q'
  | .nil, ρ, Q, Q', h, w => h _ w
  | .cons e .nil, ρ, Q, Q', h, w => wT_mono e ρ _ _ h w
  | .cons _ (.cons _ _), ρ, Q, Q', h, w => w.elim
end
end
/-! ### statements -/
structure En.Le (D D' : En) : Prop where
  nx : ∀ ρ, D.nx ρ → D'.nx ρ
  rt : ∀ ρ d, D.rt ρ d → D'.rt ρ d
  bk : ∀ ρ, D.bk ρ → D'.bk ρ
  ct : ∀ ρ, D.ct ρ → D'.ct ρ
theorem forL_mono {f f' : D → Env → (Env → Prop) → Prop} (hf : ∀ x ρ K K', (∀ o, K o → K' o) → f x ρ K → f' x ρ K') : ∀ (xs : List D) (ρ : Env) (Q Q' : Env → Prop), (∀ d, Q d → Q' d) → forL f xs ρ Q → forL f' xs ρ Q'
  | [], ρ, Q, Q', h, w => h _ w
  | x :: xs, ρ, Q, Q', h, w => hf x ρ _ _ (fun ρ' q => forL_mono hf xs ρ' Q Q' h q) w
theorem whileN_mono {c c' : Env → (Bool → Prop) → Prop} {f f' : Env → (Env → Prop) → Prop} (hc : ∀ ρ K K', (∀ o, K o → K' o) → c ρ K → c' ρ K') (hf : ∀ ρ K K', (∀ o, K o → K' o) → f ρ K → f' ρ K') :
    ∀ (k : Nat) (ρ : Env) (Q Q' : Env → Prop), (∀ d, Q d → Q' d) → whileN c f k ρ Q → whileN c' f' k ρ Q'
  | 0, ρ, Q, Q', h, w => w.elim
  | k + 1, ρ, Q, Q', h, w => hc ρ _ _ (fun b q => ite_mono (fun q => hf ρ _ _ (fun ρ' q => whileN_mono hc hf k ρ' Q Q' h q) q) (fun q => h _ q) q) w
section
variable {C : Calls} (hC : Mono C)
include hC
mutual
theorem wS_mono : ∀ (s : S) (ρ : Env) (D D' : En), D.Le D' → wS C s ρ D → wS C s ρ D'
  | .asg i e, ρ, D, D', h, w => by
    unfold wS at w ⊢
    generalize e.asVar = o at w ⊢
    cases o with
    | some j =>
      dsimp only at w ⊢
      generalize ρ.at j = o at w ⊢
      cases o with
      | none => exact w
      | some s => cases s <;> exact h.nx _ w
    | none =>
      refine wE_mono hC e ρ _ _ (fun d q => ?_) w
      generalize put i e ρ d ρ = o at q ⊢
      cases o with
      | none => exact q
      | some ρ' => exact h.nx _ q
  | .asgT is es, ρ, D, D', h, w => by
    unfold wS at w ⊢
    refine wEs_mono hC false es ρ _ _ (fun d q => ?_) w
    split at q
    · exact h.nx _ q
    · exact q
  | .unp is e, ρ, D, D', h, w => by
    unfold wS at w ⊢
    refine wE_mono hC e ρ _ _ (fun d q => ⟨q.1, ?_⟩) w
    have q := q.2
    split at q
    · exact h.nx _ q
    · exact q
  | .app i e, ρ, D, D', h, w => by
    unfold wS at w ⊢
    split at w
    · exact wE_mono hC e ρ _ _ (fun d q => ⟨q.1, q.2.1, h.nx _ q.2.2⟩) w
    · exact w
  | .ext i e, ρ, D, D', h, w => by
    unfold wS at w ⊢
    split at w
    · refine wE_mono hC e ρ _ _ (fun d q => ?_) w
      split at q
      · exact ⟨q.1, h.nx _ q.2⟩
      · exact q
    · exact w
  | .setI i k e, ρ, D, D', h, w => by
    unfold wS at w ⊢
    split at w
    · refine wE_mono hC e ρ _ _ (fun d q => ⟨q.1, wE_mono hC k ρ _ _ (fun x q => onInt_mono (fun n q => ?_) q) q.2⟩) w
      split at q
      · exact h.nx _ q
      · exact q
    · exact wE_mono hC e ρ _ _ (fun d q => ⟨q.1, wE_mono hC k ρ _ _ (fun x q => ⟨q.1, q.2.1, h.nx _ q.2.2⟩) q.2⟩) w
    · exact w
  | .popApp i j e, ρ, D, D', h, w => by
    unfold wS at w ⊢
    split at w
    · refine wE_mono hC e ρ _ _ (fun d q => onInt_mono (fun k q => ⟨q.1, q.2.1, ?_⟩) q) w
      have q := q.2.2
      split at q
      · exact h.nx _ q
      · exact q
    · exact w
  | .ret e, ρ, D, D', h, w => by
    unfold wS at w ⊢
    exact wE_mono hC e ρ _ _ (fun d q => ⟨q.1, h.rt _ _ q.2⟩) w
  | .ite c a b, ρ, D, D', h, w => by
    unfold wS at w ⊢
    exact wT_mono hC c ρ _ _ (fun k q => ite_mono (fun q => wSs_mono a ρ D D' h q) (fun q => wSs_mono b ρ D D' h q) q) w
  | .for_ tg it b, ρ, D, D', h, w => by
    unfold wS at w ⊢
    refine ⟨w.1, wI_mono hC it ρ _ _ (fun xs q => forL_mono (fun x ρ K K' hk q => ?_) xs _ _ _ h.nx q) w.2⟩
    split at q
    · exact wSs_mono b _ { nx := K, ct := K, bk := D.nx, rt := D.rt } { nx := K', ct := K', bk := D'.nx, rt := D'.rt } ⟨hk, h.rt, h.nx, hk⟩ q
    · exact q
  | .whil c b, ρ, D, D', h, w => by
    unfold wS at w ⊢
    obtain ⟨k, w⟩ := w
    exact ⟨k, whileN_mono (fun ρ K K' hk q => wT_mono hC c ρ _ _ hk q) (fun ρ K K' hk q => wSs_mono b ρ { nx := K, ct := K, bk := D.nx, rt := D.rt } { nx := K', ct := K', bk := D'.nx, rt := D'.rt } ⟨hk, h.rt, h.nx, hk⟩ q) k ρ _ _ h.nx w⟩
  | .drop e, ρ, D, D', h, w => by
    unfold wS at w ⊢
    exact wE_mono hC e ρ _ _ (fun d q => h.nx _ q) w
  | .never, ρ, D, D', h, w => w
  | .brk, ρ, D, D', h, w => h.bk _ w
  | .cont, ρ, D, D', h, w => h.ct _ w
theorem wSs_mono : ∀ (s : Ss) (ρ : Env) (D D' : En), D.Le D' → wSs C s ρ D → wSs C s ρ D'
  | .nil, ρ, D, D', h, w => h.nx _ w
  | .cons s ss, ρ, D, D', h, w => by
    unfold wSs at w ⊢
    exact wS_mono s ρ { D with nx := fun ρ' => wSs C ss ρ' D } { D' with nx := fun ρ' => wSs C ss ρ' D' } ⟨fun ρ' q => wSs_mono ss ρ' D D' h q, h.rt, h.bk, h.ct⟩ w
end
end
theorem primW_mono {C : Calls} (hC : Mono C) (p : Prim) (ds : List D) (Q Q' : D → Prop) (h : ∀ d, Q d → Q' d) (w : primW C p ds Q) : primW C p ds Q' := by
  unfold primW at w ⊢
  split at w
  · exact ⟨w.1, w.2.1, w.2.2.1, fun r a b => h _ (w.2.2.2 r a b)⟩
  · exact ⟨w.1, w.2.1, w.2.2.1, fun r a => h _ (w.2.2.2 r a)⟩
  · exact ⟨w.1, h _ w.2⟩
  · refine ⟨w.1, w.2.1, ?_⟩
    have q := w.2.2
    split at q
    · exact ⟨q.1, h _ q.2⟩
    · exact q
  · exact w
theorem wC_mono (tab : Nat → FD) : ∀ n, Mono (wC tab n)
  | 0, k, ds, Q, Q', h, w => w
  | n + 1, k, ds, Q, Q', h, w => by
    unfold wC at w ⊢
    split at w
    · exact ⟨w.1, wSs_mono (wC_mono tab n) _ _ { nx := fun _ => Q .none, rt := fun _ => Q, bk := fun _ => False, ct := fun _ => False } { nx := fun _ => Q' .none, rt := fun _ => Q', bk := fun _ => False, ct := fun _ => False } ⟨fun _ q => h _ q, fun _ => h, fun _ q => q, fun _ q => q⟩ w.2⟩
    · exact primW_mono (wC_mono tab n) _ _ _ _ h w
end DL
set_option Elab.async false
set_option linter.all false
set_option maxRecDepth 100000
/-! DL3: how data stand in the abstract heap. -/
namespace DL
open PySem PySem.Spec PyProof.Rows L2

/-- what a whole proof fixes: the world, the written part, the class of families, the defs' places -/
structure Gx where
  P : Program
  w : World
  K : PySem.W.Frag
  C : Addr
  fa : Nat → Addr

/-- the hand at a: its cells at c, of which there are m -/
def HandO (a c : Addr) (m : Nat) : HO := .ext fun h => ∃ (its : List Value) (n : Nat) (p g x k : Int), h.get? a = some { cls := .type "list", data := .seq its.toArray n } ∧
  Vals [.ref c, .int p, .int g, .int x, .int k] its ∧ 0 ≤ p ∧ p ≤ m ∧ 0 ≤ g
/-- a dict at a, its keys' tuples and values -/
def DctO (g : Gx) (a : Addr) (xs : List (NestedKey × Addr × Value)) : HO := .ext fun h => xs.length ≤ sizeLine ∧ (a == sysModules) = false ∧
  ∃ o es ep, h.get? a = some o ∧ o.ExactDict ∧ o.data = .dict es ep ∧ es.toList = xs.map (entryOfKey (nestedKind g.P g.w)) ∧ (xs.map (·.1)).Nodup

mutual
inductive Rp (g : Gx) (H : Hp) : V → D → Prop
  | non : Rp g H .non .none
  | bl (b : Bool) : Rp g H (.bl b) (.bool b)
  | int (i : Int) : Rp g H (.int i) (.int i)
  | str (x : Str) : Rp g H (.str x) (.str x)
  | lst {a : Addr} {vs : List V} {ds : List D} (h : H a = some (.lst vs)) (r : RpAll g H vs ds) : Rp g H (.ref a) (.list ds)
  | tup {a : Addr} {vs : List V} {ds : List D} (h : H a = some (.tup vs)) (r : RpAll g H vs ds) : Rp g H (.ref a) (.tuple ds)
  | fam {a dx : Addr} {fs : List (Str × V)} {p : Int} {lv : V} {l : List D} (h : H a = some (.ins g.C dx fs)) (hp : fs.lookup ("points" : Str) = some (.int p)) (hl : fs.lookup ("lots" : Str) = some lv) (r : Rp g H lv (.tuple l)) :
      Rp g H (.ref a) (.dict [(.bool true, .tuple l), (.int p, .none)])
  | hnd {a c : Addr} {cs : List Int} (h : H a = some (HandO a c cs.length)) (hc : H c = some (.lst (cs.map V.int))) (hn : ∀ x ∈ cs, 0 ≤ x) : Rp g H (.ref a) (.dict [(.bool false, .none)])
  | fn (k : Nat) : Rp g H (.ref (g.fa k)) (.dict [(.int (k : Int), .none)])
  | scr {a : Addr} {ns : List Int} (h : SqL g.K H a (ns.map V.int)) (hl : ns.length ≤ 63) : Rp g H (.ref a) (.dict [(.str "", .none)])
  | dct {a : Addr} {xs : List (NestedKey × Addr × Value)} {kvs : List (D × D)} (h : H a = some (DctO g a xs)) (r : RpKV g H xs kvs) : Rp g H (.ref a) (.dict ((.none, .none) :: kvs))
inductive RpAll (g : Gx) (H : Hp) : List V → List D → Prop
  | nil : RpAll g H [] []
  | cons {v : V} {vs : List V} {d : D} {ds : List D} (h : Rp g H v d) (r : RpAll g H vs ds) : RpAll g H (v :: vs) (d :: ds)
inductive RpKV (g : Gx) (H : Hp) : List (NestedKey × Addr × Value) → List (D × D) → Prop
  | nil : RpKV g H [] []
  | cons {k : NestedKey} {b : Addr} {u : Value} {v : V} {kd vd : D} {xs : List (NestedKey × Addr × Value)} {kvs : List (D × D)} (hk : Rp g H (.ref b) kd) (ek : nkey kd = some k) (hd : k.depth ≤ 8)
      (ru : RelV v u) (hv : Rp g H v vd) (r : RpKV g H xs kvs) : RpKV g H ((k, b, u) :: xs) ((kd, vd) :: kvs)
end

section
variable {g : Gx} {H H' : Hp}
mutual
theorem Rp.mono (s : Same H H') : ∀ {v : V} {d : D}, Rp g H v d → Rp g H' v d
  | _, _, .non => .non
  | _, _, .bl b => .bl b
  | _, _, .int i => .int i
  | _, _, .str x => .str x
  | _, _, .lst h r => .lst (s _ _ h) (RpAll.mono s r)
  | _, _, .tup h r => .tup (s _ _ h) (RpAll.mono s r)
  | _, _, .fam h hp hl r => .fam (s _ _ h) hp hl (Rp.mono s r)
  | _, _, .hnd h hc hn => .hnd (s _ _ h) (s _ _ hc) hn
  | _, _, .fn k => .fn k
  | _, _, .scr h hl => .scr (s.seq h) hl
  | _, _, .dct h r => .dct (s _ _ h) (RpKV.mono s r)
theorem RpAll.mono (s : Same H H') : ∀ {v : List V} {d : List D}, RpAll g H v d → RpAll g H' v d
  | _, _, .nil => .nil
  | _, _, .cons h r => .cons (Rp.mono s h) (RpAll.mono s r)
theorem RpKV.mono (s : Same H H') : ∀ {v : List (NestedKey × Addr × Value)} {d : List (D × D)}, RpKV g H v d → RpKV g H' v d
  | _, _, .nil => .nil
  | _, _, .cons hk ek hd ru hv r => .cons (Rp.mono s hk) ek hd ru (Rp.mono s hv) (RpKV.mono s r)
end
theorem RpAll.length : ∀ {vs : List V} {ds : List D}, RpAll g H vs ds → vs.length = ds.length
  | _, _, .nil => rfl
  | _, _, .cons _ r => by rw [List.length_cons, List.length_cons, RpAll.length r]
theorem RpAll.append : ∀ {vs ws : List V} {ds es : List D}, RpAll g H vs ds → RpAll g H ws es → RpAll g H (vs ++ ws) (ds ++ es)
  | _, _, _, _, .nil, t => t
  | _, _, _, _, .cons h r, t => .cons h (RpAll.append r t)
theorem RpAll.get : ∀ {vs : List V} {ds : List D} {i : Nat} {d : D}, RpAll g H vs ds → ds[i]? = some d → ∃ v, vs[i]? = some v ∧ Rp g H v d
  | _, _, _, _, .nil, e => by simp at e
  | _, _, 0, _, .cons h r, e => by simp at e; subst e; exact ⟨_, rfl, h⟩
  | _, _, i + 1, _, .cons h r, e => by
    obtain ⟨v, a, b⟩ := RpAll.get (i := i) r (by simpa using e)
    exact ⟨v, by simpa using a, b⟩
theorem RpAll.get' : ∀ {vs : List V} {ds : List D} {i : Nat} {v : V}, RpAll g H vs ds → vs[i]? = some v → ∃ d, ds[i]? = some d ∧ Rp g H v d
  | _, _, _, _, .nil, e => by simp at e
  | _, _, 0, _, .cons h r, e => by simp at e; subst e; exact ⟨_, rfl, h⟩
  | _, _, i + 1, _, .cons h r, e => by
    obtain ⟨v, a, b⟩ := RpAll.get' (i := i) r (by simpa using e)
    exact ⟨v, by simpa using a, b⟩
theorem RpAll.drop : ∀ {vs : List V} {ds : List D} (n : Nat), RpAll g H vs ds → RpAll g H (vs.drop n) (ds.drop n)
  | _, _, 0, r => r
  | _, _, _ + 1, .nil => .nil
  | _, _, n + 1, .cons _ r => RpAll.drop n r
theorem RpAll.take : ∀ {vs : List V} {ds : List D} (n : Nat), RpAll g H vs ds → RpAll g H (vs.take n) (ds.take n)
  | _, _, 0, _ => .nil
  | _, _, _ + 1, .nil => .nil
  | _, _, n + 1, .cons h r => .cons h (RpAll.take n r)
theorem RpAll.set {v : V} {d : D} (h : Rp g H v d) : ∀ {vs : List V} {ds : List D} (i : Nat), RpAll g H vs ds → RpAll g H (vs.set i v) (ds.set i d)
  | _, _, _, .nil => .nil
  | _, _, 0, .cons _ r => .cons h r
  | _, _, i + 1, .cons q r => .cons q (RpAll.set h i r)
theorem RpAll.rep {vs : List V} {ds : List D} (h : RpAll g H vs ds) : ∀ k : Nat, RpAll g H (List.replicate k vs).flatten (List.replicate k ds).flatten
  | 0 => .nil
  | k + 1 => by
    rw [List.replicate_succ, List.replicate_succ, List.flatten_cons, List.flatten_cons]
    exact h.append (RpAll.rep h k)

/-! ### the heap without some places -/
open Classical in
noncomputable def msk (O : List Addr) (H : Hp) : Hp := fun b => if b ∈ O then none else H b
theorem msk_in {O : List Addr} {b : Addr} (h : b ∈ O) : msk O H b = none := by unfold msk; rw [if_pos h]
theorem msk_out {O : List Addr} {b : Addr} (h : b ∉ O) : msk O H b = H b := by unfold msk; rw [if_neg h]
theorem msk_some {O : List Addr} {b : Addr} {o : HO} (h : msk O H b = some o) : b ∉ O ∧ H b = some o := by
  by_cases hb : b ∈ O
  · rw [msk_in hb] at h; cases h
  · rw [msk_out hb] at h; exact ⟨hb, h⟩
theorem msk_same (O : List Addr) : Same (msk O H) H := fun b o h => (msk_some h).2
theorem msk_mono {O : List Addr} (s : Same H H') : Same (msk O H) (msk O H') := fun b o h => by
  obtain ⟨h1, h2⟩ := msk_some h
  rw [msk_out h1]
  exact s _ _ h2
theorem msk_sub {O O' : List Addr} (s : ∀ a, a ∈ O' → a ∈ O) : Same (msk O H) (msk O' H) := fun b o h => by
  obtain ⟨h1, h2⟩ := msk_some h
  rw [msk_out fun z => h1 (s _ z)]
  exact h2
theorem msk_nil : msk [] H = H := by
  funext b
  exact msk_out (by simp)
/-- an own object is no tuple, no instance -/
def Ownable : HO → Prop
  | .lst _ => True
  | .ext _ => True
  | _ => False
theorem upd_msk {O : List Addr} {a : Addr} {o : HO} (h : a ∈ O) : msk O (upd H a o) = msk O H := by
  funext b
  by_cases hb : b ∈ O
  · rw [msk_in hb, msk_in hb]
  · rw [msk_out hb, msk_out hb, upd_ne fun e => hb (by rw [e]; exact h)]
mutual
theorem Rp.imm {O : List Addr} (no : ∀ a ∈ O, ∀ o, H a = some o → Ownable o) : ∀ {v : V} {d : D}, Rp g H v d → imm d = true → Rp g (msk O H) v d
  | _, _, .non, _ => .non
  | _, _, .bl b, _ => .bl b
  | _, _, .int i, _ => .int i
  | _, _, .str x, _ => .str x
  | _, _, .lst h r, i => by simp [DL.imm] at i
  | _, _, .tup h r, i => .tup (by rw [msk_out fun z => no _ z _ h]; exact h) (RpAll.imm no r (by simpa [DL.imm] using i))
  | _, _, .fam h hp hl r, i => .fam (by rw [msk_out fun z => no _ z _ h]; exact h) hp hl (Rp.imm no r (by simpa [DL.imm] using i))
  | _, _, .hnd h hc hn, i => by simp [DL.imm] at i
  | _, _, .fn k, _ => .fn k
  | _, _, .scr h hl, i => by simp [DL.imm] at i
  | _, _, .dct h r, i => by simp [DL.imm] at i
theorem RpAll.imm {O : List Addr} (no : ∀ a ∈ O, ∀ o, H a = some o → Ownable o) : ∀ {v : List V} {d : List D}, RpAll g H v d → immAll d = true → RpAll g (msk O H) v d
  | _, _, .nil, _ => .nil
  | _, _, .cons h r, i => by
    simp only [immAll, Bool.and_eq_true] at i
    exact .cons (Rp.imm no h i.1) (RpAll.imm no r i.2)
end

/-! ### data for the library -/
mutual
theorem Rp.dp {K : PySem.W.Frag} : ∀ {v : V} {d : D}, Rp g H v d → d.plain = true → Dp K H v d
  | _, _, .non, _ => .non
  | _, _, .bl b, _ => .bl b
  | _, _, .int i, _ => .int i
  | _, _, .str x, _ => .str x
  | _, _, .lst h r, i => .lst (.of h) (RpAll.dp r (by simpa [PyData.plain] using i))
  | _, _, .tup h r, i => .tup (.of h) (RpAll.dp r (by simpa [PyData.plain] using i))
  | _, _, .fam h hp hl r, i => by simp [PyData.plain] at i
  | _, _, .hnd h hc hn, i => by simp [PyData.plain] at i
  | _, _, .fn k, i => by simp [PyData.plain] at i
  | _, _, .scr h hl, i => by simp [PyData.plain] at i
  | _, _, .dct h r, i => by simp [PyData.plain] at i
theorem RpAll.dp {K : PySem.W.Frag} : ∀ {v : List V} {d : List D}, RpAll g H v d → PyData.plainAll d = true → DpAll K H v d
  | _, _, .nil, _ => .nil
  | _, _, .cons h r, i => by
    simp only [PyData.plainAll, Bool.and_eq_true] at i
    exact .cons (Rp.dp h i.1) (RpAll.dp r i.2)
end
section
variable {X : Cx} {pins : List (Addr × Obj)} {σ : L2.St} {s : Shared}
theorem Rp.reads (I : Inv X pins σ H s) {d : D} {v : V} {u : Value} (hp : d.plain = true) (h : Rp g H v d) (r : RelV v u) : ∃ as, Reads s.heap u d as := Dp.reads I d v u (h.dp hp) r
theorem RpAll.reads (I : Inv X pins σ H s) {d : List D} {v : List V} {u : List Value} (hp : PyData.plainAll d = true) (h : RpAll g H v d) (r : Vals v u) : ∃ as, ReadsAll s.heap u d as := Dp.readsAll I d v u (h.dp hp) r
end

/-! ### the slots -/
/-- what an own slot holds: its top is its own -/
inductive Ow (g : Gx) (H M : Hp) (a : Addr) : D → Prop
  | lst {vs : List V} {ds : List D} (h : H a = some (.lst vs)) (r : RpAll g M vs ds) : Ow g H M a (.list ds)
  | dct {xs : List (NestedKey × Addr × Value)} {kvs : List (D × D)} (h : H a = some (DctO g a xs)) (r : RpKV g M xs kvs) : Ow g H M a (.dict ((.none, .none) :: kvs))
theorem Ow.rp {M : Hp} {a : Addr} {d : D} (s : Same M H) : Ow g H M a d → Rp g H (.ref a) d
  | .lst h r => .lst h (r.mono s)
  | .dct h r => .dct h (r.mono s)
theorem Ow.mono {M M' : Hp} {a : Addr} {d : D} (s : Same H H') (t : Same M M') : Ow g H M a d → Ow g H' M' a d
  | .lst h r => .lst (s _ _ h) (r.mono t)
  | .dct h r => .dct (s _ _ h) (r.mono t)
theorem Ow.ownable {M : Hp} {a : Addr} {d : D} : Ow g H M a d → ∃ o, H a = some o ∧ Ownable o
  | .lst h r => ⟨_, h, trivial⟩
  | .dct h r => ⟨_, h, trivial⟩
theorem Ow.upd {M : Hp} {a b : Addr} {o : HO} {d : D} (ne : a ≠ b) : Ow g H M a d → Ow g (upd H b o) M a d
  | .lst h r => .lst (by rw [upd_ne ne]; exact h) r
  | .dct h r => .dct (by rw [upd_ne ne]; exact h) r

/-- the slots ρ stand as σ in H; O: the own tops; H0: the heap at the entry -/
structure ER (g : Gx) (H0 : Hp) (ρ : Env) (σ : L2.St) (H : Hp) (O : List Addr) : Prop where
  len : σ.length = ρ.length
  frz : ∀ i d, ρ.at i = some (.frz d) → ∃ v, σ[i]? = some (some v) ∧ Rp g (msk O H) v d
  own : ∀ i d, ρ.at i = some (.own d) → ∃ a, σ[i]? = some (some (.ref a)) ∧ a ∈ O ∧ Ow g H (msk O H) a d
  inj : ∀ i j d e a, ρ.at i = some (.own d) → ρ.at j = some (.own e) → σ[i]? = some (some (.ref a)) → σ[j]? = some (some (.ref a)) → i = j
  new : ∀ a ∈ O, H0 a = none ∧ ∃ o, H a = some o ∧ Ownable o
  same : Same H0 H
theorem ER.no {H0 : Hp} {ρ : Env} {σ : L2.St} {O : List Addr} (e : ER g H0 ρ σ H O) : ∀ a ∈ O, ∀ o, H a = some o → Ownable o := fun a ha o h => by
  obtain ⟨_, o', h', q⟩ := e.new a ha
  rw [h] at h'; cases h'; exact q
theorem ER.go {H0 : Hp} {ρ : Env} {σ : L2.St} {O : List Addr} (e : ER g H0 ρ σ H O) (s : Same H H') : ER g H0 ρ σ H' O where
  len := e.len
  frz := fun i d h => let ⟨v, a, b⟩ := e.frz i d h; ⟨v, a, b.mono (msk_mono s)⟩
  own := fun i d h => let ⟨a, q, m, b⟩ := e.own i d h; ⟨a, q, m, b.mono s (msk_mono s)⟩
  inj := e.inj
  new := fun a ha => let ⟨h, o, ho, q⟩ := e.new a ha; ⟨h, o, s _ _ ho, q⟩
  same := e.same.trans s

/-- a value as it comes: its top may be an own one -/
def Rt (g : Gx) (H : Hp) (O : List Addr) (v : V) (d : D) : Prop := Rp g (msk O H) v d ∨ ∃ a, v = .ref a ∧ a ∈ O ∧ Ow g H (msk O H) a d
theorem Rt.rp {O : List Addr} {v : V} {d : D} : Rt g H O v d → Rp g H v d
  | .inl h => h.mono (msk_same O)
  | .inr ⟨a, e, _, h⟩ => by rw [e]; exact h.rp (msk_same O)
theorem Rt.go {O : List Addr} {v : V} {d : D} (s : Same H H') : Rt g H O v d → Rt g H' O v d
  | .inl h => .inl (h.mono (msk_mono s))
  | .inr ⟨a, e, m, h⟩ => .inr ⟨a, e, m, h.mono s (msk_mono s)⟩
theorem Rt.lst {O : List Addr} {v : V} {ds : List D} (h : Rt g H O v (.list ds)) : ∃ a vs, v = .ref a ∧ H a = some (.lst vs) ∧ RpAll g (msk O H) vs ds := by
  rcases h with h | ⟨a, rfl, m, h⟩
  · cases h with
    | lst h r => exact ⟨_, _, rfl, (msk_some h).2, r⟩
  · cases h with
    | lst h r => exact ⟨_, _, rfl, h, r⟩
theorem Rt.tup {O : List Addr} {v : V} {ds : List D} (h : Rt g H O v (.tuple ds)) : ∃ a vs, v = .ref a ∧ H a = some (.tup vs) ∧ RpAll g (msk O H) vs ds ∧ Rp g (msk O H) v (.tuple ds) := by
  rcases h with h | ⟨a, rfl, m, h⟩
  · have h0 := h
    cases h with
    | tup h r => exact ⟨_, _, rfl, (msk_some h).2, r, h0⟩
  · cases h
theorem Rt.int {O : List Addr} {v : V} {i : Int} (h : Rt g H O v (.int i)) : v = .int i := by
  have := h.rp
  cases this; rfl
theorem Rt.bool {O : List Addr} {v : V} {b : Bool} (h : Rt g H O v (.bool b)) : v = .bl b := by
  have := h.rp
  cases this; rfl
theorem Rt.str {O : List Addr} {v : V} {b : Str} (h : Rt g H O v (.str b)) : v = .str b := by
  have := h.rp
  cases this; rfl
theorem Rt.non {O : List Addr} {v : V} (h : Rt g H O v .none) : v = .non := by
  have := h.rp
  cases this; rfl
/-- a top that can be changed is new -/
def TopNew (H : Hp) (v : V) (d : D) : Prop := isMutTop d = true ∨ d = hand → ∃ a, v = .ref a ∧ H a = none
theorem TopNew.imm {v : V} {d : D} (h : imm d = true) : TopNew H v d := fun z => by
  rcases z with z | z
  · unfold isMutTop at z
    split at z
    · simp [DL.imm] at h
    · simp [DL.imm] at h
    · cases z
  · subst z; simp [hand, DL.imm] at h
end
end DL
set_option Elab.async false
set_option linter.all false
set_option maxRecDepth 100000
/-! DL4: operators over data. -/
namespace DL
open PySem PySem.Spec PyProof.Rows L2

def NoT (O : List Addr) (H : Hp) : Prop := ∀ a ∈ O, ∀ o, H a = some o → Ownable o
theorem same_upd {H : Hp} {p : Addr} {o : HO} (h : H p = none) : Same H (upd H p o) := fun b x e => by
  rw [upd_ne (ne_of_none e h)]
  exact e
theorem out_new {O : List Addr} {H : Hp} {p : Addr} (h : H p = none) (ex : ∀ a ∈ O, ∃ o, H a = some o) : p ∉ O := fun z => by
  obtain ⟨o, q⟩ := ex p z
  rw [h] at q; cases q
/-- what O's places are -/
structure OwO (O : List Addr) (H : Hp) : Prop where
  no : NoT O H
  ex : ∀ a ∈ O, ∃ o, H a = some o
theorem OwO.go {O : List Addr} {H H' : Hp} (w : OwO O H) (s : Same H H') : OwO O H' where
  no := fun a ha o h => by
    obtain ⟨o', q⟩ := w.ex a ha
    have q' := s _ _ q
    rw [h] at q'; cases q'
    exact w.no a ha _ q
  ex := fun a ha => let ⟨o, q⟩ := w.ex a ha; ⟨o, s _ _ q⟩
theorem ER.ow {g : Gx} {H0 : Hp} {ρ : Env} {σ : L2.St} {H : Hp} {O : List Addr} (e : ER g H0 ρ σ H O) : OwO O H where
  no := e.no
  ex := fun a ha => let ⟨_, o, q, _⟩ := e.new a ha; ⟨o, q⟩
/-- a new list, a new tuple -/
theorem new_lst {g : Gx} {O : List Addr} {H : Hp} {p : Addr} {vs : List V} {ds : List D} (w : OwO O H) (hp : H p = none) (r : RpAll g (msk O H) vs ds) : Rp g (msk O (upd H p (.lst vs))) (.ref p) (.list ds) :=
  .lst (by rw [msk_out (out_new hp w.ex), upd_same]) (r.mono (msk_mono (same_upd hp)))
theorem new_tup {g : Gx} {O : List Addr} {H : Hp} {p : Addr} {vs : List V} {ds : List D} (w : OwO O H) (hp : H p = none) (r : RpAll g (msk O H) vs ds) : Rp g (msk O (upd H p (.tup vs))) (.ref p) (.tuple ds) :=
  .tup (by rw [msk_out (out_new hp w.ex), upd_same]) (r.mono (msk_mono (same_upd hp)))
theorem top_new {H : Hp} {p : Addr} {d : D} (hp : H p = none) : TopNew H (.ref p) d := fun _ => ⟨p, rfl, hp⟩
theorem top_no {H : Hp} {v : V} {d : D} (h : isMutTop d = false) (h2 : d ≠ hand) : TopNew H v d := fun z => by
  rcases z with z | z
  · rw [h] at z; cases z
  · exact absurd z h2

/-- an answer: the value at a heap that has grown -/
def Gives (g : Gx) (O : List Addr) (H : Hp) (z : D) (Q : VK) : Prop := ∀ v H', Same H H' → Rp g (msk O H') v z → TopNew H v z → Q v H'
theorem Gives.int {g : Gx} {O : List Addr} {H : Hp} {i : Int} {Q : VK} (q : Gives g O H (.int i) Q) : Q (.int i) H := q _ _ (.refl _) (.int i) (TopNew.imm rfl)
theorem Gives.bl {g : Gx} {O : List Addr} {H : Hp} {b : Bool} {Q : VK} (q : Gives g O H (.bool b) Q) : Q (.bl b) H := q _ _ (.refl _) (.bl b) (TopNew.imm rfl)
theorem Gives.lst {g : Gx} {O : List Addr} {H : Hp} {p : Addr} {vs : List V} {ds : List D} {Q : VK} (q : Gives g O H (.list ds) Q) (w : OwO O H) (hp : H p = none) (r : RpAll g (msk O H) vs ds) : Q (.ref p) (upd H p (.lst vs)) :=
  q _ _ (same_upd hp) (new_lst w hp r) (top_new hp)
theorem Gives.tup {g : Gx} {O : List Addr} {H : Hp} {p : Addr} {vs : List V} {ds : List D} {Q : VK} (q : Gives g O H (.tuple ds) Q) (w : OwO O H) (hp : H p = none) (r : RpAll g (msk O H) vs ds) : Q (.ref p) (upd H p (.tup vs)) :=
  q _ _ (same_upd hp) (new_tup w hp r) (top_new hp)

def rBin (g : Gx) (f : D → D → Option D) : R2 := fun x y H Q => ∃ O d e z, OwO O H ∧ Rt g H O x d ∧ Rt g H O y e ∧ f d e = some z ∧ Gives g O H z Q
section
variable {g : Gx} {X : Cx}
theorem op_dAdd : OpR X (binaryOp .Add) (rBin g bAdd) := by
  intro pins s σ H x y v u Q I rx ry h
  obtain ⟨O, d, e, z, ow, hd, he, hz, q⟩ := h
  unfold bAdd at hz
  split at hz
  · cases hz
    exact op_add pins s σ H x y v u Q I rx ry ⟨_, _, hd.int, he.int, q.int⟩
  · split at hz
    · rename_i hs
      cases hz
      obtain ⟨a, vs, rfl, ha, ra, pa⟩ := hd.tup
      obtain ⟨b, ws, rfl, hb, rb, pb⟩ := he.tup
      refine op_catA pins s σ H _ _ v u Q I rx ry ⟨a, b, vs, ws, rfl, rfl, .of ha, .of hb, by rw [ra.length, rb.length]; exact hs, ?_⟩
      refine ⟨fun e => ?_, fun n1 e => ?_, fun n1 n2 p hp => q.tup ow hp (ra.append rb)⟩
      · subst e
        have e0 := ra.length
        rename_i aa bb
        have : aa = [] := by
          cases aa with
          | nil => rfl
          | cons _ _ => simp at e0
        subst this
        exact q _ _ (.refl _) pb (top_no rfl (by simp [hand]))
      · subst e
        have e0 := rb.length
        rename_i aa bb
        have : bb = [] := by
          cases bb with
          | nil => rfl
          | cons _ _ => simp at e0
        subst this
        rw [List.append_nil] at q
        exact q _ _ (.refl _) pa (top_no rfl (by simp [hand]))
    · cases hz
  · split at hz
    · rename_i hs
      cases hz
      obtain ⟨a, vs, rfl, ha, ra⟩ := hd.lst
      obtain ⟨b, ws, rfl, hb, rb⟩ := he.lst
      refine op_cat pins s σ H _ _ v u Q I rx ry ⟨a, b, vs, ws, rfl, rfl, ha, hb, by rw [ra.length, rb.length]; exact hs, fun p hp => q.lst ow hp (ra.append rb)⟩
    · cases hz
  · cases hz
theorem op_dSub : OpR X (binaryOp .Sub) (rBin g bSub) := by
  intro pins s σ H x y v u Q I rx ry h
  obtain ⟨O, d, e, z, ow, hd, he, hz, q⟩ := h
  unfold bSub at hz
  split at hz
  · cases hz
    exact op_sub pins s σ H x y v u Q I rx ry ⟨_, _, hd.int, he.int, q.int⟩
  · cases hz
theorem op_dMul : OpR X (binaryOp .Mult) (rBin g bMul) := by
  intro pins s σ H x y v u Q I rx ry h
  obtain ⟨O, d, e, z, ow, hd, he, hz, q⟩ := h
  unfold bMul at hz
  split at hz
  · split at hz
    · rename_i hs
      cases hz
      exact op_mul pins s σ H x y v u Q I rx ry ⟨_, _, hd.int, he.int, hs, q.int⟩
    · cases hz
  · split at hz
    · rename_i hs
      cases hz
      obtain ⟨a, vs, rfl, ha, ra⟩ := hd.lst
      have ey := he.int
      refine op_rep pins s σ H _ _ v u Q I rx ry ⟨a, _, vs, rfl, ey, ha, hs.1, hs.2.1, by rw [ra.length]; exact hs.2.2, fun p hp => q.lst ow hp (ra.rep _)⟩
    · cases hz
  · split at hz
    · rename_i aa kk hs
      cases hz
      obtain ⟨a, vs, rfl, ha, ra, pa⟩ := hd.tup
      have ey := he.int
      refine op_repT pins s σ H _ _ v u Q I rx ry ⟨a, _, vs, rfl, ey, .of ha, ?_⟩
      have e0 := ra.length
      refine ⟨fun e => ?_, hs.2.1, hs.2.2.1, by rw [e0]; exact hs.2.2.2, fun p hp => q.tup ow hp (ra.rep _)⟩
      subst e
      cases aa with
      | nil => exact hs.1 rfl
      | cons _ _ => simp at e0
    · cases hz
  · cases hz
theorem op_dFdiv : OpR X (binaryOp .FloorDiv) (rBin g bFdiv) := by
  intro pins s σ H x y v u Q I rx ry h
  obtain ⟨O, d, e, z, ow, hd, he, hz, q⟩ := h
  unfold bFdiv at hz
  split at hz
  · split at hz
    · rename_i hs
      cases hz
      exact op_fdivN pins s σ H x y v u Q I rx ry ⟨_, _, hd.int, he.int, hs, q.int⟩
    · cases hz
  · cases hz
theorem op_dMod : OpR X (binaryOp .Mod) (rBin g bMod) := by
  intro pins s σ H x y v u Q I rx ry h
  obtain ⟨O, d, e, z, ow, hd, he, hz, q⟩ := h
  unfold bMod at hz
  split at hz
  · split at hz
    · rename_i hs
      cases hz
      exact op_modN pins s σ H x y v u Q I rx ry ⟨_, _, hd.int, he.int, hs, q.int⟩
    · cases hz
  · cases hz
theorem op_dPow : OpR X (binaryOp .Pow) (rBin g bPow) := by
  intro pins s σ H x y v u Q I rx ry h
  obtain ⟨O, d, e, z, ow, hd, he, hz, q⟩ := h
  unfold bPow at hz
  split at hz
  · split at hz
    · rename_i hs
      cases hz
      exact op_pow pins s σ H x y v u Q I rx ry ⟨_, _, hd.int, he.int, hs, q.int⟩
    · cases hz
  · cases hz
theorem op_dShl : OpR X (binaryOp .LShift) (rBin g bShl) := by
  intro pins s σ H x y v u Q I rx ry h
  obtain ⟨O, d, e, z, ow, hd, he, hz, q⟩ := h
  unfold bShl at hz
  split at hz
  · split at hz
    · rename_i hs
      cases hz
      exact op_shl pins s σ H x y v u Q I rx ry ⟨_, _, hd.int, he.int, hs, q.int⟩
    · cases hz
  · cases hz
theorem op_bin {op : Op} {o : Operator} (h : opB op o = true) : OpR X (binaryOp o) (rBin g (binD op)) := by
  unfold opB at h
  split at h
  · exact op_dAdd
  · exact op_dSub
  · exact op_dMul
  · exact op_dFdiv
  · exact op_dMod
  · exact op_dPow
  · exact op_dShl
  · cases h

/-! ### comparisons -/
def rCmp (g : Gx) (f : D → D → Option Bool) : R2 := fun x y H Q => ∃ O d e k, Rt g H O x d ∧ Rt g H O y e ∧ f d e = some k ∧ Q (.bl k) H
theorem room32 {n : Nat} (hr : Room n X.A) {d e : D} (h : smallD d = true) : X.A.units + min d.depth e.depth < cLine := by
  have h1 := hr.units
  have h2 : d.depth ≤ 32 := by simpa [smallD] using h
  have h3 : min d.depth e.depth ≤ d.depth := Nat.min_le_left _ _
  omega
theorem fin_bool {pins : List (Addr × Obj)} {σ : L2.St} {H : Hp} {s : Shared} {k : Bool} {Q : VK} (I : Inv X pins σ H s) (q : Q (.bl k) H) : EP X pins σ Q (.bool k) s := ⟨.bl k, H, I, rfl, q⟩
section
variable {n : Nat} (hr : Room n X.A)
include hr
theorem op_dEq : OpR X (compareOp .Eq) (rCmp g (cmpD .eq)) := by
  intro pins s σ H x y v u Q I rx ry h
  obtain ⟨O, d, e, k, hd, he, hz, q⟩ := h
  unfold cmpD at hz
  dsimp only at hz
  split at hz
  · rename_i c
    simp only [Bool.and_eq_true] at c
    cases hz
    obtain ⟨as, r1⟩ := hd.rp.reads I c.1.1 rx
    obtain ⟨bs, r2⟩ := he.rp.reads I c.1.2 ry
    exact PySem.SeqAt.eq_plain r1 r2 c.1.1 c.1.2 (room32 hr c.2) (fin_bool I q)
  · cases hz
theorem op_dNe : OpR X (compareOp .NotEq) (rCmp g (cmpD .ne)) := by
  intro pins s σ H x y v u Q I rx ry h
  obtain ⟨O, d, e, k, hd, he, hz, q⟩ := h
  unfold cmpD at hz
  dsimp only at hz
  split at hz
  · rename_i c
    simp only [Bool.and_eq_true] at c
    cases hz
    obtain ⟨as, r1⟩ := hd.rp.reads I c.1.1 rx
    obtain ⟨bs, r2⟩ := he.rp.reads I c.1.2 ry
    exact PySem.SeqAt.ne_plain r1 r2 c.1.1 c.1.2 (room32 hr c.2) (fin_bool I q)
  · cases hz
omit hr in
theorem ordOk_of {d e : D} (c : ordOk d e = true) : PySem.W.alike d e = true ∧ smallD d = true ∧ d.plain = true ∧ e.plain = true ∧ d ≠ .none := by
  unfold ordOk at c
  simp only [Bool.and_eq_true] at c
  refine ⟨c.1.1.1.1, c.1.1.1.2, c.1.1.2, c.1.2, fun z => ?_⟩
  subst z
  exact absurd c.2 (by decide)
theorem op_dLt : OpR X (compareOp .Lt) (rCmp g (cmpD .lt)) := by
  intro pins s σ H x y v u Q I rx ry h
  obtain ⟨O, d, e, k, hd, he, hz, q⟩ := h
  unfold cmpD at hz
  dsimp only at hz
  split at hz
  · rename_i c
    obtain ⟨c1, c2, c3, c4, c5⟩ := ordOk_of c
    cases hz
    obtain ⟨as, r1⟩ := hd.rp.reads I c3 rx
    obtain ⟨bs, r2⟩ := he.rp.reads I c4 ry
    exact PySem.W.lt_data r1 r2 c1 c5 (room32 hr c2) (fin_bool I q)
  · cases hz
theorem op_dGt : OpR X (compareOp .Gt) (rCmp g (cmpD .gt)) := by
  intro pins s σ H x y v u Q I rx ry h
  obtain ⟨O, d, e, k, hd, he, hz, q⟩ := h
  unfold cmpD at hz
  dsimp only at hz
  split at hz
  · rename_i c
    obtain ⟨c1, c2, c3, c4, c5⟩ := ordOk_of c
    cases hz
    obtain ⟨as, r1⟩ := hd.rp.reads I c3 rx
    obtain ⟨bs, r2⟩ := he.rp.reads I c4 ry
    exact PySem.W.gt_data r1 r2 c1 c5 (room32 hr c2) (fin_bool I q)
  · cases hz
theorem op_dLe : OpR X (compareOp .LtE) (rCmp g (cmpD .le)) := by
  intro pins s σ H x y v u Q I rx ry h
  obtain ⟨O, d, e, k, hd, he, hz, q⟩ := h
  unfold cmpD at hz
  dsimp only at hz
  split at hz
  · rename_i c
    obtain ⟨c1, c2, c3, c4, c5⟩ := ordOk_of c
    cases hz
    obtain ⟨as, r1⟩ := hd.rp.reads I c3 rx
    obtain ⟨bs, r2⟩ := he.rp.reads I c4 ry
    exact PySem.W.le_data r1 r2 c1 c5 (room32 hr c2) (fin_bool I q)
  · cases hz
theorem op_dGe : OpR X (compareOp .GtE) (rCmp g (cmpD .ge)) := by
  intro pins s σ H x y v u Q I rx ry h
  obtain ⟨O, d, e, k, hd, he, hz, q⟩ := h
  unfold cmpD at hz
  dsimp only at hz
  split at hz
  · rename_i c
    obtain ⟨c1, c2, c3, c4, c5⟩ := ordOk_of c
    cases hz
    obtain ⟨as, r1⟩ := hd.rp.reads I c3 rx
    obtain ⟨bs, r2⟩ := he.rp.reads I c4 ry
    exact PySem.W.ge_data r1 r2 c1 c5 (room32 hr c2) (fin_bool I q)
  · cases hz
omit hr in
theorem op_dIs : OpR X (compareOp .Is) (rCmp g (cmpD .is_)) := by
  intro pins s σ H x y v u Q I rx ry h
  obtain ⟨O, d, e, k, hd, he, hz, q⟩ := h
  unfold cmpD cIs at hz
  dsimp only at hz
  split at hz
  · cases hz; exact op_isN pins s σ H x y v u Q I rx ry ⟨he.non, by rw [hd.non]; exact q⟩
  · cases hz; exact op_isN pins s σ H x y v u Q I rx ry ⟨he.non, by rw [hd.bool]; exact q⟩
  · cases hz; exact op_isN pins s σ H x y v u Q I rx ry ⟨he.non, by rw [hd.int]; exact q⟩
  · cases hz; exact op_isN pins s σ H x y v u Q I rx ry ⟨he.non, by rw [hd.str]; exact q⟩
  · cases hz
    obtain ⟨a, vs, rfl, _⟩ := hd.lst
    exact op_isN pins s σ H _ y v u Q I rx ry ⟨he.non, q⟩
  · cases hz
    obtain ⟨a, vs, rfl, _⟩ := hd.tup
    exact op_isN pins s σ H _ y v u Q I rx ry ⟨he.non, q⟩
  · cases hz
    exact op_is_bl pins s σ H x y v u Q I rx ry ⟨_, _, hd.bool, he.bool, by
      rename_i a b
      cases a <;> cases b <;> exact q⟩
  · cases hz
omit hr in
theorem op_dIsNot : OpR X (compareOp .IsNot) (rCmp g (cmpD .isnot)) := by
  intro pins s σ H x y v u Q I rx ry h
  obtain ⟨O, d, e, k, hd, he, hz, q⟩ := h
  unfold cmpD cIs at hz
  dsimp only at hz
  split at hz
  · cases hz; exact op_notN pins s σ H x y v u Q I rx ry ⟨he.non, by rw [hd.non]; exact q⟩
  · cases hz; exact op_notN pins s σ H x y v u Q I rx ry ⟨he.non, by rw [hd.bool]; exact q⟩
  · cases hz; exact op_notN pins s σ H x y v u Q I rx ry ⟨he.non, by rw [hd.int]; exact q⟩
  · cases hz; exact op_notN pins s σ H x y v u Q I rx ry ⟨he.non, by rw [hd.str]; exact q⟩
  · cases hz
    obtain ⟨a, vs, rfl, _⟩ := hd.lst
    exact op_notN pins s σ H _ y v u Q I rx ry ⟨he.non, q⟩
  · cases hz
    obtain ⟨a, vs, rfl, _⟩ := hd.tup
    exact op_notN pins s σ H _ y v u Q I rx ry ⟨he.non, q⟩
  · cases hz
    exact op_isnot_bl pins s σ H x y v u Q I rx ry ⟨_, _, hd.bool, he.bool, by
      rename_i a b
      cases a <;> cases b <;> exact q⟩
  · cases hz
end
end
end DL
set_option Elab.async false
set_option linter.all false
set_option maxRecDepth 100000
/-! DL5: membership, subscripts, slices, built-in calls over data. -/
namespace DL
open PySem PySem.Spec PyProof.Rows L2

/-- the world that g tells is the context's -/
structure Gx.Of (g : Gx) (X : Cx) : Prop where
  P : g.P = X.prog
  w : g.w = X.w
  K : g.K = X.K

section
variable {g : Gx} {X : Cx} {pins : List (Addr × Obj)} {σ : L2.St} {H : Hp} {s : Shared}
/-! ### keys -/
mutual
theorem nested_of (I : Inv X pins σ H s) : ∀ {v : V} {d : D} {u : Value} {k : NestedKey}, Rp g H v d → nkey d = some k → RelV v u → NestedIs s.heap k u
  | _, _, _, _, .non, e, r => by
    cases r; simp only [nkey, Option.some.injEq] at e; subst e; exact .none
  | _, _, _, _, .bl b, e, r => by
    cases r; simp only [nkey, Option.some.injEq] at e; subst e; exact .bool rfl
  | _, _, _, _, .int i, e, r => by
    obtain ⟨t, rfl⟩ := r; simp only [nkey, Option.some.injEq] at e; subst e; exact .int _ _
  | _, _, _, _, .str x, e, r => by
    obtain ⟨t, rfl⟩ := r; simp only [nkey, Option.some.injEq] at e; subst e; exact .text _ _
  | _, _, _, _, .lst h q, e, r => by simp [nkey] at e
  | _, _, _, _, .tup h q, e, r => by
    cases r
    simp only [nkey, Option.map_eq_some_iff] at e
    obtain ⟨ks, e1, rfl⟩ := e
    obtain ⟨_, its, rv, o, h1, h2, n, h3⟩ := I.hok _ _ h
    exact .tup h1 h2 h3 (nesteds_of I q e1 rv)
  | _, _, _, _, .fam h hp hl r', e, r => by simp [nkey] at e
  | _, _, _, _, .hnd h hc hn, e, r => by simp [nkey] at e
  | _, _, _, _, .fn k, e, r => by simp [nkey] at e
  | _, _, _, _, .scr h hl, e, r => by simp [nkey] at e
  | _, _, _, _, .dct h q, e, r => by simp [nkey] at e
theorem nesteds_of (I : Inv X pins σ H s) : ∀ {v : List V} {d : List D} {u : List Value} {k : List NestedKey}, RpAll g H v d → nkeys d = some k → Vals v u → NestedAll s.heap k u
  | _, _, _, _, .nil, e, r => by
    cases r; simp only [nkeys, Option.some.injEq] at e; subst e; exact .nil
  | _, _, _, _, .cons h q, e, r => by
    cases r with
    | cons r1 r2 =>
      simp only [nkeys] at e
      split at e
      · rename_i k ks e1 e2
        cases e
        exact .cons (nested_of I h e1 r1) (nesteds_of I q e2 r2)
      · cases e
end
theorem keyOk_of {d : D} (h : keyOk d = true) : ∃ xs k, d = .tuple xs ∧ nkey d = some k ∧ k.depth ≤ 8 := by
  unfold keyOk at h
  simp only [Bool.and_eq_true] at h
  obtain ⟨h1, h2⟩ := h
  cases d with
  | tuple xs =>
    cases e : nkey (.tuple xs) with
    | none => rw [e] at h2; cases h2
    | some k => rw [e] at h2; exact ⟨xs, k, rfl, rfl, by simpa using h2⟩
  | _ => cases h1
theorem atKey_of {M : Hp} {k : NestedKey} {d : D} (hk : nkey d = some k) : ∀ {xs : List (NestedKey × Addr × Value)} {kvs : List (D × D)}, RpKV g M xs kvs →
    (dctGet kvs d = none ∧ atKey xs k = none) ∨ ∃ z b u v, dctGet kvs d = some z ∧ atKey xs k = some (b, u) ∧ RelV v u ∧ Rp g M v z
  | _, _, .nil => .inl ⟨rfl, rfl⟩
  | _, _, @RpKV.cons _ _ k' b u v kd vd xs kvs hk' ek hd ru hv r => by
    by_cases e : k' = k
    · subst e
      have e2 : nkey kd = nkey d := by rw [ek, hk]
      exact .inr ⟨vd, b, u, v, by simp [dctGet, e2], by simp [atKey], ru, hv⟩
    · have e2 : ¬ nkey kd = nkey d := by rw [ek, hk]; intro z; exact e (Option.some.inj z)
      rcases atKey_of hk r with ⟨h1, h2⟩ | ⟨z, b', u', v', h1, h2, h3, h4⟩
      · exact .inl ⟨by simpa [dctGet, e2] using h1, by simpa [atKey, e] using h2⟩
      · exact .inr ⟨z, b', u', v', by simpa [dctGet, e2] using h1, by simpa [atKey, e] using h2, h3, h4⟩
theorem kv_is (I : Inv X pins σ H s) {M : Hp} (m : Same M H) : ∀ {xs : List (NestedKey × Addr × Value)} {kvs : List (D × D)}, RpKV g M xs kvs → ∀ x ∈ xs, (nestedKind X.prog X.w).is s.heap x.1 x.2.1
  | _, _, .nil, x, hx => by cases hx
  | _, _, @RpKV.cons _ _ k' b u v kd vd xs kvs hk' ek hd ru hv r, x, hx => by
    rcases List.mem_cons.mp hx with rfl | hx
    · exact ⟨nested_of I (hk'.mono m) ek rfl, hd⟩
    · exact kv_is I m r x hx
theorem Inv.dct (I : Inv X pins σ H s) (gx : g.Of X) {a : Addr} {M : Hp} (m : Same M H) {xs : List (NestedKey × Addr × Value)} {kvs : List (D × D)} (h : H a = some (DctO g a xs)) (r : RpKV g M xs kvs) :
    xs.length ≤ sizeLine ∧ (a == sysModules) = false ∧ s.heap.DictOfH (nestedKind X.prog X.w) a xs := by
  obtain ⟨⟨z, y, o, es, ep, h1, h2, h3, h4, h5⟩, _, _⟩ := I.hok _ _ h
  rw [gx.P, gx.w] at h4
  exact ⟨z, y, o, es, ep, h1, h2, h3, h4, kv_is I m r, h5⟩
theorem Rt.dct {O : List Addr} {v : V} {kvs : List (D × D)} (h : Rt g H O v (.dict ((.none, .none) :: kvs))) : ∃ a xs, v = .ref a ∧ H a = some (DctO g a xs) ∧ RpKV g (msk O H) xs kvs := by
  rcases h with h | ⟨a, rfl, m, h⟩
  · cases h with
    | dct h r => exact ⟨_, _, rfl, (msk_some h).2, r⟩
  · cases h with
    | dct h r => exact ⟨_, _, rfl, h, r⟩
theorem Rt.key {O : List Addr} {v : V} {d : D} (I : Inv X pins σ H s) (h : Rt g H O v d) (hk : keyOk d = true) : ∃ b k, v = .ref b ∧ nkey d = some k ∧ (nestedKind X.prog X.w).is s.heap k b := by
  obtain ⟨xs, k, rfl, e, hd⟩ := keyOk_of hk
  obtain ⟨b, vs, rfl, hb, rb, pb⟩ := h.tup
  exact ⟨b, k, rfl, e, nested_of I (pb.mono (msk_same O)) e rfl, hd⟩
theorem room8 {n : Nat} (hr : Room n X.A) : (nestedKind X.prog X.w).room X.A.in1 := by
  have := hr.units
  show X.A.units + 1 + 8 < cLine
  omega
end

section
variable {g : Gx} {X : Cx} {n : Nat} (hr : Room n X.A) (gx : g.Of X)
include hr gx
theorem op_dIn : OpR X (compareOp .In) (rCmp g (cmpD .isin)) := by
  intro pins s σ H x y v u Q I rx ry h
  obtain ⟨O, d, e, k, hd, he, hz, q⟩ := h
  unfold cmpD cIn at hz
  dsimp only at hz
  split at hz
  · split at hz
    · rename_i c
      simp only [Bool.and_eq_true] at c
      cases hz
      rw [Bool.false_xor] at q
      obtain ⟨as, r1⟩ := hd.rp.reads I c.1.1 rx
      obtain ⟨bs, r2⟩ := he.rp.reads I (by simpa [PyData.plain] using c.1.2) ry
      refine PySem.SeqAt.in_list_data r2 r1 c.1.2 c.1.1 ?_ (fin_bool I q)
      have h1 := hr.units
      have h2 := c.2
      simp only [smallD, decide_eq_true_eq] at h2
      have h3 := Nat.min_le_right (PyData.depthAll ‹List PyData›) ‹D›.depth
      omega
    · cases hz
  · split at hz
    · rename_i c
      simp only [Bool.and_eq_true] at c
      cases hz
      rw [Bool.false_xor] at q
      obtain ⟨as, r1⟩ := hd.rp.reads I c.1.1 rx
      obtain ⟨bs, r2⟩ := he.rp.reads I (by simpa [PyData.plain] using c.1.2) ry
      refine PySem.SeqAt.in_tuple_data r2 r1 c.1.2 c.1.1 ?_ (fin_bool I q)
      have h1 := hr.units
      have h2 := c.2
      simp only [smallD, decide_eq_true_eq] at h2
      have h3 := Nat.min_le_right (PyData.depthAll ‹List PyData›) ‹D›.depth
      omega
    · cases hz
  · split at hz
    · rename_i c
      cases hz
      rw [Bool.false_xor] at q
      obtain ⟨b, kk, rfl, ek, hkk⟩ := hd.key I c
      obtain ⟨a, xs, rfl, ha, ra⟩ := he.dct
      obtain ⟨z1, z2, z3⟩ := Inv.dct I gx (msk_same O) ha ra
      cases rx; cases ry
      refine wpAny_in_heap (room8 hr) hkk z2 z3 ?_
      refine ⟨.bl (atKey xs kk).isSome, H, I.tok _, rfl, ?_⟩
      rcases atKey_of ek ra with ⟨h1, h2⟩ | ⟨z, b', u', v', h1, h2, h3, h4⟩
      · rw [h1] at q; rw [h2]; exact q
      · rw [h1] at q; rw [h2]; exact q
    · cases hz
  · cases hz
theorem op_dNotIn : OpR X (compareOp .NotIn) (rCmp g (cmpD .notin)) := by
  intro pins s σ H x y v u Q I rx ry h
  obtain ⟨O, d, e, k, hd, he, hz, q⟩ := h
  unfold cmpD cIn at hz
  dsimp only at hz
  split at hz
  · split at hz
    · rename_i c
      simp only [Bool.and_eq_true] at c
      cases hz
      rw [Bool.true_xor] at q
      obtain ⟨as, r1⟩ := hd.rp.reads I c.1.1 rx
      obtain ⟨bs, r2⟩ := he.rp.reads I (by simpa [PyData.plain] using c.1.2) ry
      refine PySem.SeqAt.notIn_list_data r2 r1 c.1.2 c.1.1 ?_ (fin_bool I q)
      have h1 := hr.units
      have h2 := c.2
      simp only [smallD, decide_eq_true_eq] at h2
      have h3 := Nat.min_le_right (PyData.depthAll ‹List PyData›) ‹D›.depth
      omega
    · cases hz
  · split at hz
    · rename_i c
      simp only [Bool.and_eq_true] at c
      cases hz
      rw [Bool.true_xor] at q
      obtain ⟨as, r1⟩ := hd.rp.reads I c.1.1 rx
      obtain ⟨bs, r2⟩ := he.rp.reads I (by simpa [PyData.plain] using c.1.2) ry
      refine PySem.SeqAt.notIn_tuple_data r2 r1 c.1.2 c.1.1 ?_ (fin_bool I q)
      have h1 := hr.units
      have h2 := c.2
      simp only [smallD, decide_eq_true_eq] at h2
      have h3 := Nat.min_le_right (PyData.depthAll ‹List PyData›) ‹D›.depth
      omega
    · cases hz
  · split at hz
    · rename_i c
      cases hz
      rw [Bool.true_xor] at q
      obtain ⟨b, kk, rfl, ek, hkk⟩ := hd.key I c
      obtain ⟨a, xs, rfl, ha, ra⟩ := he.dct
      obtain ⟨z1, z2, z3⟩ := Inv.dct I gx (msk_same O) ha ra
      cases rx; cases ry
      refine wpAny_notIn_heap (room8 hr) hkk z2 z3 ?_
      refine ⟨.bl (!(atKey xs kk).isSome), H, I.tok _, rfl, ?_⟩
      rcases atKey_of ek ra with ⟨h1, h2⟩ | ⟨z, b', u', v', h1, h2, h3, h4⟩
      · rw [h1] at q; rw [h2]; exact q
      · rw [h1] at q; rw [h2]; exact q
    · cases hz
  · cases hz
theorem op_cmp {op : Cm} {o : CmpOp} (h : cmB op o = true) : OpR X (compareOp o) (rCmp g (cmpD op)) := by
  unfold cmB at h
  split at h
  · exact op_dEq hr
  · exact op_dNe hr
  · exact op_dLt hr
  · exact op_dLe hr
  · exact op_dGt hr
  · exact op_dGe hr
  · exact op_dIn hr gx
  · exact op_dNotIn hr gx
  · exact op_dIs
  · exact op_dIsNot
  · cases h

/-! ### subscripts -/
def rIdx (g : Gx) : R2 := fun x y H Q => ∃ O d e z, OwO O H ∧ Rt g H O x d ∧ Rt g H O y e ∧ idxD d e = some z ∧ ∀ v, Rp g (msk O H) v z → Q v H
theorem ix_dct : IxR X (fun x y H Q => ∃ O kvs e z, Rt g H O x (.dict ((.none, .none) :: kvs)) ∧ Rt g H O y e ∧ keyOk e = true ∧ dctGet kvs e = some z ∧ ∀ v, Rp g (msk O H) v z → Q v H) := by
  intro value slice pins s σ H x y v u Q I rx ry h hs
  obtain ⟨O, kvs, e, z, hx, hy, ke, hz, q⟩ := h
  obtain ⟨b, kk, rfl, ek, hkk⟩ := hy.key I ke
  obtain ⟨a, xs, rfl, ha, ra⟩ := hx.dct
  obtain ⟨z1, z2, z3⟩ := Inv.dct I gx (msk_same O) ha ra
  cases rx; cases ry
  rcases atKey_of ek ra with ⟨h1, h2⟩ | ⟨z', b', u', v', h1, h2, h3, h4⟩
  · rw [h1] at hz; cases hz
  · rw [h1] at hz; cases hz
    exact tail_any z3.typeIs slot_dict_getitem.lookup (wpAny_getItem_heap (room8 hr) hkk z3 h2 ⟨v', H, I.tok _, h3, q _ h4⟩) hs
theorem ix_any : IxR X (rIdx g) := by
  intro value slice pins s σ H x y v u Q I rx ry h hs
  obtain ⟨O, d, e, z, ow, hd, he, hz, q⟩ := h
  unfold idxD at hz
  split at hz
  · obtain ⟨a, vs, rfl, ha, ra⟩ := hd.lst
    have ey := he.int
    unfold atD at hz
    have hl := ra.length
    have hz' : (ixN vs.length ‹Int›).bind (fun j => (‹List D›)[j]?) = some z := by rw [hl]; exact hz
    cases e1 : ixN vs.length ‹Int› with
    | none => rw [e1] at hz'; cases hz'
    | some j =>
      rw [e1] at hz'
      obtain ⟨w, hw, rw'⟩ := ra.get hz'
      exact ix_list value slice pins s σ H _ y v u Q I rx ry ⟨a, vs, _, w, rfl, ey, .of ha, by unfold atI; rw [e1]; exact hw, q _ rw'⟩ hs
  · obtain ⟨a, vs, rfl, ha, ra, _⟩ := hd.tup
    have ey := he.int
    unfold atD at hz
    have hl := ra.length
    have hz' : (ixN vs.length ‹Int›).bind (fun j => (‹List D›)[j]?) = some z := by rw [hl]; exact hz
    cases e1 : ixN vs.length ‹Int› with
    | none => rw [e1] at hz'; cases hz'
    | some j =>
      rw [e1] at hz'
      obtain ⟨w, hw, rw'⟩ := ra.get hz'
      exact ix_tup value slice pins s σ H _ y v u Q I rx ry ⟨a, vs, _, w, rfl, ey, .of ha, by unfold atI; rw [e1]; exact hw, q _ rw'⟩ hs
  · split at hz
    · exact ix_dct hr gx value slice pins s σ H x y v u Q I rx ry ⟨O, _, _, z, hd, he, by assumption, hz, q⟩ hs
    · cases hz
  · cases hz
omit hr gx in
theorem cut_rp {M : Hp} {vs : List V} {ds : List D} (r : RpAll g M vs ds) (lo hi : Option Int) : RpAll g M (cutV vs lo hi) (cutD ds lo hi) := by
  unfold cutV cutD
  rw [r.length]
  exact (r.drop _).take _
def rSlice (g : Gx) : V → Option Int → Option Int → Hp → VK → Prop := fun x lo hi H Q => ∃ O d z, OwO O H ∧ Rt g H O x d ∧ slD d lo hi = some z ∧ Gives g O H z Q
omit hr gx in
theorem sl_any : SlR X (rSlice g) := by
  intro pins s σ H x v vl vu lo hi sl Q I rx hs pl pu h
  obtain ⟨O, d, z, ow, hd, hz, q⟩ := h
  unfold slD at hz
  split at hz
  · cases hz
    obtain ⟨a, vs, rfl, ha, ra⟩ := hd.lst
    exact sl_list pins s σ H _ v vl vu lo hi sl Q I rx hs pl pu ⟨a, vs, rfl, .of ha, fun p hp => q.lst ow hp (cut_rp ra lo hi)⟩
  · cases hz
    obtain ⟨a, vs, rfl, ha, ra, pa⟩ := hd.tup
    refine sl_tupA pins s σ H _ v vl vu lo hi sl Q I rx hs pl pu ⟨a, vs, rfl, .of ha, fun hw => ?_, fun hw p hp => q.tup ow hp (cut_rp ra lo hi)⟩
    rename_i ds
    have e : cutD ds lo hi = ds := by
      unfold cutD
      rw [← ra.length, hw.1, hw.2, List.drop_zero, Nat.sub_zero, ra.length, List.take_length]
    rw [e] at q
    exact q _ _ (.refl _) pa (top_no rfl (by simp [hand]))
  · cases hz

/-! ### built-in calls -/
/-- values as they come, item by item -/
inductive RtAll (g : Gx) (H : Hp) (O : List Addr) : List V → List D → Prop
  | nil : RtAll g H O [] []
  | cons {v : V} {vs : List V} {d : D} {ds : List D} (h : Rt g H O v d) (r : RtAll g H O vs ds) : RtAll g H O (v :: vs) (d :: ds)
omit hr gx in
theorem RtAll.go {H H' : Hp} {O : List Addr} (s : Same H H') : ∀ {vs : List V} {ds : List D}, RtAll g H O vs ds → RtAll g H' O vs ds
  | _, _, .nil => .nil
  | _, _, .cons h r => .cons (h.go s) (r.go s)
omit hr gx in
theorem RtAll.one {H : Hp} {O : List Addr} {vs : List V} {d : D} (r : RtAll g H O vs [d]) : ∃ v, vs = [v] ∧ Rt g H O v d := by
  cases r with
  | cons h r => cases r; exact ⟨_, rfl, h⟩
omit hr gx in
theorem RtAll.rp {H : Hp} {O : List Addr} : ∀ {vs : List V} {ds : List D}, RtAll g H O vs ds → RpAll g H vs ds
  | _, _, .nil => .nil
  | _, _, .cons h r => .cons h.rp r.rp
omit hr gx in
theorem RtAll.length {H : Hp} {O : List Addr} : ∀ {vs : List V} {ds : List D}, RtAll g H O vs ds → vs.length = ds.length
  | _, _, .nil => rfl
  | _, _, .cons h r => by rw [List.length_cons, List.length_cons, r.length]
def rBi (g : Gx) (f : List D → Option D) : List V → Hp → VK → Prop := fun vs H Q => ∃ O ds z, OwO O H ∧ RtAll g H O vs ds ∧ f ds = some z ∧ Gives g O H z Q
omit hr gx in
theorem cr_dLen : CallR X (.builtin "len") (rBi g fLen) := by
  intro pins s σ H vs us Q I r h
  obtain ⟨O, ds, z, ow, rs, hz, q⟩ := h
  unfold fLen at hz
  split at hz
  · cases hz
    obtain ⟨v, rfl, h⟩ := rs.one
    obtain ⟨a, ws, rfl, ha, ra⟩ := h.lst
    rw [← ra.length] at q
    exact call_len_seq pins s σ H _ us Q I r ⟨a, ws, rfl, .inl (.of ha), q.int⟩
  · cases hz
    obtain ⟨v, rfl, h⟩ := rs.one
    obtain ⟨a, ws, rfl, ha, ra, _⟩ := h.tup
    rw [← ra.length] at q
    exact call_len_seq pins s σ H _ us Q I r ⟨a, ws, rfl, .inr (.of ha), q.int⟩
  · cases hz
omit hr gx in
theorem cr_dTuple : CallR X (.type "tuple") (rBi g fTuple) := by
  intro pins s σ H vs us Q I r h
  obtain ⟨O, ds, z, ow, rs, hz, q⟩ := h
  unfold fTuple at hz
  split at hz
  · cases hz
    obtain ⟨v, rfl, h⟩ := rs.one
    obtain ⟨a, ws, rfl, ha, ra⟩ := h.lst
    exact call_tuple_of pins s σ H _ us Q I r ⟨a, ws, rfl, .inl ⟨.of ha, fun p hp => q.tup ow hp ra⟩⟩
  · cases hz
    obtain ⟨v, rfl, h⟩ := rs.one
    obtain ⟨a, ws, rfl, ha, ra, pa⟩ := h.tup
    exact call_tuple_of pins s σ H _ us Q I r ⟨a, ws, rfl, .inr ⟨.of ha, q _ _ (.refl _) pa (top_no rfl (by simp [hand]))⟩⟩
  · cases hz
omit hr gx in
theorem cr_dList : CallR X (.type "list") (rBi g fList) := by
  intro pins s σ H vs us Q I r h
  obtain ⟨O, ds, z, ow, rs, hz, q⟩ := h
  unfold fList at hz
  split at hz
  · cases hz
    obtain ⟨v, rfl, h⟩ := rs.one
    obtain ⟨a, ws, rfl, ha, ra⟩ := h.lst
    exact call_list_of pins s σ H _ us Q I r ⟨a, ws, rfl, .inl (.of ha), fun p hp => q.lst ow hp ra⟩
  · cases hz
    obtain ⟨v, rfl, h⟩ := rs.one
    obtain ⟨a, ws, rfl, ha, ra, pa⟩ := h.tup
    exact call_list_of pins s σ H _ us Q I r ⟨a, ws, rfl, .inr (.of ha), fun p hp => q.lst ow hp ra⟩
  · cases hz
omit hr gx in
theorem cr_dAbs : CallR X (.builtin "abs") (rBi g fAbs) := by
  intro pins s σ H vs us Q I r h
  obtain ⟨O, ds, z, ow, rs, hz, q⟩ := h
  unfold fAbs at hz
  split at hz
  · cases hz
    obtain ⟨v, rfl, h⟩ := rs.one
    exact call_abs pins s σ H _ us Q I r ⟨_, by rw [h.int], q.int⟩
  · cases hz
omit hr gx in
theorem cr_dInt : CallR X (.type "int") (rBi g fInt) := by
  intro pins s σ H vs us Q I r h
  obtain ⟨O, ds, z, ow, rs, hz, q⟩ := h
  unfold fInt at hz
  split at hz
  · cases hz
    obtain ⟨v, rfl, h⟩ := rs.one
    exact call_int1 pins s σ H _ us Q I r (.inl ⟨_, by rw [h.int], q.int⟩)
  · cases hz
    obtain ⟨v, rfl, h⟩ := rs.one
    exact call_int1 pins s σ H _ us Q I r (.inr ⟨_, by rw [h.bool], q.int⟩)
  · cases hz
omit hr gx in
theorem allB_of {M : Hp} : ∀ {ds : List D} {b : Bool} {vs : List V}, allB ds = some b → RpAll g M vs ds → ∃ bs : List Bool, vs = bs.map V.bl ∧ b = bs.all id
  | [], b, _, h, .nil => ⟨[], rfl, by simpa [allB] using h.symm⟩
  | .bool x :: ds, b, _, h, .cons hv r => by
    simp only [allB, Option.map_eq_some_iff] at h
    obtain ⟨c, h1, rfl⟩ := h
    obtain ⟨bs, e1, e2⟩ := allB_of h1 r
    cases hv
    exact ⟨x :: bs, by rw [e1]; rfl, by rw [e2]; rfl⟩
omit hr gx in
theorem anyB_of {M : Hp} : ∀ {ds : List D} {b : Bool} {vs : List V}, anyB ds = some b → RpAll g M vs ds → ∃ bs : List Bool, vs = bs.map V.bl ∧ b = bs.any id
  | [], b, _, h, .nil => ⟨[], rfl, by simpa [anyB] using h.symm⟩
  | .bool x :: ds, b, _, h, .cons hv r => by
    simp only [anyB, Option.map_eq_some_iff] at h
    obtain ⟨c, h1, rfl⟩ := h
    obtain ⟨bs, e1, e2⟩ := anyB_of h1 r
    cases hv
    exact ⟨x :: bs, by rw [e1]; rfl, by rw [e2]; rfl⟩
omit hr gx in
theorem sumI_of {M : Hp} : ∀ {ds : List D} {b : Int} {vs : List V}, sumI ds = some b → RpAll g M vs ds → ∃ bs : List Int, vs = bs.map V.int ∧ b = bs.sum
  | [], b, _, h, .nil => ⟨[], rfl, by simpa [sumI] using h.symm⟩
  | .int x :: ds, b, _, h, .cons hv r => by
    simp only [sumI, Option.map_eq_some_iff] at h
    obtain ⟨c, h1, rfl⟩ := h
    obtain ⟨bs, e1, e2⟩ := sumI_of h1 r
    cases hv
    exact ⟨x :: bs, by rw [e1]; rfl, by rw [e2]; rfl⟩
omit hr gx in
theorem cr_dAll (hc : X.calm = true) : CallR X (.builtin "all") (rBi g fAll) := by
  intro pins s σ H vs us Q I r h
  obtain ⟨O, ds, z, ow, rs, hz, q⟩ := h
  unfold fAll at hz
  split at hz
  · simp only [Option.map_eq_some_iff] at hz
    obtain ⟨b, hz, rfl⟩ := hz
    obtain ⟨v, rfl, h⟩ := rs.one
    obtain ⟨a, ws, rfl, ha, ra⟩ := h.lst
    obtain ⟨bs, rfl, rfl⟩ := allB_of hz ra
    exact cr_all hc pins s σ H _ us Q I r ⟨a, bs, rfl, .of ha, q.bl⟩
  · cases hz
omit hr gx in
theorem cr_dAny (hc : X.calm = true) : CallR X (.builtin "any") (rBi g fAny) := by
  intro pins s σ H vs us Q I r h
  obtain ⟨O, ds, z, ow, rs, hz, q⟩ := h
  unfold fAny at hz
  split at hz
  · simp only [Option.map_eq_some_iff] at hz
    obtain ⟨b, hz, rfl⟩ := hz
    obtain ⟨v, rfl, h⟩ := rs.one
    obtain ⟨a, ws, rfl, ha, ra⟩ := h.lst
    obtain ⟨bs, rfl, rfl⟩ := anyB_of hz ra
    exact cr_any hc pins s σ H _ us Q I r ⟨a, bs, rfl, .of ha, q.bl⟩
  · cases hz
omit hr gx in
theorem cr_dSum (hc : X.calm = true) : CallR X (.builtin "sum") (rBi g fSum) := by
  intro pins s σ H vs us Q I r h
  obtain ⟨O, ds, z, ow, rs, hz, q⟩ := h
  unfold fSum at hz
  split at hz
  · simp only [Option.map_eq_some_iff] at hz
    obtain ⟨b, hz, rfl⟩ := hz
    obtain ⟨v, rfl, h⟩ := rs.one
    obtain ⟨a, ws, rfl, ha, ra⟩ := h.lst
    obtain ⟨bs, rfl, rfl⟩ := sumI_of hz ra
    exact cr_sum hc pins s σ H _ us Q I r ⟨a, bs, rfl, .of ha, q.int⟩
  · cases hz

/-! ### isinstance -/
omit hr gx in
theorem ty_of {O : List Addr} {H : Hp} {v : V} {d : D} (h : Rt g H O v d) (hd : ∀ kvs, d ≠ .dict kvs) : TyX X.K H v (PySem.W.dataType d) := by
  cases d with
  | none => rw [h.non]; exact .base .non
  | bool b => rw [h.bool]; exact .base (.bl b)
  | int i => rw [h.int]; exact .base (.int i)
  | str x => rw [h.str]; exact .base (.str x)
  | list xs =>
    obtain ⟨a, ws, rfl, ha, ra⟩ := h.lst
    exact .base (.lst ha)
  | tuple xs =>
    obtain ⟨a, ws, rfl, ha, ra, _⟩ := h.tup
    exact .base (.tup ha)
  | dict kvs => exact absurd rfl (hd kvs)
/-- isinstance(x, t), t a built-in class -/
def rIsT (g : Gx) (f : D → Bool) (t : String) : List V → Hp → VK → Prop := fun vs H Q => ∃ O v d, vs = [v, .ty t] ∧ Rt g H O v d ∧ (∀ kvs, d ≠ .dict kvs) ∧ Q (.bl (f d)) H
omit hr gx in
theorem cr_isT {f : D → Bool} {t : String} (hf : ∀ d : D, (∀ kvs, d ≠ .dict kvs) → PySem.W.kitOne X.K (PySem.W.dataType d) (.type t) = some (f d)) : CallR X (.builtin "isinstance") (rIsT g f t) := by
  intro pins s σ H vs us Q I r h
  obtain ⟨O, v, d, rfl, hv, hd, q⟩ := h
  exact call_isi pins s σ H _ us Q I r ⟨v, .ty t, _, _, f d, rfl, .ty t, ty_of hv hd, hf d hd, q⟩
omit hr gx in
theorem kit_isInt (d : D) (hd : ∀ kvs, d ≠ .dict kvs) : PySem.W.kitOne X.K (PySem.W.dataType d) (.type "int") = some (intOrB d) := by
  cases d with
  | dict kvs => exact absurd rfl (hd kvs)
  | _ => first | exact kit_ty (show kitB _ _ = some true by decide +kernel) | exact kit_ty (show kitB _ _ = some false by decide +kernel)
omit hr gx in
theorem kit_isBool (d : D) (hd : ∀ kvs, d ≠ .dict kvs) : PySem.W.kitOne X.K (PySem.W.dataType d) (.type "bool") = some (isBoolD d) := by
  cases d with
  | dict kvs => exact absurd rfl (hd kvs)
  | _ => first | exact kit_ty (show kitB _ _ = some true by decide +kernel) | exact kit_ty (show kitB _ _ = some false by decide +kernel)
omit hr gx in
theorem kit_isTup (d : D) (hd : ∀ kvs, d ≠ .dict kvs) : PySem.W.kitOne X.K (PySem.W.dataType d) (.type "tuple") = some (isTupD d) := by
  cases d with
  | dict kvs => exact absurd rfl (hd kvs)
  | _ => first | exact kit_ty (show kitB _ _ = some true by decide +kernel) | exact kit_ty (show kitB _ _ = some false by decide +kernel)
omit hr gx in
theorem kit_isStr (d : D) (hd : ∀ kvs, d ≠ .dict kvs) : PySem.W.kitOne X.K (PySem.W.dataType d) (.type "str") = some (isStrD d) := by
  cases d with
  | dict kvs => exact absurd rfl (hd kvs)
  | _ => first | exact kit_ty (show kitB _ _ = some true by decide +kernel) | exact kit_ty (show kitB _ _ = some false by decide +kernel)
end
end DL
set_option Elab.async false
set_option linter.all false
set_option maxRecDepth 100000
/-! DL6A: tuples, some of them perhaps (), can be sorted: what the sort finds out of its keys is only looked at, never changed. -/
namespace DL
open PySem PySem.W PySem.SeqAt PyProof.Rows
section
variable {M : Model} {h : Heap}
/-- a walk that only looks -/
theorem looks_mapM {α β : Type} {f : α → Sem β} {l : List α} {r : List β} (z : EachIs (fun x y => Looks M h (f x) y) l r) : Looks M h (l.mapM f) r := by
  induction z with
  | nil => exact List.mapM_nil (m := Sem) (f := f) ▸ Looks.now
  | cons one _ ih => exact List.mapM_cons (m := Sem) (f := f) ▸ one.andThen (ih.andThen Looks.now)
theorem looks_mapMA {α β : Type} {f : α → Sem β} {l : List α} {r : List β} (z : EachIs (fun x y => Looks M h (f x) y) l r) : Looks M h (l.toArray.mapM f) r.toArray := by
  have e : l.toArray.mapM f = (l.mapM f >>= fun y => pure y.toArray) := by
    rw [List.mapM_toArray, map_eq_pure_bind]
  rw [e]
  exact (looks_mapM z).andThen Looks.now
theorem looks_ite {α : Type} {c : Bool} {t e : Sem α} {r : α} (yes : c = true → Looks M h t r) (no : c = false → Looks M h e r) : Looks M h (if c = true then t else e) r := by
  cases c
  · exact no rfl
  · exact yes rfl
theorem looks_items {a : Addr} {o : Obj} {xs : Array Value} {n : Nat} (ho : h.get? a = some o) (hd : o.data = .seq xs n) : Looks M h (Builtin.List.listItems (.ref a)) xs :=
  fun _ _ _ _ k q => listItems_at (k _ _ ho) hd q
/-- v is a tuple's place; o: its first item, if there is one -/
inductive Head1 (h : Heap) : Value → Option Value → Prop
  | mk {a : Addr} {ob : Obj} {xs : Array Value} {n : Nat} : h.get? a = some ob → ob.cls = .type "tuple" → ob.data = .seq xs n → Head1 h (.ref a) xs[0]?
theorem Head1.type {v : Value} {o : Option Value} : Head1 h v o → Looks M h (typeOf v) (.type "tuple")
  | .mk at_ cls _ => cls ▸ (show Looks M h (typeOf (Value.ref _)) _ from (Looks.ld at_).andThen .now)
theorem Head1.first {v : Value} {o : Option Value} : Head1 h v o → Looks M h (firstOfTuple' v) o
  | .mk at_ cls data => by
    rw [kas_first_eq]
    refine (Head1.type (.mk at_ cls data)).andThen ?_
    exact (looks_items at_ data).andThen .now
def notNil : PyData → Bool
  | .tuple [] => false
  | _ => true
theorem heads_of {vs : List Value} {ds : List PyData} (z : EachIs (fun v d => ∃ as, Reads h v d as) vs ds) (tup : ∀ d ∈ ds, ∃ xs, d = .tuple xs) : ∃ os, EachIs (Head1 h) vs os ∧ os.map (·.isSome) = ds.map notNil := by
  induction z with
  | nil => exact ⟨[], .nil, rfl⟩
  | @cons v d vs ds one _ ih =>
    obtain ⟨os, z, e⟩ := ih fun x hx => tup x (.tail _ hx)
    obtain ⟨xs, rfl⟩ := tup d (.head _)
    obtain ⟨as, r⟩ := one
    cases r with
    | @tuple a ob us n _ _ at_ cls data rest =>
      refine ⟨_ :: os, .cons (.mk at_ cls data) z, ?_⟩
      have len := ReadsAll.length _ _ _ rest
      rw [List.map_cons, List.map_cons, e]
      congr 1
      rw [Array.length_toList] at len
      cases xs with
      | nil => simp_all [notNil]
      | cons y ys =>
        have : 0 < us.size := by rw [len]; exact Nat.succ_pos _
        simp [notNil, this]
/-- the kind of keys that the sort takes for tuples of which one is () -/
def someNil : List PyData → SortKind
  | .tuple [] :: _ => oneType'
  | _ => general'
theorem looks_kind {vs : List Value} {ds : List PyData} (z : EachIs (fun v d => ∃ as, Reads h v d as) vs ds) (tup : ∀ d ∈ ds, ∃ xs, d = .tuple xs) (nl : .tuple [] ∈ ds) : Looks M h (keyKind' vs.toArray) (someNil ds) := by
  obtain ⟨os, ho, e⟩ := heads_of z tup
  rw [keyKind'_eq]
  refine (looks_mapMA (ho.mono fun _ _ => Head1.first)).andThen ?_
  have not_all : (os.toArray.all fun x => x.isSome) = false := by
    have : (os.map (·.isSome)).all id = false := by
      rw [e, List.all_eq_false]
      exact ⟨false, List.mem_map.mpr ⟨_, nl, rfl⟩, by decide⟩
    rw [List.all_map] at this
    rw [List.all_toArray]
    exact this
  rw [not_all]
  cases z with
  | nil => cases nl
  | @cons v d vs ds one rest =>
    cases ho with
    | @cons _ o _ os h1 hr =>
      simp only [List.map_cons, List.cons.injEq] at e
      obtain ⟨l, rfl⟩ := tup d (.head _)
      refine looks_ite (c := false) (fun x => nomatch x) fun _ => looks_ite (fun x => ?_) fun x => ?_
      · have some1 : o.isSome = true := by cases o <;> simp_all
        cases l with
        | nil => rw [some1] at e; simp [notNil] at e
        | cons y l => exact .now
      · have none1 : o.isSome = false := by cases o <;> simp_all
        cases l with
        | cons y l => rw [none1] at e; simp [notNil] at e
        | nil =>
          rw [oneTypeOnly'_eq]
          have ty : ∀ {us : List Value} {os : List (Option Value)}, EachIs (Head1 h) us os → EachIs (fun x y => Looks M h (typeOf x) y) us (us.map fun _ => Value.type "tuple") := fun t => by
            induction t with
            | nil => exact .nil
            | cons q _ ih => exact .cons q.type ih
          refine ((looks_mapMA (ty (.cons h1 hr))).andThen ?_).andThen (b := oneType') ?_ (a := some (.type "tuple"))
          · simp only [List.map_cons, List.getElem?_toArray, List.getElem?_cons_zero]
            have al : ((Value.type "tuple" :: vs.map fun _ => Value.type "tuple").toArray.all fun x => x == Value.type "tuple") = true := by
              simp only [List.all_toArray, List.all_cons, List.all_map]
              simp only [Function.comp_def, List.all_eq_true, Bool.and_eq_true]
              exact ⟨by decide, fun _ _ => by decide⟩
            rw [al]
            exact .now
          · exact .now
end
section
variable {prog : Program} {w : World} {A : Around} {E : Value → Shared → Prop} {s : Shared} {a b : Value} {as bs : List Addr} {xs ys : List PyData}
/-- what tuple.__lt__ answers of two tuples of alike data -/
theorem tup_less {Q : Value → Shared → Prop} (ra : Reads s.heap a (.tuple xs) as) (rb : Reads s.heap b (.tuple ys) bs) (al : alikeAll xs ys = true)
    (room : A.units + 1 + min (PyData.depthAll xs) (PyData.depthAll ys) < cLine) (q : Q (.bool (dataLt (.tuple xs) (.tuple ys))) s) : wpAny (model prog w) A (call (.builtin "tuple.__lt__") [a, b]) Q E s := by
  rw [dataLt_tuple, ← firstLt_toks xs ys al] at q
  cases ra with
  | @tuple p o us m _ _ g1 c1 d1 r1 =>
    cases rb with
    | @tuple p' o' us' m' _ _ g2 c2 d2 r2 =>
      have l1 := ReadsAll.length _ _ _ r1
      have l2 := ReadsAll.length _ _ _ r2
      rw [Array.length_toList] at l1 l2
      obtain ⟨oc, od, odt, os⟩ := o
      obtain ⟨oc', od', odt', os'⟩ := o'
      obtain rfl : oc = _ := c1
      obtain rfl : odt = _ := d1
      obtain rfl : oc' = _ := c2
      obtain rfl : odt' = _ := d2
      have eqs := eqAt_alikeAll xs ys A.in1 s us.toList us'.toList _ _ r1 r2 al room
      have lts := rcLt_alikeAll xs ys A.in1 s us.toList us'.toList _ _ r1 r2 al room
      have spec := tuple_ltAt p p' us us' m m' od od' os os' (pairEq xs ys) fun j => dataLt (xs.getD j .none) (ys.getD j .none)
      refine call_meets F.slot_tuple_lt ⟨_, g1, rfl⟩ F.entry_tuple_lt (F.args_tuple_lt_2 _ _) spec ⟨g1, g2, ?_, ?_, ?_⟩
      · intro j j1 j2
        exact eqs j (by rwa [Array.length_toList]) (by rwa [Array.length_toList])
      · intro j j1 j2 ne
        exact lts j (by rwa [Array.length_toList]) (by rwa [Array.length_toList]) ne
      · rw [l1, l2]
        exact q
theorem one_less {Q : Bool → Shared → Prop} (ra : Reads s.heap a (.tuple xs) as) (rb : Reads s.heap b (.tuple ys) bs) (al : alike (.tuple xs) (.tuple ys) = true)
    (room : A.units + min (PyData.tuple xs).depth (PyData.tuple ys).depth < cLine) (q : Q (dataLt (.tuple xs) (.tuple ys)) s) : wpAny (model prog w) A (oneLt' true a b) Q E s := by
  have here : A.units < cLine := Nat.lt_of_le_of_lt (Nat.le_add_right _ _) room
  have al' : alikeAll xs ys = true := by unfold alike at al; exact al
  have ty : ∃ p o, a = .ref p ∧ s.heap.get? p = some o ∧ o.cls = .type "tuple" := by
    cases ra with
    | tuple g c _ _ => exact ⟨_, _, rfl, g, c⟩
  obtain ⟨p, o, rfl, g, c⟩ := ty
  rw [oneLt'_eq, if_pos rfl]
  refine wpAny_bind (wpAny_cRoomFor here (wpAny_bind ?_))
  exact wpAny_callSpecialIfBound?_slot ⟨o, g, c⟩ F.slot_tuple_lt (tup_less ra rb al' (room_in room) (wpAny_truthy_bool q))
theorem sorts_tuples {vs : List Value} {ds : List PyData} (z : EachIs (fun v d => ∃ as, Reads s.heap v d as) vs ds) (al : AllAlike ds) (tup : ∀ d ∈ ds, ∃ xs, d = .tuple xs) (room : ∀ d ∈ ds, A.units + d.depth < cLine) :
    SortsAt prog w A s (dataKind s.heap ds) vs := by
  by_cases nl : PyData.tuple [] ∈ ds
  · refine ⟨fun v hv => ?_, someNil ds, ?_, fun _ E Q q => (looks_kind z tup nl).here q⟩
    · obtain ⟨d, hd, as, r⟩ := z.left v hv
      exact ⟨keyToks d, dataKind_some al hd r⟩
    · intro E x y k1 k2 Q e1 e2 q
      obtain ⟨d1, as1, m1, r1, rfl⟩ := dataKind_inv e1
      obtain ⟨d2, as2, m2, r2, rfl⟩ := dataKind_inv e2
      have rm : A.units + min d1.depth d2.depth < cLine := by
        have := room d1 m1
        have := Nat.min_le_left d1.depth d2.depth
        omega
      obtain ⟨l1, rfl⟩ := tup d1 m1
      have gen : someNil ds = general' ∨ someNil ds = oneType' := by
        unfold someNil
        split
        · exact .inr rfl
        · exact .inl rfl
      rcases gen with e | e
      · rw [e]
        exact oneLt_alike (f := false) (fun x => nomatch x) r1 r2 (al _ m1 _ m2) (fun x => nomatch x) rm q
      · obtain ⟨l2, rfl⟩ := tup d2 m2
        rw [e, keyLt'_oneType]
        exact one_less r1 r2 (al _ m1 _ m2) rm q
  · refine SortsAt.data z al (.inl fun d hd => ?_) room
    obtain ⟨xs, rfl⟩ := tup d hd
    cases xs with
    | nil => exact absurd hd nl
    | cons x r => exact ⟨x, r, rfl⟩
end
end DL
set_option Elab.async false
set_option linter.all false
set_option maxRecDepth 100000
/-! DL6: sorting, least and greatest over data; tuples may be empty. -/
namespace DL
open PySem PySem.Spec PyProof.Rows L2
open PySem.W (EachIs AllAlike Sortable SortsAt dataKind dataLe dataLt sortingHeap copyHeap sorting_copy_old sorted_vals sortVals sortVals_length sortVals_data)
section
variable {g : Gx} {X : Cx} {pins : List (Addr × Obj)} {σ : L2.St} {H : Hp} {s : Shared}
theorem each_of {M : Hp} : ∀ {vs : List V} {ds : List D} {us : List Value}, RpAll g M vs ds → Vals vs us → EachIs (fun u d => ∃ v, RelV v u ∧ Rp g M v d) us ds
  | _, _, _, .nil, .nil => .nil
  | _, _, _, .cons h r, .cons q t => .cons ⟨_, q, h⟩ (each_of r t)
theorem of_each {M : Hp} : ∀ {us : List Value} {ds : List D}, EachIs (fun u d => ∃ v, RelV v u ∧ Rp g M v d) us ds → ∃ vs, Vals vs us ∧ RpAll g M vs ds
  | _, _, .nil => ⟨[], .nil, .nil⟩
  | _, _, .cons ⟨v, q, h⟩ t => let ⟨vs, a, b⟩ := of_each t; ⟨v :: vs, .cons q a, .cons h b⟩
theorem each_reads (I : Inv X pins σ H s) {M : Hp} (m : Same M H) : ∀ {vs : List V} {ds : List D} {us : List Value}, RpAll g M vs ds → Vals vs us → (∀ d ∈ ds, d.plain = true) → EachIs (fun u d => ∃ as, Reads s.heap u d as) us ds
  | _, _, _, .nil, .nil, _ => .nil
  | _, _, _, .cons h r, .cons q t, p => .cons ((h.mono m).reads I (p _ (List.mem_cons_self ..)) q) (each_reads I m r t fun d hd => p d (List.mem_cons_of_mem _ hd))
theorem sortable_of {xs : List D} (h : sortable xs = true) : (∀ d ∈ xs, d.plain = true ∧ d.depth ≤ 32) ∧ AllAlike xs ∧ ((∀ d ∈ xs, ∃ l, d = .tuple l) ∨ ∀ d ∈ xs, d ≠ .none ∧ ∀ l, d ≠ .tuple l) := by
  unfold sortable at h
  simp only [Bool.and_eq_true, List.all_eq_true, Bool.or_eq_true, smallD, decide_eq_true_eq] at h
  obtain ⟨each, kinds⟩ := h
  refine ⟨fun d hd => (each d hd).1, fun d hd => (each d hd).2, ?_⟩
  refine kinds.imp (fun q d hd => ?_) fun q d hd => ?_
  · have z := q d hd
    cases d <;> simp_all
  · have z := q d hd
    cases d <;> simp_all
theorem mergeSort_id (xs : List D) : (xs.map id).mergeSort (dataLe false id) = sortD xs := by rw [List.map_id]; rfl
variable {n : Nat} (hr : Room n X.A)
include hr
theorem cr_dSorted : CallR X (.builtin "sorted") (rBi g fSorted) := by
  intro pins s σ H vs us Q I r h
  obtain ⟨O, ds, z, ow, rs, hz, q⟩ := h
  unfold fSorted at hz
  split at hz
  · split at hz
    · rename_i xs hs
      cases hz
      obtain ⟨v, rfl, h⟩ := rs.one
      obtain ⟨a, ws, rfl, ha, ra⟩ := h.lst
      obtain ⟨u, rfl⟩ : ∃ u, us = [u] := by
        cases r with
        | cons _ t => cases t; exact ⟨_, rfl⟩
      cases r with
      | cons q1 _ =>
        cases q1
        obtain ⟨hp, hal, hk⟩ := sortable_of hs
        obtain ⟨its, rv, hl, hz⟩ := I.list (.of (K := X.K) ha)
        have hlen : its.length = xs.length := by rw [← rv.length, ra.length]
        have er : EachIs (fun u d => ∃ as, Reads s.heap u d as) its xs := each_reads I (msk_same O) ra rv fun d hd => (hp d hd).1
        have er' : EachIs (fun u d => ∃ as, Reads (sortingHeap (copyHeap s.heap its) (s.heap.objs.size + 1) its) u d as) its xs := er.mono fun _ _ ⟨as, r⟩ => ⟨as, PyProof.Rows.Reads.keeps (fun _ _ => sorting_copy_old) r⟩
        have hu : ∀ d, d ∈ xs → X.A.in1.in1.units + d.depth < cLine := fun d hd => by
          have h1 := hr.units
          have h2 := (hp d hd).2
          show X.A.units + 1 + 1 + d.depth < cLine
          omega
        have S : SortsAt X.prog X.w X.A.in1.in1 { s with heap := sortingHeap (copyHeap s.heap its) (s.heap.objs.size + 1) its } (dataKind (sortingHeap (copyHeap s.heap its) (s.heap.objs.size + 1) its) xs) its := by
          rcases hk with tup | oth
          · exact sorts_tuples (s := { s with heap := sortingHeap (copyHeap s.heap its) (s.heap.objs.size + 1) its }) er' hal tup hu
          · exact SortsAt.data (s := { s with heap := sortingHeap (copyHeap s.heap its) (s.heap.objs.size + 1) its }) er' hal (.inr oth) hu
        refine sorted_vals hl.isList S (by rw [← rv.length]; exact hz) ?_
        have ed := sortVals_data (enc := id) (h' := sortingHeap (copyHeap s.heap its) (s.heap.objs.size + 1) its) false (each_of ra rv) er' (by rw [List.map_id]; exact hal)
        rw [List.map_id] at ed
        obtain ⟨vs', rv', ra'⟩ := of_each ed
        have zl : vs'.length ≤ sizeLine := by
          have e1 := rv'.length
          have e2 := sortVals_length (κ := dataKind (sortingHeap (copyHeap s.heap its) (s.heap.objs.size + 1) its) xs) false (ks := its) (vs := its) rfl
          have e3 := rv.length
          omega
        obtain ⟨c, hc⟩ := sortedAll_at s.heap its (sortVals (dataKind (sortingHeap (copyHeap s.heap its) (s.heap.objs.size + 1) its) xs) false its its).toArray
        refine ⟨.ref (s.heap.objs.size + 1), _, I.laid (a := s.heap.objs.size + 1) (o := .lst vs') (t' := s.toks) (fun b u e => sortedAll_old e) (Nat.le_succ _) ⟨zl, _, c, rv', hc⟩, rfl, ?_⟩
        exact q.lst ow (I.hok.fresh (Nat.le_succ _)) ra'
    · cases hz
  · cases hz
omit hr in
theorem depthAll_le : ∀ {xs : List D}, (∀ d ∈ xs, d.depth ≤ 32) → PyData.depthAll xs ≤ 32
  | [], _ => Nat.zero_le _
  | x :: xs, h => by
    have h1 := h x (List.mem_cons_self ..)
    have h2 := depthAll_le fun d hd => h d (List.mem_cons_of_mem _ hd)
    simp only [PyData.depthAll]
    omega
omit hr in
theorem alikeAll_of {xs : List D} (h : AllAlike xs) (hk : (∀ d, d ∈ xs → ∃ l, d = .tuple l) ∨ ∀ d, d ∈ xs → d ≠ .none ∧ ∀ l, d ≠ .tuple l) : PySem.W.AlikeAll xs := by
  refine ⟨fun d hd d' hd' => h d hd d' hd', fun d hd => ?_⟩
  rcases hk with hk | hk
  · obtain ⟨l, rfl⟩ := hk d hd
    simp
  · exact (hk d hd).1
omit hr in
theorem plainAll_of : ∀ {xs : List D}, (∀ d ∈ xs, d.plain = true) → PyData.plainAll xs = true
  | [], _ => rfl
  | x :: xs, h => by
    simp only [PyData.plainAll, h x (List.mem_cons_self ..), plainAll_of fun d hd => h d (List.mem_cons_of_mem _ hd), Bool.and_self]
omit hr in
theorem immAll_mem : ∀ {xs : List D} {d : D}, immAll xs = true → d ∈ xs → imm d = true
  | [], _, _, h => by cases h
  | x :: xs, d, h, hd => by
    simp only [immAll, Bool.and_eq_true] at h
    rcases List.mem_cons.mp hd with rfl | hd
    · exact h.1
    · exact immAll_mem h.2 hd
omit hr in
theorem picked {O : List Addr} {vs : List V} {ds : List D} {its : List Value} {i : Nat} {u : Value} {h' : Heap} {tk : Nat} {bs : List Addr} {m : D} {Q : VK} (I : Inv X pins σ H s) (ra : RpAll g (msk O H) vs ds) (rv : Vals vs its) (hi : its[i]? = some u)
    (hp : ∀ d ∈ ds, d.plain = true) (him : immAll ds = true) (rb : Reads h' u m bs) (k : ∀ b o, s.heap.get? b = some o → h'.get? b = some o) (q : Gives g O H m Q) : EP X pins σ Q u { s with heap := h', toks := tk } := by
  have hl : i < vs.length := by
    have e1 := rv.length
    have e2 : i < its.length := by
      rcases Nat.lt_or_ge i its.length with z | z
      · exact z
      · rw [List.getElem?_eq_none z] at hi; cases hi
    omega
  obtain ⟨u', hu', rel⟩ := rv.get (List.getElem?_eq_getElem hl)
  rw [hi] at hu'; cases hu'
  obtain ⟨d, hd, hr⟩ := ra.get' (List.getElem?_eq_getElem hl)
  have md : d ∈ ds := List.mem_of_getElem? hd
  obtain ⟨as, r1⟩ := (hr.mono (msk_same O)).reads I (hp d md) rel
  have e := PySem.SeqAt.plain_unique _ _ _ _ _ (hp d md) (PyProof.Rows.Reads.keeps k r1) rb
  subst e
  exact ⟨_, H, I.kept k, rel, q _ _ (.refl _) hr (TopNew.imm (immAll_mem him md))⟩
theorem cr_dMin : CallR X (.builtin "min") (rBi g fMin) := by
  intro pins s σ H vs us Q I r h
  obtain ⟨O, ds, z, ow, rs, hz, q⟩ := h
  unfold fMin at hz
  split at hz
  · split at hz
    · rename_i x xs hs
      cases hz
      simp only [Bool.and_eq_true] at hs
      obtain ⟨v, rfl, h⟩ := rs.one
      obtain ⟨a, ws, rfl, ha, ra⟩ := h.lst
      obtain ⟨u, rfl⟩ : ∃ u, us = [u] := by
        cases r with
        | cons _ t => cases t; exact ⟨_, rfl⟩
      cases r with
      | cons q1 _ =>
        cases q1
        obtain ⟨hp, hal, hk⟩ := sortable_of hs.1
        obtain ⟨its, rv, hl, hz⟩ := I.list (.of (K := X.K) ha)
        have pl : PyData.plainAll (x :: xs) = true := plainAll_of fun d hd => (hp d hd).1
        obtain ⟨as, hra⟩ := (ra.mono (msk_same O)).reads I pl rv
        refine PySem.W.min_list_data hr.hd hl.isList hra (alikeAll_of hal hk) ?_ fun i v h' tk bs hv rb hk' => ?_
        · have h1 := hr.units
          have h2 := depthAll_le fun d hd => (hp d hd).2
          omega
        · exact picked I ra rv (by simpa using hv) (fun d hd => (hp d hd).1) hs.2 rb hk' q
    · cases hz
  · cases hz
theorem cr_dMax : CallR X (.builtin "max") (rBi g fMax) := by
  intro pins s σ H vs us Q I r h
  obtain ⟨O, ds, z, ow, rs, hz, q⟩ := h
  unfold fMax at hz
  split at hz
  · split at hz
    · rename_i x xs hs
      cases hz
      simp only [Bool.and_eq_true] at hs
      obtain ⟨v, rfl, h⟩ := rs.one
      obtain ⟨a, ws, rfl, ha, ra⟩ := h.lst
      obtain ⟨u, rfl⟩ : ∃ u, us = [u] := by
        cases r with
        | cons _ t => cases t; exact ⟨_, rfl⟩
      cases r with
      | cons q1 _ =>
        cases q1
        obtain ⟨hp, hal, hk⟩ := sortable_of hs.1
        obtain ⟨its, rv, hl, hz⟩ := I.list (.of (K := X.K) ha)
        have pl : PyData.plainAll (x :: xs) = true := plainAll_of fun d hd => (hp d hd).1
        obtain ⟨as, hra⟩ := (ra.mono (msk_same O)).reads I pl rv
        refine PySem.W.max_list_data hr.hd hl.isList hra (alikeAll_of hal hk) ?_ fun i v h' tk bs hv rb hk' => ?_
        · have h1 := hr.units
          have h2 := depthAll_le fun d hd => (hp d hd).2
          omega
        · exact picked I ra rv (by simpa using hv) (fun d hd => (hp d hd).1) hs.2 rb hk' q
    · cases hz
  · cases hz
end
end DL
set_option Elab.async false
set_option linter.all false
set_option maxRecDepth 100000
/-! DLP: tuples of whole numbers as plain data: equality, order, each once, sorted. -/
namespace DL
open PySem PySem.Spec PyProof.Rows L2
open PySem.W (EachIs AllAlike SortsAt dataKind dataLe dataLt sortingHeap sortVals sortVals_length sortVals_data)
def tupI (l : List Int) : D := .tuple (l.map .int)
theorem ints_of : ∀ {xs : List D}, (xs.all fun d => match d with | .int _ => true | _ => false) = true → ∃ l : List Int, xs = l.map .int
  | [], _ => ⟨[], rfl⟩
  | x :: xs, h => by
    rw [List.all_cons, Bool.and_eq_true] at h
    obtain ⟨l, rfl⟩ := ints_of h.2
    cases x with
    | int i => exact ⟨i :: l, rfl⟩
    | _ => exact absurd h.1 (by simp)
theorem intsTup_of {d : D} (h : intsTup d = true) : ∃ l, d = tupI l := by
  cases d with
  | tuple xs =>
    obtain ⟨l, rfl⟩ := ints_of h
    exact ⟨l, rfl⟩
  | _ => cases h
theorem intsTups_of : ∀ {xs : List D}, xs.all intsTup = true → ∃ ls : List (List Int), xs = ls.map tupI
  | [], _ => ⟨[], rfl⟩
  | x :: xs, h => by
    rw [List.all_cons, Bool.and_eq_true] at h
    obtain ⟨l, rfl⟩ := intsTup_of h.1
    obtain ⟨ls, rfl⟩ := intsTups_of h.2
    exact ⟨l :: ls, rfl⟩
theorem tupI_inj {a b : List Int} (h : tupI a = tupI b) : a = b := by
  unfold tupI at h
  have h' : a.map PyData.int = b.map PyData.int := by simpa using h
  exact (List.map_inj_right (fun x y e => by simpa using e)).mp h'
theorem eqv_tupI (a b : List Int) : PyData.eqv (tupI a) (tupI b) = decide (a = b) := by
  have : ∀ a b : List Int, PyData.eqvAll (a.map .int) (b.map .int) = decide (a = b) := by
    intro a
    induction a with
    | nil => intro b; cases b <;> simp [PyData.eqvAll]
    | cons x a ih =>
      intro b
      cases b with
      | nil => simp [PyData.eqvAll]
      | cons y b =>
        rw [List.map_cons, List.map_cons, PyData.eqvAll, ih b]
        have : PyData.eqv (.int x) (.int y) = decide (x = y) := by
          simp only [PyData.eqv]
          first | rfl | (by_cases h : x = y <;> simp [h])
        rw [this]
        by_cases h : x = y <;> by_cases h' : a = b <;> simp [h, h']
  unfold tupI
  rw [PyData.eqv]
  exact this a b
theorem dataLe_tupI : dataLe false tupI = fun p q => decide (p ≤ q) := by
  funext p q
  show (!dataLt (.tuple (q.map .int)) (.tuple (p.map .int))) = _
  rw [PySem.W.dataLt_tuple]
  show (!PySem.W.rowLt (q.map .int) (p.map .int)) = _
  rw [PySem.W.dataLt_ints]
  by_cases h : q < p
  · have h' : ¬ p ≤ q := fun r => List.not_lt.mpr r h
    simp [h, h']
  · have h' : p ≤ q := List.not_lt.mp h
    simp [h, h']
theorem sortD_tupI (ls : List (List Int)) : sortD (ls.map tupI) = (ls.mergeSort fun a b => decide (a ≤ b)).map tupI := by
  unfold sortD
  have e : (ls.mergeSort fun a b => decide (a ≤ b)) = ls.mergeSort (dataLe false tupI) := by rw [dataLe_tupI]
  rw [e]
  exact (List.map_mergeSort (f := tupI) (r := dataLe false tupI) (s := dataLe false id) fun a _ b _ => rfl).symm
/-- each once, the first met kept -/
def onceL : List (List Int) → List (List Int)
  | [] => []
  | x :: xs => x :: (onceL xs).filter fun y => decide (x ≠ y)
theorem onceD_tupI : ∀ ls : List (List Int), onceD (ls.map tupI) = (onceL ls).map tupI
  | [] => rfl
  | x :: xs => by
    rw [List.map_cons, onceD, onceL, onceD_tupI xs, List.map_cons, List.filter_map]
    congr 1
    congr 1
    congr 1
    funext y
    simp only [Function.comp, eqv_tupI]
    by_cases h : x = y <;> simp [h]
theorem mem_onceL : ∀ {ls : List (List Int)} {l : List Int}, l ∈ onceL ls ↔ l ∈ ls
  | [], l => by simp [onceL]
  | x :: xs, l => by
    rw [onceL, List.mem_cons, List.mem_cons, List.mem_filter, mem_onceL]
    by_cases h : l = x
    · simp [h]
    · have : x ≠ l := Ne.symm h
      simp [h, this]
theorem onceL_nodup : ∀ ls : List (List Int), (onceL ls).Nodup
  | [] => List.nodup_nil
  | x :: xs => by
    rw [onceL, List.nodup_cons]
    refine ⟨fun h => ?_, (onceL_nodup xs).sublist List.filter_sublist⟩
    rw [List.mem_filter] at h
    simp at h
theorem le_tot (a b : List Int) : (decide (a ≤ b) || decide (b ≤ a)) = true := by
  rcases List.le_total a b with h | h
  · simp [h]
  · simp [h]
theorem le_trn (a b c : List Int) (h1 : decide (a ≤ b) = true) (h2 : decide (b ≤ c) = true) : decide (a ≤ c) = true := by
  simp only [decide_eq_true_eq] at h1 h2 ⊢
  exact List.le_trans h1 h2
/-- lists with the same members, each once, are sorted to the same list -/
theorem sort_same {as bs : List (List Int)} (na : as.Nodup) (nb : bs.Nodup) (h : ∀ l, l ∈ as ↔ l ∈ bs) : as.mergeSort (fun a b => decide (a ≤ b)) = bs.mergeSort (fun a b => decide (a ≤ b)) := by
  have pm : as.Perm bs := (List.perm_ext_iff_of_nodup na nb).mpr h
  have pm2 : (as.mergeSort fun a b => decide (a ≤ b)).Perm (bs.mergeSort fun a b => decide (a ≤ b)) := (List.mergeSort_perm as _).trans (pm.trans (List.mergeSort_perm bs _).symm)
  refine List.Perm.eq_of_pairwise ?_ (List.pairwise_mergeSort (fun a b c => le_trn a b c) (fun a b => le_tot a b) as) (List.pairwise_mergeSort (fun a b c => le_trn a b c) (fun a b => le_tot a b) bs) pm2
  intro a b _ _ h1 h2
  simp only [decide_eq_true_eq] at h1 h2
  exact List.le_antisymm h1 h2
end DL
set_option Elab.async false
set_option linter.all false
set_option maxRecDepth 100000
/-! DLV: plain readings by rewriting: values, comprehensions. -/
namespace DL
open PySem
/-- a def's meaning, one level down -/
theorem wC_body {tab : Nat → FD} {n k np ns : Nat} {b : Ss} (h : tab k = .body np ns b) (ds : List D) (Q : D → Prop) :
    wC tab (n + 1) k ds Q = (ds.length = np ∧ wSs (wC tab n) b (start0 ns ds) { nx := fun _ => Q .none, rt := fun _ => Q, bk := fun _ => False, ct := fun _ => False }) := by
  show (match tab k with | .body np ns b => _ | .prim p => _) = _
  rw [h]
theorem wC_prim {tab : Nat → FD} {n k : Nat} {p : Prim} (h : tab k = .prim p) (ds : List D) (Q : D → Prop) : wC tab (n + 1) k ds Q = primW (wC tab n) p ds Q := by
  show (match tab k with | .body np ns b => _ | .prim p => _) = _
  rw [h]
/-- a comprehension over any list -/
def compG {α : Type} (f : α → (Option D → Prop) → Prop) : List α → List D → (List D → Prop) → Prop
  | [], acc, Q => Q acc
  | x :: xs, acc, Q => f x fun o => match o with
    | some d => acc.length < sizeLine ∧ compG f xs (acc ++ [d]) Q
    | none => compG f xs acc Q
@[simp] theorem compL_map {α : Type} (f : D → (Option D → Prop) → Prop) (g : α → D) (Q : List D → Prop) : ∀ (l : List α) (acc : List D), compL f (l.map g) acc Q = compG (fun a => f (g a)) l acc Q
  | [], acc => rfl
  | x :: xs, acc => by
    rw [List.map_cons, compL, compG]
    congr 1
    funext o
    cases o with
    | none => exact compL_map f g Q xs acc
    | some d => simp only; rw [compL_map f g Q xs]
theorem compG_acc {α : Type} (p : α → Bool) (h : α → D) (Q : List D → Prop) : ∀ (l : List α) (acc : List D), acc.length ≤ sizeLine → (compG (fun a K => if p a = true then K (some (h a)) else K none) l acc Q ↔ (acc.length + (l.filter p).length ≤ sizeLine ∧ Q (acc ++ (l.filter p).map h)))
  | [], acc, ha => by simp [compG, ha]
  | x :: xs, acc, ha => by
    rw [compG]
    by_cases hp : p x = true
    · rw [if_pos hp, List.filter_cons, if_pos hp]
      dsimp only
      constructor
      · rintro ⟨h1, h2⟩
        have := (compG_acc p h Q xs (acc ++ [h x]) (by simp; omega)).mp h2
        simp only [List.length_append, List.length_singleton, List.append_assoc, List.singleton_append, List.length_cons, List.map_cons] at this ⊢
        exact ⟨by omega, this.2⟩
      · rintro ⟨h1, h2⟩
        simp only [List.length_cons, List.map_cons] at h1 h2
        refine ⟨by omega, (compG_acc p h Q xs (acc ++ [h x]) (by simp; omega)).mpr ⟨by simp; omega, by simpa using h2⟩⟩
    · rw [if_neg hp, List.filter_cons, if_neg hp]
      exact compG_acc p h Q xs acc ha
@[simp] theorem compG_filter {α : Type} (p : α → Bool) (h : α → D) (Q : List D → Prop) (l : List α) : compG (fun a K => if p a = true then K (some (h a)) else K none) l [] Q = ((l.filter p).length ≤ sizeLine ∧ Q ((l.filter p).map h)) := by
  rw [eq_iff_iff, compG_acc p h Q l [] (Nat.zero_le _)]
  simp
@[simp] theorem compG_pure {α : Type} (h : α → D) (Q : List D → Prop) (l : List α) : compG (fun a K => K (some (h a))) l [] Q = (l.length ≤ sizeLine ∧ Q (l.map h)) := by
  have := compG_filter (fun _ => true) h Q l
  have e : l.filter (fun _ => true) = l := List.filter_eq_self.mpr fun _ _ => rfl
  rw [e] at this
  simpa using this
@[simp] theorem allB_map {α : Type} (p : α → Bool) : ∀ l : List α, allB (l.map fun a => .bool (p a)) = some (l.all p)
  | [] => rfl
  | x :: xs => by simp [allB, allB_map p xs]
@[simp] theorem anyB_map {α : Type} (p : α → Bool) : ∀ l : List α, anyB (l.map fun a => .bool (p a)) = some (l.any p)
  | [] => rfl
  | x :: xs => by simp [anyB, anyB_map p xs]
@[simp] theorem sumI_map {α : Type} (f : α → Int) : ∀ l : List α, sumI (l.map fun a => .int (f a)) = some (l.map f).sum
  | [] => rfl
  | x :: xs => by simp [sumI, sumI_map f xs]
@[simp] theorem smallD_int (a : Int) : smallD (.int a) = true := by simp [smallD, PyData.depth]
@[simp] theorem ordOk_int (a b : Int) : ordOk (.int a) (.int b) = true := by simp [ordOk, PySem.W.alike, PyData.plain]
@[simp] theorem lt_int (a b : Int) : PySem.W.dataLt (.int a) (.int b) = decide (a < b) := PySem.W.dataLt_int a b
@[simp] theorem plainAll_ints : ∀ l : List Int, PyData.plainAll (l.map .int) = true
  | [] => rfl
  | x :: xs => by simp [PyData.plainAll, PyData.plain, plainAll_ints xs]
@[simp] theorem plain_int (a : Int) : (PyData.int a).plain = true := rfl
@[simp] theorem plain_tup (l : List D) : (PyData.tuple l).plain = PyData.plainAll l := by rw [PyData.plain]
@[simp] theorem plain_lst (l : List D) : (PyData.list l).plain = PyData.plainAll l := by rw [PyData.plain]
@[simp] theorem eqv_int (a b : Int) : PyData.eqv (.int a) (.int b) = decide (a = b) := by
  simp only [PyData.eqv]
  first | rfl | (by_cases h : a = b <;> simp [h])
@[simp] theorem immAll_ints : ∀ l : List Int, immAll (l.map .int) = true
  | [] => rfl
  | x :: xs => by simp [immAll_ints xs]
@[simp] theorem immAll_map {α : Type} {f : α → D} (h : ∀ a, imm (f a) = true) : ∀ l : List α, immAll (l.map f) = true
  | [] => rfl
  | x :: xs => by simp [h x, immAll_map h xs]
@[simp] theorem any_ints (a : Int) : ∀ l : List Int, ((l.map PyData.int).any fun y => PyData.eqv y (.int a)) = l.contains a
  | [] => rfl
  | x :: xs => by
    rw [List.map_cons, List.any_cons, any_ints a xs, eqv_int, List.contains_cons]
    congr 1
    by_cases h : x = a
    · simp [h]
    · have : ¬ a = x := fun z => h z.symm
      simp [h, this]
@[simp] theorem depthAll_ints : ∀ l : List Int, PyData.depthAll (l.map .int) = 0 := PySem.W.depth_ints
@[simp] theorem smallD_ints (l : List Int) : smallD (.tuple (l.map .int)) = true := by simp [smallD, PyData.depth]
@[simp] theorem smallD_lints (l : List Int) : smallD (.list (l.map .int)) = true := by simp [smallD, PyData.depth]
@[simp] theorem eqv_ints (a b : List Int) : PyData.eqv (.tuple (a.map .int)) (.tuple (b.map .int)) = decide (a = b) := eqv_tupI a b
end DL
set_option Elab.async false
set_option linter.all false
set_option maxRecDepth 100000
/-! DLW: plain readings further: comprehensions with tests, slices, loops, lots (tuples of whole numbers). -/
namespace DL
open PySem
theorem size_of {n : Nat} (h : n ≤ 100000) : n ≤ sizeLine := by unfold sizeLine; omega
/-! comprehensions -/
/-- a comprehension, item by item -/
theorem comp_go {α : Type} {f : α → (Option D → Prop) → Prop} {h : α → Option D} {Q : List D → Prop} : ∀ {l : List α} {acc : List D}, (∀ a ∈ l, ∀ K : Option D → Prop, K (h a) → f a K) → acc.length + l.length ≤ 100000 → Q (acc ++ l.filterMap h) → compG f l acc Q
  | [], acc, _, _, q => by
    rw [compG]
    simpa using q
  | a :: l, acc, hf, z, q => by
    rw [compG]
    refine hf a (.head _) _ ?_
    rw [List.length_cons] at z
    cases e : h a with
    | none =>
      refine comp_go (fun b hb => hf b (.tail _ hb)) (by omega) ?_
      rwa [List.filterMap_cons_none e] at q
    | some d =>
      refine ⟨by unfold sizeLine; omega, comp_go (fun b hb => hf b (.tail _ hb)) (by simp; omega) ?_⟩
      rw [List.filterMap_cons_some e] at q
      simpa using q
/-- a comprehension whose items are reckoned one by one -/
theorem comp_to {α : Type} {f : α → (Option D → Prop) → Prop} (h : α → D) {Q : List D → Prop} {l : List α} (hf : ∀ a ∈ l, ∀ K : Option D → Prop, K (some (h a)) → f a K) (z : l.length ≤ 100000) (q : Q (l.map h)) : compG f l [] Q := by
  refine comp_go (h := fun a => some (h a)) hf (by simpa using z) ?_
  rwa [List.filterMap_eq_map', List.nil_append]
/-- with a test -/
theorem comp_if {α : Type} {f : α → (Option D → Prop) → Prop} (p : α → Bool) (h : α → D) {Q : List D → Prop} {l : List α} (hf : ∀ a ∈ l, ∀ K : Option D → Prop, K (if p a = true then some (h a) else none) → f a K) (z : l.length ≤ 100000) (q : Q ((l.filter p).map h)) : compG f l [] Q := by
  refine comp_go (h := fun a => if p a = true then some (h a) else none) hf (by simpa using z) ?_
  have : ∀ l : List α, l.filterMap (fun a => if p a = true then some (h a) else none) = (l.filter p).map h := fun l => by
    induction l with
    | nil => rfl
    | cons a l ih =>
      rw [List.filterMap_cons, List.filter_cons, ih]
      by_cases e : p a = true <;> simp [e]
  rwa [this, List.nil_append]
theorem all_map' {α : Type} {p : α → Bool} {l : List α} : allB (l.map fun a => .bool (p a)) = some (l.all p) := allB_map p l
theorem compG_map {α β : Type} (f : β → (Option D → Prop) → Prop) (g : α → β) (Q : List D → Prop) : ∀ (l : List α) (acc : List D), compG f (l.map g) acc Q = compG (fun a => f (g a)) l acc Q
  | [], acc => rfl
  | x :: xs, acc => by
    rw [List.map_cons, compG, compG]
    congr 1
    funext o
    cases o with
    | none => exact compG_map f g Q xs acc
    | some d => simp only; rw [compG_map f g Q xs]
@[simp] theorem not_lt_dec (a b : Int) : (!decide (b < a)) = decide (a ≤ b) := PySem.W.not_lt_int a b
theorem zip_maps {α β : Type} (g : α → β) : ∀ (l m : List α), (l.map g).zip (m.map g) = (l.zip m).map fun p => (g p.1, g p.2)
  | [], _ => rfl
  | _ :: _, [] => rfl
  | x :: l, y :: m => by
    rw [List.map_cons, List.map_cons, List.zip_cons_cons, List.zip_cons_cons, List.map_cons, zip_maps g l m]
theorem all_next {α : Type} {r : α → α → Prop} [DecidableRel r] : ∀ {l : List α}, l.Pairwise r → ((l.zip (l.drop 1)).all fun p => decide (r p.1 p.2)) = true
  | [], _ => rfl
  | [_], _ => rfl
  | x :: y :: l, h => by
    have t := all_next (List.pairwise_cons.mp h).2
    have q := (List.pairwise_cons.mp h).1 y (.head _)
    simp only [List.drop_succ_cons, List.drop_zero, List.zip_cons_cons, List.all_cons, decide_eq_true q, Bool.true_and] at t ⊢
    exact t
/-! slices -/
theorem cut_from (xs : List D) {i : Int} (h : 0 ≤ i) : cutD xs (some i) none = xs.drop i.toNat := by
  obtain ⟨k, rfl⟩ := Int.eq_ofNat_of_zero_le h
  unfold cutD
  rw [HT.sIx_nat, HT.sIx_none, Int.toNat_natCast]
  by_cases q : k ≤ xs.length
  · rw [Nat.min_eq_left q, List.take_of_length_le (by rw [List.length_drop]; exact Nat.le_refl _)]
  · rw [Nat.min_eq_right (by omega), List.drop_of_length_le (Nat.le_refl _), List.drop_of_length_le (by omega)]
    simp
theorem cut_to (xs : List D) {i : Int} (h : 0 ≤ i) : cutD xs none (some i) = xs.take i.toNat := by
  obtain ⟨k, rfl⟩ := Int.eq_ofNat_of_zero_le h
  unfold cutD
  rw [HT.sIx_nat, HT.sIx_none, Int.toNat_natCast, Nat.sub_zero, List.drop_zero]
  by_cases q : k ≤ xs.length
  · rw [Nat.min_eq_left q]
  · rw [Nat.min_eq_right (by omega), List.take_of_length_le (Nat.le_refl _), List.take_of_length_le (by omega)]
theorem at_int {xs : List D} {i : Int} {k : Nat} (h : i = k) : atD xs i = xs[k]? := by
  subst h
  show L2.atI xs (k : Int) = _
  unfold L2.atI L2.ixN
  rw [if_pos (by omega)]
  by_cases q : (k : Int) < xs.length
  · rw [if_pos q]
    simp
  · rw [if_neg q, List.getElem?_eq_none (by omega)]
    rfl
theorem atI_of {α : Type} {xs : List α} {i : Int} (k : Nat) (h : i = k) : L2.atI xs i = xs[k]? := by
  subst h
  unfold L2.atI L2.ixN
  rw [if_pos (by omega)]
  by_cases q : (k : Int) < xs.length
  · rw [if_pos q]
    simp
  · rw [if_neg q, List.getElem?_eq_none (by omega)]
    rfl
@[simp] theorem atI_zero {α : Type} (x : α) (ys : List α) : L2.atI (x :: ys) 0 = some x := (atI_of 0 rfl : L2.atI (x :: ys) 0 = (x :: ys)[0]?)
@[simp] theorem atI_one {α : Type} (x y : α) (ys : List α) : L2.atI (x :: y :: ys) 1 = some y := (atI_of 1 rfl : L2.atI (x :: y :: ys) 1 = (x :: y :: ys)[1]?)
/-! loops -/
theorem for_map {α : Type} {f : D → Env → (Env → Prop) → Prop} {g : α → D} {Q : Env → Prop} : ∀ {l : List α} {ρ : Env}, forL f (l.map g) ρ Q = forL (fun d ρ K => f d ρ K) (l.map g) ρ Q := rfl
/-- a loop as a fold over states -/
theorem for_fold {α σ : Type} {f : D → Env → (Env → Prop) → Prop} {g : α → D} (en : σ → Env) (st : σ → α → σ) {Q : Env → Prop} : ∀ {l : List α} {s : σ}, (∀ a ∈ l, ∀ s, ∀ K : Env → Prop, K (en (st s a)) → f (g a) (en s) K) → Q (en (l.foldl st s)) → forL f (l.map g) (en s) Q
  | [], s, _, q => q
  | a :: l, s, hf, q => by
    rw [List.map_cons, forL]
    exact hf a (.head _) s _ (for_fold en st (fun b hb => hf b (.tail _ hb)) q)
/-- a loop by an invariant over what is done and what is left -/
theorem for_inv {α : Type} {f : D → Env → (Env → Prop) → Prop} {g : α → D} (I : List α → List α → Env → Prop) {Q : Env → Prop} : ∀ {rest done : List α} {ρ : Env}, I done rest ρ → (∀ done a rest ρ, I done (a :: rest) ρ → ∀ K : Env → Prop, (∀ ρ', I (done ++ [a]) rest ρ' → K ρ') → f (g a) ρ K) →
    (∀ done ρ, I done [] ρ → Q ρ) → forL f (rest.map g) ρ Q
  | [], done, ρ, h, _, q => q _ _ h
  | a :: rest, done, ρ, h, hf, q => by
    rw [List.map_cons, forL]
    exact hf done a rest ρ h _ fun ρ' h' => for_inv I h' hf q
/-- a while loop, by an invariant with a bound of the turns left -/
theorem while_to {c : Env → (Bool → Prop) → Prop} {f : Env → (Env → Prop) → Prop} {Q : Env → Prop} (I : Nat → Env → Prop) (h0 : ∀ ρ, I 0 ρ → ∀ K : Prop, c ρ fun b => if b = true then K else Q ρ)
    (h : ∀ m ρ, I (m + 1) ρ → ∀ K : Env → Prop, (∀ ρ', I m ρ' → K ρ') → c ρ fun b => if b = true then f ρ K else Q ρ) {m : Nat} {ρ : Env} (i : I m ρ) : ∃ k, whileN c f k ρ Q := by
  refine ⟨m + 1, ?_⟩
  induction m generalizing ρ with
  | zero => exact h0 ρ i _
  | succ m ih => exact h m ρ i _ fun ρ' i' => ih i'
/-! places -/
theorem range_get {α : Type} (d : α) (xs : List α) : (List.range xs.length).map (fun k => xs.getD k d) = xs := by
  refine List.ext_getElem (by simp) fun i h1 h2 => ?_
  simp [List.getD_eq_getElem?_getD, h2]
theorem find_range {α : Type} (d : α) (p : α → Bool) (xs : List α) : xs.find? p = (((List.range xs.length).filter fun k => p (xs.getD k d)).head?).map fun k => xs.getD k d := by
  have := List.find?_map (f := fun k => xs.getD k d) (p := p) (l := List.range xs.length)
  rw [range_get] at this
  rw [this, List.head?_filter]
  rfl
theorem zip_range_right {α β : Type} (f : α → β) (n : Nat) (xs : List α) : (List.range n).zip (xs.map f) = ((List.range n).zip xs).map fun p => (p.1, f p.2) := by
  rw [List.zip_map_right]
  rfl
theorem zip_split {α : Type} {xs : List α} {done rest : List (Nat × α)} {i : Nat} {x : α} (e : (List.range xs.length).zip xs = done ++ (i, x) :: rest) : i = done.length ∧ xs = done.map (·.2) ++ x :: rest.map (·.2) := by
  have e2 := congrArg (List.map Prod.snd) e
  rw [List.map_snd_zip (by simp)] at e2
  refine ⟨?_, by simpa using e2⟩
  have e1 := congrArg (List.map Prod.fst) e
  rw [List.map_fst_zip (by simp)] at e1
  have e3 := congrArg (fun l => l[done.length]?) e1
  simp only [List.map_append, List.map_cons] at e3
  rw [List.getElem?_append_right (by simp)] at e3
  simp only [List.length_map, Nat.sub_self, List.getElem?_cons_zero] at e3
  have := (List.getElem?_eq_some_iff.mp e3).2
  simpa using this.symm
theorem range_split {n a : Nat} {done rest : List Nat} (e : List.range n = done ++ a :: rest) : a = done.length := by
  have e3 := congrArg (fun l => l[done.length]?) e
  rw [List.getElem?_append_right (Nat.le_refl _), Nat.sub_self, List.getElem?_cons_zero] at e3
  have := (List.getElem?_eq_some_iff.mp e3).2
  simpa using this.symm
theorem range_nat {p : Nat} (h : p ≤ 1000) : fRange [.int p] = some (.list ((List.range p).map fun (k : Nat) => .int k)) := by
  have z : (p : Int) ≤ (sizeLine : Int) := Int.ofNat_le.mpr (size_of (by omega))
  unfold fRange
  exact if_pos ⟨by omega, by omega, z⟩
/-! lots -/
theorem tupI_def (l : List Int) : (.tuple (l.map .int) : D) = tupI l := rfl
@[simp] theorem imm_tupI (l : List Int) : imm (tupI l) = true := by simp [tupI]
@[simp] theorem plain_tupI' (l : List Int) : (tupI l).plain = true := by simp [tupI]
@[simp] theorem smallD_tupI (l : List Int) : smallD (tupI l) = true := by simp [tupI]
@[simp] theorem eqv_tupI' (a b : List Int) : PyData.eqv (tupI a) (tupI b) = decide (a = b) := eqv_tupI a b
@[simp] theorem immAll_tupIs (ls : List (List Int)) : immAll (ls.map tupI) = true := immAll_map imm_tupI ls
@[simp] theorem plainAll_tupIs : ∀ ls : List (List Int), PyData.plainAll (ls.map tupI) = true
  | [] => rfl
  | l :: ls => by simp [PyData.plainAll, plainAll_tupIs ls]
@[simp] theorem alike_tupI (a b : List Int) : PySem.W.alike (tupI a) (tupI b) = true := by
  unfold tupI
  rw [PySem.W.alike]
  exact PySem.W.alike_ints a b
@[simp] theorem lt_tupI (a b : List Int) : PySem.W.dataLt (tupI a) (tupI b) = decide (a < b) := by
  unfold tupI
  rw [PySem.W.dataLt_tuple]
  exact PySem.W.dataLt_ints a b
@[simp high] theorem isTupD_tupI (l : List Int) : isTupD (tupI l) = true := rfl
@[simp high] theorem isNonD_tupI (l : List Int) : isNonD (tupI l) = false := rfl
@[simp] theorem sortable_tupI (ls : List (List Int)) : sortable (ls.map tupI) = true := by
  unfold sortable
  simp [List.all_map, -isTupD, -isNonD]
@[simp] theorem sortable_ints (l : List Int) : sortable (l.map .int) = true := by
  unfold sortable
  have : ∀ x : Int, isTupD (.int x) = false := fun _ => rfl
  simp [List.all_map, PySem.W.alike, this, -isTupD]
theorem ordOk_tupI (a b : List Int) : ordOk (tupI a) (tupI b) = true := by simp [ordOk, -isNonD]
/-- ascending order of whole numbers, as sorted makes it -/
theorem sortD_ints (l : List Int) : sortD (l.map .int) = (l.mergeSort fun a b => decide (a ≤ b)).map .int := by
  unfold sortD
  have e : (fun a b : Int => decide (a ≤ b)) = PySem.W.dataLe false (fun i : Int => (.int i : D)) := (PySem.W.dataLe_int (fun i : Int => i)).symm
  rw [e]
  exact (List.map_mergeSort (f := fun i : Int => (.int i : D)) (s := PySem.W.dataLe false id) fun a _ b _ => rfl).symm
/-! keys: lists of whole numbers, or of flags, as tuples -/
class Key (κ : Type) [DecidableEq κ] where
  enc : κ → D
  eqv : ∀ a b, PyData.eqv (enc a) (enc b) = decide (a = b)
  nk : ∀ a b, nkey (enc a) = nkey (enc b) ↔ a = b
  ok : ∀ a, keyOk (enc a) = true
  pl : ∀ a, (enc a).plain = true
  sm : ∀ a, smallD (enc a) = true
  im : ∀ a, imm (enc a) = true
@[simp] theorem imm_key {κ : Type} [DecidableEq κ] [Key κ] (a : κ) : imm (Key.enc a) = true := Key.im a
@[simp] theorem plain_key {κ : Type} [DecidableEq κ] [Key κ] (a : κ) : (Key.enc a).plain = true := Key.pl a
@[simp] theorem small_key {κ : Type} [DecidableEq κ] [Key κ] (a : κ) : smallD (Key.enc a) = true := Key.sm a
@[simp] theorem eqv_key {κ : Type} [DecidableEq κ] [Key κ] (a b : κ) : PyData.eqv (Key.enc a) (Key.enc b) = decide (a = b) := Key.eqv a b
theorem nkeys_ints : ∀ l : List Int, nkeys (l.map .int) = some (l.map NestedKey.num)
  | [] => by rw [List.map_nil, nkeys]; rfl
  | x :: xs => by
    rw [List.map_cons, nkeys, nkeys_ints xs, nkey]
    rfl
theorem depth_nums : ∀ l : List NestedKey, (∀ k ∈ l, ∃ i, k = NestedKey.num i) → NestedKey.depthAll l = 0
  | [], _ => by rw [NestedKey.depthAll]
  | k :: l, h => by
    obtain ⟨i, rfl⟩ := h k (.head _)
    rw [NestedKey.depthAll, depth_nums l fun k hk => h k (.tail _ hk), NestedKey.depth]
    rfl
theorem nkey_tupI (l : List Int) : nkey (tupI l) = some (.tup (l.map NestedKey.num)) := by
  unfold tupI
  rw [nkey, nkeys_ints]
  rfl
instance : Key (List Int) where
  enc := tupI
  eqv := eqv_tupI
  nk a b := by
    rw [nkey_tupI, nkey_tupI]
    constructor
    · intro h
      have h' : a.map NestedKey.num = b.map NestedKey.num := by simpa using h
      exact (List.map_inj_right (fun x y e => by simpa using e)).mp h'
    · rintro rfl; rfl
  ok l := by
    have h := depth_nums (l.map NestedKey.num) fun k hk => by obtain ⟨i, _, rfl⟩ := List.mem_map.mp hk; exact ⟨i, rfl⟩
    simp [keyOk, nkey_tupI, NestedKey.depth, h, -isTupD]
  pl := plain_tupI'
  sm := smallD_tupI
  im := imm_tupI
def tupB (l : List Bool) : D := .tuple (l.map .bool)
theorem nkeys_bools : ∀ l : List Bool, nkeys (l.map .bool) = some (l.map fun b => NestedKey.num (if b = true then 1 else 0))
  | [] => by rw [List.map_nil, nkeys]; rfl
  | x :: xs => by
    rw [List.map_cons, nkeys, nkeys_bools xs, nkey]
    rfl
theorem nkey_tupB (l : List Bool) : nkey (tupB l) = some (.tup (l.map fun b => NestedKey.num (if b = true then 1 else 0))) := by
  unfold tupB
  rw [nkey, nkeys_bools]
  rfl
theorem eqvAll_bools : ∀ a b : List Bool, PyData.eqvAll (a.map .bool) (b.map .bool) = decide (a = b)
  | [], [] => rfl
  | [], _ :: _ => by simp [PyData.eqvAll]
  | _ :: _, [] => by simp [PyData.eqvAll]
  | x :: a, y :: b => by
    rw [List.map_cons, List.map_cons, PyData.eqvAll, eqvAll_bools a b]
    have : PyData.eqv (.bool x) (.bool y) = decide (x = y) := by
      cases x <;> cases y <;> simp [PyData.eqv]
    rw [this]
    by_cases h : x = y <;> by_cases h' : a = b <;> simp [h, h']
theorem plain_bools : ∀ l : List Bool, PyData.plainAll (l.map .bool) = true
  | [] => rfl
  | x :: xs => by simp [PyData.plainAll, PyData.plain, plain_bools xs]
theorem depth_bools : ∀ l : List Bool, PyData.depthAll (l.map .bool) = 0
  | [] => rfl
  | x :: xs => by simp [PyData.depthAll, PyData.depth, depth_bools xs]
instance : Key (List Bool) where
  enc := tupB
  eqv a b := by
    unfold tupB
    rw [PyData.eqv]
    exact eqvAll_bools a b
  nk a b := by
    rw [nkey_tupB, nkey_tupB]
    constructor
    · intro h
      have h' : (a.map fun b => NestedKey.num (if b = true then 1 else 0)) = b.map fun b => NestedKey.num (if b = true then 1 else 0) := by simpa using h
      refine (List.map_inj_right (fun x y e => ?_)).mp h'
      cases x <;> cases y <;> simp_all
    · rintro rfl; rfl
  ok l := by
    have h := depth_nums (l.map fun b => NestedKey.num (if b = true then 1 else 0)) fun k hk => by obtain ⟨i, _, rfl⟩ := List.mem_map.mp hk; exact ⟨_, rfl⟩
    have t : isTupD (tupB l) = true := rfl
    simp [keyOk, nkey_tupB, NestedKey.depth, h, t, -isTupD]
  pl l := by
    unfold tupB
    rw [plain_tup]
    exact plain_bools l
  sm l := by
    unfold tupB smallD
    rw [PyData.depth, depth_bools]
    decide
  im l := by
    unfold tupB
    rw [imm]
    exact immAll_map (fun _ => rfl) l
end DL
/-! DLM: least alike pairs of an ascending list, in plain lists. -/
set_option linter.all false
namespace DL
abbrev L := List Int
theorem l_irr (a : L) : ¬ a < a := List.lt_irrefl a
theorem l_tri (a b : L) : a < b ∨ a = b ∨ b < a := by
  rcases List.le_total a b with h | h
  · rcases List.le_iff_lt_or_eq.mp h with z | z
    · exact .inl z
    · exact .inr (.inl z)
  · rcases List.le_iff_lt_or_eq.mp h with z | z
    · exact .inr (.inr z)
    · exact .inr (.inl z.symm)
theorem l_tr {a b c : L} (h : a < b) (k : b < c) : a < c := List.lt_trans h k
theorem l_no {a b : L} (h : a < b) (k : b < a) : False := l_irr a (l_tr h k)
section
variable {κ : Type} [DecidableEq κ] (f : L → κ)
/-- o is the least pair of unlike members of xs that f cannot tell apart -/
inductive IsLP (xs : List L) : Option (L × L) → Prop
  | no (h : ∀ x ∈ xs, ∀ y ∈ xs, x < y → f x ≠ f y) : IsLP xs none
  | yes {a b : L} (ha : a ∈ xs) (hb : b ∈ xs) (ab : a < b) (e : f a = f b) (h : ∀ x ∈ xs, ∀ y ∈ xs, x < y → f x = f y → a < x ∨ (a = x ∧ (b < y ∨ b = y))) : IsLP xs (some (a, b))
variable {f}
theorem IsLP.uniq {xs : List L} {o o' : Option (L × L)} (h : IsLP f xs o) (h' : IsLP f xs o') : o = o' := by
  cases h with
  | no h =>
    cases h' with
    | no _ => rfl
    | yes ha hb ab e _ => exact absurd e (h _ ha _ hb ab)
  | @yes a b ha hb ab e h =>
    cases h' with
    | no h' => exact absurd e (h' _ ha _ hb ab)
    | @yes a' b' ha' hb' ab' e' h' =>
      have q := h _ ha' _ hb' ab' e'
      have q' := h' _ ha _ hb ab e
      rcases q with q | ⟨rfl, q⟩
      · rcases q' with q' | ⟨rfl, _⟩
        · exact (l_no q q').elim
        · exact (l_irr _ q).elim
      · rcases q' with q' | ⟨_, q'⟩
        · exact (l_irr _ q').elim
        · rcases q with q | rfl
          · rcases q' with q' | rfl
            · exact (l_no q q').elim
            · exact (l_irr _ q).elim
          · rfl
/-- the first pair of a list that f cannot tell apart -/
def alikePair (f : L → κ) : List L → Option (L × L)
  | [] => none
  | x :: xs => match xs.find? fun y => decide (f y = f x) with
    | some y => some (x, y)
    | none => alikePair f xs
theorem alikePair_is : ∀ {xs : List L}, xs.Pairwise (· < ·) → IsLP f xs (alikePair f xs)
  | [], _ => .no (fun x hx => by cases hx)
  | x :: xs, asc => by
    have px := (List.pairwise_cons.mp asc).1
    have ih := alikePair_is (List.pairwise_cons.mp asc).2
    rw [alikePair]
    cases q : xs.find? fun y => decide (f y = f x) with
    | some y =>
      have hy := List.mem_of_find?_eq_some q
      have ey : f y = f x := by simpa using List.find?_some q
      refine .yes (.head _) (.tail _ hy) (px y hy) ey.symm fun u hu v hv uv e => ?_
      rcases List.mem_cons.mp hu with rfl | hu
      · refine .inr ⟨rfl, ?_⟩
        rcases List.mem_cons.mp hv with rfl | hv
        · exact (l_irr _ uv).elim
        · obtain ⟨as, bs, e1, e2⟩ := (List.find?_eq_some_iff_append.mp q).2
          rw [e1] at hv
          rcases List.mem_append.mp hv with hv | hv
          · have := e2 v hv
            simp [e] at this
          · rcases List.mem_cons.mp hv with rfl | hv
            · exact .inr rfl
            · rw [e1] at asc
              have := (List.pairwise_append.mp (List.pairwise_cons.mp asc).2).2.1
              exact .inl ((List.pairwise_cons.mp this).1 v hv)
      · exact .inl (px u hu)
    | none =>
      have no : ∀ y ∈ xs, f y ≠ f x := fun y hy => by simpa using List.find?_eq_none.mp q y hy
      cases h : alikePair f xs with
      | none =>
        rw [h] at ih
        cases ih with
        | no ih =>
          refine .no fun u hu v hv uv e => ?_
          rcases List.mem_cons.mp hv with rfl | hv'
          · rcases List.mem_cons.mp hu with rfl | hu
            · exact l_irr _ uv
            · exact l_no uv (px u hu)
          · rcases List.mem_cons.mp hu with rfl | hu
            · exact no v hv' e.symm
            · exact ih u hu v hv' uv e
      | some p =>
        rw [h] at ih
        cases ih with
        | @yes a b ha hb ab e ih =>
          refine .yes (.tail _ ha) (.tail _ hb) ab e fun u hu v hv uv e => ?_
          rcases List.mem_cons.mp hv with rfl | hv'
          · rcases List.mem_cons.mp hu with rfl | hu
            · exact (l_irr _ uv).elim
            · exact (l_no uv (px u hu)).elim
          · rcases List.mem_cons.mp hu with rfl | hu
            · exact absurd e.symm (no v hv')
            · exact ih u hu v hv' uv e
/-- a further item, unlike all ahead of it -/
theorem IsLP.new {xs : List L} {l : L} {o : Option (L × L)} (asc : (xs ++ [l]).Pairwise (· < ·)) (no : ∀ x ∈ xs, f x ≠ f l) (h : IsLP f xs o) : IsLP f (xs ++ [l]) o := by
  have pl : ∀ x ∈ xs, x < l := fun x hx => (List.pairwise_append.mp asc).2.2 x hx l (by simp)
  have split : ∀ {u v : L}, u ∈ xs ++ [l] → v ∈ xs ++ [l] → u < v → f u = f v → u ∈ xs ∧ v ∈ xs := fun {u v} hu hv uv e => by
    rcases List.mem_append.mp hu with hu | hu
    · rcases List.mem_append.mp hv with hv | hv
      · exact ⟨hu, hv⟩
      · rw [List.mem_singleton.mp hv] at e
        exact absurd e (no u hu)
    · rw [List.mem_singleton.mp hu] at e uv
      rcases List.mem_append.mp hv with hv | hv
      · exact absurd e.symm (no v hv)
      · rw [List.mem_singleton.mp hv] at uv
        exact (l_irr _ uv).elim
  cases h with
  | no h => exact .no fun u hu v hv uv e => h u (split hu hv uv e).1 v (split hu hv uv e).2 uv e
  | yes ha hb ab e h => exact .yes (List.mem_append_left _ ha) (List.mem_append_left _ hb) ab e fun u hu v hv uv e => h u (split hu hv uv e).1 v (split hu hv uv e).2 uv e
/-- the lesser one of two pairs, the second perhaps none -/
def lessPair (p : L × L) : Option (L × L) → L × L
  | none => p
  | some q => if p.1 < q.1 ∨ (p.1 = q.1 ∧ p.2 < q.2) then p else q
/-- a further item that is like an item ahead, first c -/
theorem IsLP.like {xs : List L} {l c : L} {o : Option (L × L)} (asc : (xs ++ [l]).Pairwise (· < ·)) (hc : c ∈ xs) (e : f c = f l) (first : ∀ y ∈ xs, f y = f l → c < y ∨ c = y) (h : IsLP f xs o) : IsLP f (xs ++ [l]) (some (lessPair (c, l) o)) := by
  have pl : ∀ x ∈ xs, x < l := fun x hx => (List.pairwise_append.mp asc).2.2 x hx l (by simp)
  have hl : l ∈ xs ++ [l] := by simp
  have inl : ∀ {x}, x ∈ xs → x ∈ xs ++ [l] := fun h => List.mem_append_left _ h
  have split : ∀ {u v : L}, u ∈ xs ++ [l] → v ∈ xs ++ [l] → u < v → f u = f v → u ∈ xs ∧ (v ∈ xs ∨ v = l) := fun {u v} hu hv uv e => by
    rcases List.mem_append.mp hu with hu | hu
    · rcases List.mem_append.mp hv with hv | hv
      · exact ⟨hu, .inl hv⟩
      · exact ⟨hu, .inr (List.mem_singleton.mp hv)⟩
    · rw [List.mem_singleton.mp hu] at uv
      rcases List.mem_append.mp hv with hv | hv
      · exact (l_no uv (pl v hv)).elim
      · rw [List.mem_singleton.mp hv] at uv
        exact (l_irr _ uv).elim
  cases h with
  | no h =>
    refine .yes (inl hc) hl (pl c hc) e fun u hu v hv uv e' => ?_
    obtain ⟨hu', hv' | vl⟩ := split hu hv uv e'
    · exact absurd e' (h u hu' v hv' uv)
    · rw [vl] at e' ⊢
      rcases first u hu' e' with z | z
      · exact .inl z
      · exact .inr ⟨z, .inr rfl⟩
  | @yes a b ha hb ab e2 h =>
    by_cases z : c < a ∨ (c = a ∧ l < b)
    · rw [show lessPair (c, l) (some (a, b)) = (c, l) from if_pos z]
      refine .yes (inl hc) hl (pl c hc) e fun u hu v hv uv e' => ?_
      have ca : c < a := z.elim id fun z => (l_no z.2 (pl b hb)).elim
      obtain ⟨hu', hv' | vl⟩ := split hu hv uv e'
      · rcases h u hu' v hv' uv e' with q | ⟨q, _⟩
        · exact .inl (l_tr ca q)
        · exact .inl (q ▸ ca)
      · rw [vl] at e' ⊢
        rcases first u hu' e' with z | z
        · exact .inl z
        · exact .inr ⟨z, .inr rfl⟩
    · rw [show lessPair (c, l) (some (a, b)) = (a, b) from if_neg z]
      refine .yes (inl ha) (inl hb) ab e2 fun u hu v hv uv e' => ?_
      have ac : a < c ∨ a = c := by
        rcases l_tri a c with q | q | q
        · exact .inl q
        · exact .inr q
        · exact absurd (.inl q) z
      obtain ⟨hu', hv' | vl⟩ := split hu hv uv e'
      · exact h u hu' v hv' uv e'
      · rw [vl] at e' ⊢
        have cu := first u hu' e'
        rcases ac with ac | rfl
        · rcases cu with cu | rfl
          · exact .inl (l_tr ac cu)
          · exact .inl ac
        · rcases cu with cu | rfl
          · exact .inl cu
          · exact .inr ⟨rfl, .inl (pl b hb)⟩
end
end DL
set_option Elab.async false
set_option linter.all false
set_option maxRecDepth 100000
/-! DL7: contexts, slots, shapes. -/
namespace DL
open PySem PySem.Spec PyProof.Rows L2

/-! ### contexts -/
/-- a def (or a class) at f may be called with a promise -/
structure CallOk (P : Program) (w : World) (K : PySem.W.Frag) (mg : Str → Option Value) (base : Heap) (A : Around) (f : Addr) (sp : List V → Hp → VK → Prop) : Prop where
  keep : PySem.W.keepIn K (.ref f) = true
  run : ∀ (X : Cx), X.prog = P → X.w = w → X.K = K → X.mg = mg → X.base = base → X.A = A → ∀ (pins : List (Addr × Obj)) (s : Shared) (σ : L2.St) (H : Hp) (us : List Value) (vs : List V) (Q : VK),
    Inv X pins σ H s → Vals vs us → sp vs H Q → wpAny (model X.prog X.w) X.A (call (.ref f) us) (EP X pins σ Q) X.xe s
/-- what a def hands back -/
def GivesR (g : Gx) (H : Hp) (d : D) (Q : VK) : Prop := ∀ v H', Same H H' → (∀ O, OwO O H → Rp g (msk O H') v d) → TopNew H v d → Q v H'
/-- a def's promise by its meaning -/
def spC (g : Gx) (Ck : List D → (D → Prop) → Prop) : List V → Hp → VK → Prop := fun vs H Q => ∃ ds, RpAll g H vs ds ∧ Ck ds fun d => GivesR g H d Q
/-- an item of a list or tuple, drawn -/
def spSome (g : Gx) : List V → Hp → VK → Prop := fun vs H Q => ∃ x a xs, vs = [x, .ref a] ∧ Rp g H x hand ∧ (H a = some (.lst xs) ∨ H a = some (.tup xs)) ∧ xs ≠ [] ∧ ∀ (i : Nat) (y : V) H', xs[i]? = some y → Same H H' → Q y H'

def bltNames : List Str := ["len", "tuple", "list", "sorted", "all", "any", "sum", "abs", "int", "min", "max", "isinstance", "bool", "str", "set", "range", "enumerate", "zip", "repr"]
structure XOk (g : Gx) (C : Calls) (cf : Cfg) (n : Nat) (X : Cx) : Prop where
  gx : g.Of X
  mono : Mono C
  calm : X.calm = true
  room : Room n X.A
  gd : X.A.guards = some []
  nd : X.N.Nodup
  blt : ∀ x ∈ bltNames, X.mg x = none
  lits : ∀ x i, cf.cints.lookup x = some i → ∃ t, X.mg x = some (.int i t)
  fns : ∀ k x, cf.fns[k]? = some x → X.mg x = some (.ref (g.fa k)) ∧ CallOk X.prog X.w X.K X.mg X.base X.A (g.fa k) (spC g (C k))
  keep : ∀ k, PySem.W.keepIn X.K (.ref (g.fa k)) = true
  dom : ∀ k ds Q, C k ds Q → ∃ x, cf.fns[k]? = some x
  sm : ∃ f, X.mg ("_law_some" : Str) = some (.ref f) ∧ CallOk X.prog X.w X.K X.mg X.base X.A f (spSome g)
  cls : (∃ x, cf.fns.contains x = true ∧ x = ("Family" : Str)) → Cls X.K g.C ∧ NoAttr X.K g.C ("points" : Str) ∧ NoAttr X.K g.C ("lots" : Str)
theorem XOk.blk {g : Gx} {C : Calls} {cf : Cfg} {n : Nat} {X : Cx} (x : XOk g C cf n X) (s : Shared) (H : Hp) (scope : Scope) (cenv : PySem.Env) (fp : List Addr) : XOk g C cf n (X.blk s H scope cenv fp) where
  gx := ⟨x.gx.P, x.gx.w, x.gx.K⟩
  mono := x.mono
  calm := x.calm
  room := x.room
  gd := x.gd
  nd := x.nd
  blt := x.blt
  lits := x.lits
  fns := x.fns
  keep := x.keep
  dom := x.dom
  sm := x.sm
  cls := x.cls
theorem glb_of {X : Cx} {sc : Scope} {x : Str} (he : X.env.scope = sc) (h : glB sc x = true) : Gl X x := by
  unfold Gl
  show X.env.scope.names.lookup x = some NameKind.globalImplicit
  rw [he]
  simpa [glB] using h
theorem vis_of {X : Cx} {sc : Scope} {x : Str} (he : X.env.scope = sc) (h : visB sc x = true) : Vis X.env.scope x := by
  rw [he]
  unfold visB at h
  split at h
  · rename_i e; exact .inl e
  · rename_i e; exact .inr (.inl e)
  · rename_i e; exact .inr (.inr e)
  · cases h
theorem loc_of {X : Cx} {sc : Scope} {x : Str} (he : X.env.scope = sc) (h : locB sc x = true) : Loc X.env.scope x := by
  rw [he]
  unfold locB at h
  split at h
  · rename_i e; exact .inl e
  · rename_i e; exact .inr e
  · cases h
theorem okN_of {x : Str} (h : okN x = true) : (x == ("__debug__" : Str)) = false ∧ (x == ("__classdict__" : Str)) = false ∧ x ≠ ("__name__" : Str) := by
  unfold okN at h
  simp only [Bool.and_eq_true, Bool.not_eq_true', beq_eq_false_iff_ne] at h
  refine ⟨?_, ?_, h.2⟩
  · rw [beq_eq_false_iff_ne]; exact h.1.1
  · rw [beq_eq_false_iff_ne]; exact h.1.2

/-! ### shapes -/
section
variable {cf : Cfg} {N : List Str} {sc : Scope}
theorem noStar {e : E} {x : Expr} (h : mE cf N sc e x = true) : ∀ (l : List Expr) (env : PySem.Env), starEach (x :: l) env = (false, eval x env) :: starEach l env := by
  cases x with
  | Starred _ _ => exfalso; cases e <;> simp [mE] at h
  | _ => intros; rfl
theorem noMark {e : E} {x : Expr} (h : mE cf N sc e x = true) (op : CmpOp) : behindInMarks op x = false := by
  cases x with
  | Set _ _ _ => exfalso; cases e <;> simp [mE] at h
  | _ => rfl
theorem plainIx {e : E} {x : Expr} (h : mE cf N sc e x = true) : PlainIx x := by
  cases x with
  | Slice _ _ _ _ => exfalso; cases e <;> simp [mE] at h
  | _ => intro _ _; rfl
theorem noFold {e : E} {x : Expr} (h : mE cf N sc e x = true) (env : PySem.Env) (v : Value) : foldedSetIterable x env v = pure v := by
  cases x with
  | Set _ _ _ => exfalso; cases e <;> simp [mE] at h
  | _ => rfl
theorem noFoldI {i : I} {x : Expr} (h : mI cf N sc i x = true) (env : PySem.Env) (v : Value) : foldedSetIterable x env v = pure v := by
  cases i with
  | vals e => exact noFold (by simpa [mI] using h) env v
  | valsT e => exact noFold (by simpa [mI] using h) env v
  | _ =>
    cases x with
    | Call _ _ _ _ => rfl
    | _ => exfalso; simp [mI] at h
theorem starEs : ∀ {es : Es} {l : List Expr}, mEs cf N sc es l = true → ∀ (p : Pos) (env : PySem.Env), (backTo p (starEach l env)).any (·.1) = false
  | .nil, [], _, p, env => rfl
  | .nil, _ :: _, h, _, _ => by simp [mEs] at h
  | .cons e es, [], h, _, _ => by simp [mEs] at h
  | .cons e es, x :: l, h, p, env => by
    simp only [mEs, Bool.and_eq_true] at h
    rw [noStar h.1]
    show (false || (backTo p (starEach l env)).any (·.1)) = false
    rw [starEs h.2 p env]
    rfl
theorem attrBase {e : E} {x : Expr} (h : mE cf N sc e x = true) (f : Str) (env : PySem.Env) (whole : Sem Value) : attributeBase x f env whole = whole := by
  cases x with
  | Call fn args kw q =>
    cases args with
    | nil => exfalso; cases e <;> simp [mE] at h <;> (try (split at h <;> simp_all))
    | cons y l => cases fn <;> rfl
  | _ => rfl
end

/-! ### slots -/
section
variable {g : Gx} {H0 H H' : Hp} {ρ : Env} {σ : L2.St} {O : List Addr}
theorem at_set_same {i : Nat} {o : Option Sl} (h : i < ρ.length) : Env.at (ρ.set i o) i = o := by
  unfold Env.at
  rw [List.getElem?_set_self h]
  cases o <;> rfl
theorem at_set_ne {i j : Nat} {o : Option Sl} (h : i ≠ j) : Env.at (ρ.set i o) j = Env.at ρ j := by
  unfold Env.at
  rw [List.getElem?_set_ne h]
theorem at_lt {i : Nat} {s : Sl} (h : Env.at ρ i = some s) : i < ρ.length := by
  rcases Nat.lt_or_ge i ρ.length with z | z
  · exact z
  · unfold Env.at at h
    rw [List.getElem?_eq_none z] at h
    cases h
theorem set_big {i : Nat} {o : Option Sl} (h : ¬ i < ρ.length) : ρ.set i o = ρ := List.set_eq_of_length_le (by omega)
/-- a slot is given a value that may be kept -/
theorem ER.setF (e : ER g H0 ρ σ H O) {i : Nat} {v : V} {d : D} (h : Rp g (msk O H) v d) : ER g H0 (ρ.setF i d) (σ.set i (some v)) H O := by
  by_cases hi : i < ρ.length
  · have hσ : i < σ.length := by rw [e.len]; exact hi
    refine ⟨by simp [Env.setF, e.len], fun j x hx => ?_, fun j x hx => ?_, fun j k x y a hx hy h1 h2 => ?_, e.new, e.same⟩
    · by_cases q : i = j
      · subst q
        rw [Env.setF, at_set_same hi] at hx
        cases hx
        exact ⟨v, List.getElem?_set_self hσ, h⟩
      · rw [Env.setF, at_set_ne q] at hx
        rw [List.getElem?_set_ne q]
        exact e.frz j x hx
    · by_cases q : i = j
      · subst q
        rw [Env.setF, at_set_same hi] at hx
        cases hx
      · rw [Env.setF, at_set_ne q] at hx
        rw [List.getElem?_set_ne q]
        exact e.own j x hx
    · by_cases q : i = j
      · subst q
        rw [Env.setF, at_set_same hi] at hx
        cases hx
      · by_cases q' : i = k
        · subst q'
          rw [Env.setF, at_set_same hi] at hy
          cases hy
        · rw [Env.setF, at_set_ne q] at hx
          rw [Env.setF, at_set_ne q'] at hy
          rw [List.getElem?_set_ne q] at h1
          rw [List.getElem?_set_ne q'] at h2
          exact e.inj j k x y a hx hy h1 h2
  · have e1 : ρ.setF i d = ρ := set_big hi
    have e2 : σ.set i (some v) = σ := List.set_eq_of_length_le (by rw [e.len]; omega)
    rw [e1, e2]
    exact e
/-- a slot is forgotten -/
theorem ER.drop (e : ER g H0 ρ σ H O) (i : Nat) (σ' : L2.St) (hσ : σ'.length = σ.length) (hk : ∀ j, i ≠ j → σ'[j]? = σ[j]?) : ER g H0 (ρ.set i none) σ' H O := by
  have key : ∀ j s, Env.at (ρ.set i none) j = some s → i ≠ j ∧ Env.at ρ j = some s := fun j s h => by
    by_cases q : i = j
    · subst q
      by_cases hi : i < ρ.length
      · rw [at_set_same hi] at h; cases h
      · rw [set_big hi] at h
        exact absurd (at_lt h) hi
    · rw [at_set_ne q] at h
      exact ⟨q, h⟩
  refine ⟨by simp [hσ, e.len], fun j x hx => ?_, fun j x hx => ?_, fun j k x y a hx hy h1 h2 => ?_, e.new, e.same⟩
  · obtain ⟨q, z⟩ := key j _ hx
    rw [hk j q]
    exact e.frz j x z
  · obtain ⟨q, z⟩ := key j _ hx
    rw [hk j q]
    exact e.own j x z
  · obtain ⟨q, z⟩ := key j _ hx
    obtain ⟨q', z'⟩ := key k _ hy
    rw [hk j q] at h1
    rw [hk k q'] at h2
    exact e.inj j k x y a z z' h1 h2
/-- a further place is own: a new one -/
theorem ER.addO (e : ER g H0 ρ σ H O) {a : Addr} {o : HO} (ha : H a = none) (s : Same H H') (h' : H' a = some o) (ow : Ownable o) : ER g H0 ρ σ H' (a :: O) := by
  have mm : Same (msk O H) (msk (a :: O) H') := fun b x q => by
    obtain ⟨q1, q2⟩ := msk_some q
    rw [msk_out (by
      simp only [List.mem_cons, not_or]
      exact ⟨(fun z => by rw [z, ha] at q2; cases q2), q1⟩)]
    exact s _ _ q2
  refine ⟨e.len, fun i d h => ?_, fun i d h => ?_, e.inj, fun b hb => ?_, e.same.trans s⟩
  · obtain ⟨v, q, r⟩ := e.frz i d h
    exact ⟨v, q, r.mono mm⟩
  · obtain ⟨b, q, m, r⟩ := e.own i d h
    exact ⟨b, q, List.mem_cons_of_mem _ m, r.mono s mm⟩
  · rcases List.mem_cons.mp hb with rfl | hb
    · exact ⟨e.same.free ha, o, h', ow⟩
    · obtain ⟨q, o', r, t⟩ := e.new b hb
      exact ⟨q, o', s _ _ r, t⟩
theorem msk_add {a : Addr} (ha : H a = none) (s : Same H H') : Same (msk O H) (msk (a :: O) H') := fun b x q => by
  obtain ⟨q1, q2⟩ := msk_some q
  rw [msk_out (by
    simp only [List.mem_cons, not_or]
    exact ⟨(fun z => by rw [z, ha] at q2; cases q2), q1⟩)]
  exact s _ _ q2
/-- a slot is given a new own object, laid just before -/
theorem ER.setO (e : ER g H0 ρ σ H (O)) {i : Nat} {a : Addr} {d : D} (m : a ∈ O) (h : Ow g H (msk O H) a d) (hn : ∀ j x, i ≠ j → ρ.at j = some (.own x) → σ[j]? ≠ some (some (.ref a))) : ER g H0 (ρ.setO i d) (σ.set i (some (.ref a))) H O := by
  by_cases hi : i < ρ.length
  · have hσ : i < σ.length := by rw [e.len]; exact hi
    refine ⟨by simp [Env.setO, e.len], fun j x hx => ?_, fun j x hx => ?_, fun j k x y b hx hy h1 h2 => ?_, e.new, e.same⟩
    · by_cases q : i = j
      · subst q
        rw [Env.setO, at_set_same hi] at hx
        cases hx
      · rw [Env.setO, at_set_ne q] at hx
        rw [List.getElem?_set_ne q]
        exact e.frz j x hx
    · by_cases q : i = j
      · subst q
        rw [Env.setO, at_set_same hi] at hx
        cases hx
        exact ⟨a, List.getElem?_set_self hσ, m, h⟩
      · rw [Env.setO, at_set_ne q] at hx
        rw [List.getElem?_set_ne q]
        exact e.own j x hx
    · by_cases q : i = j
      · subst q
        rw [List.getElem?_set_self hσ] at h1
        cases h1
        by_cases q' : i = k
        · exact q'
        · rw [Env.setO, at_set_ne q'] at hy
          rw [List.getElem?_set_ne q'] at h2
          exact absurd h2 (hn k y q' hy)
      · by_cases q' : i = k
        · subst q'
          rw [List.getElem?_set_self hσ] at h2
          cases h2
          rw [Env.setO, at_set_ne q] at hx
          rw [List.getElem?_set_ne q] at h1
          exact absurd h1 (hn j x q hx)
        · rw [Env.setO, at_set_ne q] at hx
          rw [Env.setO, at_set_ne q'] at hy
          rw [List.getElem?_set_ne q] at h1
          rw [List.getElem?_set_ne q'] at h2
          exact e.inj j k x y b hx hy h1 h2
  · have e1 : ρ.setO i d = ρ := set_big hi
    have e2 : σ.set i (some (.ref a)) = σ := List.set_eq_of_length_le (by rw [e.len]; omega)
    rw [e1, e2]
    exact e
end
end DL
set_option Elab.async false
set_option linter.all false
set_option maxRecDepth 100000
/-! DL8: the readings of a compact text's parts. -/
namespace DL
open PySem PySem.Spec PyProof.Rows L2

theorem PE.imp {X : Cx} {e : Expr} {t t' : TE} (h : PE X e t) (i : ∀ σ H Q, t' σ H Q → t σ H Q) : PE X e t' := ⟨fun pins s σ H Q I q => h.run pins s σ H Q I (i _ _ _ q)⟩
theorem PT.imp {X : Cx} {e : Expr} {t t' : TT} (h : PT X e t) (i : ∀ σ H Q, t' σ H Q → t σ H Q) : PT X e t' := ⟨fun pins s σ H Q I q => h.run pins s σ H Q I (i _ _ _ q)⟩
theorem PW.imp {X : Cx} {e : Expr} {t t' : TT} (h : PW X e t) (i : ∀ σ H Q, t' σ H Q → t σ H Q) : PW X e t' := ⟨fun wh pins s σ H Q I q => h.run wh pins s σ H Q I (i _ _ _ q)⟩
theorem PA.imp {X : Cx} {e : List Expr} {t t' : TA} (h : PA X e t) (i : ∀ σ H Q, t' σ H Q → t σ H Q) : PA X e t' := ⟨fun p pins s σ H Q I q => h.run p pins s σ H Q I (i _ _ _ q)⟩
theorem PO.imp {X : Cx} {e : Option Expr} {t t' : TO} (h : PO X e t) (i : ∀ σ H Q, t' σ H Q → t σ H Q) : PO X e t' := ⟨fun pins s σ H Q I q => h.run pins s σ H Q I (i _ _ _ q)⟩
theorem PI.imp {X : Cx} {tg e : Expr} {t t' : TI} (h : PI X tg e t) (i : ∀ σ H Q, t' σ H Q → t σ H Q) : PI X tg e t' := ⟨fun pins s σ H Q I q => h.run pins s σ H Q I (i _ _ _ q)⟩

section
variable (g : Gx) (C : Calls)
/-- what comes of a part that gives d: cl: its top is not own; fr: its top is new -/
def Ret (O : List Addr) (H : Hp) (cl fr : Bool) (d : D) (Q : VK) : Prop := ∀ v H', Same H H' → Rt g H' O v d → (cl = true → Rp g (msk O H') v d) → (fr = true → TopNew H v d) → Q v H'
def tE (e : E) : TE := fun σ H Q => ∃ H0 ρ O, ER g H0 ρ σ H O ∧ wE C e ρ fun d => Ret g O H (clean e ρ) (fresh e) d Q
def tT (e : E) : TT := fun σ H Q => ∃ H0 ρ O, ER g H0 ρ σ H O ∧ wT C e ρ fun b => ∀ H', Same H H' → Q b H'
inductive EsR (H H' : Hp) (O : List Addr) (ρ : Env) : Es → List V → List D → Prop
  | nil : EsR H H' O ρ .nil [] []
  | cons {e : E} {es : Es} {v : V} {vs : List V} {d : D} {ds : List D} (h : Rt g H' O v d) (hc : clean e ρ = true → Rp g (msk O H') v d) (hf : fresh e = true → TopNew H v d) (r : EsR H H' O ρ es vs ds) : EsR H H' O ρ (.cons e es) (v :: vs) (d :: ds)
def tEs (keep : Bool) (es : Es) : TA := fun σ H Q => ∃ H0 ρ O, ER g H0 ρ σ H O ∧ wEs C keep es ρ fun ds => ∀ vs H', Same H H' → EsR g H H' O ρ es vs ds → (keep = true → RpAll g (msk O H') vs ds) → Q vs H'
def tO (e : Eo) : TO := fun σ H Q => ∃ H0 ρ O, ER g H0 ρ σ H O ∧ wO C e ρ fun o => ∀ H', Same H H' → Q o H'
/-- what is walked gives the items xs while M stands and Mf stands out of the own places -/
def ItOk (M Mf : Hp) (J : It) (xs : List D) : Prop := ∀ (O : List Addr) (H : Hp), OwO O H → Same M H → Same Mf (msk O H) → ∀ i : Nat,
  (∀ d, xs[i]? = some d → J.go i H ∧ ∀ x H', J.yld i H x H' → Same H H' ∧ Rp g (msk O H') x d) ∧ (xs.length ≤ i → J.stop i H)
def tI (it : I) : TI := fun σ H R => ∃ H0 ρ O, ER g H0 ρ σ H O ∧ wI C it ρ fun xs => ∀ J H', Same H H' → ItOk g H' (msk O H') J xs →
  (okI it ρ = true → ∃ O', ER g H0 (fzI it ρ) σ H' O' ∧ Same (msk O H') (msk O' H') ∧ ItOk g (msk O' H') (msk O' H') J xs) → R J H'
end

section
variable {g : Gx} {C : Calls}
theorem EsR.go {H H1 H2 : Hp} {O : List Addr} {ρ : Env} (s : Same H1 H2) : ∀ {es : Es} {vs : List V} {ds : List D}, EsR g H H1 O ρ es vs ds → EsR g H H2 O ρ es vs ds
  | _, _, _, .nil => .nil
  | _, _, _, .cons h hc hf r => .cons (h.go s) (fun z => (hc z).mono (msk_mono s)) hf (r.go s)
theorem TopNew.back {H H1 : Hp} {v : V} {d : D} (s : Same H H1) (t : TopNew H1 v d) : TopNew H v d := fun z => let ⟨a, e, h⟩ := t z; ⟨a, e, s.free h⟩
theorem EsR.back {H H1 H2 : Hp} {O : List Addr} {ρ : Env} (s : Same H H1) : ∀ {es : Es} {vs : List V} {ds : List D}, EsR g H1 H2 O ρ es vs ds → EsR g H H2 O ρ es vs ds
  | _, _, _, .nil => .nil
  | _, _, _, .cons h hc hf r => .cons h hc (fun z => (hf z).back s) (r.back s)
theorem EsR.rt {H H1 : Hp} {O : List Addr} {ρ : Env} : ∀ {es : Es} {vs : List V} {ds : List D}, EsR g H H1 O ρ es vs ds → RtAll g H1 O vs ds
  | _, _, _, .nil => .nil
  | _, _, _, .cons h hc hf r => .cons h r.rt
/-- a value of an answer -/
theorem Gives.of {O : List Addr} {H : Hp} {cl fr : Bool} {z : D} {Q : VK} (q : Ret g O H cl fr z Q) : Gives g O H z Q := fun v H' s r t => q v H' s (.inl r) (fun _ => r) (fun _ => t)
theorem Ret.from {O : List Addr} {H H1 : Hp} {cl fr : Bool} {z : D} {Q : VK} (s : Same H H1) (q : Ret g O H cl fr z Q) : Ret g O H1 cl fr z Q := fun v H' s' r c t => q v H' (s.trans s') r c (fun z => (t z).back s)
theorem okEl_rp {O : List Addr} {H : Hp} {e : E} {ρ : Env} {v : V} {d : D} (ow : OwO O H) (h : Rt g H O v d) (hc : clean e ρ = true → Rp g (msk O H) v d) (k : okEl e ρ d = true) : Rp g (msk O H) v d := by
  simp only [okEl, Bool.or_eq_true] at k
  rcases k with k | k
  · exact h.rp.imm ow.no k
  · exact hc k
theorem kitB1 {b : Bool} {Q : Bool → Prop} (h : Q b) : Q b := h
theorem onBool_of {d : D} {Q : Bool → Prop} (h : onBool d Q) : ∃ b, d = .bool b ∧ Q b := by
  cases d <;> first | exact ⟨_, rfl, h⟩ | exact h.elim
theorem onInt_of {d : D} {Q : Int → Prop} (h : onInt d Q) : ∃ b, d = .int b ∧ Q b := by
  cases d <;> first | exact ⟨_, rfl, h⟩ | exact h.elim
theorem both_of {o : Option D} {Q : D → Prop} (h : both o Q) : ∃ d, o = some d ∧ Q d := by
  cases o with
  | none => exact h.elim
  | some d => exact ⟨d, rfl, h⟩
theorem bothB_of {o : Option Bool} {Q : Bool → Prop} (h : bothB o Q) : ∃ d, o = some d ∧ Q d := by
  cases o with
  | none => exact h.elim
  | some d => exact ⟨d, rfl, h⟩

/-! ### what is walked -/
theorem same_msk {O : List Addr} {H : Hp} : Same (msk O H) H := msk_same O
theorem itl_ok {K : PySem.W.Frag} {M Mf : Hp} {a : Addr} {vs : List V} {ds : List D} (h : M a = some (.lst vs)) (r : RpAll g Mf vs ds) : ItOk g M Mf (Itl K a) ds := by
  intro O H ow sM sF i
  have hl : SqL K H a vs := .of (sM _ _ h)
  refine ⟨fun d hd => ?_, fun hi => ⟨vs, hl, by rw [r.length]; exact hi⟩⟩
  obtain ⟨v, hv, rv⟩ := r.get hd
  refine ⟨⟨vs, v, hl, hv⟩, fun x H' y => ?_⟩
  obtain ⟨rfl, y⟩ := y
  have e := y vs hl
  rw [hv] at e; cases e
  exact ⟨.refl _, rv.mono sF⟩
theorem itt_ok {K : PySem.W.Frag} {M Mf : Hp} {a : Addr} {vs : List V} {ds : List D} (h : M a = some (.tup vs)) (r : RpAll g Mf vs ds) : ItOk g M Mf (Itt K a) ds := by
  intro O H ow sM sF i
  have hl : SqT K H a vs := .of (sM _ _ h)
  refine ⟨fun d hd => ?_, fun hi => ⟨vs, hl, by rw [r.length]; exact hi⟩⟩
  obtain ⟨v, hv, rv⟩ := r.get hd
  refine ⟨⟨vs, v, hl, hv⟩, fun x H' y => ?_⟩
  obtain ⟨rfl, y⟩ := y
  have e := y vs hl
  rw [hv] at e; cases e
  exact ⟨.refl _, rv.mono sF⟩
theorem itr_ok {M Mf : Hp} {lo : Int} {m : Nat} : ItOk g M Mf (Itr lo m) ((List.range m).map fun (k : Nat) => .int (lo + k)) := by
  intro O H ow sM sF i
  refine ⟨fun d hd => ?_, fun hi => (show m ≤ i by simpa using hi)⟩
  rw [List.getElem?_map] at hd
  by_cases h : i < m
  · rw [List.getElem?_range h] at hd
    cases hd
    refine ⟨h, fun x H' y => ?_⟩
    obtain ⟨rfl, rfl⟩ := y
    exact ⟨.refl _, .int _⟩
  · rw [List.getElem?_eq_none (by simpa using h)] at hd
    cases hd
theorem ite_ok {K : PySem.W.Frag} {M Mf : Hp} {a : Addr} {vs : List V} {ds : List D} (h : M a = some (.lst vs)) (r : RpAll g Mf vs ds) : ItOk g M Mf (Ite K a) ((List.range ds.length).zip ds |>.map fun p => .tuple [.int p.1, p.2]) := by
  intro O H ow sM sF i
  have hl : SqL K H a vs := .of (sM _ _ h)
  refine ⟨fun d hd => ?_, fun hi => ⟨vs, hl, by rw [r.length]; simpa using hi⟩⟩
  rw [List.getElem?_map] at hd
  simp only [Option.map_eq_some_iff] at hd
  obtain ⟨⟨k, x0⟩, hp, rfl⟩ := hd
  rw [List.getElem?_zip_eq_some] at hp
  obtain ⟨h1, h2⟩ := hp
  have hi : i < ds.length := by
    rcases Nat.lt_or_ge i ds.length with z | z
    · exact z
    · rw [List.getElem?_eq_none z] at h2; cases h2
  rw [List.getElem?_range hi] at h1
  cases h1
  obtain ⟨v, hv, rv⟩ := r.get h2
  refine ⟨⟨vs, v, hl, hv⟩, fun x H' y => ?_⟩
  obtain ⟨T, w, rfl, hT, rfl, y⟩ := y
  have e := y vs hl
  rw [hv] at e; cases e
  exact ⟨same_upd hT, new_tup ow hT (.cons (.int _) (.cons (rv.mono sF) .nil))⟩
theorem itz_ok {K : PySem.W.Frag} {M Mf : Hp} {a b : Addr} {vs ws : List V} {ds es : List D} (h : M a = some (.lst vs)) (r : RpAll g Mf vs ds) (h' : M b = some (.lst ws)) (r' : RpAll g Mf ws es) : ItOk g M Mf (Itz K a b) ((ds.zip es).map fun p => .tuple [p.1, p.2]) := by
  intro O H ow sM sF i
  have hl : SqL K H a vs := .of (sM _ _ h)
  have hl' : SqL K H b ws := .of (sM _ _ h')
  refine ⟨fun d hd => ?_, fun hi => ⟨vs, ws, hl, hl', ?_⟩⟩
  · rw [List.getElem?_map] at hd
    simp only [Option.map_eq_some_iff] at hd
    obtain ⟨⟨x0, y0⟩, hp, rfl⟩ := hd
    rw [List.getElem?_zip_eq_some] at hp
    obtain ⟨v, hv, rv⟩ := r.get hp.1
    obtain ⟨v', hv', rv'⟩ := r'.get hp.2
    refine ⟨⟨vs, ws, v, v', hl, hl', hv, hv'⟩, fun x H' y => ?_⟩
    obtain ⟨T, w, w', rfl, hT, rfl, y, y'⟩ := y
    have e := y vs hl
    rw [hv] at e; cases e
    have e := y' ws hl'
    rw [hv'] at e; cases e
    exact ⟨same_upd hT, new_tup ow hT (.cons (rv.mono sF) (.cons (rv'.mono sF) .nil))⟩
  · rw [r.length, r'.length]
    simp only [List.length_map, List.length_zip] at hi
    omega
theorem itzT_ok {K : PySem.W.Frag} {M Mf : Hp} {a b : Addr} {vs ws : List V} {ds es : List D} (h : M a = some (.tup vs)) (r : RpAll g Mf vs ds) (h' : M b = some (.tup ws)) (r' : RpAll g Mf ws es) : ItOk g M Mf (RZ.ItzT K a b) ((ds.zip es).map fun p => .tuple [p.1, p.2]) := by
  intro O H ow sM sF i
  have hl : SqT K H a vs := .of (sM _ _ h)
  have hl' : SqT K H b ws := .of (sM _ _ h')
  refine ⟨fun d hd => ?_, fun hi => ⟨vs, ws, hl, hl', ?_⟩⟩
  · rw [List.getElem?_map] at hd
    simp only [Option.map_eq_some_iff] at hd
    obtain ⟨⟨x0, y0⟩, hp, rfl⟩ := hd
    rw [List.getElem?_zip_eq_some] at hp
    obtain ⟨v, hv, rv⟩ := r.get hp.1
    obtain ⟨v', hv', rv'⟩ := r'.get hp.2
    refine ⟨⟨vs, ws, v, v', hl, hl', hv, hv'⟩, fun x H' y => ?_⟩
    obtain ⟨T, w, w', rfl, hT, rfl, y, y'⟩ := y
    have e := y vs hl
    rw [hv] at e; cases e
    have e := y' ws hl'
    rw [hv'] at e; cases e
    exact ⟨same_upd hT, new_tup ow hT (.cons (rv.mono sF) (.cons (rv'.mono sF) .nil))⟩
  · rw [r.length, r'.length]
    simp only [List.length_map, List.length_zip] at hi
    omega
/-- an own slot is let go: its object stands still from now on -/
theorem ER.fz {H0 H : Hp} {ρ : Env} {σ : L2.St} {O : List Addr} (e : ER g H0 ρ σ H O) (j : Nat) : ∃ O', ER g H0 (ρ.fz j) σ H O' ∧ (∀ a, a ∈ O' → a ∈ O) ∧ ∀ d a, ρ.at j = some (.own d) → σ[j]? = some (some (.ref a)) → a ∉ O' ∧ Rp g (msk O' H) (.ref a) d := by
  cases hj : ρ.at j with
  | none =>
    refine ⟨O, ?_, fun _ h => h, fun d a h => by cases h⟩
    unfold Env.fz
    rw [hj]
    exact e
  | some s =>
    cases s with
    | frz d =>
      refine ⟨O, ?_, fun _ h => h, fun d a h => by cases h⟩
      unfold Env.fz
      rw [hj]
      exact e
    | own d =>
      obtain ⟨a, ha, m, ow⟩ := e.own j d hj
      have hlt := at_lt hj
      refine ⟨O.filter (fun b => decide (b ≠ a)), ?_, fun b h => (List.mem_filter.mp h).1, fun d' a' h h' => ?_⟩
      · unfold Env.fz
        rw [hj]
        have sb : ∀ b, b ∈ O.filter (fun b => decide (b ≠ a)) → b ∈ O := fun b h => (List.mem_filter.mp h).1
        have na : a ∉ O.filter (fun b => decide (b ≠ a)) := fun h => by simpa using (List.mem_filter.mp h).2
        have rp : Rp g (msk (O.filter (fun b => decide (b ≠ a))) H) (.ref a) d := by
          cases ow with
          | lst h r => exact .lst (by rw [msk_out na]; exact h) (r.mono (msk_sub sb))
          | dct h r => exact .dct (by rw [msk_out na]; exact h) (r.mono (msk_sub sb))
        refine ⟨by simp [e.len], fun i x hx => ?_, fun i x hx => ?_, fun i k x y b hx hy h1 h2 => ?_, fun b hb => e.new b (sb b hb), e.same⟩
        · by_cases q : j = i
          · subst q
            rw [at_set_same hlt] at hx
            cases hx
            exact ⟨.ref a, ha, rp⟩
          · rw [at_set_ne q] at hx
            obtain ⟨v, q1, q2⟩ := e.frz i x hx
            exact ⟨v, q1, q2.mono (msk_sub sb)⟩
        · by_cases q : j = i
          · subst q
            rw [at_set_same hlt] at hx
            cases hx
          · rw [at_set_ne q] at hx
            obtain ⟨b, q1, q2, q3⟩ := e.own i x hx
            have nb : b ≠ a := fun z => q (e.inj j i d x a hj hx ha (by rw [← z]; exact q1))
            exact ⟨b, q1, List.mem_filter.mpr ⟨q2, by simpa using nb⟩, q3.mono (.refl _) (msk_sub sb)⟩
        · by_cases q : j = i
          · subst q
            rw [at_set_same hlt] at hx
            cases hx
          · by_cases q' : j = k
            · subst q'
              rw [at_set_same hlt] at hy
              cases hy
            · rw [at_set_ne q] at hx
              rw [at_set_ne q'] at hy
              exact e.inj i k x y b hx hy h1 h2
      · rw [ha] at h'
        cases h'
        cases h
        have sb : ∀ b, b ∈ O.filter (fun b => decide (b ≠ a)) → b ∈ O := fun b h => (List.mem_filter.mp h).1
        have na : a ∉ O.filter (fun b => decide (b ≠ a)) := fun h => by simpa using (List.mem_filter.mp h).2
        refine ⟨na, ?_⟩
        cases ow with
        | lst h r => exact .lst (by rw [msk_out na]; exact h) (r.mono (msk_sub sb))
        | dct h r => exact .dct (by rw [msk_out na]; exact h) (r.mono (msk_sub sb))
end
end DL
set_option Elab.async false
set_option linter.all false
set_option maxRecDepth 100000
/-! DL9: targets, comprehensions. -/
namespace DL
open PySem PySem.Spec PyProof.Rows L2

def gT (K : PySem.W.Frag) : List Nat → TG
  | [i] => gName i
  | [i, j] => gTup K 2 (gCons (gName i) (gCons (gName j) gNil))
  | [i, j, k] => gTup K 3 (gCons (gName i) (gCons (gName j) (gCons (gName k) gNil)))
  | _ => fun _ _ _ _ => False
section
variable {N : List Str} {X : Cx}
theorem ownOf_ix : ∀ {tg : List Nat}, (∀ i ∈ tg, ∃ x, N[i]? = some x) → (ownOf N tg).map (·.2) = tg
  | [], _ => rfl
  | i :: r, h => by
    obtain ⟨x, e⟩ := h i (List.mem_cons_self ..)
    unfold ownOf
    rw [e]
    dsimp only
    rw [List.map_cons, ownOf_ix fun j hj => h j (List.mem_cons_of_mem _ hj)]
theorem tgNames_ix {sc : Scope} : ∀ {tg : List Nat} {es : List Expr}, tgNames N sc tg es = true → ∀ i ∈ tg, ∃ x, N[i]? = some x
  | [], _, _, i, hi => by cases hi
  | j :: r, [], h, _, _ => by simp [tgNames] at h
  | j :: r, e :: es, h, i, hi => by
    cases e with
    | Name x p =>
      simp only [tgNames, Bool.and_eq_true, beq_iff_eq] at h
      rcases List.mem_cons.mp hi with rfl | hi
      · exact ⟨x, h.1.1.1⟩
      · exact tgNames_ix h.2 i hi
    | _ => simp [tgNames] at h
theorem tgB_ix {sc : Scope} {tg : List Nat} {t : Expr} (h : tgB N sc tg t = true) : ∀ i ∈ tg, ∃ x, N[i]? = some x := by
  unfold tgB at h
  split at h
  · intro i hi
    simp only [Bool.and_eq_true, beq_iff_eq] at h
    simp only [List.mem_singleton] at hi
    subst hi
    exact ⟨_, h.1.1⟩
  · exact tgNames_ix h
  · exact tgNames_ix h
  · cases h
/-- what a name that may be stored to is -/
def LocF (X : Cx) (sc : Scope) : Prop := ∀ x, locB sc x = true → L2.Loc X.env.scope x ∧ (X.fn x = true ∨ X.env.scope.names.lookup x = some .local)
theorem pg_one {sc : Scope} {i : Nat} {x : Str} {p : Pos} (hN : X.N.Nodup) (hi : X.N[i]? = some x) (hl : L2.Loc X.env.scope x ∧ (X.fn x = true ∨ X.env.scope.names.lookup x = some .local)) : PG X (.Name x p) (gName i) :=
  pg_name hN hi hl.1 hl.2
def gNames : List Nat → TGs
  | [] => gNil
  | i :: r => gCons (gName i) (gNames r)
theorem pgs_names {sc : Scope} (hN : X.N.Nodup) (hf : LocF X sc) : ∀ {tg : List Nat} {es : List Expr}, tgNames X.N sc tg es = true →
    PGs X es (gNames tg) ∧ (assignEach es X.env).length = tg.length ∧ (assignEach es X.env).findIdx? (·.1) = none
  | [], [], _ => ⟨pgs_nil, rfl, rfl⟩
  | [], _ :: _, h => by simp [tgNames] at h
  | _ :: _, [], h => by simp [tgNames] at h
  | i :: r, e :: es, h => by
    cases e with
    | Name x p =>
      simp only [tgNames, Bool.and_eq_true, beq_iff_eq] at h
      obtain ⟨h1, h2, h3⟩ := pgs_names hN hf h.2
      refine ⟨pgs_cons (pg_one (sc := sc) hN h.1.1.1 (hf _ h.1.1.2)) h1, ?_, ?_⟩
      · show (assignEach es X.env).length + 1 = r.length + 1
        rw [h2]
      · show List.findIdx? _ ((false, assign (.Name x p) X.env) :: assignEach es X.env) = none
        rw [List.findIdx?_cons]
        simp [h3]
    | _ => simp [tgNames] at h
theorem pg_tg {sc : Scope} {tg : List Nat} {t : Expr} (hc : X.calm = true) (hN : X.N.Nodup) (hf : LocF X sc) (h : tgB X.N sc tg t = true) : PG X t (gT X.K tg) := by
  unfold tgB at h
  split at h
  · simp only [Bool.and_eq_true, beq_iff_eq] at h
    exact pg_one (sc := sc) hN h.1.1 (hf _ h.1.2)
  · obtain ⟨h1, h2, h3⟩ := pgs_names hN hf h
    exact pg_tup hc h1 h2 h3
  · obtain ⟨h1, h2, h3⟩ := pgs_names hN hf h
    exact pg_tup hc h1 h2 h3
  · cases h
theorem lookup_relS (scope sc : Scope) (x : Str) : (relS scope sc).names.lookup x = (scope.names.lookup x).map fun k => if (k == .free && sc.kind == .function && sc.names.lookup x == some .cell) then .cell else k := by
  unfold relS
  dsimp only
  generalize scope.names = l
  induction l with
  | nil => rfl
  | cons p r ih =>
    obtain ⟨m, k⟩ := p
    rw [List.map_cons]
    by_cases hx : x = m
    · subst hx
      dsimp only
      split
      · rename_i h
        rw [List.lookup_cons, List.lookup_cons, beq_self_eq_true]
        dsimp only
        rw [Option.map_some, if_pos h]
      · rename_i h
        rw [List.lookup_cons, List.lookup_cons, beq_self_eq_true]
        dsimp only
        rw [Option.map_some, if_neg h]
    · have hb : (x == m) = false := beq_eq_false_iff_ne.mpr hx
      dsimp only
      split
      · rw [List.lookup_cons, List.lookup_cons, hb]; exact ih
      · rw [List.lookup_cons, List.lookup_cons, hb]; exact ih
theorem locF_blk (s : Shared) (H : Hp) (scope : Scope) (Cc : Addr) (cl : List (Str × Addr)) (fp : List Addr) : LocF (X.blk s H scope (compEnvC scope cl Cc X.env) fp) scope := by
  intro x h
  have e : (X.blk s H scope (compEnvC scope cl Cc X.env) fp).env.scope = relS scope X.env.scope := rfl
  unfold L2.Loc
  rw [e, lookup_relS]
  unfold locB at h
  split at h
  · rename_i h'
    rw [h']
    exact ⟨.inl rfl, .inr rfl⟩
  · rename_i h'
    refine ⟨.inr (by rw [h']; rfl), .inl ?_⟩
    show (scope.names.lookup x == some NameKind.cell) = true
    rw [h']
    rfl
  · cases h
end
section
variable {g : Gx} {H0 H : Hp} {ρ ρ' : Env} {σ : L2.St} {O : List Addr} {K : PySem.W.Frag}
def dropAll : List Nat → Env → Env
  | [], ρ => ρ
  | i :: r, ρ => (dropAll r ρ).set i none
theorem dropAll_len : ∀ (tg : List Nat) (ρ : Env), (dropAll tg ρ).length = ρ.length
  | [], _ => rfl
  | i :: r, ρ => by rw [dropAll, List.length_set, dropAll_len r ρ]
theorem dropAll_at : ∀ {tg : List Nat} {ρ : Env} {j : Nat} {s : Sl}, (dropAll tg ρ).at j = some s → j ∉ tg ∧ ρ.at j = some s
  | [], _, _, _, h => ⟨by simp, h⟩
  | i :: r, ρ, j, s, h => by
    unfold dropAll at h
    by_cases q : i = j
    · subst q
      by_cases hi : i < (dropAll r ρ).length
      · rw [at_set_same hi] at h; cases h
      · rw [set_big hi] at h
        exact absurd (at_lt h) hi
    · rw [at_set_ne q] at h
      obtain ⟨h1, h2⟩ := dropAll_at h
      exact ⟨by simp only [List.mem_cons, not_or]; exact ⟨Ne.symm q, h1⟩, h2⟩
theorem ER.drops (e : ER g H0 ρ σ H O) (tg : List Nat) {σ' : L2.St} (hσ : σ'.length = σ.length) (hk : ∀ j, j ∉ tg → σ'[j]? = σ[j]?) : ER g H0 (dropAll tg ρ) σ' H O := by
  refine ⟨by rw [dropAll_len, hσ, e.len], fun j x hx => ?_, fun j x hx => ?_, fun j k x y a hx hy h1 h2 => ?_, e.new, e.same⟩
  · obtain ⟨q, z⟩ := dropAll_at hx
    rw [hk j q]
    exact e.frz j x z
  · obtain ⟨q, z⟩ := dropAll_at hx
    rw [hk j q]
    exact e.own j x z
  · obtain ⟨q, z⟩ := dropAll_at hx
    obtain ⟨q', z'⟩ := dropAll_at hy
    rw [hk j q] at h1
    rw [hk k q'] at h2
    exact e.inj j k x y a z z' h1 h2
/-- a target takes a value -/
theorem bind_ok (e : ER g H0 ρ σ H O) {tg : List Nat} (nd : tg.Nodup) {d : D} (hb : bindT tg d ρ = some ρ') {x : V} (hx : Rp g (msk O H) x d) {σ0 : L2.St} (hl : σ0.length = σ.length) (hk : ∀ j, j ∉ tg → σ0[j]? = σ[j]?) {Q : L2.St → Hp → Prop}
    (q : ∀ σ2, ER g H0 ρ' σ2 H O → σ2.length = σ0.length → (∀ j, j ∉ tg → σ2[j]? = σ0[j]?) → Q σ2 H) : gT K tg x σ0 H Q := by
  have f := e.drops tg hl hk
  unfold bindT at hb
  split at hb
  · cases hb
    rename_i i
    have e1 := f.setF (i := i) hx
    have e2 : Env.setF (dropAll [i] ρ) i d = ρ.setF i d := List.set_set ..
    rw [e2] at e1
    exact q _ e1 (by simp) fun j hj => List.getElem?_set_ne (by simp only [List.mem_singleton] at hj; exact Ne.symm hj)
  · cases hb
    rename_i i j d1 d2
    have hij : i ≠ j := by simpa using (List.nodup_cons.mp nd).1
    cases hx with
    | tup ha ra =>
      cases ra with
      | cons h1 r =>
        cases r with
        | cons h2 r =>
          cases r
          have e1 := (f.setF (i := i) h1).setF (i := j) h2
          have e2 : Env.setF (Env.setF (dropAll [i, j] ρ) i d1) j d2 = (ρ.setF i d1).setF j d2 := by
            simp only [Env.setF, dropAll, List.set_set]
            rw [List.set_comm _ _ (Ne.symm hij), List.set_set]
          rw [e2] at e1
          refine ⟨_, _, rfl, .of (msk_some ha).2, rfl, _, _, rfl, _, _, rfl, rfl, q _ e1 (by simp) fun k hk' => ?_⟩
          simp only [List.mem_cons, List.not_mem_nil, or_false, not_or] at hk'
          rw [List.getElem?_set_ne (Ne.symm hk'.2), List.getElem?_set_ne (Ne.symm hk'.1)]
  · cases hb
    rename_i i j k d1 d2 d3
    have hij : i ≠ j ∧ i ≠ k := by simpa using (List.nodup_cons.mp nd).1
    have hjk : j ≠ k := by simpa using (List.nodup_cons.mp (List.nodup_cons.mp nd).2).1
    cases hx with
    | tup ha ra =>
      cases ra with
      | cons h1 r =>
        cases r with
        | cons h2 r =>
          cases r with
          | cons h3 r =>
            cases r
            have e1 := ((f.setF (i := i) h1).setF (i := j) h2).setF (i := k) h3
            have e2 : Env.setF (Env.setF (Env.setF (dropAll [i, j, k] ρ) i d1) j d2) k d3 = ((ρ.setF i d1).setF j d2).setF k d3 := by
              simp only [Env.setF, dropAll, List.set_set]
              rw [List.set_comm _ _ (Ne.symm hij.1), List.set_set, List.set_comm _ _ (Ne.symm hij.2), List.set_comm _ _ (Ne.symm hjk), List.set_set]
            rw [e2] at e1
            refine ⟨_, _, rfl, .of (msk_some ha).2, rfl, _, _, rfl, _, _, rfl, _, _, rfl, rfl, q _ e1 (by simp) fun m hk' => ?_⟩
            simp only [List.mem_cons, List.not_mem_nil, or_false, not_or] at hk'
            rw [List.getElem?_set_ne (Ne.symm hk'.2.2), List.getElem?_set_ne (Ne.symm hk'.2.1), List.getElem?_set_ne (Ne.symm hk'.1)]
  · cases hb
theorem wipe_len (σ : L2.St) : ∀ vs : List Nat, (wipe σ vs).length = σ.length := wipe_length σ
theorem wipe_off {σ : L2.St} : ∀ {vs : List Nat} {j : Nat}, j ∉ vs → (wipe σ vs)[j]? = σ[j]?
  | [], _, _ => rfl
  | v :: vs, j, h => by
    simp only [List.mem_cons, not_or] at h
    unfold wipe
    rw [List.getElem?_set_ne (Ne.symm h.1)]
    exact wipe_off h.2
theorem wipe_on {σ : L2.St} : ∀ {vs : List Nat} {j : Nat}, j ∈ vs → (wipe σ vs)[j]? = if j < σ.length then some none else none
  | [], _, h => by cases h
  | v :: vs, j, h => by
    unfold wipe
    by_cases q : v = j
    · subst q
      by_cases hl : v < σ.length
      · rw [List.getElem?_set_self (by rw [wipe_length]; exact hl), if_pos hl]
      · rw [if_neg hl, List.getElem?_eq_none (by simp [wipe_length]; omega)]
    · rw [List.getElem?_set_ne q]
      rcases List.mem_cons.mp h with e | h
      · exact absurd e.symm q
      · exact wipe_on h
theorem wipe_same {σ σ' : L2.St} {vs : List Nat} (hl : σ'.length = σ.length) (hk : ∀ j, j ∉ vs → σ'[j]? = σ[j]?) : wipe σ' vs = wipe σ vs := by
  apply List.ext_getElem?
  intro j
  by_cases h : j ∈ vs
  · rw [wipe_on h, wipe_on h, hl]
  · rw [wipe_off h, wipe_off h, hk j h]
end

/-! ### comprehensions -/
section
variable {g : Gx} {C : Calls} {cf : Cfg} {n : Nat} {X : Cx}
def tIfs (g : Gx) (C : Calls) (ifs : Es) : TT := fun σ H Q => ∃ H0 ρ O, ER g H0 ρ σ H O ∧ wIfs C ifs ρ fun b => ∀ H', Same H H' → Q b H'
theorem comp_imp (x : XOk g C cf n X) {elt : E} {tg : List Nat} {it : I} {ifs : Es} (nd : tg.Nodup) (hix : ∀ i ∈ tg, ∃ y, X.N[i]? = some y) {σ : L2.St} {H : Hp} {Q : VK} (h : tE g C (.comp elt tg it ifs) σ H Q) :
    tLc (tI g C it) (gT X.K tg) (tIfs g C ifs) (tE g C elt) ((ownOf X.N tg).map (·.2)) σ H Q := by
  rw [ownOf_ix hix]
  obtain ⟨H0, ρ, O, er, w⟩ := h
  unfold wE at w
  refine ⟨H0, ρ, O, er, wI_mono x.mono it ρ _ _ (fun xs w J H1 s1 ik _ Da hD => ?_) w⟩
  generalize hf : (fun (x : D) (K : Option D → Prop) => match bindT tg x ρ with
      | none => False
      | some ρ' => wIfs C ifs ρ' fun b => if b = true then wE C elt ρ' fun d => okEl elt ρ' d = true ∧ K (some d) else K none) = f at w
  have hDO : Da ∉ O := out_new hD (er.go s1).ow.ex
  refine ⟨fun i m H2 => m = xs.length - i ∧ i ≤ xs.length ∧ Same H1 H2 ∧ ∃ acc dacc, H2 Da = some (.lst acc) ∧ RpAll g (msk (Da :: O) H2) acc dacc ∧ compL f (xs.drop i) dacc fun ds => Ret g O H true true (.list ds) Q,
    ⟨xs.length, by simp, Nat.zero_le _, same_upd hD, [], [], upd_same, .nil, w⟩, ?_⟩
  rintro i m H2 ⟨rfl, hi, s2, acc, dacc, e2, r2, w2⟩
  have er2 : ER g H0 ρ σ H2 (Da :: O) := (er.go s1).addO hD s2 e2 trivial
  have ik2 := ik (Da :: O) H2 er2.ow s2 (msk_add hD s2) i
  by_cases hlt : i < xs.length
  · rw [List.drop_eq_getElem_cons hlt] at w2
    have hd : xs[i]? = some xs[i] := List.getElem?_eq_getElem hlt
    refine .inr ⟨(ik2.1 _ hd).1, fun H' => Same H1 H' ∧ ∃ acc dacc, H' Da = some (.lst acc) ∧ RpAll g (msk (Da :: O) H') acc dacc ∧ compL f (xs.drop (i + 1)) dacc fun ds => Ret g O H true true (.list ds) Q,
      fun H' hN => ⟨xs.length - (i + 1), by omega, rfl, hlt, hN.1, hN.2⟩, fun v H3 y => ?_⟩
    obtain ⟨s3, rv⟩ := (ik2.1 _ hd).2 v H3 y
    unfold compL at w2
    rw [← hf] at w2
    cases hb : bindT tg xs[i] ρ with
    | none => rw [hb] at w2; exact w2.elim
    | some ρ' =>
      rw [hb] at w2
      dsimp only at w2
      try rw [hf] at w2
      refine bind_ok (er2.go s3) nd hb rv (wipe_length _ _) (fun j hj => wipe_off hj) fun σ2 er3 hl3 hk3 => ?_
      refine ⟨wipe_same (hl3.trans (wipe_length _ _)) fun j hj => (hk3 j hj).trans (wipe_off hj), ?_⟩
      refine ⟨H0, ρ', Da :: O, er3, wIfs_mono x.mono ifs ρ' _ _ (fun b w3 H4 s4 => ?_) w2⟩
      cases b with
      | false =>
        rw [if_neg Bool.false_ne_true] at w3 ⊢
        exact ⟨s2.trans (s3.trans s4), acc, dacc, s4 _ _ (s3 _ _ e2), r2.mono (msk_mono (s3.trans s4)), w3⟩
      | true =>
        rw [if_pos rfl] at w3 ⊢
        refine ⟨H0, ρ', Da :: O, er3.go s4, wE_mono x.mono elt ρ' _ _ (fun d w4 yv H5 s5 rt cl fr => ?_) w3⟩
        have s25 : Same H2 H5 := s3.trans (s4.trans s5)
        have er5 : ER g H0 ρ' σ2 H5 (Da :: O) := (er3.go s4).go s5
        refine ⟨acc, s25 _ _ e2, by rw [r2.length]; exact w4.2.1, fun b o e => ?_, acc ++ [yv], dacc ++ [d], upd_same, ?_, w4.2.2⟩
        · rw [upd_ne (fun z => by rw [z, hD] at e; cases e)]
          exact s25 _ _ (s2 _ _ e)
        · rw [upd_msk (List.mem_cons_self ..)]
          exact (r2.mono (msk_mono s25)).append (.cons (okEl_rp er5.ow rt cl w4.1) .nil)
  · have e : i = xs.length := by omega
    subst e
    rw [List.drop_length] at w2
    unfold compL at w2
    refine .inl ⟨ik2.2 (Nat.le_refl _), ?_⟩
    have rp : Rp g (msk O H2) (.ref Da) (.list dacc) := .lst (by rw [msk_out hDO]; exact e2) (r2.mono (msk_sub fun a ha => List.mem_cons_of_mem _ ha))
    exact w2 (.ref Da) H2 (s1.trans s2) (.inl rp) (fun _ => rp) fun _ _ => ⟨Da, rfl, s1.free hD⟩
theorem sComp (x : XOk g C cf n X) {elt : E} {tg : List Nat} {it : I} {ifs : Es} {t ie ee : Expr} {ce : List Expr} {scope : Scope} {pos : Pos} (nd : tg.Nodup) (hix : ∀ i ∈ tg, ∃ y, X.N[i]? = some y) (hi : PI X t ie (tI g C it)) (ok : BlkOk X.N X.env.scope scope (ownOf X.N tg))
    (hg : ∀ (s : Shared) (H : Hp) (Cc : Addr) (cl : List (Str × Addr)) (fp : List Addr), PG (X.blk s H scope (compEnvC scope cl Cc X.env) fp) t (gT X.K tg))
    (ht : ∀ (s : Shared) (H : Hp) (Cc : Addr) (cl : List (Str × Addr)) (fp : List Addr), PTs (X.blk s H scope (compEnvC scope cl Cc X.env) fp) ce (tIfs g C ifs))
    (he : ∀ (s : Shared) (H : Hp) (Cc : Addr) (cl : List (Str × Addr)) (fp : List Addr), PE (X.blk s H scope (compEnvC scope cl Cc X.env) fp) ee (tE g C elt)) (hs : ∀ v, foldedSetIterable ie X.env v = pure v) :
    PE X (.ListComp ee [⟨t, ie, ce, 0⟩] scope pos) (tE g C (.comp elt tg it ifs)) :=
  PE.imp (pe_lc x.calm x.nd hi ok hg ht he hs) fun σ H Q h => comp_imp x nd hix h
end
end DL
set_option Elab.async false
set_option linter.all false
set_option maxRecDepth 100000
/-! DLS: set(x) by what is filled into the new set; set of a tuple of tuples of whole numbers. -/
namespace DL
open PySem PySem.Spec PyProof PyProof.Rows L2
section
variable {P : Program} {w : World} {A : Around} {E : Value → Shared → Prop} {s : Shared}
abbrev newSetObj (w : World) : Obj := { cls := .type "set", dict := none, data := .set #[] 0 (.fresh 0 0 (!w.params.followText "set-order")) }
/-- set.__init__ of a new set, of what is no set and no dict: the walk over x, put in one by one -/
theorem set_init {S : Addr} {x : Value} {T : String} {Q : PySem.Fin → Shared → Prop} (at_ : s.heap.get? S = some (newSetObj w)) (ty : s.TypeIs x T) (ns : isSubtype (.type T) (.type "set") = pure false) (nf : isSubtype (.type T) (.type "frozenset") = pure false)
    (nd : (Value.type T == Value.type "dict") = false) (fill : wpAny (model P w) A (pyIter x) (fun it => wpAny (model P w) A (runValue (.builtin "set.update.loop" ⟨[.ref S, it], []⟩)) (fun _ => Q (.done (.ret .none))) E) E s) : wpAny (model P w) A (Builtin.«set.__init__» ⟨[.ref S, x], []⟩) Q E s := by
  unfold Builtin.«set.__init__» noKeywords Builtin.Frozenset.updateFrom
  generalize pyIter = walkOf at fill ⊢
  wp_walk
  refine wpAny_mono fill (fun it s1 f => ?_) fun _ _ e => e
  exact wpAny_bind (wpAny_mono f (fun _ _ q => wpAny_pure (wpAny_pure q)) fun _ _ e => e)
/-- set(x), of what is no set and no dict -/
theorem set_call {x : Value} {T : String} {Q : Value → Shared → Prop} (ty : Shared.TypeIs { s with heap := s.heap.push (newSetObj w) } x T) (ns : isSubtype (.type T) (.type "set") = pure false) (nf : isSubtype (.type T) (.type "frozenset") = pure false) (nd : (Value.type T == Value.type "dict") = false)
    (fill : wpAny (model P w) A.in1.in1 (pyIter x) (fun it => wpAny (model P w) A.in1.in1 (runValue (.builtin "set.update.loop" ⟨[.ref s.heap.objs.size, it], []⟩)) (fun _ => Q (.ref s.heap.objs.size)) E) E { s with heap := s.heap.push (newSetObj w) }) :
    wpAny (model P w) A (call (.type "set") [x]) Q E s := by
  have here : (s.heap.push (newSetObj w)).get? s.heap.objs.size = some (newSetObj w) := Heap.get?_push_size _ rfl
  have is_set : Shared.TypeIs { s with heap := s.heap.push (newSetObj w) } (.ref s.heap.objs.size) "set" := ⟨_, here, rfl⟩
  have t := F.called_set
  obtain ⟨base, rest, order⟩ := t.mro
  have made := t.made
  have known := t.sub
  have noType := t.notType
  have creates := t.canCreate
  have checked := PySem.F.typeCall_set_1 x
  have find_init := t.init.lookup
  have bind_init := t.init.bind (.ref s.heap.objs.size)
  have is_quiet := Code.quiet_builtin (id := "type.__call__") ⟨[.type "set", x], []⟩ (by decide +kernel)
  have step2 : codeAny (model P w) A.in1 (.call (.builtin "set.__new__") ⟨[.type "set", x], []⟩) (wants (fun o s1 => o = .ref s.heap.objs.size ∧ s1 = { s with heap := s.heap.push (newSetObj w) }) E) s := code_set_led1 x ⟨rfl, rfl⟩
  refine wpAny_call (codeAny_of_tree ?_)
  show wpAny _ _ (pure (PySem.Fin.again (.builtin "type.__call__" ⟨[.type "set", x], []⟩))) _ _ _
  refine wpAny_pure ⟨is_quiet, codeAny_builtin F.entry_type_call ?_⟩
  rw [Around.under_plain (weight_type_call_type "set" [x] []) rfl]
  wp_walk
  refine codeAny_mono step2 fun made_ s1 z => ?_
  match made_, z with
  | .error e, z => exact z
  | .ok (.ret o), ⟨e1, e2⟩ =>
    subst e1 e2
    wp_walk
    have step3 := set_init (Q := fun fin s3 => fin = .done (.ret .none) ∧ Q (.ref s.heap.objs.size) s3) here ty ns nf nd (wpAny_mono fill (fun it s2 f => wpAny_mono f (fun _ _ q => ⟨rfl, q⟩) fun _ _ e => e) fun _ _ e => e)
    have run : codeAny (model P w) A.in1 (.call (.builtin "set.__init__") ⟨[.ref s.heap.objs.size, x], []⟩) (wants (fun r s2 => r = .none ∧ Q (.ref s.heap.objs.size) s2) E) { s with heap := s.heap.push (newSetObj w) } :=
      codeAny_call_builtin t.init.plain F.entry_set_init (check_set_init_1 is_set (wpAny_mono step3 (fun fin s3 h => by
        obtain ⟨rfl, h⟩ := h
        exact ⟨rfl, h⟩) fun _ _ e => e))
    refine codeAny_mono run fun back s2 h => ?_
    match back, h with
    | .error e, h => exact h
    | .ok (.ret r), ⟨none_, q⟩ =>
      subst none_
      exact wpAny_pure (wpAny_pure q)
/-- what stands in a tuple of tuples of whole numbers, put into a new set -/
theorem set_call_tuple {l : Addr} {items : Array Value} (ks : List (Addr × List Int)) {Q : Value → Shared → Prop} (calm : A.handled = none) (hl : s.heap.IsTuple l items) (each : items.toList = ks.map fun p => Value.ref p.1)
    (hk : ∀ p ∈ ks, IsT P w s.heap p.2 p.1) (few : ks.length < 64) (room : A.units + 3 < cLine)
    (q : ∀ (h' : Heap) (tk : Nat) L es ep t, SetTR P w h' s.heap.objs.size L es ep t → Got ks ks.length L → (∀ b o, s.heap.get? b = some o → h'.get? b = some o) → Q (.ref s.heap.objs.size) { s with heap := h', toks := tk }) :
    wpAny (model P w) A (call (.type "set") [.ref l]) Q E s := by
  have grown : ∀ {b : Addr} {o o' : Obj} {h : Heap}, h.get? b = some o → (h.push o').get? b = some o := fun e => Heap.get?_push_of_some _ e
  have beyond : ∀ {h : Heap} {b : Addr}, h.objs.size ≤ b → h.get? b = none := fun {h b} z => by
    cases e : h.get? b with
    | none => rfl
    | some o => exact absurd z (Nat.not_le_of_lt (Heap.lt_size e))
  obtain ⟨ol, hol, hcl, nl, hdl⟩ := id hl
  have len : items.size = ks.length := by
    have e := congrArg List.length each
    rwa [List.length_map, Array.length_toList] at e
  have tup1 : (s.heap.push (newSetObj w)).IsTuple l items := ⟨ol, grown hol, hcl, nl, hdl⟩
  refine set_call (T := "tuple") ⟨ol, grown hol, hcl⟩ F.sub_tuple_set F.sub_tuple_frozenset (by decide) ?_
  refine wpAny_pyIter_tuple tup1 (wpAny_runValue ?_)
  have lt : l < s.heap.objs.size := Heap.lt_size hol
  have sz : (s.heap.push (newSetObj w)).objs.size = s.heap.objs.size + 1 := Heap.size_push ..
  have ne : l ≠ (s.heap.push (newSetObj w)).objs.size := by
    intro z
    rw [sz] at z
    exact absurd lt (by rw [z]; exact Nat.not_lt_of_le (Nat.le_succ _))
  have tup2 : ((s.heap.push (newSetObj w)).push { cls := .type "tuple_iterator", data := .fields #[.ref l, .int 0 0] }).IsTuple l items := ⟨ol, grown (grown hol), hcl, nl, hdl⟩
  have W := (Walks.tuple (prog := P) (w := w) (A := A.in1.in1.in1) calm (s.heap.push (newSetObj w)).objs.size l ne items).toS
  refine set_update_tups W s.heap.objs.size ?_ ks len few (fun i v e => ?_) s.heap hk (beyond (Nat.le_refl _)) (fun b hb => beyond ?_) room items.size 0 _ (Nat.sub_zero _) (Nat.zero_le _) ?_ ?_ ?_ ?_
  · rw [sz, List.mem_cons, List.mem_singleton]
    rintro (z | z)
    · exact absurd z (Nat.ne_of_lt (Nat.lt_succ_self _))
    · exact absurd lt (by rw [z]; exact Nat.lt_irrefl _)
  · have e' : items.toList[i]? = some v := by rw [Array.getElem?_toList]; exact e
    rw [each, List.getElem?_map] at e'
    cases g : ks[i]? with
    | none => rw [g] at e'; cases e'
    | some p => rw [g] at e'; cases e'; exact ⟨p, rfl, rfl⟩
  · rw [List.mem_singleton.mp hb, sz]
    exact Nat.le_succ _
  · exact ⟨⟨_, Heap.get?_push_size _ rfl, rfl, rfl⟩, tup2⟩
  · exact fun b o e => grown (grown e)
  · exact ⟨[], _, _, _, setTR_fresh (grown (Heap.get?_push_size _ rfl)), .zero ks⟩
  · intro s' L es ep t moved S got kept
    obtain ⟨h', g', d', tk', os'⟩ := s'
    obtain rfl : g' = s.gens := moved.gens
    obtain rfl : d' = s.drawn := moved.drawn
    obtain rfl : os' = s.os := moved.os
    exact q h' tk' L es ep t S (len ▸ got) kept
end
end DL
set_option Elab.async false
set_option linter.all false
set_option maxRecDepth 100000
/-! DLT: sorted(set(..)) of tuples of whole numbers, of any lengths. -/
namespace DL
open PySem PySem.Spec PyProof.Rows L2
open PySem.W (EachIs AllAlike SortsAt dataKind dataLe dataLt sortingHeap sortVals sortVals_length sortVals_data)
/-- sorted(x), by what x is gathered to -/
theorem sorted_from {P : Program} {w : World} {A : Around} {E : Value → Shared → Prop} {s : Shared} {x : Value} {Q : Value → Shared → Prop}
    (gather : wpAny (model P w) A.in1 (collect x) (fun out s1 => out.length ≤ sizeLine ∧ ∃ κ : KeyKind, SortsAt P w A.in1.in1 { s1 with heap := sortingHeap (s1.heap.push (seqObj "list" out.toArray 0)) s1.heap.objs.size out } κ out ∧
      Q (.ref s1.heap.objs.size) { s1 with heap := sortedHeap (s1.heap.push (seqObj "list" out.toArray 0)) s1.heap.objs.size out (sortVals κ false out out).toArray }) E s) : wpAny (model P w) A (call (.builtin "sorted") [x]) Q E s := by
  refine Calls.call_function_entry kind_sorted plain_sorted entry_sorted (args_sorted1 x) ?_
  show wpAny _ _ (do checkCount "sorted" 1 1 1; let l ← newList (← collect x); let _ ← holding [l] (call (.builtin "list.sort") [l] []); ret l) _ _ s
  refine wpAny_bind (m := checkCount "sorted" 1 1 1) (wpAny_pure (wpAny_bind (wpAny_mono gather (fun out s1 g => ?_) fun _ _ e => e)))
  obtain ⟨fits, κ, sorts, q⟩ := g
  have at_ : (s1.heap.push (seqObj "list" out.toArray 0)).get? s1.heap.objs.size = some (seqObj "list" out.toArray 0) := Heap.get?_push_size _ rfl
  refine wpAny_bind (wpAny_newList (wpAny_bind (wpAny_holding ?_)) fits)
  refine wpAny_call_entry slot_list_sort ⟨_, at_, rfl⟩ entry_list_sort ?_ (args_list_sort _)
  exact PySem.W.list_sort_vals (s := { s1 with heap := s1.heap.push (seqObj "list" out.toArray 0) }) at_ sorts fits ⟨_, rfl, wpAny_pure ⟨_, rfl, q⟩⟩
theorem perm_of_map {α β : Type} {f : α → β} {xs ys : List β} (p : xs.Perm ys) : ∀ {l : List α}, ys = l.map f → ∃ l' : List α, l'.Perm l ∧ xs = l'.map f := by
  induction p with
  | nil => intro l e; exact ⟨l, .refl _, e⟩
  | cons x _ ih =>
    intro l e
    cases l with
    | nil => cases e
    | cons a l =>
      injection e with e1 e2
      obtain ⟨l', p, e⟩ := ih e2
      exact ⟨a :: l', p.cons a, by rw [List.map_cons, e, e1]⟩
  | swap x y l0 =>
    intro l e
    match l, e with
    | a :: b :: l, e =>
      injection e with e1 e2
      injection e2 with e2 e3
      exact ⟨b :: a :: l, .swap .., by rw [List.map_cons, List.map_cons, e1, e2, e3]⟩
  | trans _ _ ih1 ih2 =>
    intro l e
    obtain ⟨l2, p2, e2⟩ := ih2 e
    obtain ⟨l1, p1, e1⟩ := ih1 e2
    exact ⟨l1, p1.trans p2, e1⟩
theorem size_two {n : Nat} (h : n < 64) : n ≤ sizeLine := by
  unfold sizeLine
  omega
/-! ### the calls -/
section
variable {g : Gx} {X : Cx} {n : Nat}
theorem Rp.tupI {M : Hp} {v : V} {l : List Int} (h : Rp g M v (DL.tupI l)) : ∃ b, v = .ref b ∧ M b = some (.tup (l.map V.int)) := by
  obtain ⟨b, vs, rfl, hb, rb⟩ : ∃ b vs, v = .ref b ∧ M b = some (.tup vs) ∧ RpAll g M vs (l.map .int) := by
    cases h with
    | tup h r => exact ⟨_, _, rfl, h, r⟩
  have : vs = l.map V.int := by
    clear hb h
    induction l generalizing vs with
    | nil => cases rb; rfl
    | cons i l ih =>
      cases rb with
      | cons h r =>
        cases h
        rw [ih _ r]
        rfl
  exact ⟨b, rfl, by rw [← this]; exact hb⟩
theorem keys_of {M : Hp} : ∀ {vs : List V} {ls : List (List Int)}, RpAll g M vs (ls.map DL.tupI) → ∃ ks : List (Addr × List Int), vs = ks.map (fun p => V.ref p.1) ∧ ks.map (·.2) = ls ∧ ∀ p ∈ ks, M p.1 = some (.tup (p.2.map V.int))
  | _, [], h => by cases h; exact ⟨[], rfl, rfl, fun p hp => (by cases hp)⟩
  | _, l :: ls, h => by
    cases h with
    | cons h r =>
      obtain ⟨b, rfl, hb⟩ := h.tupI
      obtain ⟨ks, rfl, rfl, hk⟩ := keys_of r
      refine ⟨(b, l) :: ks, rfl, rfl, fun p hp => ?_⟩
      rcases List.mem_cons.mp hp with rfl | hp
      · exact hb
      · exact hk p hp
def rSetD (g : Gx) (P : Program) (w : World) : List V → Hp → VK → Prop := fun xs H Q => ∃ (O : List Addr) (v : V) (ls : List (List Int)) (d : D), xs = [v] ∧ Rt g H O v d ∧ (d = .list (ls.map tupI) ∨ d = .tuple (ls.map tupI)) ∧ ls.length < 64 ∧
  ∀ a L, H a = none → (∀ p ∈ L, msk O H p.1 = some (.tup (p.2.map V.int))) → (L.map (·.2)).Nodup → (∀ l, l ∈ L.map (·.2) ↔ l ∈ ls) → Q (.ref a) (upd H a (SetTO P w a L))
theorem cr_setD (hc : X.calm = true) (hr : Room n X.A) : CallR X (.type "set") (rSetD g X.prog X.w) := by
  intro pins s σ H xs us Q I r h
  obtain ⟨O, v, ls, d, rfl, rt, hd, hf, q⟩ := h
  have hn : H s.heap.objs.size = none := I.hok.fresh (Nat.le_refl _)
  have hu := hr.units
  have fin : ∀ (ks : List (Addr × List Int)), ks.map (·.2) = ls → (∀ p ∈ ks, msk O H p.1 = some (.tup (p.2.map V.int))) → ∀ (h' : Heap) (tk : Nat) L es ep t, SetTR X.prog X.w h' s.heap.objs.size L es ep t → Got ks ks.length L → (∀ b o, s.heap.get? b = some o → h'.get? b = some o) →
      EP X pins σ Q (.ref s.heap.objs.size) { s with heap := h', toks := tk } := fun ks hks hk h' tk L es ep t R g' k => by
    refine ⟨.ref s.heap.objs.size, upd H s.heap.objs.size (SetTO X.prog X.w s.heap.objs.size L), I.laid (t' := tk) k (Nat.le_refl _) (setTO_new R.t0), rfl, q _ L hn (fun p hp => hk p (List.mem_of_mem_take (g'.sub p hp))) R.nd fun l => ?_⟩
    constructor
    · intro hl
      obtain ⟨p, hp, rfl⟩ := List.mem_map.mp hl
      rw [← hks]
      exact List.mem_map.mpr ⟨p, List.mem_of_mem_take (g'.sub p hp), rfl⟩
    · intro hl
      rw [← hks] at hl
      obtain ⟨p, hp, rfl⟩ := List.mem_map.mp hl
      exact g'.all p (by rw [List.take_length]; exact hp)
  rcases hd with rfl | rfl
  · obtain ⟨a, vs, rfl, ha, ra⟩ := rt.lst
    obtain ⟨ks, rfl, hks, hk⟩ := keys_of ra
    rw [Vals.ref1 r]
    obtain ⟨its, rv, pl, hz⟩ := I.list (.of (K := X.K) ha)
    refine call_set_tups (P := X.prog) (w := X.w) ks (I.ok.hd hc) pl.isList (by simpa using refs_of_vals rv) (fun p hp => I.isT (.of (msk_some (hk p hp)).2)) (by rw [← List.length_map (f := fun p : Addr × List Int => p.2), hks]; exact hf) (by omega) (fin ks hks hk)
  · obtain ⟨a, vs, rfl, ha, ra, _⟩ := rt.tup
    obtain ⟨ks, rfl, hks, hk⟩ := keys_of ra
    rw [Vals.ref1 r]
    obtain ⟨its, rv, pl, hz⟩ := I.tuple (.of (K := X.K) ha)
    refine set_call_tuple (P := X.prog) (w := X.w) ks (I.ok.hd hc) (show s.heap.IsTuple a its.toArray from pl) (by simpa using refs_of_vals rv) (fun p hp => I.isT (.of (msk_some (hk p hp)).2)) (by rw [← List.length_map (f := fun p : Addr × List Int => p.2), hks]; exact hf) (by omega) (fin ks hks hk)
/-- a key as a datum -/
def keyD (q : Addr × List Int) : D := tupI q.2
theorem rp_tupI {M : Hp} {b : Addr} {l : List Int} (h : M b = some (.tup (l.map V.int))) : Rp g M (.ref b) (tupI l) := by
  refine .tup h ?_
  clear h
  induction l with
  | nil => exact .nil
  | cons i l ih => exact .cons (.int i) ih
theorem plain_tupI (l : List Int) : (tupI l).plain = true := by
  unfold tupI
  rw [PyData.plain]
  induction l with
  | nil => rfl
  | cons i l ih => rw [List.map_cons, PyData.plainAll, ih]; rfl
theorem each_map_l {α β : Type} {R : Value → β → Prop} {f : α → Value} {k : α → β} : ∀ {l : List α}, (∀ a ∈ l, R (f a) (k a)) → EachIs R (l.map f) (l.map k)
  | [], _ => .nil
  | a :: l, h => .cons (h a (.head _)) (each_map_l fun b hb => h b (.tail _ hb))
theorem map_of_each {α : Type} {f : α → Value} {us : List Value} {l : List α} (z : EachIs (fun v a => v = f a) us l) : us = l.map f := by
  induction z with
  | nil => rfl
  | cons h _ ih => rw [List.map_cons, ← ih, h]
def rSortS (g : Gx) (P : Program) (w : World) : List V → Hp → VK → Prop := fun vs H Q => ∃ (O : List Addr) (a : Addr) (L : List (Addr × List Int)), vs = [V.ref a] ∧ OwO O H ∧ H a = some (SetTO P w a L) ∧ (∀ p ∈ L, msk O H p.1 = some (.tup (p.2.map V.int))) ∧
  ∀ (p : Addr) (L' : List (Addr × List Int)), L'.map (·.2) = (L.map (·.2)).mergeSort (fun a b => decide (a ≤ b)) → (∀ q ∈ L', q ∈ L) → H p = none → Q (.ref p) (upd H p (.lst (L'.map fun q => V.ref q.1)))
theorem cr_sortS (hc : X.calm = true) (hr : Room n X.A) : CallR X (.builtin "sorted") (rSortS g X.prog X.w) := by
  rintro pins s σ H vs us Q I r ⟨O, a, L, rfl, ow, ha, hk, q⟩
  obtain ⟨φ, _, _⟩ := I.hok a _ ha
  have same_ := msk_same O (H := H)
  obtain ⟨es, ep, t, R⟩ := φ.full fun p hp => I.isT (.of (same_ _ _ (hk p hp)))
  obtain ⟨o, ho, hex, hd⟩ := R.ob
  have few := R.few
  have scan : es.size < scanBound := by
    rw [R.size]
    unfold scanBound
    omega
  rw [Vals.ref1 r]
  refine sorted_from (collect_set (A := X.A.in1) (I.ok.hd hc) ⟨o, ho, hex.1, hd⟩ R.fits scan R.tab.ris R.led fun s1 out kept big gens os perm => ?_)
  have refs : es.toList.map (·.2) = L.map fun p => Value.ref p.1 := by
    rw [R.rows, rowsOf, List.map_map]
    rfl
  obtain ⟨L1, p1, rfl⟩ := perm_of_map perm refs
  have fits : (L1.map fun p => Value.ref p.1).length ≤ sizeLine := by
    rw [List.length_map, p1.length_eq]
    exact size_two few
  have alike_ : AllAlike (L1.map keyD) := AllAlike.of fun p p' => by
    unfold keyD tupI
    exact PySem.W.alike_ints p.2 p'.2
  refine ⟨fits, ?_⟩
  generalize hh : s1.heap.push (seqObj "list" (L1.map fun p => Value.ref p.1).toArray 0) = h2
  have at2 : h2.get? s1.heap.objs.size = some (seqObj "list" (L1.map fun p => Value.ref p.1).toArray 0) := hh ▸ Heap.get?_push_size _ rfl
  have kept2 : ∀ b o, s.heap.get? b = some o → h2.get? b = some o := fun b o e => hh ▸ Heap.get?_push_of_some _ (kept b o e)
  have old : ∀ b o, s.heap.get? b = some o → b ≠ s1.heap.objs.size := fun b o e => Nat.ne_of_lt (Heap.lt_size (kept b o e))
  have kept3 : ∀ b o, s.heap.get? b = some o → (sortingHeap h2 s1.heap.objs.size (L1.map fun p => Value.ref p.1)).get? b = some o := fun b o e => PySem.W.sortingHeap_old (old b o e) (kept2 b o e)
  generalize hs : sortingHeap h2 s1.heap.objs.size (L1.map fun p => Value.ref p.1) = h3 at kept3
  have reads : ∀ p ∈ L1, ∃ as, Reads h3 (.ref p.1) (keyD p) as := fun p hp => by
    obtain ⟨as, rd⟩ := ((rp_tupI (g := g) (hk p (p1.mem_iff.mp hp))).mono same_).reads I (plain_tupI p.2) rfl
    exact ⟨as, PyProof.Rows.Reads.keeps kept3 rd⟩
  have sorts : SortsAt X.prog X.w X.A.in1.in1 { s1 with heap := h3 } (dataKind h3 (L1.map keyD)) (L1.map fun p => Value.ref p.1) := by
    refine sorts_tuples (s := { s1 with heap := h3 }) (each_map_l reads) alike_ (fun d hd => ?_) fun d hd => ?_
    · obtain ⟨p, _, rfl⟩ := List.mem_map.mp hd
      exact ⟨_, rfl⟩
    · obtain ⟨p, _, rfl⟩ := List.mem_map.mp hd
      have u := hr.units
      have dp : (keyD p).depth = 1 := by
        unfold keyD tupI
        rw [PyData.depth, PySem.W.depth_ints]
      show X.A.units + 1 + 1 + (keyD p).depth < cLine
      omega
  refine ⟨_, sorts, ?_⟩
  have er : EachIs (fun v p => ∃ as, Reads h3 v (keyD p) as) (L1.map fun p => Value.ref p.1) L1 := by
    have := each_map_l (R := fun v p => ∃ as, Reads h3 v (keyD p) as) (f := fun p : Addr × List Int => Value.ref p.1) (k := fun p => p) (l := L1) reads
    rwa [List.map_id'] at this
  have ei : EachIs (fun v (p : Addr × List Int) => v = Value.ref p.1) (L1.map fun p => Value.ref p.1) L1 := by
    have := each_map_l (R := fun v (p : Addr × List Int) => v = Value.ref p.1) (f := fun p : Addr × List Int => Value.ref p.1) (k := fun p => p) (l := L1) fun _ _ => rfl
    rwa [List.map_id'] at this
  have res := map_of_each (sortVals_data (enc := keyD) (h' := h3) false ei er alike_)
  rw [res]
  have pm := List.mergeSort_perm L1 (dataLe false keyD)
  generalize hL : L1.mergeSort (dataLe false keyD) = L' at pm
  have keys : L'.map (·.2) = (L.map (·.2)).mergeSort (fun a b => decide (a ≤ b)) := by
    have e1 : L'.map (·.2) = (L1.map (·.2)).mergeSort (fun a b => decide (a ≤ b)) := by
      rw [← hL, ← dataLe_tupI]
      exact List.map_mergeSort fun _ _ _ _ => rfl
    rw [e1]
    exact sort_same ((p1.map _).nodup_iff.mpr R.nd) R.nd fun l => (p1.map (·.2)).mem_iff
  obtain ⟨c, at4⟩ := sortedHeap_at (vs := L1.map fun p => Value.ref p.1) (out := (L'.map fun p => Value.ref p.1).toArray) at2
  generalize h4e : sortedHeap h2 s1.heap.objs.size (L1.map fun p => Value.ref p.1) (L'.map fun p => Value.ref p.1).toArray = h4 at at4
  have kept4 : ∀ b o, s.heap.get? b = some o → h4.get? b = some o := fun b o e => by
    rw [← h4e, sortedHeap_old (old b o e) (Heap.lt_size (kept2 b o e))]
    exact kept2 b o e
  have free := I.hok.fresh big
  have len' : (L'.map fun p => V.ref p.1).length ≤ sizeLine := by
    rw [List.length_map, pm.length_eq, p1.length_eq]
    exact size_two few
  have obj : ObjOk X.prog X.w (upd H s1.heap.objs.size (.lst (L'.map fun p => V.ref p.1))) h4 s1.heap.objs.size (.lst (L'.map fun p => V.ref p.1)) := ⟨len', _, c, vals_of_refs L', at4⟩
  refine ⟨.ref s1.heap.objs.size, _, I.call' (s' := { s1 with heap := h4 }) (ch := []) os (Un.laid kept4 big free) (I.hok.laid kept4 big obj) ?_ (fun _ z => nomatch z), rfl, q _ L' keys (fun p hp => p1.mem_iff.mp (pm.mem_iff.mp hp)) free⟩
  show AllBare s1.gens
  rw [gens]
  exact I.bare
end
end DL
set_option Elab.async false
set_option linter.all false
set_option maxRecDepth 100000
/-! DL11: the expressions' rules. -/
namespace DL
open PySem PySem.Spec PyProof.Rows L2

theorem bt_all : bootBuiltins "all" = some (.builtin "all") := by decide +kernel
theorem bt_any : bootBuiltins "any" = some (.builtin "any") := by decide +kernel
theorem bt_sum : bootBuiltins "sum" = some (.builtin "sum") := by decide +kernel
theorem bt_abs : bootBuiltins "abs" = some (.builtin "abs") := by decide +kernel
theorem bt_min : bootBuiltins "min" = some (.builtin "min") := by decide +kernel
theorem bt_max : bootBuiltins "max" = some (.builtin "max") := by decide +kernel
theorem bt_sorted : bootBuiltins "sorted" = some (.builtin "sorted") := by decide +kernel
theorem bt_isi : bootBuiltins "isinstance" = some (.builtin "isinstance") := by decide +kernel
theorem bt_len : bootBuiltins "len" = some (.builtin "len") := by decide +kernel
theorem bt_tuple : bootBuiltins "tuple" = some (.type "tuple") := by decide +kernel
theorem bt_list : bootBuiltins "list" = some (.type "list") := by decide +kernel
theorem bt_int : bootBuiltins "int" = some (.type "int") := by decide +kernel
theorem bt_bool : bootBuiltins "bool" = some (.type "bool") := by decide +kernel
theorem bt_str : bootBuiltins "str" = some (.type "str") := by decide +kernel

section
variable {g : Gx} {C : Calls} {cf : Cfg} {n : Nat} {X : Cx} {sc : Scope} {pos : Pos}

/-! ### leaves -/
theorem s_var {i : Nat} {y : Str} (hN : X.N[i]? = some y) (hv : Vis X.env.scope y) (ho : okN y = true) : PE X (.Name y pos) (tE g C (.var i)) := by
  obtain ⟨h1, h2, _⟩ := okN_of ho
  refine PE.imp (pe_var hN hv h1 h2) fun σ H Q h => ?_
  obtain ⟨H0, ρ, O, er, w⟩ := h
  unfold wE at w
  cases hs : ρ.at i with
  | none => rw [hs] at w; exact w.elim
  | some sl =>
    rw [hs] at w
    dsimp only at w
    cases sl with
    | frz d =>
      obtain ⟨v, e, r⟩ := er.frz i d hs
      exact ⟨v, e, w v H (.refl _) (.inl r) (fun _ => r) fun z => by simp at z⟩
    | own d =>
      obtain ⟨a, e, m, r⟩ := er.own i d hs
      refine ⟨.ref a, e, w (.ref a) H (.refl _) (.inr ⟨a, rfl, m, r⟩) (fun z => ?_) fun z => by simp at z⟩
      unfold clean at z
      rw [hs] at z
      simp at z
theorem Ret.gv {O : List Addr} {H H1 : Hp} {cl fr : Bool} {z : D} {Q : VK} (s : Same H H1) (q : Ret g O H cl fr z Q) : Gives g O H1 z Q := Gives.of (Ret.from s q)
theorem Gives.go {O : List Addr} {H H1 : Hp} {z : D} {Q : VK} (s : Same H H1) (q : Gives g O H z Q) : Gives g O H1 z Q := fun v H' s' r t => q v H' (s.trans s') r (t.back s)
theorem ret_now {O : List Addr} {H : Hp} {cl fr : Bool} {v : V} {d : D} {Q : VK} (q : Ret g O H cl fr d Q) (r : Rp g (msk O H) v d) (i : imm d = true) : Q v H := q v H (.refl _) (.inl r) (fun _ => r) fun _ => TopNew.imm i
theorem s_cst {d : D} {c : Const} {x1} (h : cstB d c = true) : PE X (.Constant c x1 pos) (tE g C (.cst d)) := by
  unfold cstB at h
  split at h
  · refine PE.imp (pe_non) fun σ H Q h => ?_
    obtain ⟨H0, ρ, O, er, w⟩ := h
    unfold wE at w
    exact ret_now w .non rfl
  · obtain rfl := beq_iff_eq.mp h
    refine PE.imp pe_bl fun σ H Q h => ?_
    obtain ⟨H0, ρ, O, er, w⟩ := h
    unfold wE at w
    exact ret_now w (.bl _) rfl
  · obtain rfl := beq_iff_eq.mp h
    refine PE.imp pe_int fun σ H Q h => ?_
    obtain ⟨H0, ρ, O, er, w⟩ := h
    unfold wE at w
    exact ret_now w (.int _) rfl
  · obtain rfl := beq_iff_eq.mp h
    refine PE.imp pe_str fun σ H Q h => ?_
    obtain ⟨H0, ρ, O, er, w⟩ := h
    unfold wE at w
    exact ret_now w (.str _) rfl
  · cases h
theorem s_gint (x : XOk g C cf n X) {y : Str} {i : Int} (hl : cf.cints.lookup y = some i) (hg : Gl X y) (ho : okN y = true) : PE X (.Name y pos) (tE g C (.gint y i)) := by
  obtain ⟨h1, h2, _⟩ := okN_of ho
  obtain ⟨t, hm⟩ := x.lits y i hl
  refine PE.imp (pe_glob (v := .int i) hg hm ⟨t, rfl⟩ h1) fun σ H Q h => ?_
  obtain ⟨H0, ρ, O, er, w⟩ := h
  unfold wE at w
  exact ret_now w (.int _) rfl
theorem s_gfn (x : XOk g C cf n X) {y : Str} {k : Nat} (hl : cf.fns[k]? = some y) (hg : Gl X y) (ho : okN y = true) : PE X (.Name y pos) (tE g C (.gfn k)) := by
  obtain ⟨h1, h2, _⟩ := okN_of ho
  obtain ⟨hm, _⟩ := x.fns k y hl
  refine PE.imp (pe_glob (v := .ref (g.fa k)) hg hm rfl h1) fun σ H Q h => ?_
  obtain ⟨H0, ρ, O, er, w⟩ := h
  unfold wE at w
  exact ret_now w (.fn k) rfl
theorem s_dict0 : PE X (.Dict [] [] pos) (tE g C .dict0) := by
  refine ⟨fun pins s σ H Q I h => ?_⟩
  obtain ⟨H0, ρ, O, er, w⟩ := h
  unfold wE at w
  have hp : H s.heap.objs.size = none := I.hok.fresh (Nat.le_refl _)
  refine wpAny_Dict_empty ⟨.ref s.heap.objs.size, _, I.laid (a := s.heap.objs.size) (o := DctO g s.heap.objs.size []) (t' := s.toks) (fun _ _ q => Heap.get?_push_of_some _ q) (Nat.le_refl _) ?_, rfl, ?_⟩
  · refine ⟨⟨Nat.zero_le _, beq_eq_false_iff_ne.mpr (Ne.symm (Nat.ne_of_lt I.big)), _, #[], 0, Heap.get?_push_size _ rfl, ⟨rfl, rfl, rfl⟩, rfl, rfl, List.nodup_nil⟩, ⟨_, Heap.get?_push_size _ rfl⟩, ?_⟩
    rintro h1 h2 ⟨z1, z2, o, es, ep, z3, z4⟩ hk
    exact ⟨z1, z2, o, es, ep, hk _ z3, z4⟩
  · have r : Rp g (msk O (upd H s.heap.objs.size (DctO g s.heap.objs.size []))) (.ref s.heap.objs.size) (dct []) := .dct (by rw [msk_out (out_new hp er.ow.ex), upd_same]) .nil
    exact w _ _ (same_upd hp) (.inl r) (fun _ => r) fun _ => top_new hp

/-! ### displays and arguments -/
theorem s_nil {keep : Bool} : PA X [] (tEs g C keep .nil) := by
  refine PA.imp pa_nil fun σ H Q h => ?_
  obtain ⟨H0, ρ, O, er, w⟩ := h
  unfold wEs at w
  exact w [] H (.refl _) .nil fun _ => .nil
theorem s_cons (x : XOk g C cf n X) {keep : Bool} {e : E} {es : Es} {y : Expr} {l : List Expr} (he : PE X y (tE g C e)) (hes : PA X l (tEs g C keep es)) (hs : starEach (y :: l) X.env = (false, eval y X.env) :: starEach l X.env) : PA X (y :: l) (tEs g C keep (.cons e es)) := by
  refine PA.imp (pa_cons he hes hs) fun σ H Q h => ?_
  obtain ⟨H0, ρ, O, er, w⟩ := h
  unfold wEs at w
  refine ⟨H0, ρ, O, er, wE_mono x.mono e ρ _ _ (fun d w v H1 s1 rt cl fr => ?_) w⟩
  refine ⟨H0, ρ, O, er.go s1, wEs_mono x.mono keep es ρ _ _ (fun ds w vs H2 s2 rs ra => ?_) w.2⟩
  refine w (v :: vs) H2 (s1.trans s2) (.cons (rt.go s2) (fun z => (cl z).mono (msk_mono s2)) fr (rs.back s1)) fun k => ?_
  exact .cons (okEl_rp (er.go (s1.trans s2)).ow (rt.go s2) (fun z => (cl z).mono (msk_mono s2)) (‹(keep = true → okEl e ρ d = true) ∧ _›.1 k)) (ra k)
theorem s_tup (x : XOk g C cf n X) {es : Es} {l : List Expr} {x1} (h : PA X l (tEs g C true es)) : PE X (.Tuple l x1 pos) (tE g C (.tup es)) := by
  refine PE.imp (pe_tup h) fun σ H Q h => ?_
  obtain ⟨H0, ρ, O, er, w⟩ := h
  unfold wE at w
  refine ⟨H0, ρ, O, er, wEs_mono x.mono true es ρ _ _ (fun ds w vs H1 s1 rs ra => ?_) w⟩
  have r := ra rfl
  refine ⟨by rw [r.length]; exact w.1, fun p hp => ?_⟩
  exact (Ret.gv s1 w.2).tup (er.go s1).ow hp r
theorem s_lst (x : XOk g C cf n X) {es : Es} {l : List Expr} (h : PA X l (tEs g C true es)) : PE X (.List l pos) (tE g C (.lst es)) := by
  refine PE.imp (pe_lst h) fun σ H Q h => ?_
  obtain ⟨H0, ρ, O, er, w⟩ := h
  unfold wE at w
  refine ⟨H0, ρ, O, er, wEs_mono x.mono true es ρ _ _ (fun ds w vs H1 s1 rs ra => ?_) w⟩
  have r := ra rfl
  refine ⟨by rw [r.length]; exact w.1, fun p hp => ?_⟩
  exact (Ret.gv s1 w.2).lst (er.go s1).ow hp r

/-! ### operators -/
theorem s_bin (x : XOk g C cf n X) {op : Op} {o : Operator} {a b : E} {y z : Expr} (ho : opB op o = true) (ha : PE X y (tE g C a)) (hb : PE X z (tE g C b)) : PE X (.BinOp y o z pos) (tE g C (.bin op a b)) := by
  refine PE.imp (pe_op (op_bin (g := g) ho) ha hb) fun σ H Q h => ?_
  obtain ⟨H0, ρ, O, er, w⟩ := h
  unfold wE at w
  refine ⟨H0, ρ, O, er, wE_mono x.mono a ρ _ _ (fun d w v H1 s1 rt _ _ => ?_) w⟩
  refine ⟨H0, ρ, O, er.go s1, wE_mono x.mono b ρ _ _ (fun e w u H2 s2 ru _ _ => ?_) w⟩
  obtain ⟨r, hr, q⟩ := both_of w
  exact ⟨O, d, e, r, (er.go (s1.trans s2)).ow, rt.go s2, ru, hr, Ret.gv (s1.trans s2) q⟩
theorem s_neg (x : XOk g C cf n X) {a : E} {y : Expr} (ha : PE X y (tE g C a)) : PE X (.UnaryOp .USub y pos) (tE g C (.neg a)) := by
  refine PE.imp (pe_un un_neg ha) fun σ H Q h => ?_
  obtain ⟨H0, ρ, O, er, w⟩ := h
  unfold wE at w
  refine ⟨H0, ρ, O, er, wE_mono x.mono a ρ _ _ (fun d w v H1 s1 rt _ _ => ?_) w⟩
  obtain ⟨i, rfl, q⟩ := onInt_of w
  exact ⟨i, rt.int, (Ret.gv s1 q).int⟩
theorem s_not (x : XOk g C cf n X) {a : E} {y : Expr} (ha : PE X y (tE g C a)) : PE X (.UnaryOp .Not y pos) (tE g C (.not a)) := by
  refine PE.imp (pe_not ha) fun σ H Q h => ?_
  obtain ⟨H0, ρ, O, er, w⟩ := h
  unfold wE at w
  refine ⟨H0, ρ, O, er, wE_mono x.mono a ρ _ _ (fun d w v H1 s1 rt _ _ => ?_) w⟩
  obtain ⟨i, rfl, q⟩ := onBool_of w
  exact ⟨i, rt.bool, (Ret.gv s1 q).bl⟩
theorem s_cmp (x : XOk g C cf n X) {op : Cm} {o : CmpOp} {a b : E} {y z : Expr} (ho : cmB op o = true) (ha : PE X y (tE g C a)) (hb : PE X z (tE g C b)) (hm : behindInMarks o z = false) : PE X (.Compare y [o] [z] pos) (tE g C (.cmp op a b)) := by
  refine PE.imp (pe_cmpR (op_cmp (g := g) x.room x.gx ho) ha hb hm) fun σ H Q h => ?_
  obtain ⟨H0, ρ, O, er, w⟩ := h
  unfold wE at w
  refine ⟨H0, ρ, O, er, wE_mono x.mono a ρ _ _ (fun d w v H1 s1 rt _ _ => ?_) w⟩
  refine ⟨H0, ρ, O, er.go s1, wE_mono x.mono b ρ _ _ (fun e w u H2 s2 ru _ _ => ?_) w⟩
  obtain ⟨r, hr, q⟩ := bothB_of w
  exact ⟨O, d, e, r, rt.go s2, ru, hr, (Ret.gv (s1.trans s2) q).bl⟩
theorem st_cmp (x : XOk g C cf n X) {op : Cm} {o : CmpOp} {a b : E} {y z : Expr} (ho : cmB op o = true) (ha : PE X y (tE g C a)) (hb : PE X z (tE g C b)) (hm : behindInMarks o z = false) : PT X (.Compare y [o] [z] pos) (tT g C (.cmp op a b)) := by
  refine PT.imp (pt_cmpR (op_cmp (g := g) x.room x.gx ho) ha hb hm) fun σ H Q h => ?_
  obtain ⟨H0, ρ, O, er, w⟩ := h
  unfold wT at w
  refine ⟨H0, ρ, O, er, wE_mono x.mono a ρ _ _ (fun d w v H1 s1 rt _ _ => ?_) w⟩
  refine ⟨H0, ρ, O, er.go s1, wE_mono x.mono b ρ _ _ (fun e w u H2 s2 ru _ _ => ?_) w⟩
  obtain ⟨r, hr, q⟩ := bothB_of w
  exact ⟨O, d, e, r, rt.go s2, ru, hr, r, rfl, q _ (s1.trans s2)⟩
theorem s_chain (x : XOk g C cf n X) {op op' : Cm} {o o' : CmpOp} {a b c : E} {y z t : Expr} (ho : cmB op o = true) (ho' : cmB op' o' = true) (ha : PE X y (tE g C a)) (hb : PE X z (tE g C b)) (hc : PE X t (tE g C c)) (hm : lastMarks [o, o'] [z, t] = false) :
    PE X (.Compare y [o, o'] [z, t] pos) (tE g C (.chain op op' a b c)) := by
  refine PE.imp (pe_chain (op_cmp (g := g) x.room x.gx ho) (op_cmp (g := g) x.room x.gx ho') ha hb hc hm) fun σ H Q h => ?_
  obtain ⟨H0, ρ, O, er, w⟩ := h
  unfold wE at w
  refine ⟨H0, ρ, O, er, wE_mono x.mono a ρ _ _ (fun d w v H1 s1 rt _ _ => ?_) w⟩
  refine ⟨H0, ρ, O, er.go s1, wE_mono x.mono b ρ _ _ (fun e w u H2 s2 ru _ _ => ?_) w⟩
  obtain ⟨r, hr, q⟩ := bothB_of w
  refine ⟨O, d, e, r, rt.go s2, ru, hr, r, rfl, ?_⟩
  cases r with
  | false => exact (Ret.gv (s1.trans s2) q).bl
  | true =>
    rw [if_pos rfl] at q ⊢
    refine ⟨H0, ρ, O, (er.go s1).go s2, wE_mono x.mono c ρ _ _ (fun f w u' H3 s3 ru' _ _ => ?_) q⟩
    obtain ⟨r', hr', q'⟩ := bothB_of w
    exact ⟨O, e, f, r', ru.go s3, ru', hr', (Ret.gv ((s1.trans s2).trans s3) q').bl⟩
theorem st_chain (x : XOk g C cf n X) {op op' : Cm} {o o' : CmpOp} {a b c : E} {y z t : Expr} (ho : cmB op o = true) (ho' : cmB op' o' = true) (ha : PE X y (tE g C a)) (hb : PE X z (tE g C b)) (hc : PE X t (tE g C c)) (hm : lastMarks [o, o'] [z, t] = false) :
    PT X (.Compare y [o, o'] [z, t] pos) (tT g C (.chain op op' a b c)) := by
  refine PT.imp (pt_chain (op_cmp (g := g) x.room x.gx ho) (op_cmp (g := g) x.room x.gx ho') ha hb hc hm) fun σ H Q h => ?_
  obtain ⟨H0, ρ, O, er, w⟩ := h
  unfold wT at w
  refine ⟨H0, ρ, O, er, wE_mono x.mono a ρ _ _ (fun d w v H1 s1 rt _ _ => ?_) w⟩
  refine ⟨H0, ρ, O, er.go s1, wE_mono x.mono b ρ _ _ (fun e w u H2 s2 ru _ _ => ?_) w⟩
  obtain ⟨r, hr, q⟩ := bothB_of w
  refine ⟨O, d, e, r, rt.go s2, ru, hr, r, rfl, ?_⟩
  cases r with
  | false => exact ⟨false, rfl, q _ (s1.trans s2)⟩
  | true =>
    rw [if_pos rfl] at q ⊢
    refine ⟨H0, ρ, O, (er.go s1).go s2, wE_mono x.mono c ρ _ _ (fun f w u' H3 s3 ru' _ _ => ?_) q⟩
    obtain ⟨r', hr', q'⟩ := bothB_of w
    exact ⟨O, e, f, r', ru.go s3, ru', hr', r', rfl, q' _ ((s1.trans s2).trans s3)⟩
theorem s_ife (x : XOk g C cf n X) {c a b : E} {t y z : Expr} (hc : PT X t (tT g C c)) (ha : PE X y (tE g C a)) (hb : PE X z (tE g C b)) : PE X (.IfExp t y z pos) (tE g C (.ife c a b)) := by
  refine PE.imp (pe_ifExp hc ha hb) fun σ H Q h => ?_
  obtain ⟨H0, ρ, O, er, w⟩ := h
  unfold wE at w
  refine ⟨H0, ρ, O, er, wT_mono x.mono c ρ _ _ (fun k w H1 s1 => ?_) w⟩
  cases k with
  | true =>
    rw [if_pos rfl] at w ⊢
    refine ⟨H0, ρ, O, er.go s1, wE_mono x.mono a ρ _ _ (fun d w v H2 s2 rt cl fr => w v H2 (s1.trans s2) rt (fun z => cl ?_) fun z => (fr ?_).back s1) w⟩
    · simp only [clean, Bool.and_eq_true] at z; exact z.1
    · simp only [fresh, Bool.and_eq_true] at z; exact z.1
  | false =>
    rw [if_neg Bool.false_ne_true] at w ⊢
    refine ⟨H0, ρ, O, er.go s1, wE_mono x.mono b ρ _ _ (fun d w v H2 s2 rt cl fr => w v H2 (s1.trans s2) rt (fun z => cl ?_) fun z => (fr ?_).back s1) w⟩
    · simp only [clean, Bool.and_eq_true] at z; exact z.2
    · simp only [fresh, Bool.and_eq_true] at z; exact z.2

/-! ### calls -/
theorem spC_call (x : XOk g C cf n X) {H0 H H1 : Hp} {ρ : Env} {σ : L2.St} {O : List Addr} {es : Es} {k : Nat} {vs : List V} {ds : List D} {cl : Bool} {Q : VK} (er : ER g H0 ρ σ H O) (s1 : Same H H1) (rs : EsR g H H1 O ρ es vs ds) (w : C k ds fun d => Ret g O H cl true d Q) : spC g (C k) vs H1 Q := by
  refine ⟨ds, rs.rt.rp, x.mono k ds _ _ (fun d q v H2 s2 r t => ?_) w⟩
  have r' := r O (er.go s1).ow
  exact q v H2 (s1.trans s2) (.inl r') (fun _ => r') fun _ => t.back s1
theorem s_call (x : XOk g C cf n X) {k : Nat} {es : Es} {y : Str} {p : Pos} {z : Expr} {l : List Expr} (hk : cf.fns[k]? = some y) (hg : Gl X y) (ho : okN y = true) (hes : PA X (z :: l) (tEs g C false es))
    (he : starEach (z :: l) X.env = (false, eval z X.env) :: starEach l X.env) (hpl : (backTo pos (starEach l X.env)).any (·.1) = false) : PE X (.Call (.Name y p) (z :: l) [] pos) (tE g C (.call k es)) := by
  obtain ⟨h1, h2, _⟩ := okN_of ho
  obtain ⟨hm, co⟩ := x.fns k y hk
  refine ⟨fun pins s σ H Q I h => ?_⟩
  obtain ⟨H0, ρ, O, er, w⟩ := h
  unfold wE at w
  refine wpAny_Call_Name_kw (ld_glob I hg hm ?_ h1)
  refine PySem.W.callWith_K (h₀ := X.base) I.ok.mod.kin co.keep (thn (hes.run pos pins s σ H _ I ⟨H0, ρ, O, er, wEs_mono x.mono false es ρ _ _ (fun ds w vs H1 s1 rs _ => spC_call x er s1 rs w) w⟩) fun us s2 ⟨vs, H2, I2, r, q⟩ => ⟨I2.kIn, ?_⟩) he hpl
  exact co.run X rfl rfl rfl rfl rfl rfl pins s2 σ H2 us vs Q I2 r q
theorem s_callv (x : XOk g C cf n X) {i : Nat} {es : Es} {y : Str} {p : Pos} {z : Expr} {l : List Expr} (hN : X.N[i]? = some y) (hv : Vis X.env.scope y) (ho : okN y = true) (hes : PA X (z :: l) (tEs g C false es))
    (he : starEach (z :: l) X.env = (false, eval z X.env) :: starEach l X.env) (hpl : (backTo pos (starEach l X.env)).any (·.1) = false) : PE X (.Call (.Name y p) (z :: l) [] pos) (tE g C (.callv i es)) := by
  obtain ⟨h1, h2, _⟩ := okN_of ho
  refine ⟨fun pins s σ H Q I h => ?_⟩
  obtain ⟨H0, ρ, O, er, w⟩ := h
  unfold wE at w
  split at w
  · rename_i k hs
    obtain ⟨v, ev, rv⟩ := er.frz i _ hs
    obtain ⟨k', rfl, rfl⟩ : ∃ k' : Nat, v = .ref (g.fa k') ∧ k = (k' : Int) := by
      cases rv with
      | fn k' => exact ⟨k', rfl, rfl⟩
    rw [Int.toNat_natCast] at w
    refine wpAny_Call_Name_kw (thn ((pe_var (pos := p) hN hv h1 h2).run pins s σ H (fun v H1 => v = .ref (g.fa k') ∧ H1 = H) I ⟨_, ev, rfl, rfl⟩) fun u s1 ⟨v, H1, I1, r1, q1⟩ => ?_)
    obtain ⟨rfl, rfl⟩ := q1
    cases r1
    refine PySem.W.callWith_K (h₀ := X.base) I1.ok.mod.kin (x.keep k') (thn (hes.run pos pins s1 σ _ _ I1 ⟨H0, ρ, O, er, wEs_mono x.mono false es ρ _ _ (fun ds w vs H1 s1 rs _ => spC_call x er s1 rs w) w⟩) fun us s2 ⟨vs, H2, I2, r, q⟩ => ⟨I2.kIn, ?_⟩) he hpl
    obtain ⟨ds, q1, q2⟩ := id q
    obtain ⟨y', hk⟩ := x.dom _ _ _ q2
    obtain ⟨hm, co⟩ := x.fns k' y' hk
    exact co.run X rfl rfl rfl rfl rfl rfl pins s2 σ H2 us vs Q I2 r q
  · exact w.elim
theorem s_some (x : XOk g C cf n X) {h a : E} {y : Str} {p : Pos} {z t : Expr} (hy : y = ("_law_some" : Str)) (hg : Gl X y) (hh : PE X z (tE g C h)) (ha : PE X t (tE g C a))
    (he : starEach [z, t] X.env = (false, eval z X.env) :: starEach [t] X.env) (he2 : starEach [t] X.env = [(false, eval t X.env)]) : PE X (.Call (.Name y p) [z, t] [] pos) (tE g C (.some_ h a)) := by
  subst hy
  obtain ⟨f, hm, co⟩ := x.sm
  refine ⟨fun pins s σ H Q I h => ?_⟩
  obtain ⟨H0, ρ, O, er, w⟩ := h
  unfold wE at w
  refine wpAny_Call_Name_kw (ld_glob I hg hm ?_)
  refine PySem.W.callWith_K (h₀ := X.base) I.ok.mod.kin co.keep (thn ((pa_cons hh (pa_cons ha pa_nil (by rw [he2]; rfl)) he).run pos pins s σ H (fun vs H2 => spSome g vs H2 Q) I ?_) fun us s2 ⟨vs, H2, I2, r, q⟩ => ⟨I2.kIn, ?_⟩) he (by rw [he2]; rfl)
  · refine ⟨H0, ρ, O, er, wE_mono x.mono h ρ _ _ (fun d w v H1 s1 rt _ _ => ?_) w⟩
    refine ⟨H0, ρ, O, er.go s1, wE_mono x.mono a ρ _ _ (fun e w u H2 s2 ru _ _ => ?_) w⟩
    have key : ∀ (p : Addr) (xs : List V) (ds : List D), (H2 p = some (.lst xs) ∨ H2 p = some (.tup xs)) → RpAll g (msk O H2) xs ds → d = hand → ds ≠ [] → (∀ e, e ∈ ds → Ret g O H true false e Q) → spSome g [v, .ref p] H2 Q := by
      intro p xs ds hp ra hd hn q
      subst hd
      refine ⟨v, p, xs, rfl, rt.rp.mono s2, hp, fun z => hn ?_, fun i y H' hi s' => ?_⟩
      · subst z
        have := ra.length
        exact List.length_eq_zero_iff.mp this.symm
      · obtain ⟨d', hd', r⟩ := ra.get' hi
        have r' := r.mono (msk_mono (O := O) s')
        exact q d' (List.mem_of_getElem? hd') y H' ((s1.trans s2).trans s') (.inl r') (fun _ => r') fun z => by cases z
    unfold items at w
    split at w
    · rename_i xs hxs
      split at hxs
      · cases hxs
        obtain ⟨p, vs, rfl, hp, ra⟩ := ru.lst
        exact key p vs _ (.inl hp) ra w.1 w.2.1 fun e he v H' s r c f => w.2.2 e he v H' s r (fun _ => c rfl) fun z => by simp at z
      · cases hxs
        obtain ⟨p, vs, rfl, hp, ra, _⟩ := ru.tup
        exact key p vs _ (.inr hp) ra w.1 w.2.1 fun e he v H' s r c f => w.2.2 e he v H' s r (fun _ => c rfl) fun z => by simp at z
      · cases hxs
    · exact w.elim
  · exact co.run X rfl rfl rfl rfl rfl rfl pins s2 σ H2 us vs Q I2 r q
end
end DL
set_option Elab.async false
set_option linter.all false
set_option maxRecDepth 100000
/-! DL12: the expressions' rules, further. -/
namespace DL
open PySem PySem.Spec PyProof.Rows L2
section
variable {g : Gx} {C : Calls} {cf : Cfg} {n : Nat} {X : Cx} {sc : Scope} {pos : Pos}

/-! ### built-in calls -/
theorem s_bi_of (x : XOk g C cf n X) {b : Bi} {es : Es} {e : Expr} {t : TA} (h : PE X e (tCB (rBi g (biD b)) (tEs g C false es))) : PE X e (tE g C (.bi b es)) := by
  refine PE.imp h fun σ H Q h => ?_
  obtain ⟨H0, ρ, O, er, w⟩ := h
  unfold wE at w
  refine ⟨H0, ρ, O, er, wEs_mono x.mono false es ρ _ _ (fun ds w vs H1 s1 rs _ => ?_) w⟩
  obtain ⟨z, hz, q⟩ := both_of w
  exact ⟨O, ds, z, (er.go s1).ow, rs.rt, hz, Ret.gv s1 q⟩
theorem s_bi (x : XOk g C cf n X) {b : Bi} {es : Es} {y : Str} {p : Pos} {z : Expr} {l : List Expr} (hb : plainBi b = true) (hy : y = biN b) (hg : Gl X y) (hes : PA X (z :: l) (tEs g C false es))
    (he : starEach (z :: l) X.env = (false, eval z X.env) :: starEach l X.env) (hpl : (backTo pos (starEach l X.env)).any (·.1) = false) : PE X (.Call (.Name y p) (z :: l) [] pos) (tE g C (.bi b es)) := by
  subst hy
  refine s_bi_of (t := tEs g C false es) x ?_
  cases b with
  | len => exact pe_callB cr_dLen hg (x.blt _ (by decide)) bt_len hes (by decide) (by decide) he hpl
  | tuple => exact pe_callTy cr_dTuple hg (x.blt _ (by decide)) bt_tuple hes (by decide) (by decide) he hpl
  | list => exact pe_callTy cr_dList hg (x.blt _ (by decide)) bt_list hes (by decide) (by decide) he hpl
  | sorted => exact pe_callB (cr_dSorted x.room) hg (x.blt _ (by decide)) bt_sorted hes (by decide) (by decide) he hpl
  | all => exact pe_callB (cr_dAll x.calm) hg (x.blt _ (by decide)) bt_all hes (by decide) (by decide) he hpl
  | any => exact pe_callB (cr_dAny x.calm) hg (x.blt _ (by decide)) bt_any hes (by decide) (by decide) he hpl
  | sum => exact pe_callB (cr_dSum x.calm) hg (x.blt _ (by decide)) bt_sum hes (by decide) (by decide) he hpl
  | abs => exact pe_callB cr_dAbs hg (x.blt _ (by decide)) bt_abs hes (by decide) (by decide) he hpl
  | int => exact pe_callTy cr_dInt hg (x.blt _ (by decide)) bt_int hes (by decide) (by decide) he hpl
  | min => exact pe_callB (cr_dMin x.room) hg (x.blt _ (by decide)) bt_min hes (by decide) (by decide) he hpl
  | max => exact pe_callB (cr_dMax x.room) hg (x.blt _ (by decide)) bt_max hes (by decide) (by decide) he hpl
  | _ => cases hb
theorem s_isi_of (x : XOk g C cf n X) {b : Bi} {f : D → Bool} {ty : Str} {tn : String} {a : E} {y : Str} {p p' : Pos} {z : Expr} (hbf : ∀ ds, biD b ds = isiD f ds) (hk : ∀ d : D, (∀ kvs, d ≠ .dict kvs) → PySem.W.kitOne X.K (PySem.W.dataType d) (.type tn) = some (f d))
    (hy : y = ("isinstance" : Str)) (hg : Gl X y) (hgt : Gl X ty) (hmt : X.mg ty = none) (hbt : bootBuiltins ty = some (.type tn)) (hnt : ty ≠ "__name__") (hdt : (ty == ("__debug__" : Str)) = false) (ha : PE X z (tE g C a))
    (he : starEach [z, .Name ty p'] X.env = (false, eval z X.env) :: starEach [.Name ty p'] X.env) : PE X (.Call (.Name y p) [z, .Name ty p'] [] pos) (tE g C (.bi b (.cons a .nil))) := by
  subst hy
  refine PE.imp (pe_callB (cr_isT (g := g) hk) hg (x.blt _ (by decide)) bt_isi (pa_cons ha (pa_cons (pe_bltn (v := .ty tn) hgt hmt hbt rfl hnt hdt) pa_nil rfl) he) (by decide) (by decide) he rfl) fun σ H Q h => ?_
  obtain ⟨H0, ρ, O, er, w⟩ := h
  unfold wE at w
  unfold wEs at w
  refine ⟨H0, ρ, O, er, wE_mono x.mono a ρ _ _ (fun d w v H1 s1 rt _ _ => ?_) w⟩
  have w2 := w.2
  unfold wEs at w2
  obtain ⟨r, hr, q⟩ := both_of w2
  rw [hbf] at hr
  have hd : (∀ kvs, d ≠ .dict kvs) ∧ r = .bool (f d) := by
    cases d with
    | dict kvs => cases hr
    | _ =>
      refine ⟨fun kvs z => (by cases z), ?_⟩
      exact (Option.some.inj hr).symm
  obtain ⟨hd, rfl⟩ := hd
  exact ⟨O, v, d, rfl, rt, hd, (Ret.gv s1 q).bl⟩
theorem s_isi (x : XOk g C cf n X) {b : Bi} {ty t : Str} {a : E} {y : Str} {p p' : Pos} {z : Expr} (hb : isiN b = some t) (ht : ty = t) (hy : y = ("isinstance" : Str)) (hg : Gl X y) (hgt : Gl X ty) (ha : PE X z (tE g C a))
    (he : starEach [z, .Name ty p'] X.env = (false, eval z X.env) :: starEach [.Name ty p'] X.env) : PE X (.Call (.Name y p) [z, .Name ty p'] [] pos) (tE g C (.bi b (.cons a .nil))) := by
  subst ht
  cases b with
  | isInt => cases hb; exact s_isi_of x (fun _ => rfl) kit_isInt hy hg hgt (x.blt _ (by decide)) bt_int (by decide) (by decide) ha he
  | isBool => cases hb; exact s_isi_of x (fun _ => rfl) kit_isBool hy hg hgt (x.blt _ (by decide)) bt_bool (by decide) (by decide) ha he
  | isTup => cases hb; exact s_isi_of x (fun _ => rfl) kit_isTup hy hg hgt (x.blt _ (by decide)) bt_tuple (by decide) (by decide) ha he
  | isStr => cases hb; exact s_isi_of x (fun _ => rfl) kit_isStr hy hg hgt (x.blt _ (by decide)) bt_str (by decide) (by decide) ha he
  | _ => cases hb

/-! ### fields, subscripts -/
theorem Rt.fam {H : Hp} {O : List Addr} {v : V} {l : List D} {p : Int} (h : Rt g H O v (.dict [(.bool true, .tuple l), (.int p, .none)])) :
    ∃ a dx fs lv, v = .ref a ∧ H a = some (.ins g.C dx fs) ∧ fs.lookup ("points" : Str) = some (V.int p) ∧ fs.lookup ("lots" : Str) = some lv ∧ Rp g (msk O H) lv (.tuple l) := by
  rcases h with r | ⟨b, _, _, r⟩
  · cases r with
    | fam h hp hl r => exact ⟨_, _, _, _, rfl, (msk_some h).2, hp, hl, r⟩
  · cases r

theorem s_fld (x : XOk g C cf n X) (hfam : cf.fns.contains ("Family" : Str) = true) {k : Nat} (hk : k ≤ 1) {a : E} {y : Expr} {f : Str} (hf : f = (if k = 0 then ("points" : Str) else "lots")) (ha : PE X y (tE g C a)) (hab : attributeBase y f X.env (eval y X.env) = eval y X.env) :
    PE X (.Attribute y f pos) (tE g C (.fld a k)) := by
  refine PE.imp (pe_fld ha hab) fun σ H Q h => ?_
  obtain ⟨H0, ρ, O, er, w⟩ := h
  unfold wE at w
  refine ⟨H0, ρ, O, er, wE_mono x.mono a ρ _ _ (fun d w v H1 s1 rt _ _ => ?_) w⟩
  obtain ⟨z, hz, q⟩ := both_of w
  obtain ⟨c1, c2, c3⟩ := x.cls ⟨_, hfam, rfl⟩
  have ow := (er.go s1).ow
  unfold fldD at hz
  split at hz
  · cases hz
    rw [if_pos rfl] at hf
    subst hf
    obtain ⟨a', dx, fs, lv, rfl, h, hp, hl, r⟩ := rt.fam
    exact ⟨a', g.C, dx, fs, _, rfl, h, c1, c2, hp, (Ret.gv s1 q).int⟩
  · cases hz
    rw [if_neg (by decide)] at hf
    subst hf
    obtain ⟨a', dx, fs, lv, rfl, h, hp, hl, r⟩ := rt.fam
    exact ⟨a', g.C, dx, fs, _, rfl, h, c1, c3, hl, q _ _ s1 (.inl r) (fun _ => r) fun z => by simp at z⟩
  · cases hz
theorem s_idx (x : XOk g C cf n X) {a b : E} {y z : Expr} (ha : PE X y (tE g C a)) (hb : PE X z (tE g C b)) (hp : PlainIx z) : PE X (.Subscript y z pos) (tE g C (.idx a b)) := by
  refine PE.imp (pe_ix (ix_any (g := g) x.room x.gx) ha hb hp) fun σ H Q h => ?_
  obtain ⟨H0, ρ, O, er, w⟩ := h
  unfold wE at w
  refine ⟨H0, ρ, O, er, wE_mono x.mono a ρ _ _ (fun d w v H1 s1 rt _ _ => ?_) w⟩
  refine ⟨H0, ρ, O, er.go s1, wE_mono x.mono b ρ _ _ (fun e w u H2 s2 ru _ _ => ?_) w⟩
  obtain ⟨r, hr, q⟩ := both_of w
  exact ⟨O, d, e, r, (er.go (s1.trans s2)).ow, rt.go s2, ru, hr, fun v' rp => q _ _ (s1.trans s2) (.inl rp) (fun _ => rp) fun z => by simp at z⟩
theorem s_no : PO X none (tO g C .no) := by
  refine PO.imp po_none fun σ H Q h => ?_
  obtain ⟨H0, ρ, O, er, w⟩ := h
  unfold wO at w
  exact w H (.refl _)
theorem s_yes (x : XOk g C cf n X) {a : E} {y : Expr} (ha : PE X y (tE g C a)) : PO X (some y) (tO g C (.yes a)) := by
  refine PO.imp (po_some ha) fun σ H Q h => ?_
  obtain ⟨H0, ρ, O, er, w⟩ := h
  unfold wO at w
  refine ⟨H0, ρ, O, er, wE_mono x.mono a ρ _ _ (fun d w v H1 s1 rt _ _ => ?_) w⟩
  obtain ⟨i, rfl, q⟩ := onInt_of w
  exact ⟨i, rt.int, q H1 s1⟩
theorem s_sl (x : XOk g C cf n X) {a : E} {lo hi : Eo} {y : Expr} {l h : Option Expr} {p2 : Pos} (ha : PE X y (tE g C a)) (hl : PO X l (tO g C lo)) (hh : PO X h (tO g C hi)) : PE X (.Subscript y (.Slice l h none p2) pos) (tE g C (.sl a lo hi)) := by
  refine PE.imp (pe_slice (sl_any (g := g)) ha hl hh) fun σ H Q h => ?_
  obtain ⟨H0, ρ, O, er, w⟩ := h
  unfold wE at w
  refine ⟨H0, ρ, O, er, wE_mono x.mono a ρ _ _ (fun d w v H1 s1 rt _ _ => ?_) w⟩
  refine ⟨H0, ρ, O, er.go s1, wO_mono x.mono lo ρ _ _ (fun i w H2 s2 => ?_) w⟩
  refine ⟨H0, ρ, O, (er.go s1).go s2, wO_mono x.mono hi ρ _ _ (fun j w H3 s3 => ?_) w⟩
  obtain ⟨r, hr, q⟩ := both_of w
  exact ⟨O, d, r, (er.go ((s1.trans s2).trans s3)).ow, rt.go (s2.trans s3), hr, Ret.gv ((s1.trans s2).trans s3) q⟩

/-! ### and, or -/
theorem s_and1 (x : XOk g C cf n X) {e : E} {y : Expr} (h : PE X y (tE g C e)) : PE X (.BoolOp .And [y] pos) (tE g C (.and (.cons e .nil))) := by
  refine PE.imp (pe_one h) fun σ H Q h => ?_
  obtain ⟨H0, ρ, O, er, w⟩ := h
  unfold wE wAnd at w
  exact ⟨H0, ρ, O, er, wE_mono x.mono e ρ _ _ (fun d w v H1 s1 rt cl fr => w v H1 s1 rt (fun z => cl (by simpa [clean, cleans] using z)) fun z => by simp [fresh] at z) w⟩
theorem s_or1 (x : XOk g C cf n X) {e : E} {y : Expr} (h : PE X y (tE g C e)) : PE X (.BoolOp .Or [y] pos) (tE g C (.or (.cons e .nil))) := by
  refine PE.imp (pe_one h) fun σ H Q h => ?_
  obtain ⟨H0, ρ, O, er, w⟩ := h
  unfold wE wOr at w
  exact ⟨H0, ρ, O, er, wE_mono x.mono e ρ _ _ (fun d w v H1 s1 rt cl fr => w v H1 s1 rt (fun z => cl (by simpa [clean, cleans] using z)) fun z => by simp [fresh] at z) w⟩
theorem s_and2 (x : XOk g C cf n X) {e e' : E} {es : Es} {y z : Expr} {l : List Expr} (ha : PE X y (tE g C e)) (hb : PE X (.BoolOp .And (z :: l) pos) (tE g C (.and (.cons e' es)))) : PE X (.BoolOp .And (y :: z :: l) pos) (tE g C (.and (.cons e (.cons e' es)))) := by
  refine PE.imp (pe_and ha hb) fun σ H Q h => ?_
  obtain ⟨H0, ρ, O, er, w⟩ := h
  unfold wE wAnd at w
  refine ⟨H0, ρ, O, er, wE_mono x.mono e ρ _ _ (fun d w v H1 s1 rt _ _ => ?_) w⟩
  obtain ⟨k, rfl, q⟩ := onBool_of w
  refine ⟨k, rt.bool, ?_⟩
  cases k with
  | false => exact (Ret.gv s1 q).bl
  | true =>
    rw [if_pos rfl] at q ⊢
    refine ⟨H0, ρ, O, er.go s1, ?_⟩
    unfold wE
    refine wAnd_mono x.mono _ ρ _ _ (fun d w v H2 s2 rt cl fr => w v H2 (s1.trans s2) rt (fun z => cl ?_) fun z => by simp [fresh] at z) q
    simp only [clean, cleans, Bool.and_eq_true] at z ⊢
    exact z.2
theorem s_or2 (x : XOk g C cf n X) {e e' : E} {es : Es} {y z : Expr} {l : List Expr} (ha : PE X y (tE g C e)) (hb : PE X (.BoolOp .Or (z :: l) pos) (tE g C (.or (.cons e' es)))) : PE X (.BoolOp .Or (y :: z :: l) pos) (tE g C (.or (.cons e (.cons e' es)))) := by
  refine PE.imp (pe_or ha hb) fun σ H Q h => ?_
  obtain ⟨H0, ρ, O, er, w⟩ := h
  unfold wE wOr at w
  refine ⟨H0, ρ, O, er, wE_mono x.mono e ρ _ _ (fun d w v H1 s1 rt _ _ => ?_) w⟩
  obtain ⟨k, rfl, q⟩ := onBool_of w
  refine ⟨k, rt.bool, ?_⟩
  cases k with
  | true => exact (Ret.gv s1 q).bl
  | false =>
    rw [if_neg Bool.false_ne_true] at q ⊢
    refine ⟨H0, ρ, O, er.go s1, ?_⟩
    unfold wE
    refine wOr_mono x.mono _ ρ _ _ (fun d w v H2 s2 rt cl fr => w v H2 (s1.trans s2) rt (fun z => cl ?_) fun z => by simp [fresh] at z) q
    simp only [clean, cleans, Bool.and_eq_true] at z ⊢
    exact z.2
/-! ### tests -/
def tAndT (g : Gx) (C : Calls) (es : Es) : TT := fun σ H Q => ∃ H0 ρ O, ER g H0 ρ σ H O ∧ wAndT C es ρ fun b => ∀ H', Same H H' → Q b H'
def tOrT (g : Gx) (C : Calls) (es : Es) : TT := fun σ H Q => ∃ H0 ρ O, ER g H0 ρ σ H O ∧ wOrT C es ρ fun b => ∀ H', Same H H' → Q b H'
theorem PW.imp' {X : Cx} {e : Expr} {t t' : TT} (h : PW X e t) (i : ∀ σ H Q, t' σ H Q → t σ H Q) : PW X e t' := ⟨fun wh pins s σ H Q I q => h.run wh pins s σ H Q I (i _ _ _ q)⟩
theorem st_and1 (x : XOk g C cf n X) {e : E} {y : Expr} (h : PT X y (tT g C e)) : PW X (.BoolOp .And [y] pos) (tAndT g C (.cons e .nil)) := by
  refine PW.imp' (pw_and1 h) fun σ H Q h => ?_
  obtain ⟨H0, ρ, O, er, w⟩ := h
  unfold wAndT at w
  exact ⟨H0, ρ, O, er, w⟩
theorem st_or1 (x : XOk g C cf n X) {e : E} {y : Expr} (h : PT X y (tT g C e)) : PW X (.BoolOp .Or [y] pos) (tOrT g C (.cons e .nil)) := by
  refine PW.imp' (pw_or1 h) fun σ H Q h => ?_
  obtain ⟨H0, ρ, O, er, w⟩ := h
  unfold wOrT at w
  exact ⟨H0, ρ, O, er, w⟩
theorem st_and2 (x : XOk g C cf n X) {e e' : E} {es : Es} {y z : Expr} {l : List Expr} (ha : PT X y (tT g C e)) (hb : PW X (.BoolOp .And (z :: l) pos) (tAndT g C (.cons e' es))) : PW X (.BoolOp .And (y :: z :: l) pos) (tAndT g C (.cons e (.cons e' es))) := by
  refine PW.imp' (pw_and ha hb) fun σ H Q h => ?_
  obtain ⟨H0, ρ, O, er, w⟩ := h
  unfold wAndT at w
  refine ⟨H0, ρ, O, er, wT_mono x.mono e ρ _ _ (fun k q H1 s1 => ?_) w⟩
  cases k with
  | false => exact q H1 s1
  | true =>
    rw [if_pos rfl] at q ⊢
    exact ⟨H0, ρ, O, er.go s1, wAndT_mono x.mono _ ρ _ _ (fun k q H2 s2 => q H2 (s1.trans s2)) q⟩
theorem st_or2 (x : XOk g C cf n X) {e e' : E} {es : Es} {y z : Expr} {l : List Expr} (ha : PT X y (tT g C e)) (hb : PW X (.BoolOp .Or (z :: l) pos) (tOrT g C (.cons e' es))) : PW X (.BoolOp .Or (y :: z :: l) pos) (tOrT g C (.cons e (.cons e' es))) := by
  refine PW.imp' (pw_or ha hb) fun σ H Q h => ?_
  obtain ⟨H0, ρ, O, er, w⟩ := h
  unfold wOrT at w
  refine ⟨H0, ρ, O, er, wT_mono x.mono e ρ _ _ (fun k q H1 s1 => ?_) w⟩
  cases k with
  | true => exact q H1 s1
  | false =>
    rw [if_neg Bool.false_ne_true] at q ⊢
    exact ⟨H0, ρ, O, er.go s1, wOrT_mono x.mono _ ρ _ _ (fun k q H2 s2 => q H2 (s1.trans s2)) q⟩
theorem st_not (x : XOk g C cf n X) {e : E} {y : Expr} (h : PT X y (tT g C e)) : PT X (.UnaryOp .Not y pos) (tT g C (.not e)) := by
  refine PT.imp (pt_not h) fun σ H Q h => ?_
  obtain ⟨H0, ρ, O, er, w⟩ := h
  unfold wT at w
  exact ⟨H0, ρ, O, er, w⟩
theorem st_val (x : XOk g C cf n X) {e : E} {y : Expr} (h : PE X y (tE g C e)) (he : ∀ whole, isTrue y X.env whole = (do let v ← whole; standAt y.pos; holding [v] (truthy v))) (hw : ∀ ρ Q, wT C e ρ Q → wE C e ρ fun d => onBool d Q) : PT X y (tT g C e) := by
  refine PT.imp (pt_val h he) fun σ H Q h => ?_
  obtain ⟨H0, ρ, O, er, w⟩ := h
  refine ⟨H0, ρ, O, er, wE_mono x.mono e ρ _ _ (fun d q v H1 s1 rt _ _ => ?_) (hw _ _ w)⟩
  obtain ⟨k, rfl, q⟩ := onBool_of q
  exact ⟨k, rt.bool, q H1 s1⟩
theorem st_no {e : E} {y : Expr} (hw : ∀ ρ Q, wT C e ρ Q → False) : PT X y (tT g C e) := ⟨fun pins s σ H Q I h => by
  obtain ⟨H0, ρ, O, er, w⟩ := h
  exact (hw _ _ w).elim⟩
theorem sp_nil : PTs X [] (tIfs g C .nil) := ⟨fun pins s σ H Q I h => pts_nil.run pins s σ H Q I (by
  obtain ⟨H0, ρ, O, er, w⟩ := h
  unfold wIfs at w
  exact w H (.refl _))⟩
theorem sp_one {e : E} {y : Expr} (h : PT X y (tT g C e)) : PTs X [y] (tIfs g C (.cons e .nil)) := ⟨fun pins s σ H Q I h' => (pts_one h).run pins s σ H Q I (by
  obtain ⟨H0, ρ, O, er, w⟩ := h'
  unfold wIfs at w
  exact ⟨H0, ρ, O, er, w⟩)⟩
theorem sp_no {e e' : E} {es : Es} {l : List Expr} : PTs X l (tIfs g C (.cons e (.cons e' es))) := ⟨fun pins s σ H Q I h => by
  obtain ⟨H0, ρ, O, er, w⟩ := h
  unfold wIfs at w
  exact w.elim⟩
end
end DL
set_option Elab.async false
set_option linter.all false
set_option maxRecDepth 100000
/-! DL10: repr, sets. -/
namespace DL
open PySem PySem.Spec PyProof.Rows L2
section
variable {g : Gx} {C : Calls} {cf : Cfg} {n : Nat} {X : Cx} {sc : Scope} {pos : Pos}
/-! ### repr -/
theorem bt_repr : bootBuiltins "repr" = some (.builtin "repr") := by decide +kernel
mutual
theorem repr_ok : ∀ {d : D} {k : Nat}, reprW d = some k → d.showable = true ∧ d.hasDict = false ∧ d.shown.length ≤ k ∧ d.plain = true
  | .none, k, h => by
    simp only [reprW, Option.some.injEq] at h
    subst h
    exact ⟨rfl, rfl, by decide, rfl⟩
  | .bool b, k, h => by
    simp only [reprW, Option.some.injEq] at h
    subst h
    exact ⟨rfl, rfl, by cases b <;> decide, rfl⟩
  | .int i, k, h => by
    simp only [reprW] at h
    split at h
    · rename_i hi
      cases h
      refine ⟨?_, rfl, ?_, rfl⟩
      · simp only [PyData.showable, decide_eq_true_eq]
        have hn : i.natAbs < 2 ^ 20 := by omega
        rcases Nat.eq_zero_or_pos i.natAbs with z | z
        · rw [z]; decide
        · have := (Nat.log2_lt (by omega)).mpr hn
          omega
      · have := toString_length_le (v := i) hi.1 (k := 6) (by decide) (by omega)
        show (Str.ofString (toString i)).length ≤ 12
        omega
    · cases h
  | .str x, k, h => by
    simp only [reprW] at h
    split at h
    · rename_i hx
      simp only [Bool.and_eq_true, decide_eq_true_eq, List.all_eq_true] at hx
      cases h
      refine ⟨rfl, rfl, ?_, rfl⟩
      have := StrLaws.reprText_len x (fun c hc => by have := hx.2 c hc; omega)
      show (reprText x).length ≤ 260
      omega
    · cases h
  | .list xs, k, h => by
    simp only [reprW, Option.map_eq_some_iff] at h
    obtain ⟨m, h1, rfl⟩ := h
    obtain ⟨a, b, c, d⟩ := reprs_ok h1
    refine ⟨by simpa [PyData.showable] using a, by simpa [PyData.hasDict] using b, ?_, by simpa [PyData.plain] using d⟩
    have := listText_len_le (PyData.shownAll xs)
    show (listText (PyData.shownAll xs)).length ≤ m + 4
    omega
  | .tuple xs, k, h => by
    simp only [reprW, Option.map_eq_some_iff] at h
    obtain ⟨m, h1, rfl⟩ := h
    obtain ⟨a, b, c, d⟩ := reprs_ok h1
    refine ⟨by simpa [PyData.showable] using a, by simpa [PyData.hasDict] using b, ?_, by simpa [PyData.plain] using d⟩
    have := tupleText_len_le (PyData.shownAll xs)
    show (tupleText (PyData.shownAll xs)).length ≤ m + 4
    omega
  | .dict _, k, h => by simp [reprW] at h
theorem reprs_ok : ∀ {ds : List D} {k : Nat}, reprWs ds = some k → PyData.showableAll ds = true ∧ PyData.hasDictAll ds = false ∧ ((PyData.shownAll ds).map (·.length)).sum + 2 * (PyData.shownAll ds).length ≤ k ∧ PyData.plainAll ds = true
  | [], k, h => by
    simp only [reprWs, Option.some.injEq] at h
    subst h
    exact ⟨rfl, rfl, by simp [PyData.shownAll], rfl⟩
  | x :: xs, k, h => by
    simp only [reprWs] at h
    split at h
    · rename_i a b h1 h2
      cases h
      obtain ⟨p1, p2, p3, p4⟩ := repr_ok h1
      obtain ⟨q1, q2, q3, q4⟩ := reprs_ok h2
      refine ⟨by simp [PyData.showableAll, p1, q1], by simp [PyData.hasDictAll, p2, q2], ?_, by simp [PyData.plainAll, p4, q4]⟩
      simp only [PyData.shownAll, List.map_cons, List.sum_cons, List.length_cons]
      omega
    · cases h
end
def rRepr (g : Gx) : List V → Hp → VK → Prop := fun vs H Q => ∃ O v d, vs = [v] ∧ Rt g H O v d ∧ reprOk d = true ∧ Q (.str d.shown) H
theorem cr_repr (hg : X.A.guards = some []) (hr : Room n X.A) : CallR X (.builtin "repr") (rRepr g) := by
  intro pins s σ H vs us Q I r h
  obtain ⟨O, v, d, rfl, rt, ok, q⟩ := h
  unfold reprOk at ok
  simp only [Bool.and_eq_true] at ok
  obtain ⟨hs, ok⟩ := ok
  split at ok
  · rename_i k hk
    have hkk : k ≤ 1000000 := by simpa using ok
    obtain ⟨p1, p2, p3, p4⟩ := repr_ok hk
    cases r with
    | cons rv r =>
      cases r
      obtain ⟨as, rd⟩ := rt.rp.reads I p4 rv
      have hd : d.depth ≤ 32 := by simpa [smallD] using hs
      have hu := hr.units
      have hz : d.shown.length ≤ sizeLine := by unfold sizeLine; omega
      have fin : EP X pins σ Q (.str d.shown s.toks) { s with toks := s.toks + 1 } := ⟨.str d.shown, H, I.tok _, ⟨_, rfl⟩, q⟩
      have ref : ∀ {a : Addr}, Reads s.heap (.ref a) d as → wpAny (model X.prog X.w) X.A (call (.builtin "repr") [.ref a]) (EP X pins σ Q) X.xe s := fun {a} rd =>
        repr_of_reads' rd p1 (PyData.noDict_hsm p2) hg (by omega) (fun b o e => e) (fun h' u tk hk => ⟨.str d.shown, H, I.kept (t' := tk) hk, ⟨_, rfl⟩, q⟩) hz
      cases d with
      | none =>
        rw [rt.non] at rv
        cases rv
        exact P.repr_of_none fin
      | bool b =>
        rw [rt.bool] at rv
        cases rv
        exact P.repr_of_bool fin
      | int i =>
        rw [rt.int] at rv
        obtain ⟨t, rfl⟩ := rv
        exact P.repr_of_int (by simpa [PyData.showable] using p1) fin
      | str x =>
        rw [rt.str] at rv
        obtain ⟨t, rfl⟩ := rv
        exact P.repr_of_str fin hz
      | list xs =>
        obtain ⟨a, _, rfl, _⟩ := rt.lst
        cases rv
        exact ref rd
      | tuple xs =>
        obtain ⟨a, _, rfl, _⟩ := rt.tup
        cases rv
        exact ref rd
      | dict _ => cases p2
  · cases ok
theorem s_reprEq (x : XOk g C cf n X) {a b : E} {y z : Expr} {f f' : Str} {p p' q q' : Pos} (hf : f = ("repr" : Str)) (hf' : f' = ("repr" : Str)) (hg : Gl X f) (ha : PE X y (tE g C a)) (hb : PE X z (tE g C b)) (hsy : starEach [y] X.env = [(false, eval y X.env)]) (hsz : starEach [z] X.env = [(false, eval z X.env)]) :
    PE X (.Compare (.Call (.Name f p) [y] [] q) [.Eq] [.Call (.Name f' p') [z] [] q'] pos) (tE g C (.reprEq a b)) := by
  subst hf hf'
  refine PE.imp (pe_cmpR op_eq (pe_callB (cr_repr (g := g) x.gd x.room) hg (x.blt _ (by decide)) bt_repr (pa_cons ha pa_nil (by rw [hsy]; rfl)) (by decide) (by decide) (by rw [hsy]; rfl) (by rfl))
    (pe_callB (cr_repr (g := g) x.gd x.room) hg (x.blt _ (by decide)) bt_repr (pa_cons hb pa_nil (by rw [hsz]; rfl)) (by decide) (by decide) (by rw [hsz]; rfl) (by rfl)) (nomark _)) fun σ H Q h => ?_
  obtain ⟨H0, ρ, O, er, w⟩ := h
  unfold wE at w
  refine ⟨H0, ρ, O, er, wE_mono x.mono a ρ _ _ (fun d w v H1 s1 rt _ _ => ?_) w⟩
  refine ⟨O, v, d, rfl, rt, w.1, ?_⟩
  refine ⟨H0, ρ, O, er.go s1, wE_mono x.mono b ρ _ _ (fun e w' u H2 s2 ru _ _ => ?_) w.2⟩
  obtain ⟨rfl, q⟩ := w'
  refine ⟨O, u, d, rfl, ru, w.1, rfl, ?_⟩
  rw [decide_eq_true rfl]
  exact (Ret.gv (s1.trans s2) q).bl
theorem bt_set : bootBuiltins "set" = some (.type "set") := by decide +kernel
theorem fSset_of {d z : D} (h : fSset [d] = some z) : ∃ ls : List (List Int), (d = .list (ls.map tupI) ∨ d = .tuple (ls.map tupI)) ∧ ls.length < 64 ∧ z = .list (((onceL ls).mergeSort fun a b => decide (a ≤ b)).map tupI) := by
  unfold fSset at h
  split at h
  · rename_i xs hd
    injection hd with hd _
    split at h
    · rename_i hc
      simp only [Bool.and_eq_true, decide_eq_true_eq] at hc
      obtain ⟨ls, rfl⟩ := intsTups_of hc.1
      cases h
      exact ⟨ls, .inr hd, by simpa using hc.2, by rw [onceD_tupI, sortD_tupI]⟩
    · cases h
  · rename_i xs hd
    injection hd with hd _
    split at h
    · rename_i hc
      simp only [Bool.and_eq_true, decide_eq_true_eq] at hc
      obtain ⟨ls, rfl⟩ := intsTups_of hc.1
      cases h
      exact ⟨ls, .inl hd, by simpa using hc.2, by rw [onceD_tupI, sortD_tupI]⟩
    · cases h
  · cases h
theorem s_sset (x : XOk g C cf n X) {a : E} {y : Expr} {f f' : Str} {p p' q : Pos} (hf : f = ("sorted" : Str)) (hg : Gl X f) (hf' : f' = ("set" : Str)) (hg' : Gl X f') (ha : PE X y (tE g C a)) (hs : starEach [y] X.env = [(false, eval y X.env)]) :
    PE X (.Call (.Name f p) [.Call (.Name f' p') [y] [] q] [] pos) (tE g C (.bi .sortedSet (.cons a .nil))) := by
  subst hf hf'
  refine PE.imp (pe_callB (cr_sortS (g := g) x.calm x.room) hg (x.blt _ (by decide)) bt_sorted (pa_cons (pe_callTy (cr_setD (g := g) x.calm x.room) hg' (x.blt _ (by decide)) bt_set (pa_cons ha pa_nil (by rw [hs]; rfl)) (by decide) (by decide) (by rw [hs]; rfl) (by rfl)) pa_nil (by rfl)) (by decide) (by decide) (by rfl) (by rfl)) fun σ H Q h => ?_
  obtain ⟨H0, ρ, O, er, w⟩ := h
  unfold wE wEs at w
  refine ⟨H0, ρ, O, er, wE_mono x.mono a ρ _ _ (fun d w v H1 s1 rt _ _ => ?_) w⟩
  have w2 := w.2
  unfold wEs at w2
  obtain ⟨z, hz, qq⟩ := both_of w2
  obtain ⟨ls, hd, hl, rfl⟩ := fSset_of hz
  have ow := (er.go s1).ow
  refine ⟨O, v, ls, d, rfl, rt, hd, hl, fun a' L hna hk nd hm => ?_⟩
  have sa := same_upd (o := SetTO X.prog X.w a' L) hna
  have hk' : ∀ p ∈ L, msk O (upd H1 a' (SetTO X.prog X.w a' L)) p.1 = some (.tup (p.2.map V.int)) := fun p hp => msk_mono sa _ _ (hk p hp)
  refine ⟨O, a', L, rfl, ow.go sa, upd_same, hk', fun p L' e4 e3 hp => ?_⟩
  have e5 : ((onceL ls).mergeSort fun a b => decide (a ≤ b)) = L'.map (·.2) := by
    rw [e4]
    exact sort_same (onceL_nodup ls) nd fun l => mem_onceL.trans (hm l).symm
  rw [e5] at qq
  refine (Ret.gv (s1.trans sa) qq).lst (ow.go sa) hp ?_
  clear e4 e5 qq hz w2 w
  induction L' with
  | nil => exact .nil
  | cons q L' ih => exact .cons (rp_tupI (hk' q (e3 q (List.mem_cons_self ..)))) (ih fun r hr => e3 r (List.mem_cons_of_mem _ hr))
theorem s_lrg (x : XOk g C cf n X) {a : E} {y : Expr} {f f' : Str} {p p' q : Pos} (hf : f = ("list" : Str)) (hg : Gl X f) (hf' : f' = ("range" : Str)) (hg' : Gl X f') (ha : PE X y (tE g C a)) (hs : starEach [y] X.env = [(false, eval y X.env)]) :
    PE X (.Call (.Name f p) [.Call (.Name f' p') [y] [] q] [] pos) (tE g C (.bi .rangeL (.cons a .nil))) := by
  subst hf hf'
  refine PE.imp (pe_listRg x.calm hg (x.blt _ (by decide)) (prg_1 hg' (x.blt _ (by decide)) ha (by rw [hs]; rfl)) (by rfl)) fun σ H Q h => ?_
  obtain ⟨H0, ρ, O, er, w⟩ := h
  unfold wE wEs at w
  refine ⟨H0, ρ, O, er, wE_mono x.mono a ρ _ _ (fun d w v H1 s1 rt _ _ => ?_) w⟩
  have w2 := w.2
  unfold wEs at w2
  obtain ⟨z, hz, q⟩ := both_of w2
  simp only [biD] at hz
  unfold fRange at hz
  split at hz
  · rename_i ds i hd
    injection hd with hd _
    subst hd
    split at hz
    · rename_i hi
      cases hz
      refine ⟨i, rt.int, ⟨by omega, by omega, hi.1, hi.2.1, ?_⟩, fun p hp => ?_⟩
      · have := hi.2.2
        unfold sizeLine at this
        omega
      · have e : rgV 0 i = (List.range i.toNat).map fun (k : Nat) => V.int k := by
          unfold rgV
          rw [show (i - 0).toNat = i.toNat by omega]
          simp
        have r : ∀ (M : Hp) (l : List Nat), RpAll g M (l.map fun (k : Nat) => V.int k) (l.map fun (k : Nat) => PyData.int k) := fun M l => by
          induction l with
          | nil => exact .nil
          | cons k l ih => exact .cons (.int _) ih
        rw [e]
        exact (Ret.gv s1 q).lst (er.go s1).ow hp (r _ _)
    · cases hz
  · cases hz
end
end DL
set_option Elab.async false
set_option linter.all false
set_option maxRecDepth 100000
/-! DL13: what is walked; the soundness of expressions. -/
namespace DL
open PySem PySem.Spec PyProof.Rows L2
section
variable {g : Gx} {C : Calls} {cf : Cfg} {n : Nat} {X : Cx} {sc : Scope} {pos : Pos}
/-- what is known of a value for letting it go -/
def Frz (g : Gx) (e : E) (ρ : Env) (σ : L2.St) (O : List Addr) (H : Hp) (v : V) (d : D) : Prop :=
  (e.isVar = false → clean e ρ = true → Rp g (msk O H) v d) ∧ ∀ j, e = .var j → σ[j]? = some (some v) ∧ ∃ s, ρ.at j = some s ∧ s.val = d
theorem Frz.go {e : E} {ρ : Env} {σ : L2.St} {O : List Addr} {H H' : Hp} {v : V} {d : D} (s : Same H H') (h : Frz g e ρ σ O H v d) : Frz g e ρ σ O H' v d := ⟨fun a b => (h.1 a b).mono (msk_mono s), h.2⟩
def tEw (g : Gx) (C : Calls) (e : E) : TE := fun σ H Q => ∃ H0 ρ O, ER g H0 ρ σ H O ∧ wE C e ρ fun d => ∀ v H', Same H H' → Rt g H' O v d → Frz g e ρ σ O H' v d → Q v H'
theorem s_w (x : XOk g C cf n X) (he : X.env.scope = sc) {e : E} {y : Expr} (hm : mE cf X.N sc e y = true) (h : PE X y (tE g C e)) : PE X y (tEw g C e) := by
  cases e with
  | var i =>
    unfold mE at hm
    split at hm
    · simp only [Bool.and_eq_true, beq_iff_eq] at hm
      obtain ⟨h1, h2, _⟩ := okN_of hm.2
      refine PE.imp (pe_var hm.1.1 (vis_of he hm.1.2) h1 h2) fun σ H Q h => ?_
      obtain ⟨H0, ρ, O, er, w⟩ := h
      unfold wE at w
      cases hs : ρ.at i with
      | none => rw [hs] at w; exact w.elim
      | some sl =>
        rw [hs] at w
        dsimp only at w
        have fr : ∀ v, σ[i]? = some (some v) → Frz g (.var i) ρ σ O H v sl.val := fun v hv => ⟨fun z => by simp at z, fun j hj => by cases hj; exact ⟨hv, sl, hs, rfl⟩⟩
        cases sl with
        | frz d =>
          obtain ⟨v, e, r⟩ := er.frz i d hs
          exact ⟨v, e, w v H (.refl _) (.inl r) (fr v e)⟩
        | own d =>
          obtain ⟨a, e, m, r⟩ := er.own i d hs
          exact ⟨.ref a, e, w (.ref a) H (.refl _) (.inr ⟨a, rfl, m, r⟩) (fr _ e)⟩
    · cases hm
  | _ =>
    refine PE.imp h fun σ H Q h => ?_
    obtain ⟨H0, ρ, O, er, w⟩ := h
    exact ⟨H0, ρ, O, er, wE_mono x.mono _ ρ _ _ (fun d w v H1 s1 rt cl _ => w v H1 s1 rt ⟨fun _ z => cl z, fun j hj => by cases hj⟩) w⟩
theorem fz_at {ρ : Env} {j k : Nat} {s : Sl} (h : ρ.at k = some s) : ∃ s', (ρ.fz j).at k = some s' ∧ s'.val = s.val := by
  unfold Env.fz
  split
  · rename_i d hd
    by_cases q : j = k
    · subst q
      rw [at_set_same (at_lt hd)]
      rw [hd] at h
      cases h
      exact ⟨_, rfl, rfl⟩
    · rw [at_set_ne q]
      exact ⟨s, h, rfl⟩
  · exact ⟨s, h, rfl⟩
theorem fzV_at {e : E} {ρ : Env} {k : Nat} {s : Sl} (h : ρ.at k = some s) : ∃ s', (fzV e ρ).at k = some s' ∧ s'.val = s.val := by
  unfold fzV
  split
  · exact fz_at h
  · exact ⟨s, h, rfl⟩
theorem fzV_ok {e : E} {ρ : Env} {σ : L2.St} {O : List Addr} {H0 H : Hp} {v : V} {d : D} (er : ER g H0 ρ σ H O) (h1 : e.isVar = false → Rp g (msk O H) v d) (h2 : ∀ j, e = .var j → σ[j]? = some (some v) ∧ ∃ s, ρ.at j = some s ∧ s.val = d) :
    ∃ O', ER g H0 (fzV e ρ) σ H O' ∧ (∀ a, a ∈ O' → a ∈ O) ∧ Rp g (msk O' H) v d := by
  cases e with
  | var j =>
    obtain ⟨hv, s, hs, hd⟩ := h2 j rfl
    cases s with
    | frz d' =>
      obtain rfl : d' = d := hd
      obtain ⟨v', e', r⟩ := er.frz j d' hs
      rw [hv] at e'; cases e'
      refine ⟨O, ?_, fun _ h => h, r⟩
      have : fzV (.var j) ρ = ρ := by
        show Env.fz ρ j = ρ
        unfold Env.fz
        rw [hs]
      rw [this]
      exact er
    | own d' =>
      obtain rfl : d' = d := hd
      obtain ⟨a, e', m, r⟩ := er.own j d' hs
      rw [hv] at e'; cases e'
      obtain ⟨O', er', sub, q⟩ := er.fz j
      exact ⟨O', er', sub, (q d' a hs hv).2⟩
  | _ => exact ⟨O, er, fun _ h => h, h1 rfl⟩
theorem Frz.use {e : E} {ρ : Env} {σ : L2.St} {O : List Addr} {H0 H : Hp} {v : V} {d : D} (er : ER g H0 ρ σ H O) (f : Frz g e ρ σ O H v d) (ok : (clean e ρ || e.isVar) = true) : ∃ O', ER g H0 (fzV e ρ) σ H O' ∧ (∀ a, a ∈ O' → a ∈ O) ∧ Rp g (msk O' H) v d := by
  refine fzV_ok er (fun z => f.1 z ?_) f.2
  rw [z, Bool.or_false] at ok
  exact ok
theorem Rp.lst_inv {M : Hp} {v : V} {ds : List D} (h : Rp g M v (.list ds)) : ∃ a vs, v = .ref a ∧ M a = some (.lst vs) ∧ RpAll g M vs ds := by
  cases h with
  | lst h r => exact ⟨_, _, rfl, h, r⟩
theorem Rp.tup_inv {M : Hp} {v : V} {ds : List D} (h : Rp g M v (.tuple ds)) : ∃ a vs, v = .ref a ∧ M a = some (.tup vs) ∧ RpAll g M vs ds := by
  cases h with
  | tup h r => exact ⟨_, _, rfl, h, r⟩

/-! ### what is walked -/
-- cut: it_list (followed a library proof row by row; to be proved afresh)
-- cut: it_tup (followed a library proof row by row; to be proved afresh)
theorem s_vals (x : XOk g C cf n X) {e : E} {y t : Expr} (h : PE X y (tEw g C e)) : PI X t y (tI g C (.vals e)) := by
  refine PI.imp (pi_list h) fun σ H R hh => ?_
  obtain ⟨H0, ρ, O, er, w⟩ := hh
  unfold wI at w
  refine ⟨H0, ρ, O, er, wE_mono x.mono e ρ _ _ (fun d w v H1 s1 rt f => ?_) w⟩
  split at w
  · obtain ⟨p, vs, rfl, hp, ra⟩ := rt.lst
    refine ⟨p, rfl, ⟨vs, .of hp⟩, w _ _ s1 (itl_ok hp ra) fun ok => ?_⟩
    obtain ⟨O', er', sub, rp⟩ := f.use (er.go s1) ok
    obtain ⟨p', vs', e', hp', ra'⟩ := rp.lst_inv
    cases e'
    exact ⟨O', er', msk_sub sub, itl_ok hp' ra'⟩
  · exact w.elim
theorem s_valsT (x : XOk g C cf n X) {e : E} {y t : Expr} (h : PE X y (tEw g C e)) : PI X t y (tI g C (.valsT e)) := by
  refine PI.imp (pi_tup h) fun σ H R hh => ?_
  obtain ⟨H0, ρ, O, er, w⟩ := hh
  unfold wI at w
  refine ⟨H0, ρ, O, er, wE_mono x.mono e ρ _ _ (fun d w v H1 s1 rt f => ?_) w⟩
  split at w
  · obtain ⟨p, vs, rfl, hp, ra, _⟩ := rt.tup
    refine ⟨p, rfl, ⟨vs, .of hp⟩, w _ _ s1 (itt_ok hp ra) fun ok => ?_⟩
    obtain ⟨O', er', sub, rp⟩ := f.use (er.go s1) ok
    obtain ⟨p', vs', e', hp', ra'⟩ := rp.tup_inv
    cases e'
    exact ⟨O', er', msk_sub sub, itt_ok hp' ra'⟩
  · exact w.elim
theorem s_rng1 (x : XOk g C cf n X) {a : E} {y t : Expr} {f : Str} {p : Pos} (hf : f = ("range" : Str)) (hg : Gl X f) (ha : PE X y (tE g C a)) (hs : starEach [y] X.env = [(false, eval y X.env)]) : PI X t (.Call (.Name f p) [y] [] pos) (tI g C (.rng1 a)) := by
  subst hf
  refine PI.imp (pi_range1 hg (x.blt _ (by decide)) (pa_cons ha pa_nil (by rw [hs]; rfl)) hs) fun σ H R h => ?_
  obtain ⟨H0, ρ, O, er, w⟩ := h
  unfold wI at w
  refine ⟨H0, ρ, O, er, wE_mono x.mono a ρ _ _ (fun d w v H1 s1 rt _ _ => ?_) w⟩
  obtain ⟨i, rfl, q⟩ := onInt_of w
  have e : ∀ M Mf, ItOk g M Mf (Itr 0 i.toNat) ((List.range i.toNat).map fun (k : Nat) => .int k) := fun M Mf => by
    have := itr_ok (g := g) (M := M) (Mf := Mf) (lo := 0) (m := i.toNat)
    simpa using this
  exact ⟨i, by rw [rt.int], q.1.1, q.1.2, q.2 _ _ s1 (e _ _) fun _ => ⟨O, er.go s1, .refl _, e _ _⟩⟩
theorem s_rng2 (x : XOk g C cf n X) {a b : E} {y z t : Expr} {f : Str} {p : Pos} (hf : f = ("range" : Str)) (hg : Gl X f) (ha : PE X y (tE g C a)) (hb : PE X z (tE g C b)) (hs : starEach [y, z] X.env = [(false, eval y X.env), (false, eval z X.env)]) (hs2 : starEach [z] X.env = [(false, eval z X.env)]) :
    PI X t (.Call (.Name f p) [y, z] [] pos) (tI g C (.rng2 a b)) := by
  subst hf
  refine PI.imp (pi_range2 hg (x.blt _ (by decide)) (pa_cons ha (pa_cons hb pa_nil (by rw [hs2]; rfl)) (by rw [hs, hs2])) hs hs2) fun σ H R h => ?_
  obtain ⟨H0, ρ, O, er, w⟩ := h
  unfold wI at w
  refine ⟨H0, ρ, O, er, wE_mono x.mono a ρ _ _ (fun d w v H1 s1 rt _ _ => ?_) w⟩
  refine ⟨H0, ρ, O, er.go s1, wE_mono x.mono b ρ _ _ (fun d' w u H2 s2 ru _ _ => ?_) w⟩
  obtain ⟨i, rfl, q⟩ := onInt_of w
  obtain ⟨j, rfl, q⟩ := onInt_of q
  exact ⟨i, j, by rw [rt.int, ru.int], q.1, q.2 _ _ (s1.trans s2) itr_ok fun _ => ⟨O, er.go (s1.trans s2), .refl _, itr_ok⟩⟩
theorem s_enum (x : XOk g C cf n X) {a : E} {y : Expr} {elts : List Expr} {kk : Nat} {tpos : Pos} {f : Str} {p : Pos} (hf : f = ("enumerate" : Str)) (hg : Gl X f) (ha : PE X y (tEw g C a)) (hs : starEach [y] X.env = [(false, eval y X.env)]) :
    PI X (.Tuple elts kk tpos) (.Call (.Name f p) [y] [] pos) (tI g C (.enum a)) := by
  subst hf
  refine PI.imp (pi_enum hg (x.blt _ (by decide)) (pa_cons ha pa_nil (by rw [hs]; rfl)) hs) fun σ H R h => ?_
  obtain ⟨H0, ρ, O, er, w⟩ := h
  unfold wI at w
  refine ⟨H0, ρ, O, er, wE_mono x.mono a ρ _ _ (fun d w v H1 s1 rt f => ?_) w⟩
  split at w
  · obtain ⟨p, vs, rfl, ha, ra⟩ := rt.lst
    refine ⟨p, vs, rfl, .of ha, w _ _ s1 (ite_ok ha ra) fun ok => ?_⟩
    obtain ⟨O', er', sub, rp⟩ := f.use (er.go s1) ok
    obtain ⟨a', vs', e', ha', ra'⟩ := rp.lst_inv
    cases e'
    exact ⟨O', er', msk_sub sub, ite_ok ha' ra'⟩
  · exact w.elim
theorem s_zip (x : XOk g C cf n X) {a b : E} {y z : Expr} {elts : List Expr} {kk : Nat} {tpos : Pos} {f : Str} {p : Pos} (hf : f = ("zip" : Str)) (hg : Gl X f) (ha : PE X y (tEw g C a)) (hb : PE X z (tEw g C b)) (hs : starEach [y, z] X.env = (false, eval y X.env) :: starEach [z] X.env) (hs2 : starEach [z] X.env = [(false, eval z X.env)]) :
    PI X (.Tuple elts kk tpos) (.Call (.Name f p) [y, z] [] pos) (tI g C (.zip a b)) := by
  subst hf
  refine PI.imp (RZ.pi_zipA hg (x.blt _ (by decide)) (pa_cons ha (pa_cons hb pa_nil (by rw [hs2]; rfl)) hs) hs (by rw [hs2]; rfl)) fun σ H R h => ?_
  obtain ⟨H0, ρ, O, er, w⟩ := h
  unfold wI at w
  refine ⟨H0, ρ, O, er, wE_mono x.mono a ρ _ _ (fun d w v H1 s1 rt f => ?_) w⟩
  refine ⟨H0, ρ, O, er.go s1, wE_mono x.mono b ρ _ _ (fun d' w u H2 s2 ru f' => ?_) w⟩
  have er2 := er.go (s1.trans s2)
  have fz : okI (.zip a b) ρ = true → ∃ O', ER g H0 (fzI (.zip a b) ρ) σ H2 O' ∧ (∀ a, a ∈ O' → a ∈ O) ∧ Rp g (msk O' H2) v d ∧ Rp g (msk O' H2) u d' := fun ok => by
    unfold okI at ok
    rw [Bool.and_eq_true] at ok
    obtain ⟨O1, er1, sub1, rp1⟩ := (f.go s2).use er2 ok.1
    have ok2 := ok.2
    obtain ⟨O', er', sub', rp'⟩ := fzV_ok (e := b) er1 (v := u) (d := d') (fun z => (f'.1 z (by rw [z, Bool.or_false] at ok2; exact ok2)).mono (msk_sub sub1)) fun j hj => by
      obtain ⟨h1, s, h2, h3⟩ := f'.2 j hj
      obtain ⟨s', h4, h5⟩ := fzV_at (e := a) h2
      exact ⟨h1, s', h4, h5.trans h3⟩
    exact ⟨O', er', fun a h => sub1 a (sub' a h), rp1.mono (msk_sub sub'), rp'⟩
  have rt2 := rt.go s2
  split at w
  · obtain ⟨p, vs, rfl, hp, ra⟩ := rt2.lst
    obtain ⟨q, ws, rfl, hq, rb⟩ := ru.lst
    refine ⟨p, q, vs, ws, rfl, .inl ⟨.of hp, .of hq, w _ _ (s1.trans s2) (itz_ok hp ra hq rb) fun ok => ?_⟩⟩
    obtain ⟨O', er', sub, r1, r2⟩ := fz ok
    obtain ⟨a', vs', e', ha', ra'⟩ := r1.lst_inv
    cases e'
    obtain ⟨b', ws', e', hb', rb'⟩ := r2.lst_inv
    cases e'
    exact ⟨O', er', msk_sub sub, itz_ok ha' ra' hb' rb'⟩
  · obtain ⟨p, vs, rfl, hp, ra, _⟩ := rt2.tup
    obtain ⟨q, ws, rfl, hq, rb, _⟩ := ru.tup
    refine ⟨p, q, vs, ws, rfl, .inr ⟨.of hp, .of hq, w _ _ (s1.trans s2) (itzT_ok hp ra hq rb) fun ok => ?_⟩⟩
    obtain ⟨O', er', sub, r1, r2⟩ := fz ok
    obtain ⟨a', vs', e', ha', ra'⟩ := r1.tup_inv
    cases e'
    obtain ⟨b', ws', e', hb', rb'⟩ := r2.tup_inv
    cases e'
    exact ⟨O', er', msk_sub sub, itzT_ok ha' ra' hb' rb'⟩
  · exact w.elim
end
end DL
set_option Elab.async false
set_option linter.all false
set_option maxRecDepth 100000
/-! DL14: the soundness of expressions. -/
namespace DL
open PySem PySem.Spec PyProof.Rows L2
section
variable {g : Gx} {C : Calls} {cf : Cfg} {n : Nat}
def TgShape (it : I) (t : Expr) : Prop := (∃ es k p, t = .Tuple es k p) ∨ match it with
  | .enum _ => False
  | .zip _ _ => False
  | _ => True
theorem tgShape_of {N : List Str} {sc : Scope} {it : I} {tg : List Nat} {t : Expr} (h : okTg it tg = true) (ht : tgB N sc tg t = true) : TgShape it t := by
  unfold okTg at h
  split at h
  · have h2 : tg.length = 2 := by simpa using h
    unfold tgB at ht
    split at ht
    · simp at h2
    · exact .inl ⟨_, _, _, rfl⟩
    · exact .inl ⟨_, _, _, rfl⟩
    · cases ht
  · have h2 : tg.length = 2 := by simpa using h
    unfold tgB at ht
    split at ht
    · simp at h2
    · exact .inl ⟨_, _, _, rfl⟩
    · exact .inl ⟨_, _, _, rfl⟩
    · cases ht
  · refine .inr ?_
    cases it <;> first | trivial | simp_all
theorem s_biAll {X : Cx} (x : XOk g C cf n X) {b : Bi} {es : Es} {y : Expr} (hEs : ∀ {l : List Expr}, mEs cf X.N X.env.scope es l = true → PA X l (tEs g C false es))
    (hA : ∀ {a : E} {es' : Es} {y : Expr}, es = .cons a es' → mE cf X.N X.env.scope a y = true → PE X y (tE g C a)) (h : mE cf X.N X.env.scope (.bi b es) y = true) : PE X y (tE g C (.bi b es)) ∧ ∃ f l k p, y = .Call f l k p := by
    unfold mE at h
    split at h
    · refine ⟨?_, _, _, _, _, rfl⟩
      split at h
      · rename_i hp
        simp only [Bool.and_eq_true, beq_iff_eq] at h
        have hz := h.2
        have := hEs hz
        cases es with
        | nil => simp [mEs] at hz
        | cons e0 es0 =>
          simp only [mEs, Bool.and_eq_true] at hz
          exact s_bi x hp h.1.1 (glb_of rfl h.1.2) this (noStar hz.1 _ _) (starEs hz.2 _ _)
      · cases es with
        | nil => simp at h
        | cons a es0 =>
          cases es0 with
          | cons _ _ => simp at h
          | nil =>
            have ih := fun {y : Expr} (h : mE cf X.N X.env.scope a y = true) => hA rfl h
            cases hb : isiN b with
            | some t =>
              rw [hb] at h
              dsimp only at h
              simp only [Bool.and_eq_true, beq_iff_eq] at h
              obtain ⟨h1, h2⟩ := h
              split at h2
              · simp only [Bool.and_eq_true, beq_iff_eq] at h2
                exact s_isi x hb h2.1 h1.1.1 (glb_of rfl h1.1.2) (glb_of rfl h2.2) (ih h1.2) (noStar h1.2 _ _)
              · cases h2
            | none =>
              rw [hb] at h
              dsimp only at h
              split at h
              · simp only [Bool.and_eq_true, beq_iff_eq] at h
                exact s_sset x h.1.1.1.1 (glb_of rfl h.1.1.1.2) h.1.1.2 (glb_of rfl h.1.2) (ih h.2) (noStar h.2 _ _)
              · simp only [Bool.and_eq_true, beq_iff_eq] at h
                exact s_lrg x h.1.1.1.1 (glb_of rfl h.1.1.1.2) h.1.1.2 (glb_of rfl h.1.2) (ih h.2) (noStar h.2 _ _)
              · cases h
    · cases h
mutual
theorem sE : ∀ (e : E) {X : Cx} {y : Expr}, XOk g C cf n X → mE cf X.N X.env.scope e y = true → PE X y (tE g C e)
  | .var i, X, y, x, h => by
    unfold mE at h
    split at h
    · simp only [Bool.and_eq_true, beq_iff_eq] at h
      exact s_var h.1.1 (vis_of rfl h.1.2) h.2
    · cases h
  | .cst d, X, y, x, h => by
    unfold mE at h
    split at h
    · exact s_cst h
    · cases h
  | .gint z i, X, y, x, h => by
    unfold mE at h
    split at h
    · simp only [Bool.and_eq_true, beq_iff_eq] at h
      obtain ⟨⟨⟨rfl, h2⟩, h3⟩, h4⟩ := h
      exact s_gint x h2 (glb_of rfl h3) h4
    · cases h
  | .gfn k, X, y, x, h => by
    unfold mE at h
    split at h
    · simp only [Bool.and_eq_true, beq_iff_eq] at h
      obtain ⟨⟨h2, h3⟩, h4⟩ := h
      exact s_gfn x h2 (glb_of rfl h3) h4
    · cases h
  | .tup es, X, y, x, h => by
    unfold mE at h
    split at h
    · exact s_tup x (sEs true es x h)
    · cases h
  | .lst es, X, y, x, h => by
    unfold mE at h
    split at h
    · exact s_lst x (sEs true es x h)
    · cases h
  | .dict0, X, y, x, h => by
    unfold mE at h
    split at h
    · exact s_dict0
    · cases h
  | .bin op a b, X, y, x, h => by
    unfold mE at h
    split at h
    · simp only [Bool.and_eq_true] at h
      exact s_bin x h.1.1 (sE a x h.1.2) (sE b x h.2)
    · cases h
  | .neg a, X, y, x, h => by
    unfold mE at h
    split at h
    · exact s_neg x (sE a x h)
    · cases h
  | .not a, X, y, x, h => by
    unfold mE at h
    split at h
    · exact s_not x (sE a x h)
    · cases h
  | .and es, X, y, x, h => by
    unfold mE at h
    split at h
    · exact sAnd es x h
    · cases h
  | .or es, X, y, x, h => by
    unfold mE at h
    split at h
    · exact sOr es x h
    · cases h
  | .cmp op a b, X, y, x, h => by
    unfold mE at h
    split at h
    · simp only [Bool.and_eq_true] at h
      exact s_cmp x h.1.1 (sE a x h.1.2) (sE b x h.2) (noMark h.2 _)
    · cases h
  | .chain op op' a b c, X, y, x, h => by
    unfold mE at h
    split at h
    · simp only [Bool.and_eq_true] at h
      exact s_chain x h.1.1.1.1 h.1.1.1.2 (sE a x h.1.1.2) (sE b x h.1.2) (sE c x h.2) (noMark h.2 _)
    · cases h
  | .ife c a b, X, y, x, h => by
    unfold mE at h
    split at h
    · simp only [Bool.and_eq_true] at h
      exact s_ife x (sT c x h.1.1) (sE a x h.1.2) (sE b x h.2)
    · cases h
  | .call k es, X, y, x, h => by
    unfold mE at h
    split at h
    · simp only [Bool.and_eq_true, beq_iff_eq] at h
      have hz := h.2
      have := sEs false es x hz
      cases es with
      | nil => simp [mEs] at hz
      | cons e0 es0 =>
        simp only [mEs, Bool.and_eq_true] at hz
        exact s_call x h.1.1.1 (glb_of rfl h.1.1.2) h.1.2 this (noStar hz.1 _ _) (starEs hz.2 _ _)
    · cases h
  | .callv i es, X, y, x, h => by
    unfold mE at h
    split at h
    · simp only [Bool.and_eq_true, beq_iff_eq] at h
      have hz := h.2
      have := sEs false es x hz
      cases es with
      | nil => simp [mEs] at hz
      | cons e0 es0 =>
        simp only [mEs, Bool.and_eq_true] at hz
        exact s_callv x h.1.1.1 (vis_of rfl h.1.1.2) h.1.2 this (noStar hz.1 _ _) (starEs hz.2 _ _)
    · cases h
  | .some_ a b, X, y, x, h => by
    unfold mE at h
    split at h
    · simp only [Bool.and_eq_true, beq_iff_eq] at h
      exact s_some x h.1.1.1 (glb_of rfl h.1.1.2) (sE a x h.1.2) (sE b x h.2) (noStar h.1.2 _ _) (noStar h.2 _ _)
    · cases h
  | .bi b .nil, X, y, x, h => (s_biAll x (fun h => sEs false .nil x h) (fun z => by cases z) h).1
  | .bi b (.cons a es), X, y, x, h => (s_biAll x (fun h => sEs false (.cons a es) x h) (fun z h => by cases z; exact sE a x h) h).1
  | .reprEq a b, X, y, x, h => by
    unfold mE at h
    split at h
    · simp only [Bool.and_eq_true, beq_iff_eq] at h
      exact s_reprEq x h.1.1.1.1 h.1.1.1.2 (glb_of rfl h.1.1.2) (sE a x h.1.2) (sE b x h.2) (noStar h.1.2 _ _) (noStar h.2 _ _)
    · cases h
  | .fld a k, X, y, x, h => by
    unfold mE at h
    split at h
    · simp only [Bool.and_eq_true, beq_iff_eq, decide_eq_true_eq] at h
      exact s_fld x h.1.2 h.1.1.2 h.1.1.1 (sE a x h.2) (attrBase h.2 _ _ _)
    · cases h
  | .idx a b, X, y, x, h => by
    unfold mE at h
    split at h
    · simp only [Bool.and_eq_true] at h
      exact s_idx x (sE a x h.1) (sE b x h.2) (plainIx h.2)
    · cases h
  | .sl a lo hi, X, y, x, h => by
    unfold mE at h
    split at h
    · simp only [Bool.and_eq_true] at h
      exact s_sl x (sE a x h.1.1) (sO lo x h.1.2) (sO hi x h.2)
    · cases h
  | .comp elt tg it ifs, X, y, x, h => by
    unfold mE at h
    split at h
    · simp only [Bool.and_eq_true, decide_eq_true_eq] at h
      obtain ⟨⟨⟨⟨⟨⟨h1, h2⟩, h3⟩, h4⟩, h5⟩, h6⟩, h7⟩ := h
      exact sComp x h3 (tgB_ix h5) (sI it x h1 (tgShape_of h2 h5)) (blkOk_by h4) (fun s H Cc cl fp => pg_tg x.calm x.nd (locF_blk s H _ Cc cl fp) h5)
        (fun s H Cc cl fp => sIfs ifs (x.blk s H _ _ fp) h7) (fun s H Cc cl fp => sE elt (x.blk s H _ _ fp) h6) (noFoldI h1 _)
    · cases h
theorem sEs : ∀ (keep : Bool) (es : Es) {X : Cx} {l : List Expr}, XOk g C cf n X → mEs cf X.N X.env.scope es l = true → PA X l (tEs g C keep es)
  | keep, .nil, X, [], x, h => s_nil
  | keep, .nil, X, _ :: _, x, h => by simp [mEs] at h
  | keep, .cons e es, X, [], x, h => by simp [mEs] at h
  | keep, .cons e es, X, y :: l, x, h => by
    simp only [mEs, Bool.and_eq_true] at h
    exact s_cons x (sE e x h.1) (sEs keep es x h.2) (noStar h.1 _ _)
theorem sO : ∀ (e : Eo) {X : Cx} {l : Option Expr}, XOk g C cf n X → mO cf X.N X.env.scope e l = true → PO X l (tO g C e)
  | .no, X, none, x, h => s_no
  | .no, X, some _, x, h => by simp [mO] at h
  | .yes e, X, none, x, h => by simp [mO] at h
  | .yes e, X, some y, x, h => by
    simp only [mO] at h
    exact s_yes x (sE e x h)
theorem sI : ∀ (it : I) {X : Cx} {y t : Expr}, XOk g C cf n X → mI cf X.N X.env.scope it y = true → TgShape it t → PI X t y (tI g C it)
  | .vals e, X, y, t, x, h, ht => by
    simp only [mI] at h
    exact s_vals x (s_w x rfl h (sE e x h))
  | .valsT e, X, y, t, x, h, ht => by
    simp only [mI] at h
    exact s_valsT x (s_w x rfl h (sE e x h))
  | .rng1 a, X, y, t, x, h, ht => by
    unfold mI at h
    split at h
    · simp only [Bool.and_eq_true, beq_iff_eq] at h
      exact s_rng1 x h.1.1 (glb_of rfl h.1.2) (sE a x h.2) (noStar h.2 _ _)
    · cases h
  | .rng2 a b, X, y, t, x, h, ht => by
    unfold mI at h
    split at h
    · simp only [Bool.and_eq_true, beq_iff_eq] at h
      exact s_rng2 x h.1.1.1 (glb_of rfl h.1.1.2) (sE a x h.1.2) (sE b x h.2) (by rw [noStar h.1.2, noStar h.2]; rfl) (noStar h.2 _ _)
    · cases h
  | .enum a, X, y, t, x, h, ht => by
    unfold mI at h
    split at h
    · simp only [Bool.and_eq_true, beq_iff_eq] at h
      rcases ht with ⟨es, k, p, rfl⟩ | ht
      · exact s_enum x h.1.1 (glb_of rfl h.1.2) (s_w x rfl h.2 (sE a x h.2)) (noStar h.2 _ _)
      · exact ht.elim
    · cases h
  | .zip a b, X, y, t, x, h, ht => by
    unfold mI at h
    split at h
    · simp only [Bool.and_eq_true, beq_iff_eq] at h
      rcases ht with ⟨es, k, p, rfl⟩ | ht
      · exact s_zip x h.1.1.1 (glb_of rfl h.1.1.2) (s_w x rfl h.1.2 (sE a x h.1.2)) (s_w x rfl h.2 (sE b x h.2)) (noStar h.1.2 _ _) (noStar h.2 _ _)
      · exact ht.elim
    · cases h
theorem sT : ∀ (e : E) {X : Cx} {y : Expr}, XOk g C cf n X → mE cf X.N X.env.scope e y = true → PT X y (tT g C e)
  | .not a, X, y, x, h => by
    unfold mE at h
    split at h
    · exact st_not x (sT a x h)
    · cases h
  | .and es, X, y, x, h => by
    unfold mE at h
    split at h
    · refine PT.imp (sAndT es x h).pt fun σ H Q h => ?_
      obtain ⟨H0, ρ, O, er, w⟩ := h
      unfold wT at w
      exact ⟨H0, ρ, O, er, w⟩
    · cases h
  | .or es, X, y, x, h => by
    unfold mE at h
    split at h
    · refine PT.imp (sOrT es x h).pt fun σ H Q h => ?_
      obtain ⟨H0, ρ, O, er, w⟩ := h
      unfold wT at w
      exact ⟨H0, ρ, O, er, w⟩
    · cases h
  | .cmp op a b, X, y, x, h => by
    unfold mE at h
    split at h
    · simp only [Bool.and_eq_true] at h
      exact st_cmp x h.1.1 (sE a x h.1.2) (sE b x h.2) (noMark h.2 _)
    · cases h
  | .chain op op' a b c, X, y, x, h => by
    unfold mE at h
    split at h
    · simp only [Bool.and_eq_true] at h
      exact st_chain x h.1.1.1.1 h.1.1.1.2 (sE a x h.1.1.2) (sE b x h.1.2) (sE c x h.2) (noMark h.2 _)
    · cases h
  | .var i, X, y, x, h => by
    have hm := h
    unfold mE at h
    split at h
    · simp only [Bool.and_eq_true, beq_iff_eq] at h
      refine st_val x (s_var h.1.1 (vis_of rfl h.1.2) h.2) (fun _ => rfl) fun ρ Q w => ?_
      unfold wT at w
      unfold wE
      cases hs : ρ.at i with
      | none => rw [hs] at w; exact w
      | some s => rw [hs] at w; exact w
    · cases h
  | .call k es, X, y, x, h => by
    have hm := h
    unfold mE at h
    split at h
    · simp only [Bool.and_eq_true, beq_iff_eq] at h
      have hz := h.2
      have := sEs false es x hz
      refine st_val x (e := .call k es) ?_ (fun _ => rfl) fun ρ Q w => ?_
      · cases es with
        | nil => simp [mEs] at hz
        | cons e0 es0 =>
          simp only [mEs, Bool.and_eq_true] at hz
          exact s_call x h.1.1.1 (glb_of rfl h.1.1.2) h.1.2 this (noStar hz.1 _ _) (starEs hz.2 _ _)
      · unfold wT at w
        unfold wE
        exact w
    · cases h
  | .bi b .nil, X, y, x, h => by
    obtain ⟨h1, f, l, k, p, rfl⟩ := s_biAll x (fun h => sEs false .nil x h) (fun z => by cases z) h
    exact st_val x h1 (fun _ => rfl) fun ρ Q w => by unfold wT at w; unfold wE; exact w
  | .bi b (.cons a es), X, y, x, h => by
    obtain ⟨h1, f, l, k, p, rfl⟩ := s_biAll x (fun h => sEs false (.cons a es) x h) (fun z h => by cases z; exact sE a x h) h
    refine st_val x h1 (fun _ => rfl) fun ρ Q w => ?_
    unfold wT at w
    unfold wE
    exact wEs_mono x.mono false _ ρ _ _ (fun ds q => by
      obtain ⟨d, e, q⟩ := both_of q
      rw [e]
      exact q) w
  | .cst _, X, y, x, h => st_no fun ρ Q w => by simp at w
  | .gint _ _, X, y, x, h => st_no fun ρ Q w => by simp at w
  | .gfn _, X, y, x, h => st_no fun ρ Q w => by simp at w
  | .tup _, X, y, x, h => st_no fun ρ Q w => by simp at w
  | .lst _, X, y, x, h => st_no fun ρ Q w => by simp at w
  | .dict0, X, y, x, h => st_no fun ρ Q w => by simp at w
  | .bin _ _ _, X, y, x, h => st_no fun ρ Q w => by simp at w
  | .neg _, X, y, x, h => st_no fun ρ Q w => by simp at w
  | .ife _ _ _, X, y, x, h => st_no fun ρ Q w => by simp at w
  | .callv _ _, X, y, x, h => st_no fun ρ Q w => by simp at w
  | .some_ _ _, X, y, x, h => st_no fun ρ Q w => by simp at w
  | .reprEq _ _, X, y, x, h => st_no fun ρ Q w => by simp at w
  | .fld _ _, X, y, x, h => st_no fun ρ Q w => by simp at w
  | .idx _ _, X, y, x, h => st_no fun ρ Q w => by simp at w
  | .sl _ _ _, X, y, x, h => st_no fun ρ Q w => by simp at w
  | .comp _ _ _ _, X, y, x, h => st_no fun ρ Q w => by simp at w
theorem sAnd : ∀ (es : Es) {X : Cx} {l : List Expr} {pos : Pos}, XOk g C cf n X → mEs cf X.N X.env.scope es l = true → PE X (.BoolOp .And l pos) (tE g C (.and es))
  | .nil, X, l, pos, x, h => ⟨fun pins s σ H Q I h => by
    obtain ⟨H0, ρ, O, er, w⟩ := h
    unfold wE wAnd at w
    exact w.elim⟩
  | .cons e es, X, [], pos, x, h => by simp [mEs] at h
  | .cons e .nil, X, y :: l, pos, x, h => by
    simp only [mEs, Bool.and_eq_true] at h
    cases l with
    | nil => exact s_and1 x (sE e x h.1)
    | cons _ _ => exact absurd h.2 (by simp)
  | .cons e (.cons e' es), X, y :: l, pos, x, h => by
    rw [mEs, Bool.and_eq_true] at h
    cases l with
    | nil => exact absurd h.2 (by simp [mEs])
    | cons _ _ => exact s_and2 x (sE e x h.1) (sAnd (.cons e' es) x h.2)
theorem sOr : ∀ (es : Es) {X : Cx} {l : List Expr} {pos : Pos}, XOk g C cf n X → mEs cf X.N X.env.scope es l = true → PE X (.BoolOp .Or l pos) (tE g C (.or es))
  | .nil, X, l, pos, x, h => ⟨fun pins s σ H Q I h => by
    obtain ⟨H0, ρ, O, er, w⟩ := h
    unfold wE wOr at w
    exact w.elim⟩
  | .cons e es, X, [], pos, x, h => by simp [mEs] at h
  | .cons e .nil, X, y :: l, pos, x, h => by
    simp only [mEs, Bool.and_eq_true] at h
    cases l with
    | nil => exact s_or1 x (sE e x h.1)
    | cons _ _ => exact absurd h.2 (by simp)
  | .cons e (.cons e' es), X, y :: l, pos, x, h => by
    rw [mEs, Bool.and_eq_true] at h
    cases l with
    | nil => exact absurd h.2 (by simp [mEs])
    | cons _ _ => exact s_or2 x (sE e x h.1) (sOr (.cons e' es) x h.2)
theorem sAndT : ∀ (es : Es) {X : Cx} {l : List Expr} {pos : Pos}, XOk g C cf n X → mEs cf X.N X.env.scope es l = true → PW X (.BoolOp .And l pos) (tAndT g C es)
  | .nil, X, l, pos, x, h => ⟨fun wh pins s σ H Q I h => by
    obtain ⟨H0, ρ, O, er, w⟩ := h
    unfold wAndT at w
    exact w.elim⟩
  | .cons e es, X, [], pos, x, h => by simp [mEs] at h
  | .cons e .nil, X, y :: l, pos, x, h => by
    simp only [mEs, Bool.and_eq_true] at h
    cases l with
    | nil => exact st_and1 x (sT e x h.1)
    | cons _ _ => exact absurd h.2 (by simp)
  | .cons e (.cons e' es), X, y :: l, pos, x, h => by
    rw [mEs, Bool.and_eq_true] at h
    cases l with
    | nil => exact absurd h.2 (by simp [mEs])
    | cons _ _ => exact st_and2 x (sT e x h.1) (sAndT (.cons e' es) x h.2)
theorem sOrT : ∀ (es : Es) {X : Cx} {l : List Expr} {pos : Pos}, XOk g C cf n X → mEs cf X.N X.env.scope es l = true → PW X (.BoolOp .Or l pos) (tOrT g C es)
  | .nil, X, l, pos, x, h => ⟨fun wh pins s σ H Q I h => by
    obtain ⟨H0, ρ, O, er, w⟩ := h
    unfold wOrT at w
    exact w.elim⟩
  | .cons e es, X, [], pos, x, h => by simp [mEs] at h
  | .cons e .nil, X, y :: l, pos, x, h => by
    simp only [mEs, Bool.and_eq_true] at h
    cases l with
    | nil => exact st_or1 x (sT e x h.1)
    | cons _ _ => exact absurd h.2 (by simp)
  | .cons e (.cons e' es), X, y :: l, pos, x, h => by
    rw [mEs, Bool.and_eq_true] at h
    cases l with
    | nil => exact absurd h.2 (by simp [mEs])
    | cons _ _ => exact st_or2 x (sT e x h.1) (sOrT (.cons e' es) x h.2)
theorem sIfs : ∀ (es : Es) {X : Cx} {l : List Expr}, XOk g C cf n X → mEs cf X.N X.env.scope es l = true → PTs X l (tIfs g C es)
  | .nil, X, [], x, h => sp_nil
  | .nil, X, _ :: _, x, h => by simp [mEs] at h
  | .cons e .nil, X, [], x, h => by simp [mEs] at h
  | .cons e .nil, X, y :: l, x, h => by
    simp only [mEs, Bool.and_eq_true] at h
    cases l with
    | nil => exact sp_one (sT e x h.1)
    | cons _ _ => exact absurd h.2 (by simp)
  | .cons e (.cons e' es), X, l, x, h => sp_no
end
end
end DL
set_option Elab.async false
set_option linter.all false
set_option maxRecDepth 100000
/-! DL15: slots written. -/
namespace DL
open PySem PySem.Spec PyProof.Rows L2
section
variable {g : Gx} {C : Calls} {cf : Cfg} {n : Nat} {X : Cx} {pos : Pos}
theorem RpKV.imm {H : Hp} {O : List Addr} (no : ∀ a ∈ O, ∀ o, H a = some o → Ownable o) : ∀ {xs : List (NestedKey × Addr × Value)} {kvs : List (D × D)}, RpKV g H xs kvs → (kvs.all fun p => DL.imm p.1 && DL.imm p.2) = true → RpKV g (msk O H) xs kvs
  | _, _, .nil, _ => .nil
  | _, _, .cons hk ek hd ru hv r, i => by
    simp only [List.all_cons, Bool.and_eq_true] at i
    exact .cons (hk.imm no i.1.1) ek hd ru (hv.imm no i.1.2) (RpKV.imm no r (by simpa using i.2))
theorem isMutTop_inv {d : D} (h : isMutTop d = true) : (∃ ds, d = .list ds) ∨ ∃ kvs, d = .dict ((.none, .none) :: kvs) := by
  unfold isMutTop at h
  split at h
  · exact .inl ⟨_, rfl⟩
  · exact .inr ⟨_, rfl⟩
  · cases h
/-- a new object becomes own -/
theorem own_new {H0 H H1 : Hp} {ρ : Env} {σ : L2.St} {O : List Addr} {v : V} {d : D} (er : ER g H0 ρ σ H O) (sm : Same H H1) (rp : Rp g (msk O H1) v d) (fr : TopNew H v d) (hm : isMutTop d = true) (hf : flat d = true) :
    ∃ a, v = .ref a ∧ H a = none ∧ a ∉ O ∧ ER g H0 ρ σ H1 (a :: O) ∧ Ow g H1 (msk (a :: O) H1) a d ∧ Same (msk O H) (msk (a :: O) H1) := by
  obtain ⟨a, rfl, ha⟩ := fr (.inl hm)
  have na : a ∉ O := out_new ha er.ow.ex
  rcases isMutTop_inv hm with ⟨ds, rfl⟩ | ⟨kvs, rfl⟩
  · cases rp with
    | lst h r =>
      have h1 := (msk_some h).2
      have er1 := er.addO ha sm h1 trivial
      refine ⟨a, rfl, ha, na, er1, .lst h1 ?_, msk_add ha sm⟩
      exact (r.mono (msk_same O)).imm er1.no (by simpa [flat] using hf)
  · cases rp with
    | dct h r =>
      have h1 := (msk_some h).2
      have er1 := er.addO ha sm h1 trivial
      refine ⟨a, rfl, ha, na, er1, .dct h1 ?_, msk_add ha sm⟩
      exact (r.mono (msk_same O)).imm er1.no (by simpa [flat] using hf)
theorem own_ne {H0 H : Hp} {ρ : Env} {σ : L2.St} {O O' : List Addr} {H' : Hp} (er : ER g H0 ρ σ H O) {a : Addr} (na : a ∉ O) {i : Nat} : ∀ j x, i ≠ j → ρ.at j = some (.own x) → σ[j]? ≠ some (some (.ref a)) := fun j x _ hx z => by
  obtain ⟨b, hb, m, _⟩ := er.own j x hx
  rw [hb] at z
  cases z
  exact na m
/-- a value put into a slot -/
theorem put_ok {H0 H H1 : Hp} {ρ ρ' : Env} {σ : L2.St} {O : List Addr} {i : Nat} {e : E} {v : V} {d : D} (er : ER g H0 ρ σ H O) (sm : Same H H1) (rt : Rt g H1 O v d) (cl : clean e ρ = true → Rp g (msk O H1) v d) (fr : fresh e = true → TopNew H v d) (hp : put i e ρ d ρ = some ρ') :
    ∃ O', ER g H0 ρ' (σ.set i (some v)) H1 O' ∧ Same (msk O H) (msk O' H1) := by
  have er1 := er.go sm
  unfold put at hp
  split at hp
  · rename_i hi
    cases hp
    exact ⟨O, er1.setF (rt.rp.imm er1.no hi), msk_mono sm⟩
  · split at hp
    · rename_i hc
      split at hp
      · rename_i hm
        cases hp
        simp only [Bool.and_eq_true] at hm
        obtain ⟨a, rfl, ha, na, er2, ow, s2⟩ := own_new er sm (cl hc) (fr hm.1.2) hm.1.1 hm.2
        refine ⟨a :: O, er2.setO (List.mem_cons_self ..) ow fun j x hj hx z => ?_, s2⟩
        exact own_ne (O' := O) (H' := H1) er na (i := i) j x hj hx z
      · cases hp
        exact ⟨O, er1.setF (cl hc), msk_mono sm⟩
    · cases hp
/-- an own object is written -/
theorem ER.upd {H0 H : Hp} {ρ : Env} {σ : L2.St} {O : List Addr} {i : Nat} {a : Addr} {d d' : D} {o : HO} (er : ER g H0 ρ σ H O) (hi : ρ.at i = some (.own d)) (hσ : σ[i]? = some (some (.ref a))) (ha : a ∈ O) (ow : Ownable o) (nw : Ow g (upd H a o) (msk O H) a d') :
    ER g H0 (ρ.setO i d') σ (upd H a o) O ∧ Same (msk O H) (msk O (upd H a o)) := by
  have em : msk O (L2.upd H a o) = msk O H := upd_msk ha
  have hlt := at_lt hi
  refine ⟨⟨by simp [Env.setO, er.len], fun j x hx => ?_, fun j x hx => ?_, fun j k x y b hx hy h1 h2 => ?_, fun b hb => ?_, fun b o' h => ?_⟩, by rw [em]; exact .refl _⟩
  · by_cases q : i = j
    · subst q
      rw [Env.setO, at_set_same hlt] at hx
      cases hx
    · rw [Env.setO, at_set_ne q] at hx
      rw [em]
      exact er.frz j x hx
  · by_cases q : i = j
    · subst q
      rw [Env.setO, at_set_same hlt] at hx
      cases hx
      rw [em]
      exact ⟨a, hσ, ha, nw⟩
    · rw [Env.setO, at_set_ne q] at hx
      obtain ⟨b, h1, h2, h3⟩ := er.own j x hx
      rw [em]
      have hb : b ≠ a := fun z => q (er.inj i j d x a hi hx hσ (by rw [← z]; exact h1))
      exact ⟨b, h1, h2, h3.upd hb⟩
  · by_cases q : i = j
    · by_cases q' : i = k
      · exact q.symm.trans q'
      · subst q
        rw [Env.setO, at_set_ne q'] at hy
        rw [hσ] at h1
        cases h1
        exact er.inj i k d y a hi hy hσ h2
    · rw [Env.setO, at_set_ne q] at hx
      by_cases q' : i = k
      · subst q'
        rw [hσ] at h2
        cases h2
        exact er.inj j i x d a hx hi h1 hσ
      · rw [Env.setO, at_set_ne q'] at hy
        exact er.inj j k x y b hx hy h1 h2
  · obtain ⟨h1, o', h2, h3⟩ := er.new b hb
    by_cases q : b = a
    · subst q
      exact ⟨h1, o, upd_same, ow⟩
    · exact ⟨h1, o', by rw [upd_ne q]; exact h2, h3⟩
  · have hb : b ≠ a := fun z => by
      subst z
      rw [(er.new b ha).1] at h
      cases h
    rw [upd_ne hb]
    exact er.same _ _ h

/-! ### the ends -/
def Nx (g : Gx) (H0 M : Hp) (K : L2.St → Hp → Prop) (ρ' : Env) : Prop := ∀ σ' H' O', ER g H0 ρ' σ' H' O' → Same M (msk O' H') → K σ' H'
/-- what is handed back, with the slots as they stand -/
def GivesE (g : Gx) (H0 : Hp) (ρ : Env) (d : D) (K : VK) : Prop := ∀ v σ' H' O', ER g H0 ρ σ' H' O' → (∀ O, OwO O H0 → Rp g (msk O H') v d) → TopNew H0 v d → K v H'
theorem GivesR.toE {H0 : Hp} {ρ : Env} {d : D} {K : VK} (h : GivesR g H0 d K) : GivesE g H0 ρ d K := fun v σ' H' O' er r t => h v H' er.same r t
def EnOf (g : Gx) (H0 M : Hp) (D : Ends) : En := { nx := Nx g H0 M D.nx, rt := fun ρ d => GivesE g H0 ρ d D.rt, bk := Nx g H0 M D.bk, ct := Nx g H0 M D.ct }
theorem Nx.from {H0 M M' : Hp} {K : L2.St → Hp → Prop} {ρ : Env} (s : Same M M') (h : Nx g H0 M K ρ) : Nx g H0 M' K ρ := fun σ' H' O' er s' => h σ' H' O' er (s.trans s')
theorem EnOf.le {H0 M M' : Hp} {D : Ends} (s : Same M M') : (EnOf g H0 M D).Le (EnOf g H0 M' D) := ⟨fun ρ h => Nx.from s h, fun ρ d h => h, fun ρ h => Nx.from s h, fun ρ h => Nx.from s h⟩
def tS (g : Gx) (C : Calls) (s : S) : TS := fun D σ H => ∃ H0 ρ O, ER g H0 ρ σ H O ∧ wS C s ρ (EnOf g H0 (msk O H) D)
def tSs (g : Gx) (C : Calls) (s : Ss) : TS := fun D σ H => ∃ H0 ρ O, ER g H0 ρ σ H O ∧ wSs C s ρ (EnOf g H0 (msk O H) D)
theorem PS.imp {X : Cx} {s : Stmt} {t t' : TS} (h : PS X s t) (i : ∀ D σ H, t' D σ H → t D σ H) : PS X s t' := ⟨fun pins s σ H D I q => h.run pins s σ H D I (i _ _ _ q)⟩
theorem PSs.imp {X : Cx} {s : List Stmt} {t t' : TS} (h : PSs X s t) (i : ∀ D σ H, t' D σ H → t D σ H) : PSs X s t' := ⟨fun pins s σ H D I q => h.run pins s σ H D I (i _ _ _ q)⟩
theorem ss_nil : PSs X [] (tSs g C .nil) := by
  refine PSs.imp pss_nil fun D σ H h => ?_
  obtain ⟨H0, ρ, O, er, w⟩ := h
  unfold wSs at w
  exact w σ H O er (.refl _)
theorem ss_cons (hC : Mono C) {s : S} {ss : Ss} {st : Stmt} {rest : List Stmt} (h1 : PS X st (tS g C s)) (h2 : PSs X rest (tSs g C ss)) : PSs X (st :: rest) (tSs g C (.cons s ss)) := by
  refine PSs.imp (pss_cons h1 h2) fun D σ H h => ?_
  obtain ⟨H0, ρ, O, er, w⟩ := h
  unfold wSs at w
  refine ⟨H0, ρ, O, er, wS_mono hC s ρ { EnOf g H0 (msk O H) D with nx := fun ρ' => wSs C ss ρ' (EnOf g H0 (msk O H) D) } (EnOf g H0 (msk O H) { D with nx := tSs g C ss D }) ⟨fun ρ' w σ' H' O' er' s' => ?_, fun ρ d q => q, fun ρ' q => q, fun ρ' q => q⟩ w⟩
  exact ⟨H0, ρ', O', er', wSs_mono hC ss ρ' _ _ (EnOf.le s') w⟩

/-! ### assignments -/
theorem asg_imp (x : XOk g C cf n X) {i : Nat} {e : E} (he : e.asVar = none) {D : Ends} {σ : L2.St} {H : Hp} (h : tS g C (.asg i e) D σ H) : tE g C e σ H fun v H1 => gName i v σ H1 D.nx := by
  obtain ⟨H0, ρ, O, er, w⟩ := h
  unfold wS at w
  rw [he] at w
  dsimp only at w
  refine ⟨H0, ρ, O, er, wE_mono x.mono e ρ _ _ (fun d q v H1 s1 rt cl fr => ?_) w⟩
  cases hp : put i e ρ d ρ with
  | none => rw [hp] at q; exact q.elim
  | some ρ' =>
    rw [hp] at q
    obtain ⟨O', er', s'⟩ := put_ok er s1 rt cl fr hp
    exact q _ _ _ er' s'
theorem asg_var {i j : Nat} {D : Ends} {σ : L2.St} {H : Hp} (h : tS g C (.asg i (.var j)) D σ H) : tVar j σ H fun v H1 => gName i v σ H1 D.nx := by
  obtain ⟨H0, ρ, O, er, w⟩ := h
  unfold wS at w
  dsimp only [E.asVar] at w
  split at w
  · rename_i d hs
    obtain ⟨a, ha, m, ow⟩ := er.own j d hs
    refine ⟨.ref a, ha, ?_⟩
    have er1 := er.drop j σ rfl fun _ _ => rfl
    refine w _ _ O (er1.setO m ow fun k x hk hx z => ?_) (.refl _)
    by_cases q : j = k
    · subst q
      rw [at_set_same (at_lt hs)] at hx
      cases hx
    · rw [at_set_ne q] at hx
      exact q (er.inj j k d x a hs hx ha z)
  · rename_i d hs
    obtain ⟨v, hv, r⟩ := er.frz j d hs
    exact ⟨v, hv, w _ _ O (er.setF r) (.refl _)⟩
  · exact w.elim

/-! ### lists that grow -/
theorem app_imp (x : XOk g C cf n X) {i : Nat} {e : E} {D : Ends} {σ : L2.St} {H : Hp} (h : tS g C (.app i e) D σ H) : tBM X.K "list" rAppend (tVar i) (tCons (tE g C e) tNil) σ H fun _ H1 => D.nx σ H1 := by
  obtain ⟨H0, ρ, O, er, w⟩ := h
  unfold wS at w
  split at w
  · rename_i xs hs
    obtain ⟨a, ha, m, ow⟩ := er.own i _ hs
    obtain ⟨vs, hvs⟩ : ∃ vs, H a = some (.lst vs) := by
      cases ow with
      | lst h r => exact ⟨_, h⟩
    refine ⟨.ref a, ha, .inl ⟨rfl, vs, .of hvs⟩, ⟨H0, ρ, O, er, wE_mono x.mono e ρ _ _ (fun d q v H1 s1 rt cl _ => ?_) w⟩⟩
    have er1 := er.go s1
    obtain ⟨a', ha', m', ow'⟩ := er1.own i _ hs
    rw [ha] at ha'
    cases ha'
    cases ow' with
    | lst h r =>
      refine ⟨a, _, v, rfl, rfl, h, by rw [r.length]; exact q.2.1, ?_⟩
      obtain ⟨er2, s2⟩ := er1.upd hs ha m (o := .lst (_ ++ [v])) trivial (d' := .list (xs ++ [d])) (.lst upd_same (r.append (.cons (okEl_rp er1.ow rt cl q.1) .nil)))
      exact q.2.2 _ _ _ er2 ((msk_mono s1).trans s2)
  · exact w.elim
theorem ext_imp (x : XOk g C cf n X) {i : Nat} {e : E} {D : Ends} {σ : L2.St} {H : Hp} (h : tS g C (.ext i e) D σ H) : tBM X.K "list" rExtend (tVar i) (tCons (tE g C e) tNil) σ H fun _ H1 => D.nx σ H1 := by
  obtain ⟨H0, ρ, O, er, w⟩ := h
  unfold wS at w
  split at w
  · rename_i xs hs
    obtain ⟨a, ha, m, ow⟩ := er.own i _ hs
    obtain ⟨vs, hvs⟩ : ∃ vs, H a = some (.lst vs) := by
      cases ow with
      | lst h r => exact ⟨_, h⟩
    refine ⟨.ref a, ha, .inl ⟨rfl, vs, .of hvs⟩, ⟨H0, ρ, O, er, wE_mono x.mono e ρ _ _ (fun d q v H1 s1 rt cl _ => ?_) w⟩⟩
    have er1 := er.go s1
    obtain ⟨a', ha', m', ow'⟩ := er1.own i _ hs
    rw [ha] at ha'
    cases ha'
    split at q
    · obtain ⟨b, ws, rfl, hb, rb⟩ := rt.lst
      cases ow' with
      | lst h r =>
        refine ⟨a, b, _, ws, rfl, rfl, h, hb, by rw [r.length, rb.length]; exact q.1, ?_⟩
        obtain ⟨er2, s2⟩ := er1.upd hs ha m (o := .lst (_ ++ ws)) trivial (d' := .list (xs ++ _)) (.lst upd_same (r.append rb))
        exact q.2 _ _ _ er2 ((msk_mono s1).trans s2)
    · exact q.elim
  · exact w.elim
end
end DL
set_option Elab.async false
set_option linter.all false
set_option maxRecDepth 100000
/-! DL16: statements. -/
namespace DL
open PySem PySem.Spec PyProof.Rows L2
section
variable {g : Gx} {C : Calls} {cf : Cfg} {n : Nat} {X : Cx} {pos : Pos}

/-! ### several at once -/
/-- the values of several at once, with what may become own -/
inductive PutR (g : Gx) (H' : Hp) (O' : List Addr) (ρ : Env) : List Addr → Es → List V → List D → Prop
  | nil {O : List Addr} : PutR g H' O' ρ O .nil [] []
  | frz {O : List Addr} {e : E} {es : Es} {v : V} {vs : List V} {d : D} {ds : List D} (h : imm d = true ∨ clean e ρ = true → Rp g (msk O' H') v d) (no : imm d = true ∨ clean e ρ = false ∨ (isMutTop d && fresh e && flat d) = false) (r : PutR g H' O' ρ O es vs ds) : PutR g H' O' ρ O (.cons e es) (v :: vs) (d :: ds)
  | own {O : List Addr} {e : E} {es : Es} {a : Addr} {vs : List V} {d : D} {ds : List D} (hi : imm d = false) (hc : clean e ρ = true) (hm : (isMutTop d && fresh e && flat d) = true) (m : a ∈ O') (na : a ∉ O) (h : Ow g H' (msk O' H') a d) (r : PutR g H' O' ρ (a :: O) es vs ds) : PutR g H' O' ρ O (.cons e es) (.ref a :: vs) (d :: ds)
def tPut (g : Gx) (C : Calls) (es : Es) : TA := fun σ H Q => ∃ H0 ρ O, ER g H0 ρ σ H O ∧ wEs C false es ρ fun ds => ∀ vs H' O', Same H H' → Same (msk O H) (msk O' H') → (∀ a, a ∈ O → a ∈ O') → ER g H0 ρ σ H' O' → PutR g H' O' ρ O es vs ds → Q vs H'
theorem isMutTop_imm {d : D} (h : isMutTop d = true) : imm d = false := by
  rcases isMutTop_inv h with ⟨ds, rfl⟩ | ⟨kvs, rfl⟩
  · rfl
  · rfl
theorem sPut (x : XOk g C cf n X) : ∀ (es : Es) {l : List Expr}, mEs cf X.N X.env.scope es l = true → PA X l (tPut g C es)
  | .nil, [], h => by
    refine PA.imp pa_nil fun σ H Q h => ?_
    obtain ⟨H0, ρ, O, er, w⟩ := h
    unfold wEs at w
    exact w [] H O (.refl _) (.refl _) (fun _ h => h) er .nil
  | .nil, _ :: _, h => by simp [mEs] at h
  | .cons e es, [], h => by simp [mEs] at h
  | .cons e es, y :: l, h => by
    simp only [mEs, Bool.and_eq_true] at h
    refine PA.imp (pa_cons (sE e x h.1) (sPut x es h.2) (noStar h.1 _ _)) fun σ H Q h => ?_
    obtain ⟨H0, ρ, O, er, w⟩ := h
    unfold wEs at w
    refine ⟨H0, ρ, O, er, wE_mono x.mono e ρ _ _ (fun d w v H1 s1 rt cl fr => ?_) w⟩
    have w := w.2
    have er1 := er.go s1
    by_cases hown : imm d = false ∧ clean e ρ = true ∧ (isMutTop d && fresh e && flat d) = true
    · obtain ⟨hi, hc, hm⟩ := hown
      have hm' := hm
      simp only [Bool.and_eq_true] at hm
      obtain ⟨a, rfl, ha, na, er2, ow, s2⟩ := own_new er s1 (cl hc) (fr hm.1.2) hm.1.1 hm.2
      refine ⟨H0, ρ, a :: O, er2, wEs_mono x.mono false es ρ _ _ (fun ds w vs H2 O2 s3 s4 sub er3 pr => ?_) w⟩
      exact w (.ref a :: vs) H2 O2 (s1.trans s3) (s2.trans s4) (fun b hb => sub b (List.mem_cons_of_mem _ hb)) er3 (.own hi hc hm' (sub a (List.mem_cons_self ..)) na (ow.mono s3 s4) pr)
    · refine ⟨H0, ρ, O, er1, wEs_mono x.mono false es ρ _ _ (fun ds w vs H2 O2 s3 s4 sub er3 pr => ?_) w⟩
      refine w (v :: vs) H2 O2 (s1.trans s3) ((msk_mono s1).trans s4) sub er3 (.frz (fun z => ?_) ?_ pr)
      · rcases z with z | z
        · exact ((rt.rp).mono s3).imm er3.no z
        · exact (cl z).mono s4
      · by_cases h1 : imm d = true
        · exact .inl h1
        · by_cases h2 : clean e ρ = true
          · refine .inr (.inr ?_)
            cases h3 : (isMutTop d && fresh e && flat d) with
            | false => rfl
            | true => exact absurd ⟨by simpa using h1, h2, h3⟩ hown
          · exact .inr (.inl (by simpa using h2))
/-- slots set one after another -/
def setAll : List Nat → List V → L2.St → L2.St
  | i :: is, v :: vs, σ => setAll is vs (σ.set i (some v))
  | _, _, σ => σ
theorem putAll_ok {H0 H' : Hp} {O' : List Addr} {ρ : Env} : ∀ {is : List Nat} {es : Es} {vs : List V} {ds : List D} {O : List Addr} {to ρ' : Env} {σ : L2.St}, PutR g H' O' ρ O es vs ds → ER g H0 to σ H' O' → (∀ j d a, to.at j = some (.own d) → σ[j]? = some (some (.ref a)) → a ∈ O) →
    putAll is es ds ρ to = some ρ' → ER g H0 ρ' (setAll is vs σ) H' O'
  | [], _, _, _, _, _, _, _, .nil, er, _, hp => by
    cases hp; exact er
  | _ :: _, _, _, _, _, _, _, _, .nil, er, _, hp => by cases hp
  | [], _, _, _, _, _, _, _, .frz _ _ _, er, _, hp => by cases hp
  | [], _, _, _, _, _, _, _, .own _ _ _ _ _ _ _, er, _, hp => by cases hp
  | i :: is, _, _, _, O, to, ρ', σ, .frz (e := e) (v := v) (d := d) h no r, er, inv, hp => by
    unfold putAll at hp
    rw [Option.bind_eq_some_iff] at hp
    obtain ⟨t, ht, hp⟩ := hp
    have e1 : t = to.setF i d ∧ (imm d = true ∨ clean e ρ = true) := by
      unfold put at ht
      split at ht
      · rename_i hi; cases ht; exact ⟨rfl, .inl hi⟩
      · rename_i hi
        split at ht
        · rename_i hc
          split at ht
          · rename_i hm
            rcases no with z | z | z
            · exact absurd z hi
            · rw [z] at hc; cases hc
            · rw [z] at hm; cases hm
          · cases ht; exact ⟨rfl, .inr hc⟩
        · cases ht
    obtain ⟨rfl, hk⟩ := e1
    refine putAll_ok (σ := σ.set i (some v)) r (er.setF (h hk)) (fun j x a hj hs => ?_) hp
    by_cases q : i = j
    · subst q
      by_cases hl : i < to.length
      · rw [Env.setF, at_set_same hl] at hj; cases hj
      · rw [Env.setF, set_big hl] at hj
        exact absurd (at_lt hj) hl
    · rw [Env.setF, at_set_ne q] at hj
      rw [List.getElem?_set_ne q] at hs
      exact inv j x a hj hs
  | i :: is, _, _, _, O, to, ρ', σ, .own (e := e) (a := a) (d := d) hi hc hm m na h r, er, inv, hp => by
    unfold putAll at hp
    rw [Option.bind_eq_some_iff] at hp
    obtain ⟨t, ht, hp⟩ := hp
    have e1 : t = to.setO i d := by
      unfold put at ht
      rw [hi, if_neg Bool.false_ne_true, hc, if_pos rfl, if_pos hm] at ht
      cases ht; rfl
    subst e1
    refine putAll_ok (σ := σ.set i (some (.ref a))) r (er.setO m h fun j x _ hj hs => na (inv j x a hj hs)) (fun j x b hj hs => ?_) hp
    by_cases q : i = j
    · subst q
      by_cases hl : i < to.length
      · rw [List.getElem?_set_self (by rw [er.len]; exact hl)] at hs
        cases hs
        exact List.mem_cons_self ..
      · rw [Env.setO, set_big hl] at hj
        exact absurd (at_lt hj) hl
    · rw [Env.setO, at_set_ne q] at hj
      rw [List.getElem?_set_ne q] at hs
      exact List.mem_cons_of_mem _ (inv j x b hj hs)
theorem asgT_imp (x : XOk g C cf n X) {is : List Nat} {es : Es} {D : Ends} {σ : L2.St} {H : Hp} (h : tS g C (.asgT is es) D σ H) : tPut g C es σ H fun vs H1 => (∀ p, H1 p = none → D.nx (setAll is vs σ) (upd H1 p (.tup vs))) ∧ D.nx (setAll is vs σ) H1 ∧ vs.length = is.length := by
  obtain ⟨H0, ρ, O, er, w⟩ := h
  unfold wS at w
  refine ⟨H0, ρ, O, er, wEs_mono x.mono false es ρ _ _ (fun ds q vs H1 O1 s1 s2 sub er1 pr => ?_) w⟩
  cases hp : putAll is es ds ρ ρ with
  | none => rw [hp] at q; exact q.elim
  | some ρ' =>
    rw [hp] at q
    have e1 := putAll_ok pr er1 (fun j d a hj hs => by
      obtain ⟨b, hb, m, _⟩ := er.own j d hj
      rw [hb] at hs; cases hs
      exact m) hp
    refine ⟨fun p hp => q _ _ O1 (e1.go (same_upd hp)) (s2.trans (msk_mono (same_upd hp))), q _ _ O1 e1 s2, ?_⟩
    clear q w e1
    revert hp
    have key : ∀ {is : List Nat} {es : Es} {ds : List PyData} {vs : List V} {O : List Addr} {to ρ' : Env}, PutR g H1 O1 ρ O es vs ds → putAll is es ds ρ to = some ρ' → vs.length = is.length := by
      intro is
      induction is with
      | nil =>
        intro es ds vs O to ρ' pr hp
        cases pr with
        | nil => rfl
        | frz _ _ _ => cases hp
        | own _ _ _ _ _ _ _ => cases hp
      | cons i is ih =>
        intro es ds vs O to ρ' pr hp
        cases pr with
        | nil => cases hp
        | frz _ _ r =>
          unfold putAll at hp
          rw [Option.bind_eq_some_iff] at hp
          obtain ⟨t, _, hp⟩ := hp
          rw [List.length_cons, List.length_cons, ih r hp]
        | own _ _ _ _ _ _ r =>
          unfold putAll at hp
          rw [Option.bind_eq_some_iff] at hp
          obtain ⟨t, _, hp⟩ := hp
          rw [List.length_cons, List.length_cons, ih r hp]
    exact key pr

/-! ### a target of several names, given a value -/
theorem unp_imp (x : XOk g C cf n X) {is : List Nat} (nd : is.Nodup) {e : E} {D : Ends} {σ : L2.St} {H : Hp} (h : tS g C (.unp is e) D σ H) : tE g C e σ H fun v H1 => gT X.K is v σ H1 D.nx := by
  obtain ⟨H0, ρ, O, er, w⟩ := h
  unfold wS at w
  refine ⟨H0, ρ, O, er, wE_mono x.mono e ρ _ _ (fun d q v H1 s1 rt cl fr => ?_) w⟩
  have q2 := q.2
  cases hp : bindT is d ρ with
  | none => rw [hp] at q2; exact q2.elim
  | some ρ' =>
    rw [hp] at q2
    have er1 := er.go s1
    exact bind_ok er1 nd hp (okEl_rp er1.ow rt cl q.1) rfl (fun _ _ => rfl) fun σ2 er2 _ _ => q2 σ2 H1 O er2 (msk_mono s1)

/-! ### items set -/
theorem sub_put : ∀ {xs : List (NestedKey × Addr × Value)} {kvs : List (D × D)} {M : Hp} {k : NestedKey} {kd vd : D} {v : V} {u : Value}, RpKV g M xs kvs → nkey kd = some k → RelV v u → Rp g M v vd → RpKV g M (xs.map (putAt k u)) (kvs.map fun p => if nkey p.1 = nkey kd then (p.1, vd) else p)
  | _, _, _, _, _, _, _, _, .nil, ek, ru, rv => .nil
  | _, _, M, k, kd, vd, v, u, @RpKV.cons _ _ k' b u' v' kd' vd' xs kvs hk' ek' hd ru' hv r, ek, ru, rv => by
    rw [List.map_cons, List.map_cons]
    unfold putAt
    dsimp only
    by_cases e : k' = k
    · subst e
      rw [if_pos rfl, if_pos (by rw [ek', ek])]
      exact .cons hk' ek' hd ru rv (sub_put r ek ru rv)
    · rw [if_neg e, if_neg (by rw [ek', ek]; exact fun z => e (Option.some.inj z))]
      exact .cons hk' ek' hd ru' hv (sub_put r ek ru rv)
theorem sub_app : ∀ {xs ys : List (NestedKey × Addr × Value)} {kvs kws : List (D × D)} {M : Hp}, RpKV g M xs kvs → RpKV g M ys kws → RpKV g M (xs ++ ys) (kvs ++ kws)
  | _, _, _, _, _, .nil, t => t
  | _, _, _, _, _, .cons hk ek hd ru hv r, t => .cons hk ek hd ru hv (sub_app r t)
theorem dct_put {xs : List (NestedKey × Addr × Value)} {kvs : List (D × D)} {M : Hp} {k : NestedKey} {b : Addr} {kd vd : D} {v : V} {u : Value} (r : RpKV g M xs kvs) (hk : Rp g M (.ref b) kd) (ek : nkey kd = some k) (hd : k.depth ≤ 8) (ru : RelV v u) (rv : Rp g M v vd) :
    RpKV g M (storedH xs k b u) (dctPut kvs kd vd) := by
  unfold storedH dctPut
  rcases atKey_of ek r with ⟨h1, h2⟩ | ⟨z, b', u', v', h1, h2, h3, h4⟩
  · rw [h1, h2]
    exact sub_app r (.cons hk ek hd ru rv .nil)
  · rw [h1, h2]
    exact sub_put r ek ru rv
/-- o[k] = v: a list, a dict -/
def rSub (g : Gx) : TSet := fun o k v H K => (∃ p xs n j, o = .ref p ∧ k = .int n ∧ H p = some (.lst xs) ∧ ixN xs.length n = some j ∧ K (upd H p (.lst (xs.set j v)))) ∨
  ∃ p xs kvs M kd, o = .ref p ∧ H p = some (DctO g p xs) ∧ Same M H ∧ RpKV g M xs kvs ∧ Rp g M k kd ∧ keyOk kd = true ∧ kvs.length < 1000000 ∧ ∀ nk b u, k = .ref b → nkey kd = some nk → RelV v u → K (upd H p (DctO g p (storedH xs nk b u)))
theorem RpKV.length : ∀ {xs : List (NestedKey × Addr × Value)} {kvs : List (D × D)} {M : Hp}, RpKV g M xs kvs → xs.length = kvs.length
  | _, _, _, .nil => rfl
  | _, _, _, .cons _ _ _ _ _ r => by rw [List.length_cons, List.length_cons, RpKV.length r]
theorem set_sub (hr : Room n X.A) (gx : g.Of X) : PSet X (rSub g) := by
  intro pins s σ H o i v ov iv u Q I ro ri rv h
  rcases h with h | ⟨p, xs, kvs, M, kd, rfl, hp, m, r, rk, ko, hl, q⟩
  · exact set_list pins s σ H o i v ov iv u Q I ro ri rv h
  · obtain ⟨ts, nk, rfl, ek, hd⟩ := keyOk_of ko
    obtain ⟨b, ws, rfl, hb, rb⟩ := rk.tup_inv
    cases ro
    cases ri
    obtain ⟨z1, z2, z3⟩ := Inv.dct I gx m hp r
    have hkey : (nestedKind X.prog X.w).is s.heap nk b := ⟨nested_of I (rk.mono m) ek rfl, hd⟩
    have hlen := RpKV.length r
    refine wpAny_setItem_heap (room8 hr) hkey z3 (fun h' d' sb => ?_) (by unfold sizeLine; omega)
    have hl' : (storedH xs nk b u).length ≤ xs.length + 1 := by
      unfold storedH
      split
      · rw [List.length_map]; omega
      · rw [List.length_append]; exact Nat.le_refl _
    obtain ⟨o, es, ep, h1, h2, h3, h4, h5, h6⟩ := d'
    refine ⟨upd H p (DctO g p (storedH xs nk b u)), ?_, q nk b u rfl ek rv⟩
    refine I.write (x := p) (e := p) (by rw [hp]; trivial) (.inl rfl) (fun c ob hc e => (sb.2 c hc).trans e) ⟨_, h1⟩ ?_
    refine ⟨⟨by unfold sizeLine; omega, z2, o, es, ep, h1, h2, h3, by rw [gx.P, gx.w]; exact h4, h6⟩, ⟨_, h1⟩, ?_⟩
    rintro g1 g2 ⟨y1, y2, o', es', ep', y3, y4⟩ hk
    exact ⟨y1, y2, o', es', ep', hk _ y3, y4⟩
theorem setI_imp (x : XOk g C cf n X) {i : Nat} {k e : E} {D : Ends} {σ : L2.St} {H : Hp} (h : tS g C (.setI i k e) D σ H) : tE g C e σ H fun v H1 => gSub (tVar i) (tE g C k) (rSub g) v σ H1 D.nx := by
  obtain ⟨H0, ρ, O, er, w⟩ := h
  unfold wS at w
  split at w
  · rename_i xs hs
    refine ⟨H0, ρ, O, er, wE_mono x.mono e ρ _ _ (fun d q v H1 s1 rt cl _ => ?_) w⟩
    have er1 := er.go s1
    obtain ⟨a, ha, m, ow⟩ := er1.own i _ hs
    refine ⟨.ref a, ha, H0, ρ, O, er1, wE_mono x.mono k ρ _ _ (fun kd q' kv H2 s2 rk _ _ => ?_) q.2⟩
    have er2 := er1.go s2
    obtain ⟨a', ha', m', ow'⟩ := er2.own i _ hs
    rw [ha] at ha'
    cases ha'
    obtain ⟨j, rfl, q5⟩ := onInt_of q'
    replace q' := q5
    split at q'
    · rename_i j' hj
      cases ow' with
      | lst h r =>
        refine .inl ⟨a, _, j, j', rfl, rk.int, h, by rw [r.length]; exact hj, ?_⟩
        obtain ⟨er3, s3⟩ := er2.upd hs ha m (o := .lst (_ : List V)) trivial (d' := .list (xs.set j' d)) (.lst upd_same (RpAll.set ((okEl_rp er1.ow rt cl q.1).mono (msk_mono s2)) j' r))
        exact q' _ _ _ er3 ((msk_mono (s1.trans s2)).trans s3)
    · exact q'.elim
  · rename_i kvs hs
    refine ⟨H0, ρ, O, er, wE_mono x.mono e ρ _ _ (fun d q v H1 s1 rt cl _ => ?_) w⟩
    have er1 := er.go s1
    obtain ⟨a, ha, m, ow⟩ := er1.own i _ hs
    refine ⟨.ref a, ha, H0, ρ, O, er1, wE_mono x.mono k ρ _ _ (fun kd q' kv H2 s2 rk _ _ => ?_) q.2⟩
    have er2 := er1.go s2
    obtain ⟨a', ha', m', ow'⟩ := er2.own i _ hs
    rw [ha] at ha'
    cases ha'
    obtain ⟨⟨ki, ko⟩, hl, q'⟩ := q'
    cases ow' with
    | dct h r =>
      have rk' := rk.rp.imm er2.no ki
      refine .inr ⟨a, _, kvs, msk O H2, kd, rfl, h, msk_same O, r, rk', ko, hl, fun nk b u hb ek ru => ?_⟩
      subst hb
      obtain ⟨_, nk', _, ek', hd⟩ := keyOk_of ko
      rw [ek] at ek'
      cases ek'
      obtain ⟨er3, s3⟩ := er2.upd hs ha m (o := DctO g a (storedH _ nk b u)) trivial (d' := dct (dctPut kvs kd d)) (.dct upd_same (dct_put r rk' ek hd ru ((okEl_rp er1.ow rt cl q.1).mono (msk_mono s2))))
      exact q' _ _ _ er3 ((msk_mono (s1.trans s2)).trans s3)
  · exact w.elim

theorem RpAll.erase {M : Hp} : ∀ {vs : List V} {ds : List D} (n : Nat), RpAll g M vs ds → RpAll g M (vs.eraseIdx n) (ds.eraseIdx n)
  | _, _, _, .nil => .nil
  | _, _, 0, .cons _ r => r
  | _, _, n + 1, .cons h r => .cons h (RpAll.erase n r)
theorem popApp_imp (x : XOk g C cf n X) {i j : Nat} (hij : i ≠ j) {e : E} {D : Ends} {σ : L2.St} {H : Hp} (h : tS g C (.popApp i j e) D σ H) :
    tBM X.K "list" rAppend (tVar i) (tCons (tBM X.K "list" rPopAt (tVar j) (tCons (tE g C e) tNil)) tNil) σ H fun _ H1 => D.nx σ H1 := by
  obtain ⟨H0, ρ, O, er, w⟩ := h
  unfold wS at w
  split at w
  · rename_i xs ys hs hs'
    obtain ⟨a, ha, m, ow⟩ := er.own i _ hs
    obtain ⟨b, hb, mb, owb⟩ := er.own j _ hs'
    obtain ⟨vs, hvs⟩ : ∃ vs, H a = some (.lst vs) := by
      cases ow with
      | lst h r => exact ⟨_, h⟩
    obtain ⟨ws, hws⟩ : ∃ vs, H b = some (.lst vs) := by
      cases owb with
      | lst h r => exact ⟨_, h⟩
    refine ⟨.ref a, ha, .inl ⟨rfl, vs, .of hvs⟩, .ref b, hb, .inl ⟨rfl, ws, .of hws⟩, ⟨H0, ρ, O, er, wE_mono x.mono e ρ _ _ (fun d q v H1 s1 rt cl _ => ?_) w⟩⟩
    have er1 := er.go s1
    obtain ⟨k, rfl, q⟩ := onInt_of q
    obtain ⟨⟨k0, k1⟩, hx, q⟩ := q
    split at q
    · rename_i y hy
      obtain ⟨a', ha', m', ow'⟩ := er1.own i _ hs
      rw [ha] at ha'
      cases ha'
      obtain ⟨b', hb', mb', owb'⟩ := er1.own j _ hs'
      rw [hb] at hb'
      cases hb'
      cases ow' with
      | lst h r =>
        cases owb' with
        | lst h' r' =>
          obtain ⟨yv, hyv, ry⟩ := r'.get hy
          have hlt : k.toNat < ys.length := by
            rcases Nat.lt_or_ge k.toNat ys.length with z | z
            · exact z
            · rw [List.getElem?_eq_none z] at hy; cases hy
          have nab : a ≠ b := fun z => hij (er1.inj i j _ _ a hs hs' ha (by rw [z]; exact hb))
          refine ⟨b, _, k, k.toNat, yv, rfl, by rw [rt.int], h', by omega, by omega, seqIndex_of k0 (by rw [r'.length]; omega), hyv, ?_⟩
          obtain ⟨er2, s2⟩ := er1.upd hs' hb mb (o := .lst (List.eraseIdx _ k.toNat)) trivial (d' := .list (ys.eraseIdx k.toNat)) (.lst upd_same (r'.erase k.toNat))
          have hs2 : (ρ.setO j (.list (ys.eraseIdx k.toNat))).at i = some (.own (.list xs)) := by
            rw [Env.setO, at_set_ne (Ne.symm hij)]
            exact hs
          refine ⟨a, _, yv, rfl, rfl, by rw [upd_ne nab]; exact h, by rw [r.length]; exact hx, ?_⟩
          obtain ⟨er3, s3⟩ := er2.upd hs2 ha m (o := .lst (_ ++ [yv])) trivial (d' := .list (xs ++ [y])) (.lst upd_same ((r.mono s2).append (.cons (ry.mono s2) .nil)))
          exact q _ _ _ er3 (((msk_mono s1).trans s2).trans s3)
    · exact q.elim
  · exact w.elim

/-! ### what is handed back -/
theorem ret_of {H0 H H1 : Hp} {ρ : Env} {σ : L2.St} {O : List Addr} {e : E} {v : V} {d : D} {Q : VK} (er : ER g H0 ρ σ H O) (s1 : Same H H1) (rt : Rt g H1 O v d) (fr : fresh e = true → TopNew H v d) (ov : ∀ i d', e = .var i → ρ.at i = some (.own d') → ∃ a, v = .ref a ∧ a ∈ O) (ok : okRet e ρ d = true) (q : GivesE g H0 ρ d Q) : Q v H1 := by
  have er1 := er.go s1
  have s0 : Same H0 H1 := er.same.trans s1
  unfold okRet at ok
  rw [Bool.or_eq_true] at ok
  rcases ok with i | ok
  · exact q v σ H1 O er1 (fun O1 ow => rt.rp.imm (ow.go s0).no i) (TopNew.imm i)
  · simp only [Bool.and_eq_true, Bool.or_eq_true] at ok
    obtain ⟨hf, ok⟩ := ok
    have hm : isMutTop d = true := by
      unfold flat at hf
      split at hf
      · rfl
      · rfl
      · cases hf
    have ha : ∃ a, v = .ref a ∧ H0 a = none := by
      rcases ok with ok | ok
      · obtain ⟨a, e', h⟩ := fr ok (.inl hm)
        exact ⟨a, e', er.same.free h⟩
      · split at ok
        · rename_i i
          split at ok
          · rename_i sl hs
            cases sl with
            | frz _ => cases ok
            | own d' =>
              obtain ⟨a, e', m⟩ := ov i d' rfl hs
              exact ⟨a, e', (er.new a m).1⟩
          · cases ok
        · cases ok
    obtain ⟨a, rfl, hn⟩ := ha
    refine q _ σ H1 O er1 (fun O1 ow => ?_) fun _ => ⟨a, rfl, hn⟩
    have na : a ∉ O1 := out_new hn ow.ex
    have no := (ow.go s0).no
    rcases isMutTop_inv hm with ⟨ds, rfl⟩ | ⟨kvs, rfl⟩
    · obtain ⟨b, vs, e', hb, rb⟩ := rt.lst
      cases e'
      exact .lst (by rw [msk_out na]; exact hb) ((rb.mono (msk_same O)).imm no (by simpa [flat] using hf))
    · obtain ⟨b, xs, e', hb, rb⟩ := rt.dct
      cases e'
      exact .dct (by rw [msk_out na]; exact hb) ((rb.mono (msk_same O)).imm no (by simpa [flat] using hf))
theorem ret_imp (x : XOk g C cf n X) {e : E} (he : e.asVar = none) {D : Ends} {σ : L2.St} {H : Hp} (h : tS g C (.ret e) D σ H) : tE g C e σ H D.rt := by
  obtain ⟨H0, ρ, O, er, w⟩ := h
  unfold wS at w
  refine ⟨H0, ρ, O, er, wE_mono x.mono e ρ _ _ (fun d q v H1 s1 rt cl fr => ?_) w⟩
  exact ret_of (e := e) er s1 rt fr (fun i d' z _ => by subst z; cases he) q.1 q.2
theorem ret_var {i : Nat} {D : Ends} {σ : L2.St} {H : Hp} (h : tS g C (.ret (.var i)) D σ H) : tVar i σ H D.rt := by
  obtain ⟨H0, ρ, O, er, w⟩ := h
  unfold wS wE at w
  cases hs : ρ.at i with
  | none => rw [hs] at w; exact w.elim
  | some sl =>
    rw [hs] at w
    cases sl with
    | frz d =>
      obtain ⟨v, e, r⟩ := er.frz i d hs
      exact ⟨v, e, ret_of (e := .var i) er (.refl _) (.inl r) (fun z => by simp at z) (fun j d' z hj => by cases z; rw [hs] at hj; cases hj) w.1 w.2⟩
    | own d =>
      obtain ⟨a, e, m, r⟩ := er.own i d hs
      exact ⟨.ref a, e, ret_of (e := .var i) er (.refl _) (.inr ⟨a, rfl, m, r⟩) (fun z => by simp at z) (fun j d' z hj => ⟨a, rfl, m⟩) w.1 w.2⟩

/-! ### loops -/
theorem for_imp (x : XOk g C cf n X) {tg : List Nat} (nd : tg.Nodup) {it : I} {b : Ss} {D : Ends} {σ : L2.St} {H : Hp} (h : tS g C (.for_ tg it b) D σ H) : tFor (tI g C it) (gT X.K tg) (tSs g C b) D σ H := by
  obtain ⟨H0, ρ, O, er, w⟩ := h
  unfold wS at w
  obtain ⟨ok, w⟩ := w
  refine ⟨H0, ρ, O, er, wI_mono x.mono it ρ _ _ (fun xs w J H1 s1 ik fz => ?_) w⟩
  obtain ⟨O1, er1, s2, ik1⟩ := fz ok
  have sM : Same (msk O H) (msk O1 H1) := (msk_mono s1).trans s2
  generalize hf : (fun (x : PyData) (ρ : Env) (K : Env → Prop) => match bindT tg x ρ with
    | some ρ' => wSs C b ρ' { nx := K, ct := K, bk := (EnOf g H0 (msk O H) D).nx, rt := (EnOf g H0 (msk O H) D).rt }
    | none => False) = f at w
  refine ⟨fun i m σ2 H2 => m = xs.length - i ∧ i ≤ xs.length ∧ ∃ ρ2 O2, ER g H0 ρ2 σ2 H2 O2 ∧ Same (msk O1 H1) (msk O2 H2) ∧ forL f (xs.drop i) ρ2 (EnOf g H0 (msk O H) D).nx, ⟨xs.length, by simp, Nat.zero_le _, _, O1, er1, .refl _, w⟩, ?_⟩
  rintro i m σ2 H2 ⟨rfl, hi, ρ2, O2, er2, s3, w2⟩
  have ik2 := ik1 O2 H2 er2.ow (s3.trans (msk_same O2)) s3 i
  by_cases hlt : i < xs.length
  · rw [List.drop_eq_getElem_cons hlt] at w2
    have hd : xs[i]? = some xs[i] := List.getElem?_eq_getElem hlt
    refine .inr ⟨(ik2.1 _ hd).1, fun σ' H' => ∃ ρ3 O3, ER g H0 ρ3 σ' H' O3 ∧ Same (msk O1 H1) (msk O3 H') ∧ forL f (xs.drop (i + 1)) ρ3 (EnOf g H0 (msk O H) D).nx,
      fun σ' H' hN => ⟨xs.length - (i + 1), by omega, rfl, hlt, hN⟩, fun v H3 y => ?_⟩
    obtain ⟨s4, rv⟩ := (ik2.1 _ hd).2 v H3 y
    unfold forL at w2
    rw [← hf] at w2
    cases hb : bindT tg xs[i] ρ2 with
    | none => rw [hb] at w2; exact w2.elim
    | some ρ' =>
      rw [hb] at w2
      dsimp only at w2
      try rw [hf] at w2
      refine bind_ok (er2.go s4) nd hb rv rfl (fun _ _ => rfl) fun σ3 er3 _ _ => ?_
      refine ⟨H0, ρ', O2, er3, wSs_mono x.mono b ρ' { nx := fun ρ' => forL f (xs.drop (i + 1)) ρ' (EnOf g H0 (msk O H) D).nx, ct := fun ρ' => forL f (xs.drop (i + 1)) ρ' (EnOf g H0 (msk O H) D).nx, bk := (EnOf g H0 (msk O H) D).nx, rt := (EnOf g H0 (msk O H) D).rt } (EnOf g H0 (msk O2 H3) { D with nx := _, ct := _, bk := D.nx }) ⟨fun ρ4 q σ4 H4 O4 er4 s5 => ⟨ρ4, O4, er4, (s3.trans (msk_mono s4)).trans s5, q⟩, fun ρ d q => q, fun ρ4 q => Nx.from ((sM.trans s3).trans (msk_mono s4)) q, fun ρ4 q σ4 H4 O4 er4 s5 => ⟨ρ4, O4, er4, (s3.trans (msk_mono s4)).trans s5, q⟩⟩ w2⟩
  · have e : i = xs.length := by omega
    subst e
    rw [List.drop_length] at w2
    unfold forL at w2
    exact .inl ⟨ik2.2 (Nat.le_refl _), w2 σ2 H2 O2 er2 (sM.trans s3)⟩
theorem while_imp (x : XOk g C cf n X) {c : E} {b : Ss} {D : Ends} {σ : L2.St} {H : Hp} (h : tS g C (.whil c b) D σ H) : tWhile (tT g C c) (tSs g C b) D σ H := by
  obtain ⟨H0, ρ, O, er, w⟩ := h
  unfold wS at w
  obtain ⟨k, w⟩ := w
  refine ⟨fun m σ2 H2 => ∃ ρ2 O2, ER g H0 ρ2 σ2 H2 O2 ∧ Same (msk O H) (msk O2 H2) ∧ whileN (fun ρ Q => wT C c ρ Q) (fun ρ K => wSs C b ρ { nx := K, ct := K, bk := (EnOf g H0 (msk O H) D).nx, rt := (EnOf g H0 (msk O H) D).rt }) m ρ2 (EnOf g H0 (msk O H) D).nx,
    ⟨k, ρ, O, er, .refl _, w⟩, ?_⟩
  rintro m σ2 H2 ⟨ρ2, O2, er2, s2, w2⟩
  cases m with
  | zero => exact w2.elim
  | succ m =>
    unfold whileN at w2
    refine ⟨H0, ρ2, O2, er2, wT_mono x.mono c ρ2 _ _ (fun d q H3 s3 => ?_) w2⟩
    cases d with
    | false => exact q σ2 H3 O2 (er2.go s3) (s2.trans (msk_mono s3))
    | true =>
      rw [if_pos rfl] at q ⊢
      refine ⟨fun σ' H' => ∃ ρ3 O3, ER g H0 ρ3 σ' H' O3 ∧ Same (msk O H) (msk O3 H') ∧ whileN (fun ρ Q => wT C c ρ Q) (fun ρ K => wSs C b ρ { nx := K, ct := K, bk := (EnOf g H0 (msk O H) D).nx, rt := (EnOf g H0 (msk O H) D).rt }) m ρ3 (EnOf g H0 (msk O H) D).nx, fun σ' H' hN => ⟨m, Nat.lt_succ_self _, hN⟩, ?_⟩
      refine ⟨H0, ρ2, O2, er2.go s3, wSs_mono x.mono b ρ2 { nx := fun ρ' => whileN (fun ρ Q => wT C c ρ Q) (fun ρ K => wSs C b ρ { nx := K, ct := K, bk := (EnOf g H0 (msk O H) D).nx, rt := (EnOf g H0 (msk O H) D).rt }) m ρ' (EnOf g H0 (msk O H) D).nx, ct := fun ρ' => whileN (fun ρ Q => wT C c ρ Q) (fun ρ K => wSs C b ρ { nx := K, ct := K, bk := (EnOf g H0 (msk O H) D).nx, rt := (EnOf g H0 (msk O H) D).rt }) m ρ' (EnOf g H0 (msk O H) D).nx, bk := (EnOf g H0 (msk O H) D).nx, rt := (EnOf g H0 (msk O H) D).rt } (EnOf g H0 (msk O2 H3) { D with nx := _, ct := _, bk := D.nx }) ⟨fun ρ4 q σ4 H4 O4 er4 s5 => ⟨ρ4, O4, er4, (s2.trans (msk_mono s3)).trans s5, q⟩, fun ρ d q => q, fun ρ4 q => Nx.from (s2.trans (msk_mono s3)) q, fun ρ4 q σ4 H4 O4 er4 s5 => ⟨ρ4, O4, er4, (s2.trans (msk_mono s3)).trans s5, q⟩⟩ q⟩
end
end DL
set_option Elab.async false
set_option linter.all false
set_option maxRecDepth 100000
/-! DL17: the soundness of statements. -/
namespace DL
open PySem PySem.Spec PyProof.Rows L2
section
variable {g : Gx} {C : Calls} {cf : Cfg} {n : Nat} {X : Cx} {pos : Pos}
theorem noSwap {N : List Str} {sc : Scope} {e : E} {y : Expr} (h : mE cf N sc e y = true) (hc : isComp y = false) (t : Option Expr) (l : Nat) (env : PySem.Env) : swapsWith y t l env = pure false := by
  cases y with
  | ListComp _ _ _ _ => cases hc
  | SetComp _ _ _ _ => exfalso; cases e <;> simp [mE] at h
  | DictComp _ _ _ _ _ => exfalso; cases e <;> simp [mE] at h
  | _ => rfl
theorem noComp {N : List Str} {sc : Scope} {e : E} {y : Expr} (h : mE cf N sc e y = true) (he : ∀ elt tg it ifs, e ≠ .comp elt tg it ifs) : isComp y = false := by
  cases y with
  | ListComp _ _ _ _ =>
    exfalso
    cases e with
    | comp elt tg it ifs => exact he _ _ _ _ rfl
    | _ => simp [mE] at h
  | _ => rfl
theorem noSwapSub {y a b : Expr} {p : Pos} {l : Nat} {env : PySem.Env} {N : List Str} {sc : Scope} {e : E} (h : mE cf N sc e y = true) : swapsWithSole [.Subscript a b p] y l env = pure false := by
  cases y with
  | SetComp _ _ _ _ => exfalso; cases e <;> simp [mE] at h
  | DictComp _ _ _ _ _ => exfalso; cases e <;> simp [mE] at h
  | _ => rfl
theorem sw_false {elt : Expr} {gs : List Comprehension} {scope : Scope} {pos py : Pos} {y : Str} {l : Nat} {env : PySem.Env} (h : (env.scope.names.lookup y == some .local && py.line == pos.line && !(scope.names.any fun (n, k) => n == y && (k == .local || k == .cell))) = false) :
    swapsWith (.ListComp elt gs scope pos) (some (.Name y py)) l env = pure false := by
  have e : swapsWith (.ListComp elt gs scope pos) (some (.Name y py)) l env = pure (env.blockKind == .function && env.kindOf y == some .local && py.line == pos.line && !(scope.names.any fun (n, k) => n == y && (k == .local || k == .cell))) := rfl
  rw [e]
  have k : env.kindOf y = env.scope.names.lookup y := rfl
  rw [k, Bool.and_assoc, Bool.and_assoc, ← Bool.and_assoc (env.scope.names.lookup y == some .local), h, Bool.and_false]
theorem s_asg (x : XOk g C cf n X) (lf : LocF X X.env.scope) {i : Nat} {e : E} {y : Str} {p q : Pos} {v : Expr} (hN : X.N[i]? = some y) (hl : locB X.env.scope y = true) (hm : mE cf X.N X.env.scope e v = true) (hc : isComp v = true → ∃ a b scope vp, v = .ListComp a b scope vp ∧
      (if X.env.scope.names.lookup y == some .local && p.line == vp.line && !(scope.names.any fun (n, k) => n == y && (k == .local || k == .cell)) then true else
              !(X.env.scope.names.lookup y == some .local && p.line == vp.line && !(scope.names.any fun (n, k) => n == y && (k == .local || k == .cell)))) = true) : PS X (.Assign [.Name y p] v q) (tS g C (.asg i e)) := by
  obtain ⟨h1, h2⟩ := lf y hl
  have hE := sE e x hm
  by_cases hv : isComp v = true
  · obtain ⟨a, b, scope, vp, rfl, hs⟩ := hc hv
    cases e with
    | comp elt tg it ifs =>
      by_cases hsw : (X.env.scope.names.lookup y == some .local && p.line == vp.line && !(scope.names.any fun (n, k) => n == y && (k == .local || k == .cell))) = true
      · simp only [Bool.and_eq_true, Bool.not_eq_true', beq_iff_eq] at hsw
        unfold mE at hm
        split at hm
        · rename_i z t i c scope' pos' hz
          injection hz with z1 z2 z3 z4
          subst z1 z2 z3 z4
          simp only [Bool.and_eq_true, decide_eq_true_eq] at hm
          obtain ⟨⟨⟨⟨⟨⟨h1', h2'⟩, h3'⟩, h4'⟩, h5'⟩, h6'⟩, h7'⟩ := hm
          refine ⟨fun pins s σ H D I h => ?_⟩
          exact (PS.imp (ps_setLc (g := gT X.K tg) (wi := tI g C it) (tt := tIfs g C ifs) (te := tE g C elt) (own := ownOf X.N tg) (py := p) (spos := q) x.calm x.nd hN hsw.1.1 (sw_true I.ok.kind hsw.1.1 (by rw [hsw.1.2]; exact beq_self_eq_true _) hsw.2) (sI it x h1' (tgShape_of h2' h5')) (blkOk_by h4') (fun s H Cc cl fp => pg_tg x.calm x.nd (locF_blk s H _ Cc cl fp) h5')
            (fun s H Cc cl fp => sIfs ifs (x.blk s H _ _ fp) h7') (fun s H Cc cl fp => sE elt (x.blk s H _ _ fp) h6') (noFoldI h1' _)) fun D σ H h => comp_imp x h3' (tgB_ix h5') (asg_imp x rfl h)).run pins s σ H D I h
        · cases hm
      · exact PS.imp (ps_set x.nd hN h1 hE (sw_false (Bool.eq_false_iff.mpr hsw)) h2) fun D σ H h => asg_imp x rfl h
    | _ => simp [mE] at hm
  · have hv' : isComp v = false := by simpa using hv
    cases he : e.asVar with
    | none => exact PS.imp (ps_set x.nd hN h1 hE (noSwap hm hv' _ _ _) h2) fun D σ H h => asg_imp x he h
    | some j =>
      have : e = .var j := by
        cases e <;> simp [E.asVar] at he
        rw [he]
      subst this
      unfold mE at hm
      split at hm
      · simp only [Bool.and_eq_true, beq_iff_eq] at hm
        obtain ⟨o1, o2, _⟩ := okN_of hm.2
        exact PS.imp (ps_set x.nd hN h1 (pe_var hm.1.1 (vis_of rfl hm.1.2) o1 o2) (by rfl) h2) fun D σ H h => asg_var h
      · cases hm
theorem gNames_of {H : Hp} {Q : L2.St → Hp → Prop} : ∀ {is : List Nat} {vs : List V} {σ : L2.St}, vs.length = is.length → Q (setAll is vs σ) H → gNames is vs σ H Q
  | [], [], σ, _, q => ⟨rfl, q⟩
  | [], _ :: _, _, h, _ => by cases h
  | _ :: _, [], _, h, _ => by cases h
  | i :: is, v :: vs, σ, h, q => ⟨v, vs, rfl, gNames_of (by simpa using h) q⟩
theorem tgNames_len {N : List Str} {sc : Scope} : ∀ {is : List Nat} {ts : List Expr}, tgNames N sc is ts = true → ts.length = is.length
  | [], [], _ => rfl
  | [], _ :: _, h => by simp [tgNames] at h
  | _ :: _, [], h => by simp [tgNames] at h
  | i :: is, t :: ts, h => by
    cases t with
    | Name y p =>
      simp only [tgNames, Bool.and_eq_true] at h
      rw [List.length_cons, List.length_cons, tgNames_len h.2]
    | _ => simp [tgNames] at h
theorem s_asgT_none (x : XOk g C cf n X) (lf : LocF X X.env.scope) {is : List Nat} {es : Es} {ts l : List Expr} {kt k2 : Nat} {pt pt2 q : Pos} (ht : tgNames X.N X.env.scope is ts = true) (hm : mEs cf X.N X.env.scope es l = true) (hs : is.length ≤ 8)
    (hw : swappedStores [.Tuple ts kt pt] (.Tuple l k2 pt2) X.env = pure none) : PS X (.Assign [.Tuple ts kt pt] (.Tuple l k2 pt2) q) (tS g C (.asgT is es)) := by
  obtain ⟨h1, h2, h3⟩ := pgs_names x.nd lf ht
  refine PS.imp (ps_asg (pe_tup (sPut x es hm)) (pg_tup x.calm h1 h2 h3) (by rfl) hw (by rfl)) fun D σ H h => ?_
  obtain ⟨H0, ρ, O, er, w⟩ := asgT_imp x h
  refine ⟨H0, ρ, O, er, wEs_mono x.mono false es ρ _ _ (fun ds q vs H' O' s1 s2 sub er' pr => ?_) w⟩
  obtain ⟨q1, q2, q3⟩ := q vs H' O' s1 s2 sub er' pr
  refine ⟨by rw [q3]; unfold sizeLine; omega, fun p hp => ?_⟩
  exact ⟨p, vs, rfl, .of upd_same, q3, gNames_of q3 (q1 p hp)⟩
theorem sw_len4 {ts l : List Expr} {kt k2 : Nat} {pt pt2 : Pos} {env : PySem.Env} (h : 4 ≤ ts.length) : swappedStores [.Tuple ts kt pt] (.Tuple l k2 pt2) env = pure none := by
  unfold swappedStores
  have e2 : (ts.length == 2) = false := by rw [beq_eq_false_iff_ne]; omega
  have e3 : (ts.length == 3) = false := by rw [beq_eq_false_iff_ne]; omega
  simp [e2, e3]
theorem sw_folded {ts l : List Expr} {kt k2 : Nat} {pt pt2 : Pos} {env : PySem.Env} (h : l.all (foldedForSure 8) = true) : swappedStores [.Tuple ts kt pt] (.Tuple l k2 pt2) env = pure none := by
  unfold swappedStores
  simp only [h]
  split
  · rfl
  · split
    · rfl
    · split
      · rfl
      · rw [if_pos trivial]
theorem noStarred {l : List Expr} (hs : ∀ e ∈ l, ∀ x y, e ≠ .Starred x y) (f : Expr → Bool) (hf : ∀ e, (∀ x y, e ≠ .Starred x y) → f e = false) : ¬ l.any f = true := by
  rw [Bool.not_eq_true, List.any_eq_false]
  intro e he
  rw [hf e (hs e he)]
  exact Bool.false_ne_true
theorem sw_two {i1 i2 : Str} {p1 p2 : Pos} {a b : Expr} {kt k2 : Nat} {pt pt2 : Pos} {env : PySem.Env} (hk : env.scope.kind = .function) (h1 : env.scope.names.lookup i1 = some .local) (h2 : env.scope.names.lookup i2 = some .local) (hp : (p2.line == p1.line) = true) (ne : i1 ≠ i2)
    (hs : ∀ e ∈ [a, b], ∀ x y, e ≠ .Starred x y) (hf : [a, b].all (foldedForSure 8) = false) (hc : [a, b].all (constantsAlone 8) = false) : swappedStores [.Tuple [.Name i1 p1, .Name i2 p2] kt pt] (.Tuple [a, b] k2 pt2) env = pure (some [i1, i2]) := by
  have hb : env.blockKind = .function := by unfold Env.blockKind; rw [hk]; rfl
  have k1 : env.kindOf i1 = some .local := h1
  have k2' : env.kindOf i2 = some .local := h2
  have ne' : (i2 == i1) = false := beq_eq_false_iff_ne.mpr (Ne.symm ne)
  have ed : [i1, i2].eraseDups = [i1, i2] := by simp [List.eraseDups_cons, ne']
  unfold swappedStores
  simp only [hf, hc, hb, k1, k2', hp, List.length_cons, List.length_nil, List.filterMap_cons, List.filterMap_nil, List.head?_cons, Expr.pos, Option.map_some, Option.getD_some, beq_self_eq_true]
  rw [if_neg (by decide), if_neg (noStarred hs _ fun e he => by cases e <;> first | rfl | exact absurd rfl (he _ _))]
  show (if (([i1, i2].length != 0 + 1 + 1 || [i1, i2].eraseDups.length != [i1, i2].length) = true) then _ else _) = _
  rw [ed, if_neg (by simp), if_neg (by decide), if_neg (by decide)]
  rfl
theorem sw_three {i1 i2 i3 : Str} {p1 p2 p3 : Pos} {a b c : Expr} {kt k2 : Nat} {pt pt2 : Pos} {env : PySem.Env} (hk : env.scope.kind = .function) (h1 : env.scope.names.lookup i1 = some .local) (h2 : env.scope.names.lookup i2 = some .local) (h3 : env.scope.names.lookup i3 = some .local)
    (hp : (p2.line == p1.line) = true) (hp3 : (p3.line == p1.line) = true) (ne : i1 ≠ i2) (ne3 : i1 ≠ i3) (ne23 : i2 ≠ i3)
    (hs : ∀ e ∈ [a, b, c], ∀ x y, e ≠ .Starred x y) (hf : [a, b, c].all (foldedForSure 8) = false) (hc : [a, b, c].all (constantsAlone 8) = false) : swappedStores [.Tuple [.Name i1 p1, .Name i2 p2, .Name i3 p3] kt pt] (.Tuple [a, b, c] k2 pt2) env = pure (some [i1, i2, i3]) := by
  have hb : env.blockKind = .function := by unfold Env.blockKind; rw [hk]; rfl
  have k1 : env.kindOf i1 = some .local := h1
  have k2' : env.kindOf i2 = some .local := h2
  have k3' : env.kindOf i3 = some .local := h3
  have ne1' : (i2 == i1) = false := beq_eq_false_iff_ne.mpr (Ne.symm ne)
  have ne2' : (i3 == i1) = false := beq_eq_false_iff_ne.mpr (Ne.symm ne3)
  have ne3' : (i3 == i2) = false := beq_eq_false_iff_ne.mpr (Ne.symm ne23)
  have ed : [i1, i2, i3].eraseDups = [i1, i2, i3] := by simp [List.eraseDups_cons, ne1', ne2', ne3']
  unfold swappedStores
  simp only [hf, hc, hb, k1, k2', k3', hp, hp3, List.length_cons, List.length_nil, List.filterMap_cons, List.filterMap_nil, List.head?_cons, Expr.pos, Option.map_some, Option.getD_some, beq_self_eq_true]
  rw [if_neg (by decide), if_neg (noStarred hs _ fun e he => by cases e <;> first | rfl | exact absurd rfl (he _ _))]
  show (if (([i1, i2, i3].length != 0 + 1 + 1 + 1 || [i1, i2, i3].eraseDups.length != [i1, i2, i3].length) = true) then _ else _) = _
  rw [ed, if_neg (by simp), if_neg (by decide), if_neg (by decide)]
  rfl
theorem noStarE {N : List Str} {sc : Scope} {e : E} {y : Expr} (h : mE cf N sc e y = true) : ∀ a b, y ≠ .Starred a b := by
  rintro a b rfl
  cases e <;> simp [mE] at h
theorem s_asgT (x : XOk g C cf n X) (lf : LocF X X.env.scope) {is : List Nat} {es : Es} {ts l : List Expr} {kt k2 : Nat} {pt pt2 q : Pos} (nd : is.Nodup) (ht : tgNames X.N X.env.scope is ts = true) (hm : mEs cf X.N X.env.scope es l = true) (hs : is.length ≤ 8) (hl : is.length = l.length)
    (h : (l.all (foldedForSure 8) && decide (is.length = 2 ∨ is.length = 3) || decide (4 ≤ is.length) || allLoc X.env.scope ts && oneLine ts && !l.all (foldedForSure 8) && !l.all (constantsAlone 8) && decide (is.length = 2 ∨ is.length = 3)) = true) :
    PS X (.Assign [.Tuple ts kt pt] (.Tuple l k2 pt2) q) (tS g C (.asgT is es)) := by
  have hlt := tgNames_len ht
  rw [Bool.or_eq_true, Bool.or_eq_true] at h
  rcases h with (h | h) | h
  · rw [Bool.and_eq_true] at h
    exact s_asgT_none x lf ht hm hs (sw_folded h.1)
  · exact s_asgT_none x lf ht hm hs (sw_len4 (by rw [hlt]; simpa using h))
  · simp only [Bool.and_eq_true, Bool.not_eq_true', decide_eq_true_eq] at h
    obtain ⟨⟨⟨⟨h1, h2⟩, h3⟩, h4⟩, h5⟩ := h
    rcases h5 with h5 | h5
    · obtain ⟨i, j, rfl⟩ : ∃ i j, is = [i, j] := by
        cases is with
        | nil => cases h5
        | cons i r =>
          cases r with
          | nil => cases h5
          | cons j r =>
            cases r with
            | nil => exact ⟨i, j, rfl⟩
            | cons _ _ => simp at h5
      cases ts with
      | nil => cases hlt
      | cons t1 ts =>
        cases ts with
        | nil => cases hlt
        | cons t2 ts =>
          cases ts with
          | cons _ _ => simp at hlt
          | nil =>
            cases t1 with
            | Name y1 p1 =>
              cases t2 with
              | Name y2 p2 =>
                simp only [tgNames, Bool.and_eq_true, beq_iff_eq] at ht
                obtain ⟨⟨⟨hi, hl1⟩, _⟩, ⟨⟨hj, hl2⟩, _⟩, _⟩ := ht
                simp only [allLoc, Bool.and_eq_true, beq_iff_eq] at h1
                cases l with
                | nil => cases hl
                | cons a l =>
                  cases l with
                  | nil => cases hl
                  | cons b l =>
                    cases l with
                    | cons _ _ => simp at hl
                    | nil =>
                      have hij : i ≠ j := by simpa using (List.nodup_cons.mp nd).1
                      have hne : y1 ≠ y2 := fun z => hij (by
                        subst z
                        have a1 := (List.getElem?_eq_some_iff.mp hi)
                        have a2 := (List.getElem?_eq_some_iff.mp hj)
                        obtain ⟨l1, e1⟩ := a1
                        obtain ⟨l2, e2⟩ := a2
                        exact (List.getElem_inj (List.nodup_iff_pairwise_ne.mp x.nd |> fun _ => x.nd)).mp (e1.trans e2.symm))
                      have hst : ∀ e ∈ [a, b], ∀ x y, e ≠ .Starred x y := by
                        cases es with
                        | nil => simp [mEs] at hm
                        | cons e1 es =>
                          cases es with
                          | nil => simp [mEs] at hm
                          | cons e2 es =>
                            simp only [mEs, Bool.and_eq_true] at hm
                            intro e he
                            simp only [List.mem_cons, List.not_mem_nil, or_false] at he
                            rcases he with rfl | rfl
                            · exact noStarE hm.1
                            · exact noStarE hm.2.1
                      have hln : (p2.line == p1.line) = true := by
                        simpa [oneLine, Expr.pos] using h2
                      refine ⟨fun pins s σ H D I h => ?_⟩
                      refine (PS.imp (ps_par (i := i) (j := j) x.calm x.nd hi hj hij h1.1 h1.2.1 (sPut x es hm) (sw_two I.ok.kind h1.1 h1.2.1 hln hne hst h3 h4) (by rfl)) fun D σ H h => ?_).run pins s σ H D I h
                      obtain ⟨H0, ρ, O, er, w⟩ := asgT_imp x h
                      refine ⟨H0, ρ, O, er, wEs_mono x.mono false es ρ _ _ (fun ds q vs H' O' s1 s2 sub er' pr => ?_) w⟩
                      obtain ⟨q1, q2, q3⟩ := q vs H' O' s1 s2 sub er' pr
                      cases vs with
                      | nil => cases q3
                      | cons v vs =>
                        cases vs with
                        | nil => cases q3
                        | cons u vs =>
                          cases vs with
                          | cons _ _ => simp at q3
                          | nil => exact ⟨v, u, rfl, q2⟩
              | _ => simp [tgNames] at ht
            | _ => simp [tgNames] at ht
    · obtain ⟨i, j, k, rfl⟩ : ∃ i j k, is = [i, j, k] := by
        cases is with
        | nil => cases h5
        | cons i r =>
          cases r with
          | nil => cases h5
          | cons j r =>
            cases r with
            | nil => cases h5
            | cons k r =>
              cases r with
              | nil => exact ⟨i, j, k, rfl⟩
              | cons _ _ => simp at h5
      obtain ⟨t1, t2, t3, rfl⟩ : ∃ t1 t2 t3, ts = [t1, t2, t3] := by
        cases ts with
        | nil => cases hlt
        | cons i r =>
          cases r with
          | nil => cases hlt
          | cons j r =>
            cases r with
            | nil => cases hlt
            | cons k r =>
              cases r with
              | nil => exact ⟨i, j, k, rfl⟩
              | cons _ _ => simp at hlt
      obtain ⟨a, b, c, rfl⟩ : ∃ t1 t2 t3, l = [t1, t2, t3] := by
        cases l with
        | nil => cases hl
        | cons i r =>
          cases r with
          | nil => cases hl
          | cons j r =>
            cases r with
            | nil => cases hl
            | cons k r =>
              cases r with
              | nil => exact ⟨i, j, k, rfl⟩
              | cons _ _ => simp at hl
      cases t1 with
      | Name y1 p1 =>
        cases t2 with
        | Name y2 p2 =>
          cases t3 with
          | Name y3 p3 =>
            simp only [tgNames, Bool.and_eq_true, beq_iff_eq] at ht
            obtain ⟨⟨⟨hi, hl1⟩, _⟩, ⟨⟨hj, hl2⟩, _⟩, ⟨⟨hk, hl3⟩, _⟩, _⟩ := ht
            simp only [allLoc, Bool.and_eq_true, beq_iff_eq] at h1
            have nd1 := List.nodup_cons.mp nd
            have nd2 := List.nodup_cons.mp nd1.2
            have hijk : i ≠ j ∧ i ≠ k := by simpa using nd1.1
            have hjk : j ≠ k := by simpa using nd2.1
            have inj : ∀ {i j : Nat} {y z : Str}, X.N[i]? = some y → X.N[j]? = some z → i ≠ j → y ≠ z := fun {i j y z} hi hj hij e => hij (by
              subst e
              obtain ⟨l1, e1⟩ := List.getElem?_eq_some_iff.mp hi
              obtain ⟨l2, e2⟩ := List.getElem?_eq_some_iff.mp hj
              exact (List.getElem_inj x.nd).mp (e1.trans e2.symm))
            have hst : ∀ e ∈ [a, b, c], ∀ x y, e ≠ .Starred x y := by
              cases es with
              | nil => simp [mEs] at hm
              | cons e1 es =>
                cases es with
                | nil => simp [mEs] at hm
                | cons e2 es =>
                  cases es with
                  | nil => simp [mEs] at hm
                  | cons e3 es =>
                    simp only [mEs, Bool.and_eq_true] at hm
                    intro e he
                    simp only [List.mem_cons, List.not_mem_nil, or_false] at he
                    rcases he with rfl | rfl | rfl
                    · exact noStarE hm.1
                    · exact noStarE hm.2.1
                    · exact noStarE hm.2.2.1
            simp only [oneLine, Expr.pos, List.all_cons, List.all_nil, Bool.and_true, Bool.and_eq_true] at h2
            refine ⟨fun pins s σ H D I h => ?_⟩
            refine (PS.imp (L2.ps_par3 (i := i) (j := j) (l := k) x.calm x.nd hi hj hk hijk.1 hijk.2 hjk h1.1 h1.2.1 h1.2.2.1 (sPut x es hm) (sw_three I.ok.kind h1.1 h1.2.1 h1.2.2.1 h2.1 h2.2 (inj hi hj hijk.1) (inj hi hk hijk.2) (inj hj hk hjk) hst h3 h4) (by rfl)) fun D σ H h => ?_).run pins s σ H D I h
            obtain ⟨H0, ρ, O, er, w⟩ := asgT_imp x h
            refine ⟨H0, ρ, O, er, wEs_mono x.mono false es ρ _ _ (fun ds q vs H' O' s1 s2 sub er' pr => ?_) w⟩
            obtain ⟨q1, q2, q3⟩ := q vs H' O' s1 s2 sub er' pr
            obtain ⟨v1, v2, v3, rfl⟩ : ∃ t1 t2 t3, vs = [t1, t2, t3] := by
              cases vs with
              | nil => cases q3
              | cons i r =>
                cases r with
                | nil => cases q3
                | cons j r =>
                  cases r with
                  | nil => cases q3
                  | cons k r =>
                    cases r with
                    | nil => exact ⟨i, j, k, rfl⟩
                    | cons _ _ => simp at q3
            exact ⟨v1, v2, v3, rfl, q2⟩
          | _ => simp [tgNames] at ht
        | _ => simp [tgNames] at ht
      | _ => simp [tgNames] at ht

/-! ### the whole -/
theorem s_unp (x : XOk g C cf n X) (lf : LocF X X.env.scope) {is : List Nat} {e : E} {ts : List Expr} {kt : Nat} {pt q : Pos} {v : Expr} (n2 : 2 ≤ is.length) (nd : is.Nodup) (ht : tgNames X.N X.env.scope is ts = true) (hm : mE cf X.N X.env.scope e v = true) (h1 : isTupE v = false) (h2 : isComp v = false) :
    PS X (.Assign [.Tuple ts kt pt] v q) (tS g C (.unp is e)) := by
  obtain ⟨g1, g2, g3⟩ := pgs_names x.nd lf ht
  have hw : swappedStores [.Tuple ts kt pt] v X.env = pure none := by
    cases v with
    | Tuple _ _ _ => cases h1
    | _ => rfl
  refine PS.imp (ps_asg (sE e x hm) (pg_tup x.calm g1 g2 g3) (noSwap hm h2 (some (.Tuple ts kt pt)) q.line X.env) hw (by rfl)) fun D σ H h => ?_
  have h' := unp_imp x nd h
  obtain ⟨H0, ρ, O, er, w⟩ := h'
  refine ⟨H0, ρ, O, er, wE_mono x.mono e ρ _ _ (fun d q v H1 s1 rt cl fr => ?_) w⟩
  have q := q v H1 s1 rt cl fr
  unfold gT at q
  split at q
  · simp at n2
  · exact q
  · exact q
  · exact q.elim
theorem s_app (x : XOk g C cf n X) {i : Nat} {e : E} {y : Str} {z : Expr} {p q q' q2 : Pos} (hN : X.N[i]? = some y) (hv : Vis X.env.scope y) (ho : okN y = true) (hq : (q.endLine == q'.line) = true) (hm : mE cf X.N X.env.scope e z = true) :
    PS X (.Expr (.Call (.Attribute (.Name y p) "append" q) [z] [] q') q2) (tS g C (.app i e)) := by
  obtain ⟨o1, o2, _⟩ := okN_of ho
  have hs := noStar hm
  exact PS.imp (ps_expr (pe_bm F.plainAttrs_list F.slot_list_append F.type_list_append mt_append (pe_var hN hv o1 o2) (pa_cons (sE e x hm) pa_nil (hs _ _)) (by rfl) (by rw [hs]; rfl) hq (hs _ _) (by rfl)) (by rfl)) fun D σ H h => app_imp x h
theorem s_ext (x : XOk g C cf n X) {i : Nat} {e : E} {y : Str} {z : Expr} {p q q' q2 : Pos} (hN : X.N[i]? = some y) (hv : Vis X.env.scope y) (ho : okN y = true) (hq : (q.endLine == q'.line) = true) (hm : mE cf X.N X.env.scope e z = true) :
    PS X (.Expr (.Call (.Attribute (.Name y p) "extend" q) [z] [] q') q2) (tS g C (.ext i e)) := by
  obtain ⟨o1, o2, _⟩ := okN_of ho
  have hs := noStar hm
  exact PS.imp (ps_expr (pe_bm F.plainAttrs_list F.slot_list_extend F.type_list_extend mt_extend (pe_var hN hv o1 o2) (pa_cons (sE e x hm) pa_nil (hs _ _)) (by rfl) (by rw [hs]; rfl) hq (hs _ _) (by rfl)) (by rfl)) fun D σ H h => ext_imp x h
theorem subAsg {N : List Str} {sc : Scope} {e : E} {z o : Expr} {q : Pos} (h : mE cf N sc e z = true) (env : PySem.Env) (v : Value) : assign (.Subscript o z q) env v = (do
      let ov ← holding [v] (eval o env)
      let iv ← holding [v, ov] (eval z env)
      standAt q
      holding [v, ov, iv] (setItem ov iv v)
      release [v, ov, iv] []) := by
  cases z with
  | Slice _ _ _ _ => exfalso; cases e <;> simp [mE] at h
  | _ => rfl
theorem s_setI (x : XOk g C cf n X) {i : Nat} {k e : E} {y : Str} {z v : Expr} {p q q2 : Pos} (hN : X.N[i]? = some y) (hv : Vis X.env.scope y) (ho : okN y = true) (hk : mE cf X.N X.env.scope k z = true) (hm : mE cf X.N X.env.scope e v = true) :
    PS X (.Assign [.Subscript (.Name y p) z q] v q2) (tS g C (.setI i k e)) := by
  obtain ⟨o1, o2, _⟩ := okN_of ho
  exact PS.imp (ps_asg (sE e x hm) (pg_sub (pe_var hN hv o1 o2) (sE k x hk) (set_sub x.room x.gx) (subAsg hk _)) (noSwapSub hm) (by cases v <;> rfl) (by rfl)) fun D σ H h => setI_imp x h
mutual
theorem sS : ∀ (s : S) {st : Stmt} (x : XOk g C cf n X) (lf : LocF X X.env.scope) (hp : PassesOwn (model X.prog X.w) X.A X.env X.xe), mS cf X.N X.env.scope s st = true → PS X st (tS g C s)
  | .asg i e, st, x, lf, hp, h => by
    unfold mS at h
    split at h
    · rename_i y p v q
      rw [Bool.and_eq_true, Bool.and_eq_true, Bool.and_eq_true, Bool.and_eq_true] at h
      obtain ⟨⟨⟨⟨h1, h2⟩, h3⟩, h4⟩, h5⟩ := h
      rw [beq_iff_eq] at h1
      refine s_asg x lf h1 h2 h4 fun hc => ?_
      rw [if_pos hc] at h5
      split at h5
      · exact ⟨_, _, _, _, rfl, h5⟩
      · cases h5
    · cases h
  | .asgT is es, st, x, lf, hp, h => by
    unfold mS at h
    split at h
    · rw [Bool.and_eq_true, Bool.and_eq_true, Bool.and_eq_true, Bool.and_eq_true, Bool.and_eq_true] at h
      obtain ⟨⟨⟨⟨⟨h1, h2⟩, h3⟩, h4⟩, h5⟩, h6⟩ := h
      rw [decide_eq_true_eq] at h1 h4 h5
      exact s_asgT x lf h1 h2 h3 h5 h4 h6
    · cases h
  | .unp is e, st, x, lf, hp, h => by
    unfold mS at h
    split at h
    · simp only [Bool.and_eq_true, decide_eq_true_eq, Bool.not_eq_true'] at h
      obtain ⟨⟨⟨⟨⟨h1, h2⟩, h3⟩, h4⟩, h5⟩, h6⟩ := h
      exact s_unp x lf h1 h2 h3 h4 h5 h6
    · cases h
  | .app i e, st, x, lf, hp, h => by
    unfold mS at h
    split at h
    · rw [Bool.and_eq_true, Bool.and_eq_true, Bool.and_eq_true, Bool.and_eq_true, Bool.and_eq_true] at h
      obtain ⟨⟨⟨⟨⟨h1, h2⟩, h3⟩, h4⟩, h5⟩, h6⟩ := h
      rw [beq_iff_eq] at h1 h4
      subst h4
      exact s_app x h1 (vis_of rfl h2) h3 h5 h6
    · cases h
  | .ext i e, st, x, lf, hp, h => by
    unfold mS at h
    split at h
    · rw [Bool.and_eq_true, Bool.and_eq_true, Bool.and_eq_true, Bool.and_eq_true, Bool.and_eq_true] at h
      obtain ⟨⟨⟨⟨⟨h1, h2⟩, h3⟩, h4⟩, h5⟩, h6⟩ := h
      rw [beq_iff_eq] at h1 h4
      subst h4
      exact s_ext x h1 (vis_of rfl h2) h3 h5 h6
    · cases h
  | .setI i k e, st, x, lf, hp, h => by
    unfold mS at h
    split at h
    · rw [Bool.and_eq_true, Bool.and_eq_true, Bool.and_eq_true, Bool.and_eq_true] at h
      obtain ⟨⟨⟨⟨h1, h2⟩, h3⟩, h4⟩, h5⟩ := h
      rw [beq_iff_eq] at h1
      exact s_setI x h1 (vis_of rfl h2) h3 h4 h5
    · cases h
  | .popApp i j e, st, x, lf, hp, h => by
    unfold mS at h
    split at h
    · rw [Bool.and_eq_true, Bool.and_eq_true, Bool.and_eq_true, Bool.and_eq_true, Bool.and_eq_true, Bool.and_eq_true, Bool.and_eq_true, Bool.and_eq_true, Bool.and_eq_true, Bool.and_eq_true, Bool.and_eq_true] at h
      obtain ⟨⟨⟨⟨⟨⟨⟨⟨⟨⟨⟨h1, h2⟩, h3⟩, h4⟩, h5⟩, h6⟩, h7⟩, h8⟩, h9⟩, h10⟩, h11⟩, h12⟩ := h
      rw [beq_iff_eq] at h1 h4 h6 h9
      subst h4 h9
      obtain ⟨o1, o2, _⟩ := okN_of h3
      obtain ⟨p1, p2, _⟩ := okN_of h8
      have hs := noStar h12
      have hij : i ≠ j := by simpa using h11
      exact PS.imp (ps_expr (pe_bm F.plainAttrs_list F.slot_list_append F.type_list_append mt_append (pe_var h1 (vis_of rfl h2) o1 o2) (pa_cons (pe_bm F.plainAttrs_list F.slot_list_pop F.type_list_pop mt_popAt (pe_var h6 (vis_of rfl h7) p1 p2) (pa_cons (sE e x h12) pa_nil (hs _ _)) (by rfl) (by rw [hs]; rfl) h10 (hs _ _) (by rfl)) pa_nil (by rfl)) (by rfl) (by rfl) h5 (by rfl) (by rfl)) (by rfl)) fun D σ H h => popApp_imp x hij h
    · cases h
  | .ret e, st, x, lf, hp, h => by
    unfold mS at h
    split at h
    · cases he : e.asVar with
      | none => exact PS.imp (ps_ret (sE e x h)) fun D σ H h => ret_imp x he h
      | some j =>
        have : e = .var j := by
          cases e <;> simp [E.asVar] at he
          rw [he]
        subst this
        unfold mE at h
        split at h
        · simp only [Bool.and_eq_true, beq_iff_eq] at h
          obtain ⟨o1, o2, _⟩ := okN_of h.2
          exact PS.imp (ps_ret (pe_var h.1.1 (vis_of rfl h.1.2) o1 o2)) fun D σ H h => ret_var h
        · cases h
    · cases h
  | .ite c a b, st, x, lf, hp, h => by
    unfold mS at h
    split at h
    · simp only [Bool.and_eq_true] at h
      refine PS.imp (ps_if (sT c x h.1.1) (sSs a x lf hp h.1.2) (sSs b x lf hp h.2)) fun D σ H h => ?_
      obtain ⟨H0, ρ, O, er, w⟩ := h
      unfold wS at w
      refine ⟨H0, ρ, O, er, wT_mono x.mono c ρ _ _ (fun k q H1 s1 => ?_) w⟩
      cases k with
      | true => exact ⟨H0, ρ, O, er.go s1, wSs_mono x.mono a ρ _ _ (EnOf.le (msk_mono s1)) q⟩
      | false => exact ⟨H0, ρ, O, er.go s1, wSs_mono x.mono b ρ _ _ (EnOf.le (msk_mono s1)) q⟩
    · cases h
  | .for_ tg it b, st, x, lf, hp, h => by
    unfold mS at h
    split at h
    · simp only [Bool.and_eq_true, decide_eq_true_eq] at h
      obtain ⟨⟨⟨⟨h1, h2⟩, h3⟩, h4⟩, h5⟩ := h
      exact PS.imp (ps_for hp x.calm (sI it x h4 (tgShape_of h3 h1)) (pg_tg x.calm x.nd lf h1) (sSs b x lf hp h5) (noFoldI h4 _)) fun D σ H h => for_imp x h2 h
    · cases h
  | .whil c b, st, x, lf, hp, h => by
    unfold mS at h
    split at h
    · simp only [Bool.and_eq_true] at h
      exact PS.imp (ps_while hp (sT c x h.1) (sSs b x lf hp h.2)) fun D σ H h => while_imp x h
    · cases h
  | .drop e, st, x, lf, hp, h => by
    unfold mS at h
    split at h
    · simp only [Bool.and_eq_true, Bool.not_eq_true'] at h
      refine PS.imp (ps_expr (sE e x h.1) (noSwap h.1 h.2 none _ X.env)) fun D σ H h => ?_
      obtain ⟨H0, ρ, O, er, w⟩ := h
      unfold wS at w
      exact ⟨H0, ρ, O, er, wE_mono x.mono e ρ _ _ (fun d q v H1 s1 rt _ _ => q σ H1 O (er.go s1) (msk_mono s1)) w⟩
    · cases h
  | .never, st, x, lf, hp, h => ⟨fun pins s σ H D I h => by
    obtain ⟨H0, ρ, O, er, w⟩ := h
    unfold wS at w
    exact w.elim⟩
  | .brk, st, x, lf, hp, h => by
    unfold mS at h
    split at h
    · refine PS.imp ps_break fun D σ H h => ?_
      obtain ⟨H0, ρ, O, er, w⟩ := h
      unfold wS at w
      exact w σ H O er (.refl _)
    · cases h
  | .cont, st, x, lf, hp, h => by
    unfold mS at h
    split at h
    · refine PS.imp ps_continue fun D σ H h => ?_
      obtain ⟨H0, ρ, O, er, w⟩ := h
      unfold wS at w
      exact w σ H O er (.refl _)
    · cases h
theorem sSs : ∀ (s : Ss) {st : List Stmt} (x : XOk g C cf n X) (lf : LocF X X.env.scope) (hp : PassesOwn (model X.prog X.w) X.A X.env X.xe), mSs cf X.N X.env.scope s st = true → PSs X st (tSs g C s)
  | .nil, [], x, lf, hp, h => ss_nil
  | .nil, _ :: _, x, lf, hp, h => by simp [mSs] at h
  | .cons s ss, [], x, lf, hp, h => by simp [mSs] at h
  | .cons s ss, st :: rest, x, lf, hp, h => by
    simp only [mSs, Bool.and_eq_true] at h
    exact ss_cons x.mono (sS s x lf hp h.1) (sSs ss x lf hp h.2)
end
end
end DL
set_option Elab.async false
set_option linter.all false
set_option maxRecDepth 100000
/-! DL18: defs. -/
namespace DL
open PySem PySem.Spec PyProof.Rows L2
section
variable {g : Gx} {P : Program} {w : World} {K : PySem.W.Frag} {mg : Str → Option Value} {base : Heap}
/-- what may be called, where the stack's guards are known -/
structure FnG (P : Program) (w : World) (K : PySem.W.Frag) (mg : Str → Option Value) (base : Heap) (n : Nat) (f : Addr) (sp : List V → Hp → VK → Prop) : Prop where
  keep : PySem.W.keepIn K (.ref f) = true
  run : ∀ (A : Around) (outer : List PySem.Env) (s : Shared) (H : Hp) (us : List Value) (vs : List V) (Q : VK), Room n A → A.guards = some [] → Env0 P w K mg base A outer s H → Vals vs us → sp vs H Q →
    codeAny (model P w) A (.call (.ref f) ⟨us, []⟩) (CR CX0 outer P w H s Q E0) s
theorem FnG.imp {n : Nat} {f : Addr} {sp sp' : List V → Hp → VK → Prop} (F : FnG P w K mg base n f sp) (h : ∀ vs H Q, sp' vs H Q → sp vs H Q) : FnG P w K mg base n f sp' :=
  ⟨F.keep, fun A outer s H us vs Q hr hg e0 r q => F.run A outer s H us vs Q hr hg e0 r (h _ _ _ q)⟩
theorem FnG.mono {j n : Nat} {f : Addr} {sp : List V → Hp → VK → Prop} (F : FnG P w K mg base j f sp) (h : j ≤ n) : FnG P w K mg base n f sp := ⟨F.keep, fun A outer s H us vs Q hr hg e0 r q => F.run A outer s H us vs Q (hr.mono h) hg e0 r q⟩
theorem FnG.callOk {n : Nat} {f : Addr} {sp : List V → Hp → VK → Prop} (F : FnG P w K mg base n f sp) {A : Around} (hr : Room n A) (hg : A.guards = some []) : CallOk P w K mg base A f sp := by
  refine ⟨F.keep, fun X e1 e2 e3 e4 e5 e6 pins s σ H us vs Q I r h => ?_⟩
  subst e1 e2 e3 e4 e5 e6
  refine wpAny_call (codeAny_mono (F.run X.A X.stack s H us vs Q hr hg I.env0 r h) fun r s' hq => ?_)
  cases r with
  | error e => exact False.elim hq
  | ok fl =>
    cases fl with
    | ret u => exact I.after hq
    | next => exact False.elim hq
    | brk => exact False.elim hq
    | cont => exact False.elim hq
/-- a def by its body, where the stack's guards are known -/
theorem fnG_of {n : Nat} {f : Addr} {x qual : Str} {st : Stmt} {fd : FuncData} {N ps : List Str} {sp : List V → Hp → VK → Prop} (F : L2.Fun K x qual st f fd) (b : Binds K fd ps []) (S : FnScope N ps (defScope st)) (len : ∀ vs H Q, sp vs H Q → vs.length = ps.length)
    (hbody : ∀ (cdv : Value) (A : Around) (outer : List PySem.Env) (s : Shared) (H : Hp) (vs : List V) (Q : VK), Room n (A.deeper (envOfC qual (defScope st) s.heap.objs.size f cdv)) → A.guards = some [] → sp vs H Q →
      ∃ t, PSs (cxOf CX0 P w K mg base N qual (defScope st) f cdv A outer s H E0).nox (defBody st) t ∧ t { nx := fun _ H' => Q .non H', rt := Q } (start N vs) H) : FnG P w K mg base (n + 1) f sp :=
  ⟨F.kp, fun A outer s H us vs Q hr hg e0 r hsp => by
    obtain ⟨_, _, _, _, _, _, cdv, _, _, rfl, at_, code⟩ := F.ex
    have n1 := len _ _ _ hsp
    have given := b s us (e0.mod.kin.keeps fun b o e => (e0.bs b o e).1) (by rw [List.append_nil, ← r.length, n1])
    rw [List.append_nil] at given
    refine LamX.run_ofS at_ code S hr e0 given r n1 fun room => ?_
    obtain ⟨t, run, q⟩ := hbody cdv A outer s H vs Q room hg hsp
    exact ⟨t, run.nox, q⟩⟩

/-! ### a def's meaning -/
/-- what the module gives a whole proof -/
structure ModOk (g : Gx) (P : Program) (w : World) (K : PySem.W.Frag) (mg : Str → Option Value) (cf : Cfg) : Prop where
  eP : g.P = P
  ew : g.w = w
  eK : g.K = K
  blt : ∀ x ∈ bltNames, mg x = none
  lits : ∀ x i, cf.cints.lookup x = some i → ∃ t, mg x = some (.int i t)
  fns : ∀ k x, cf.fns[k]? = some x → mg x = some (.ref (g.fa k))
  keep : ∀ k, PySem.W.keepIn K (.ref (g.fa k)) = true
  cls : (∃ x, cf.fns.contains x = true ∧ x = ("Family" : Str)) → Cls K g.C ∧ NoAttr K g.C ("points" : Str) ∧ NoAttr K g.C ("lots" : Str)
/-- what may be called, wherever there is room -/
def CallAt (P : Program) (w : World) (K : PySem.W.Frag) (mg : Str → Option Value) (base : Heap) (n : Nat) (f : Addr) (sp : List V → Hp → VK → Prop) : Prop := ∀ A : Around, Room n A → A.guards = some [] → CallOk P w K mg base A f sp
theorem FnG.at_ {n : Nat} {f : Addr} {sp : List V → Hp → VK → Prop} (F : FnG P w K mg base n f sp) : CallAt P w K mg base n f sp := fun A hr hg => F.callOk hr hg
theorem CallAt.mono {j n : Nat} {f : Addr} {sp : List V → Hp → VK → Prop} (F : CallAt P w K mg base j f sp) (h : j ≤ n) : CallAt P w K mg base n f sp := fun A hr hg => F A (hr.mono h) hg
theorem CallAt.imp {n : Nat} {f : Addr} {sp sp' : List V → Hp → VK → Prop} (F : CallAt P w K mg base n f sp) (h : ∀ vs H Q, sp' vs H Q → sp vs H Q) : CallAt P w K mg base n f sp' := fun A hr hg =>
  ⟨(F A hr hg).keep, fun X e1 e2 e3 e4 e5 e6 pins s σ H us vs Q I r q => (F A hr hg).run X e1 e2 e3 e4 e5 e6 pins s σ H us vs Q I r (h _ _ _ q)⟩
/-- every def of the table at a level -/
def AllOk (g : Gx) (P : Program) (w : World) (K : PySem.W.Frag) (mg : Str → Option Value) (base : Heap) (cf : Cfg) (tab : Nat → FD) (n : Nat) : Prop :=
  (∀ k x, cf.fns[k]? = some x → CallAt P w K mg base (2 * n + 2) (g.fa k) (spC g (wC tab n k))) ∧ ∃ f, mg ("_law_some" : Str) = some (.ref f) ∧ CallAt P w K mg base (2 * n + 2) f (spSome g)
theorem xok {cf : Cfg} {tab : Nat → FD} {n : Nat} (M : ModOk g P w K mg cf) (A0 : AllOk g P w K mg base cf tab n) (dom : ∀ k, cf.fns[k]? = none → ∀ n ds Q, ¬ wC tab n k ds Q) {X : Cx} (e1 : X.prog = P) (e2 : X.w = w) (e3 : X.K = K) (e4 : X.mg = mg) (e5 : X.base = base) (hc : X.calm = true) (hr : Room (2 * n + 2) X.A) (hg : X.A.guards = some []) (nd : X.N.Nodup) :
    XOk g (wC tab n) cf (2 * n + 2) X where
  gx := ⟨by rw [M.eP, e1], by rw [M.ew, e2], by rw [M.eK, e3]⟩
  mono := wC_mono tab n
  calm := hc
  room := hr
  gd := hg
  nd := nd
  blt := by rw [e4]; exact M.blt
  lits := by rw [e4]; exact M.lits
  fns := fun k x h => by
    rw [e1, e2, e3, e4, e5]
    exact ⟨M.fns k x h, A0.1 k x h _ hr hg⟩
  keep := by rw [e3]; exact M.keep
  dom := fun k ds Q h => by
    cases q : cf.fns[k]? with
    | none => exact absurd h (dom k q n ds Q)
    | some x => exact ⟨x, rfl⟩
  sm := by
    obtain ⟨f, h1, h2⟩ := A0.2
    rw [e1, e2, e3, e4, e5]
    exact ⟨f, h1, h2 _ hr hg⟩
  cls := by rw [e3]; exact M.cls
theorem RpAll.at0 {H : Hp} : ∀ {vs : List V} {ds : List D} {i : Nat} {s : Option Sl}, RpAll g H vs ds → (ds.map (fun d => some (Sl.frz d)))[i]? = some s → ∃ d v, s = some (.frz d) ∧ vs[i]? = some v ∧ Rp g H v d
  | _, _, _, _, .nil, h => by simp at h
  | _, _, 0, _, .cons h r, e => by simp at e; exact ⟨_, _, e.symm, rfl, h⟩
  | _, _, i + 1, _, .cons h r, e => RpAll.at0 (i := i) r (by simpa using e)
/-- a def's slots at its entry -/
theorem er_start {H : Hp} {N : List Str} {vs : List V} {ds : List D} (r : RpAll g H vs ds) (hn : ds.length ≤ N.length) : ER g H (start0 N.length ds) (start N vs) H [] := by
  have hl := r.length
  have key : ∀ i s, Env.at (start0 N.length ds) i = some s → ∃ d v, s = .frz d ∧ (start N vs)[i]? = some (some v) ∧ Rp g H v d := fun i s h => by
    unfold Env.at start0 at h
    by_cases hi : i < ds.length
    · rw [List.getElem?_append_left (by simpa using hi)] at h
      cases q : (ds.map (fun d => some (Sl.frz d)))[i]? with
      | none => rw [q] at h; cases h
      | some o =>
        obtain ⟨d, v, e1, e2, e3⟩ := r.at0 q
        rw [q, e1] at h
        cases h
        refine ⟨d, v, rfl, ?_, e3⟩
        unfold L2.start
        rw [List.getElem?_append_left (by simp; omega), List.getElem?_map, e2]
        rfl
    · rw [List.getElem?_append_right (by simp; omega), List.getElem?_replicate] at h
      split at h <;> cases h
  refine ⟨?_, fun i d h => ?_, fun i d h => ?_, fun i j d e a h _ _ _ => ?_, fun a ha => (by cases ha), .refl _⟩
  · unfold L2.start start0
    simp only [List.length_append, List.length_map, List.length_replicate]
    omega
  · obtain ⟨d', v, e1, e2, e3⟩ := key i _ h
    cases e1
    rw [msk_nil]
    exact ⟨v, e2, e3⟩
  · obtain ⟨d', v, e1, _⟩ := key i _ h
    cases e1
  · obtain ⟨d', v, e1, _⟩ := key i _ h
    cases e1
theorem body_ok {cf : Cfg} {tab : Nat → FD} {n : Nat} (M : ModOk g P w K mg cf) (A0 : AllOk g P w K mg base cf tab n) (dom : ∀ k, cf.fns[k]? = none → ∀ n ds Q, ¬ wC tab n k ds Q) {f : Addr} {np ns : Nat} {B : Ss} {x : Str} {st : Stmt} {fd : FuncData} {N ps : List Str}
    (F : L2.Fun K x x st f fd) (b : Binds K fd ps []) (S : FnScope N ps (defScope st)) (chk : mSs cf N (defScope st) B (defBody st) = true) (hN : N.length = ns) (hp : ps.length = np) :
    FnG P w K mg base (2 * n + 3) f (spC g fun ds Q => ds.length = np ∧ wSs (wC tab n) B (start0 ns ds) { nx := fun _ => Q .none, rt := fun _ => Q, bk := fun _ => False, ct := fun _ => False }) := by
  refine fnG_of F b S (fun vs H Q h => ?_) fun cdv A outer s H vs Q hr hg h => ?_
  · obtain ⟨ds, r, h⟩ := h
    rw [r.length, h.1, hp]
  · obtain ⟨ds, r, h⟩ := h
    obtain ⟨hl, h⟩ := h
    have hpl : ps.length ≤ N.length := by have := congrArg List.length S.pre; rw [List.length_take] at this; omega
    refine ⟨tSs g (wC tab n) B, sSs B (xok M A0 dom rfl rfl rfl rfl rfl rfl hr hg S.nd) (fun y hy => ⟨loc_of (X := (cxOf CX0 P w K mg base N x (defScope st) f cdv A outer s H E0).nox) rfl hy, .inl rfl⟩) PassesOwn.never chk, ?_⟩
    refine ⟨H, start0 ns ds, [], by rw [← hN]; exact er_start r (by omega), wSs_mono (wC_mono tab n) B _ { nx := fun _ => GivesR g H .none Q, rt := fun _ d => GivesR g H d Q, bk := fun _ => False, ct := fun _ => False } (EnOf g H (msk [] H) { nx := fun _ H' => Q .non H', rt := Q }) ⟨fun ρ q => ?_, fun ρ d q => q.toE, fun ρ q => q.elim, fun ρ q => q.elim⟩ h⟩
    intro σ' H' O' er' _
    exact q .non H' er'.same (fun O _ => .non) (TopNew.imm rfl)
theorem def_ok {cf : Cfg} {tab : Nat → FD} {n : Nat} (M : ModOk g P w K mg cf) (A0 : AllOk g P w K mg base cf tab n) (dom : ∀ k, cf.fns[k]? = none → ∀ n ds Q, ¬ wC tab n k ds Q) {k np ns : Nat} {B : Ss} (ht : tab k = .body np ns B) {x : Str} {st : Stmt} {fd : FuncData} {N ps : List Str}
    (F : L2.Fun K x x st (g.fa k) fd) (b : Binds K fd ps []) (S : FnScope N ps (defScope st)) (chk : mSs cf N (defScope st) B (defBody st) = true) (hN : N.length = ns) (hp : ps.length = np) : FnG P w K mg base (2 * n + 3) (g.fa k) (spC g (wC tab (n + 1) k)) :=
  (body_ok M A0 dom F b S chk hN hp).imp fun vs H Q h => by
    obtain ⟨ds, r, h⟩ := h
    unfold wC at h
    rw [ht] at h
    exact ⟨ds, r, h⟩
end
end DL
set_option Elab.async false
set_option linter.all false
set_option maxRecDepth 100000
/-! DL19: the law's own draws. -/
namespace DL
open PySem PySem.Spec PyProof.Rows L2
def topS (i : Nat) : Stmt := PySem.Challenge.pw_familyworks_k16_whole_fewer_questions_th.main.body.getD i (.Pass ⟨0, 0, 0, 0⟩)
abbrev sDraw : Stmt := topS 38
theorem scDraw : FnScope ["hand", "many", "cell", "digit", "number"] ["hand", "many"] (defScope sDraw) := ⟨rfl, rfl, rfl, by decide +kernel, rfl, by decide +kernel, by decide +kernel⟩
section
variable {g : Gx} {P : Program} {w : World} {K : PySem.W.Frag} {mg : Str → Option Value} {base : Heap}
theorem draw_inv {C : Calls} {ds : List D} {Q : D → Prop} (h : primW C .draw ds Q) : ∃ n : Int, ds = [DL.hand, .int n] ∧ 0 < n ∧ n < 2 ^ 30 ∧ ∀ r : Int, 0 ≤ r → r < n → Q (.int r) := by
  match ds, h with
  | [x, .int n], h =>
    obtain ⟨rfl, h1, h2, h3⟩ := h
    exact ⟨n, rfl, h1, h2, h3⟩
/-- the hand's list -/
def Hand5 (c : Addr) (m : Nat) (L : List V) : Prop := ∃ p g x k : Int, L = [.ref c, .int p, .int g, .int x, .int k] ∧ 0 ≤ p ∧ p ≤ m ∧ 0 ≤ g
def Vw (a c : Addr) (m : Nat) (D : Ends) : Ends := { nx := fun _ _ => False, rt := fun v H' => (∃ L, Hand5 c m L ∧ H' a = some (.lst L)) ∧ D.rt v (upd H' a (HandO a c m)) }
/-- the hand looked at as a list -/
theorem view_hand {X : Cx} {body : List Stmt} {t0 : TS} (hb : PSs X body t0) : PSs X body (fun D σ H => ∃ a c m, H a = some (HandO a c m) ∧ ∀ L, Hand5 c m L → t0 (Vw a c m D) σ (upd H a (.lst L))) := by
  refine ⟨fun pins s σ H D I h => ?_⟩
  obtain ⟨a, c, m, ha, q⟩ := h
  obtain ⟨⟨its, nn, p, g', x, k, hget, hv, h1, h2, h3⟩, _, _⟩ := I.hok a _ ha
  have I1 : Inv X pins σ (upd H a (.lst [.ref c, .int p, .int g', .int x, .int k])) { s with heap := s.heap, toks := s.toks } :=
    I.write (x := a) (e := a) (by rw [ha]; trivial) (.inl rfl) (fun b u _ e => e) ⟨_, hget⟩ ⟨by show 5 ≤ sizeLine; decide, its, nn, hv, hget⟩
  refine thn (hb.run pins s σ _ (Vw a c m D) I1 (q _ ⟨p, g', x, k, rfl, h1, h2, h3⟩)) fun fl s' hs => ?_
  cases fl with
  | next => obtain ⟨_, _, _, q⟩ := hs; exact q.elim
  | brk => obtain ⟨_, _, _, q⟩ := hs; exact q.elim
  | cont => obtain ⟨_, _, _, q⟩ := hs; exact q.elim
  | ret u =>
    obtain ⟨v, σ', H', J, rv, ⟨L, ⟨p', g2, x', k', rfl, h1', h2', h3'⟩, hl⟩, q⟩ := hs
    obtain ⟨_, its', n', rv', e'⟩ := J.hok a _ hl
    refine ⟨v, σ', upd H' a (HandO a c m), ?_, rv, q⟩
    refine J.write (x := a) (e := a) (h' := s'.heap) (t' := s'.toks) (by rw [hl]; trivial) (.inl rfl) (fun b u _ e => e) ⟨_, e'⟩ ⟨?_, ⟨_, e'⟩, ?_⟩
    · exact ⟨its', n', p', g2, x', k', e', rv', h1', h2', h3'⟩
    · rintro y1 y2 ⟨j1, j2, j3, j4, j5, j6, z1, z2⟩ hk
      exact ⟨j1, j2, j3, j4, j5, j6, hk _ z1, z2⟩
theorem upd_upd {H : Hp} {a : Addr} {o o' : HO} : upd (upd H a o) a o' = upd H a o' := by
  funext b
  by_cases h : b = a
  · subst h; rw [upd_same, upd_same]
  · rw [upd_ne h, upd_ne h, upd_ne h]
theorem ev_ix {K : PySem.W.Frag} {σ : L2.St} {H : Hp} {Q : VK} {a : Addr} {L : List V} {j : Int} {v : V} (hs : σ[0]? = some (some (.ref a))) (hH : H a = some (.lst L)) (hv : atI L j = some v) (q : Q v H) : tOp (rIxL K) (tVar 0) (tC (.int j)) σ H Q :=
  ⟨.ref a, hs, a, L, j, v, rfl, rfl, .of hH, hv, q⟩
theorem ev_set {σ : L2.St} {H : Hp} {Q : L2.St → Hp → Prop} {a : Addr} {L : List V} {j : Int} {jn : Nat} {v : V} (hs : σ[0]? = some (some (.ref a))) (hj : ixN L.length j = some jn) (q : Q σ (upd H a (.lst (L.set jn v)))) : gSub (tVar 0) (tC (.int j)) rSetL v σ (upd H a (.lst L)) Q :=
  ⟨.ref a, hs, a, L, j, jn, rfl, rfl, upd_same, hj, by rw [upd_upd]; exact q⟩
/-- the hand's place, its list, the answer's bound -/
def HSt (H : Hp) (a c : Addr) (m : Nat) (many : Int) (D : Ends) (σ : L2.St) (H' : Hp) : Prop :=
  ∃ p g x k s2 s3 s4, σ = [some (.ref a), some (.int many), s2, s3, s4] ∧ H' = upd H a (.lst [.ref c, .int p, .int g, .int x, .int k]) ∧ (0 ≤ p ∧ p ≤ m ∧ 0 ≤ g) ∧ 0 < many ∧ many < 2 ^ 30 ∧ ∀ (L : List V) (r : Int), Hand5 c m L → 0 ≤ r → r < many → D.rt (.int r) (upd H a (.lst L))
theorem tail_draw {X : Cx} {H : Hp} {a c : Addr} {m : Nat} {many : Int} (hn : X.N = [("hand" : Str), ("many" : Str), ("cell" : Str), ("digit" : Str), ("number" : Str)]) (he : X.env.scope = defScope sDraw) (mi : X.mg "int" = none) (hf : ∀ y, X.fn y = true) : PSs X ((defBody sDraw).drop 1) (HSt H a c m many) := by
  have nd : X.N.Nodup := by rw [hn]; exact scDraw.nd
  have vis : ∀ {i : Nat} {y : Str}, ([("hand" : Str), ("many" : Str), ("cell" : Str), ("digit" : Str), ("number" : Str)] : List Str)[i]? = some y → X.N[i]? = some y := fun h => by rw [hn]; exact h
  have vs : ∀ {y : Str}, (defScope sDraw).names.lookup y = some .local → Vis X.env.scope y := fun h => .inl (by rw [he]; exact h)
  have lc : ∀ {y : Str}, (defScope sDraw).names.lookup y = some .local → L2.Loc X.env.scope y := fun h => .inl (by rw [he]; exact h)
  have gi : Gl X "int" := by show X.env.scope.names.lookup ("int" : Str) = _; rw [he]; rfl
  have hd : ∀ {p : Pos}, PE X (.Name "hand" p) (tVar 0) := pe_var (vis rfl) (vs rfl)
  have hm : ∀ {p : Pos}, PE X (.Name "many" p) (tVar 1) := pe_var (vis rfl) (vs rfl)
  have hg : ∀ {p : Pos}, PE X (.Name "digit" p) (tVar 3) := pe_var (vis rfl) (vs rfl)
  have hu : ∀ {p : Pos}, PE X (.Name "number" p) (tVar 4) := pe_var (vis rfl) (vs rfl)
  refine PSs.imp (pss_cons (ps_if (pt_cmpR op_gt (pe_ix ix_list hd pe_int (fun _ _ => rfl)) pe_int (nomark _))
        (pss_cons (ps_set (i := 3) nd (vis rfl) (lc rfl) (pe_op op_mod (pe_callTy call_int1 gi mi bt_int (pa_cons (pe_ix ix_list hd pe_int (fun _ _ => rfl)) pa_nil)) hm) (by rfl) (.inl (hf _)))
          (pss_cons (ps_asg (pe_op op_fdiv (pe_ix ix_list hd pe_int (fun _ _ => rfl)) hm) (pg_sub hd pe_int set_list))
          (pss_one (ps_ret hg)))) pss_nil)
      (pss_cons (ps_asg (pe_op op_add (pe_ix ix_list hd pe_int (fun _ _ => rfl)) pe_int) (pg_sub hd pe_int set_list))
      (pss_cons (ps_set (i := 4) nd (vis rfl) (lc rfl) (pe_op op_mod (pe_callTy call_int1 gi mi bt_int (pa_cons (pe_op op_mul (pe_callTy call_int1 gi mi bt_int (pa_cons (pe_op op_add (pe_ix ix_list hd pe_int (fun _ _ => rfl)) (pe_op op_mul pe_int (pe_ix ix_list hd pe_int (fun _ _ => rfl)))) pa_nil)) pe_int) pa_nil)) pe_int) (by rfl) (.inl (hf _)))
      (pss_cons (ps_set (i := 4) nd (vis rfl) (lc rfl) (pe_op op_mod (pe_callTy call_int1 gi mi bt_int (pa_cons (pe_op op_mul hu (pe_op op_add (pe_op op_fdiv hu pe_int) pe_int)) pa_nil)) pe_int) (by rfl) (.inl (hf _)))
      (pss_cons (ps_set (i := 4) nd (vis rfl) (lc rfl) (pe_op op_mod (pe_callTy call_int1 gi mi bt_int (pa_cons (pe_op op_mul hu (pe_op op_add (pe_op op_fdiv hu pe_int) pe_int)) pa_nil)) pe_int) (by rfl) (.inl (hf _)))
      (pss_one (ps_ret (pe_op op_mod (pe_callTy call_int1 gi mi bt_int (pa_cons (pe_op op_fdiv hu pe_int) pa_nil)) hm)))))))) fun D σ H' h => ?_
  obtain ⟨p, g, x, k, s2, s3, s4, rfl, rfl, ⟨p0, p1, g0⟩, q1, q2, q⟩ := h
  have md : ∀ z : Int, 0 ≤ z % many ∧ z % many < many := fun z => ⟨Int.emod_nonneg _ (by omega), Int.emod_lt_of_pos _ q1⟩
  refine ev_ix (a := a) rfl upd_same (v := .int g) rfl ⟨g, 0, rfl, rfl, _, rfl, ?_⟩
  by_cases hg0 : (0 : Int) < g
  · rw [decide_eq_true hg0]
    refine iteT ?_
    refine ev_ix (a := a) rfl upd_same (v := .int g) rfl (.inl ⟨g, rfl, .int many, rfl, g, many, rfl, rfl, q1, ?_⟩)
    refine ev_ix (a := a) rfl upd_same (v := .int g) rfl ⟨.int many, rfl, g, many, rfl, rfl, ⟨q1, by omega⟩, ?_⟩
    refine ev_set rfl (jn := 2) rfl ⟨.int (g % many), rfl, ?_⟩
    exact q _ _ ⟨p, g / many, x, k, rfl, p0, p1, Int.ediv_nonneg g0 (by omega)⟩ (md g).1 (md g).2
  · rw [decide_eq_false hg0]
    refine iteF ?_
    refine ev_ix (a := a) rfl upd_same (v := .int k) rfl ⟨k, 1, rfl, rfl, ?_⟩
    refine ev_set rfl (jn := 4) rfl ?_
    refine ev_ix (a := a) rfl upd_same (v := .int x) rfl (ev_ix (a := a) rfl upd_same (v := .int (k + 1)) rfl ?_)
    have bd : ∀ z : Int, -(2 ^ 64) < z % 2147483647 ∧ z % 2147483647 < 2 ^ 64 := fun z => by
      have h1 := Int.emod_nonneg z (show (2147483647 : Int) ≠ 0 by decide)
      have h2 := Int.emod_lt_of_pos z (show (0 : Int) < 2147483647 by decide)
      omega
    refine ⟨7919, k + 1, rfl, rfl, .inl ⟨by decide, by decide⟩, x, _, rfl, rfl, .inl ⟨_, rfl, _, 48271, rfl, rfl, .inr ⟨by decide, by decide⟩, .inl ⟨_, rfl, _, 2147483647, rfl, rfl, (show (0 : Int) < 2147483647 by decide), ?_⟩⟩⟩
    refine ⟨.int _, rfl, .int _, rfl, _, 1009, rfl, rfl, ⟨by decide, by decide⟩, _, 69621, rfl, rfl, _, _, rfl, rfl, .inl (bd _), .inl ⟨_, rfl, _, 2147483647, rfl, rfl, (show (0 : Int) < 2147483647 by decide), ?_⟩⟩
    refine ⟨.int _, rfl, .int _, rfl, _, 2003, rfl, rfl, ⟨by decide, by decide⟩, _, 40014, rfl, rfl, _, _, rfl, rfl, .inl (bd _), .inl ⟨_, rfl, _, 2147483563, rfl, rfl, (show (0 : Int) < 2147483563 by decide), ?_⟩⟩
    refine ⟨.int _, rfl, _, 16, rfl, rfl, ⟨by decide, by decide⟩, .inl ⟨_, rfl, .int many, rfl, _, many, rfl, rfl, q1, ?_⟩⟩
    exact q _ _ ⟨p, g, x, k + 1, rfl, p0, p1, g0⟩ (md _).1 (md _).2
theorem ok_draw {n : Nat} {f : Addr} {fd : FuncData} (F : L2.Fun K "_law_draw" "_law_draw" sDraw f fd) (b : Binds K fd ["hand", "many"] []) (ml : mg "len" = none) (mi : mg "int" = none) (C : Calls) : FnG P w K mg base (n + 1) f (spC g (primW C .draw)) := by
  refine fnG_of F b scDraw (fun vs H Q h => ?_) fun cdv A outer s H vs Q hr hg h => ?_
  · obtain ⟨ds, r, h⟩ := h
    rw [r.length]
    obtain ⟨n', rfl, _⟩ := draw_inv h
    rfl
  · obtain ⟨ds, r, h⟩ := h
    obtain ⟨a, c, cs, many, rfl, ha, hc, hn, q1, q2, q⟩ : ∃ (a c : Addr) (cs : List Int) (many : Int), vs = [.ref a, .int many] ∧ H a = some (HandO a c cs.length) ∧ H c = some (.lst (cs.map V.int)) ∧ (∀ x ∈ cs, 0 ≤ x) ∧ 0 < many ∧ many < 2 ^ 30 ∧ ∀ r : Int, 0 ≤ r → r < many → GivesR g H (.int r) Q := by
      obtain ⟨many, rfl, h1, h2, h3⟩ := draw_inv h
      cases r with
      | cons r1 r =>
        cases r with
        | cons r2 r =>
          cases r
          cases r2
          cases r1 with
          | hnd h hc hn => exact ⟨_, _, _, many, rfl, h, hc, hn, h1, h2, h3⟩
    have nca : c ≠ a := fun z => by
      rw [z, ha] at hc
      cases hc
    refine ⟨_, view_hand (pss_cons (ps_if (pw_and (pt_cmpR op_eq (pe_ix ix_list (pv 0) pe_int (fun _ _ => rfl)) pe_int (nomark _)) (pw_and1 (pt_cmpR op_lt (pe_ix ix_list (pv 0) pe_int (fun _ _ => rfl)) (pe_callB call_len_seq (by rfl) ml bt_len (pa_cons (pe_ix ix_list (pv 0) pe_int (fun _ _ => rfl)) pa_nil)) (nomark _)))).pt
        (pss_cons (ps_set (i := 2) scDraw.nd rfl (.inl rfl) (pe_ix ix_list (pe_ix ix_list (pv 0) pe_int (fun _ _ => rfl)) (pe_ix ix_list (pv 0) pe_int (fun _ _ => rfl)) (fun _ _ => rfl)))
          (pss_cons (ps_asg (pe_op op_add (pe_ix ix_list (pv 0) pe_int (fun _ _ => rfl)) pe_int) (pg_sub (pv 0) pe_int set_list))
          (pss_cons (ps_asg (pe_op op_mod (pe_callTy call_int1 (by rfl) mi bt_int (pa_cons (pe_op op_add (pe_op op_add (pe_op op_mul (pe_ix ix_list (pv 0) pe_int (fun _ _ => rfl)) pe_int) (pe_op op_mul (pv 2) pe_int)) pe_int) pa_nil)) pe_int) (pg_sub (pv 0) pe_int set_list))
          (pss_one (ps_if (pt_cmpR op_ge (pv 2) (pe_op op_pow pe_int pe_int) (nomark _)) (pss_one (ps_asg (pv 2) (pg_sub (pv 0) pe_int set_list))) pss_nil))))) pss_nil)
      (tail_draw (H := H) (a := a) (c := c) (m := cs.length) (many := many) rfl rfl mi (fun _ => rfl))), ?_⟩
    refine ⟨a, c, cs.length, ha, fun L hL => ?_⟩
    obtain ⟨p, g0, x, k, rfl, p0, p1, g00⟩ := hL
    -- the end: an answer
    have fin : ∀ (L : List V) (r : Int), Hand5 c cs.length L → 0 ≤ r → r < many → (Vw a c cs.length { nx := fun _ H' => Q .non H', rt := Q }).rt (.int r) (upd H a (.lst L)) := fun L r hL r0 r1 => by
      refine ⟨⟨L, hL, upd_same⟩, ?_⟩
      refine q r r0 r1 (.int r) _ (fun b o e => ?_) (fun O _ => .int r) (TopNew.imm rfl)
      by_cases z : b = a
      · subst z
        rw [upd_same, ← e, ha]
      · rw [upd_ne z, upd_ne z]
        exact e
    have hcc : ∀ L, (upd H a (.lst L)) c = some (.lst (cs.map V.int)) := fun L => by rw [upd_ne nca]; exact hc
    have go : ∀ (p g x k : Int) (s2 s3 s4 : Option V), 0 ≤ p → p ≤ cs.length → 0 ≤ g → HSt H a c cs.length many (Vw a c cs.length { nx := fun _ H' => Q .non H', rt := Q }) [some (.ref a), some (.int many), s2, s3, s4] (upd H a (.lst [.ref c, .int p, .int g, .int x, .int k])) :=
      fun p g x k s2 s3 s4 h1 h2 h3 => ⟨p, g, x, k, s2, s3, s4, rfl, rfl, ⟨h1, h2, h3⟩, q1, q2, fin⟩
    refine ev_ix (a := a) rfl upd_same (v := .int g0) rfl ⟨rfl, ?_⟩
    refine ⟨_, rfl, ?_⟩
    by_cases hg0 : (g0 : Int) = 0
    · rw [show decide (V.int g0 = V.int 0) = true from by rw [hg0]; rfl]
      refine iteT ?_
      refine ev_ix (a := a) rfl upd_same (v := .int p) rfl ?_
      refine ev_ix (a := a) rfl upd_same (v := .ref c) rfl ⟨c, cs.map V.int, rfl, .inl (.of (hcc _)), p, _, rfl, rfl, _, rfl, ?_⟩
      by_cases hp : p < ((cs.map V.int).length : Int)
      · rw [decide_eq_true hp]
        refine iteT ?_
        rw [List.length_map] at hp
        have hpn : p.toNat < cs.length := by omega
        have hcell : (cs.map V.int)[p.toNat]? = some (.int cs[p.toNat]) := by rw [List.getElem?_map, List.getElem?_eq_getElem hpn]; rfl
        have hat : atI (cs.map V.int) p = some (.int cs[p.toNat]) := by
          have := atI_nat (j := p.toNat) hcell
          rwa [Int.toNat_of_nonneg p0] at this
        refine ev_ix (a := a) rfl upd_same (v := .ref c) rfl (ev_ix (a := a) rfl upd_same (v := .int p) rfl ⟨c, cs.map V.int, p, _, rfl, rfl, .of (hcc _), hat, ?_⟩)
        refine ev_ix (a := a) rfl upd_same (v := .int p) rfl ⟨p, 1, rfl, rfl, ?_⟩
        refine ev_set rfl (jn := 1) rfl ?_
        refine ev_ix (a := a) rfl upd_same (v := .int x) rfl ⟨x, 69621, rfl, rfl, .inr ⟨by decide, by decide⟩, .int _, rfl, _, 48271, rfl, rfl, .inr ⟨by decide, by decide⟩, _, _, rfl, rfl, _, 103, rfl, rfl, .inl ⟨_, rfl, _, 2147483629, rfl, rfl, (show (0 : Int) < 2147483629 by decide), ?_⟩⟩
        refine ev_set rfl (jn := 3) rfl ?_
        refine ⟨.int _, rfl, 10, 18, rfl, rfl, ⟨by decide, by decide, by decide⟩, cs[p.toNat], _, rfl, rfl, _, rfl, ite2 (fun _ => ?_) fun _ => ?_⟩
        · refine ⟨.int cs[p.toNat], rfl, ?_⟩
          refine ev_set rfl (jn := 2) rfl ?_
          exact go (p + 1) cs[p.toNat] _ k _ _ _ (by omega) (by omega) (hn _ (List.getElem_mem hpn))
        · exact go (p + 1) g0 _ k _ _ _ (by omega) (by omega) g00
      · rw [decide_eq_false hp]
        exact iteF (go p g0 x k _ _ _ p0 p1 g00)
    · rw [show decide (V.int g0 = V.int 0) = false from decide_eq_false fun z => hg0 (V.int.inj z)]
      exact iteF (iteF (go p g0 x k _ _ _ p0 p1 g00))
end
end DL

set_option Elab.async false
set_option linter.all false
set_option maxRecDepth 100000
/-! DL20: an item drawn, the hand, a family. -/
namespace DL
open PySem PySem.Spec PyProof.Rows L2
section
variable {X : Cx}
theorem pe_cok {f : Addr} {sp : List V → Hp → VK → Prop} {y : Str} {p pos : Pos} {z : Expr} {l : List Expr} {t : TA} (co : CallOk X.prog X.w X.K X.mg X.base X.A f sp) (hg : Gl X y) (hm : X.mg y = some (.ref f)) (hes : PA X (z :: l) t) (hd : (y == ("__debug__" : Str)) = false := by decide)
    (he : starEach (z :: l) X.env = (false, eval z X.env) :: starEach l X.env := by rfl) (hpl : (backTo pos (starEach l X.env)).any (·.1) = false := by rfl) : PE X (.Call (.Name y p) (z :: l) [] pos) (tCB sp t) := by
  refine ⟨fun pins s σ H Q I h => ?_⟩
  refine wpAny_Call_Name_kw (ld_glob I hg hm ?_ hd)
  refine PySem.W.callWith_K (h₀ := X.base) I.ok.mod.kin co.keep (thn (hes.run pos pins s σ H _ I h) fun us s2 ⟨vs, H2, I2, r, q⟩ => ⟨I2.kIn, ?_⟩) he hpl
  exact co.run X rfl rfl rfl rfl rfl rfl pins s2 σ H2 us vs Q I2 r q
/-- len, with the bound that every sequence keeps -/
theorem cr_lenZ : CallR X (.builtin "len") (fun xs H Q => ∃ p ys, xs = [.ref p] ∧ (SqL X.K H p ys ∨ SqT X.K H p ys) ∧ (ys.length ≤ sizeLine → Q (.int ys.length) H)) := by
  intro pins s σ H xs us Q I r h
  obtain ⟨p, ys, rfl, hq, q⟩ := h
  have hz : ys.length ≤ sizeLine := by
    rcases hq with h | h
    · obtain ⟨_, _, _, z⟩ := I.list h; exact z
    · obtain ⟨_, _, _, z⟩ := I.tuple h; exact z
  exact call_len_seq pins s σ H _ us Q I r ⟨p, ys, rfl, hq, q hz⟩
theorem ix_seq : IxR X (fun x y H Q => rIxL X.K x y H Q ∨ rIxT X.K x y H Q) := by
  intro value slice pins s σ H x y v u Q I rx ry h hs
  rcases h with h | h
  · exact ix_list value slice pins s σ H x y v u Q I rx ry h hs
  · exact ix_tup value slice pins s σ H x y v u Q I rx ry h hs
end
theorem OwO.nil {H : Hp} : OwO [] H := ⟨fun _ h => (by cases h), fun _ h => (by cases h)⟩
abbrev sSome : Stmt := topS 39
theorem scSome : FnScope ["hand", "things"] ["hand", "things"] (defScope sSome) := ⟨rfl, rfl, rfl, by decide +kernel, rfl, by decide +kernel, by decide +kernel⟩
section
variable {g : Gx} {P : Program} {w : World} {K : PySem.W.Frag} {mg : Str → Option Value} {base : Heap}
theorem ok_some {n : Nat} {f fD : Addr} {fd : FuncData} (F : L2.Fun K "_law_some" "_law_some" sSome f fd) (b : Binds K fd ["hand", "things"] []) (ml : mg "len" = none) (mD : mg "_law_draw" = some (.ref fD)) {C : Calls} (FD : FnG P w K mg base n fD (spC g (primW C .draw))) : FnG P w K mg base (n + 1) f (spSome g) := by
  refine fnG_of F b scSome (fun vs H Q h => ?_) fun cdv A outer s H vs Q hr hg h => ?_
  · obtain ⟨x, a, xs, rfl, _⟩ := h
    rfl
  · obtain ⟨x, a, xs, rfl, hx, ha, hne, q⟩ := h
    refine ⟨_, pss_one (ps_ret (pe_ix ix_seq (pv 1) (pe_cok (FD.callOk hr hg) (by rfl) mD (pa_cons (pv 0) (pa_cons (pe_callB cr_lenZ (by rfl) ml bt_len (pa_cons (pv 1) pa_nil)) pa_nil))) (fun _ _ => rfl))), ?_⟩
    have hsq : SqL K H a xs ∨ SqT K H a xs := ha.imp .of .of
    refine ⟨.ref a, rfl, x, rfl, .ref a, rfl, a, xs, rfl, hsq, fun hz => ?_⟩
    have hlen : 0 < xs.length := List.length_pos_iff.mpr hne
    refine ⟨[hand, .int xs.length], .cons hx (.cons (.int _) .nil), rfl, by omega, by unfold sizeLine at hz; omega, fun r r0 r1 => ?_⟩
    intro v H' s' rv _
    have ev : v = .int r := by
      have := rv [] OwO.nil
      cases this; rfl
    subst ev
    have hi : r.toNat < xs.length := by omega
    have hat : atI xs r = some xs[r.toNat] := by
      have := atI_nat (j := r.toNat) (List.getElem?_eq_getElem hi)
      rwa [Int.toNat_of_nonneg r0] at this
    rcases ha with h | h
    · exact .inl ⟨a, xs, r, _, rfl, rfl, .of (s' _ _ h), hat, q r.toNat _ H' (List.getElem?_eq_getElem hi) s'⟩
    · exact .inr ⟨a, xs, r, _, rfl, rfl, .of (s' _ _ h), hat, q r.toNat _ H' (List.getElem?_eq_getElem hi) s'⟩
end
abbrev sHand : Stmt := topS 37
theorem scHand : FnScope ["script", "salt", "cells", "cell"] ["script", "salt"] (defScope sHand) := ⟨rfl, rfl, rfl, by decide +kernel, rfl, by decide +kernel, by decide +kernel⟩
/-- a list that becomes a hand -/
theorem mk_hand {X : Cx} {body : List Stmt} {t0 : TS} (hb : PSs X body t0) : PSs X body (fun D σ H => t0 { nx := fun _ _ => False, rt := fun v H' => ∃ (p c : Addr) (m : Nat) (x : Int), v = .ref p ∧ H' p = some (.lst [.ref c, .int 0, .int 0, .int x, .int 0]) ∧ D.rt v (upd H' p (HandO p c m)) } σ H) := by
  refine ⟨fun pins s σ H D I h => ?_⟩
  refine thn (hb.run pins s σ _ _ I h) fun fl s' hs => ?_
  cases fl with
  | next => obtain ⟨_, _, _, q⟩ := hs; exact q.elim
  | brk => obtain ⟨_, _, _, q⟩ := hs; exact q.elim
  | cont => obtain ⟨_, _, _, q⟩ := hs; exact q.elim
  | ret u =>
    obtain ⟨v, σ', H', J, rv, p, c, m, x, rfl, hl, q⟩ := hs
    obtain ⟨_, its', n', rv', e'⟩ := J.hok p _ hl
    refine ⟨.ref p, σ', upd H' p (HandO p c m), ?_, rv, q⟩
    refine J.write (x := p) (e := p) (h' := s'.heap) (t' := s'.toks) (by rw [hl]; trivial) (.inl rfl) (fun b u _ e => e) ⟨_, e'⟩ ⟨?_, ⟨_, e'⟩, ?_⟩
    · exact ⟨its', n', 0, 0, x, 0, e', rv', by decide, by omega, by decide⟩
    · rintro y1 y2 ⟨j1, j2, j3, j4, j5, j6, z1, z2⟩ hk
      exact ⟨j1, j2, j3, j4, j5, j6, hk _ z1, z2⟩
theorem cutV_ints (ns : List Int) (lo hi : Option Int) : ∃ ms : List Int, cutV (ns.map V.int) lo hi = ms.map V.int ∧ ms.length ≤ ns.length := by
  unfold cutV
  rw [← List.map_drop, ← List.map_take]
  refine ⟨_, rfl, ?_⟩
  rw [List.length_take, List.length_drop]
  omega
theorem hand_inv {C : Calls} {ds : List D} {Q : D → Prop} (h : primW C .hand ds Q) : ∃ n : Int, ds = [DL.scr, .int n] ∧ Q DL.hand := by
  match ds, h with
  | [x, .int n], h =>
    obtain ⟨rfl, h1⟩ := h
    exact ⟨n, rfl, h1⟩
section
variable {g : Gx} {P : Program} {w : World} {K : PySem.W.Frag} {mg : Str → Option Value} {base : Heap}
theorem ok_hand {n : Nat} {f : Addr} {fd : FuncData} (gK : g.K = K) (F : L2.Fun K "_law_hand" "_law_hand" sHand f fd) (b : Binds K fd ["script", "salt"] []) (ml : mg "len" = none) (mi : mg "int" = none) (ma : mg "abs" = none) (C : Calls) : FnG P w K mg base (n + 1) f (spC g (primW C .hand)) := by
  refine fnG_of F b scHand (fun vs H Q h => ?_) fun cdv A outer s H vs Q hr hg h => ?_
  · obtain ⟨ds, r, h⟩ := h
    rw [r.length]
    obtain ⟨n', rfl, _⟩ := hand_inv h
    rfl
  · obtain ⟨ds, r, h⟩ := h
    obtain ⟨a, ns, salt, rfl, hS, hlen, q⟩ : ∃ (a : Addr) (ns : List Int) (salt : Int), vs = [.ref a, .int salt] ∧ SqL K H a (ns.map V.int) ∧ ns.length ≤ 63 ∧ GivesR g H DL.hand Q := by
      obtain ⟨salt, rfl, h1⟩ := hand_inv h
      cases r with
      | cons r1 r =>
        cases r with
        | cons r2 r =>
          cases r
          cases r2
          cases r1 with
          | scr h hl => exact ⟨_, _, salt, rfl, by rw [← gK]; exact h, hl, h1⟩
    refine ⟨_, mk_hand (pss_cons (ps_setLc (i := 2) (own := [("cell", 3)]) (wi := iList _ _) (g := gName 3) (tt := tYes) (te := _) rfl scHand.nd rfl rfl (sw_true rfl rfl rfl rfl) (pi_list (pe_slice sl_list (pv 0) po_none (po_some pe_int))) (blkOk_by (by rfl)) (fun _ _ _ _ _ => pg_name scHand.nd rfl (.inl rfl)) (fun _ _ _ _ _ => pts_nil)
        (fun _ _ _ _ _ => pe_op op_mod (pe_callTy call_int1 (by rfl) mi bt_int (pa_cons (pe_callB call_abs (by rfl) ma bt_abs (pa_cons (pe_callTy call_int1 (by rfl) mi bt_int (pa_cons (pv 3) pa_nil)) pa_nil)) pa_nil)) (pe_op op_pow pe_int pe_int)))
      (pss_one (ps_ret (pe_lst (pa_cons (pv 2) (pa_cons pe_int (pa_cons pe_int (pa_cons (pe_op op_add (pv 1) (pe_op op_mul pe_int (pe_callB call_len_seq (by rfl) ml bt_len (pa_cons (pv 2) pa_nil)))) (pa_cons pe_int pa_nil))))))))), ?_⟩
    obtain ⟨ms, hms, hml⟩ := cutV_ints ns none (some 63)
    refine ⟨.ref a, rfl, 63, rfl, a, ns.map V.int, rfl, hS, fun p hp => ?_⟩
    rw [hms]
    refine ⟨p, rfl, ⟨_, .of upd_same⟩, fun D hD => ?_⟩
    have npD : p ≠ D := fun z => by rw [← z, upd_same] at hD; cases hD
    have lb : ∀ k : Nat, k ≤ 63 → k < sizeLine := fun k hk => by unfold sizeLine; omega
    generalize hcs : ms.map (fun i : Int => (if i < 0 then -i else i) % 10 ^ 36) = cs
    have hcl : cs.length = ms.length := by rw [← hcs, List.length_map]
    refine lc_list (xs := ms.map V.int) (fun i H' => H' = upd (upd H p (.lst (ms.map V.int))) D (.lst ((cs.take i).map V.int))) rfl (fun i H' _ e => ?_) (fun i x H' hi e => ?_) fun H' e => ?_
    · rw [e]
      exact .of (by rw [upd_ne npD, upd_same])
    · subst e
      rw [List.getElem?_map] at hi
      cases hm : ms[i]? with
      | none => rw [hm] at hi; cases hi
      | some m =>
        rw [hm] at hi
        cases hi
        have hc : cs[i]? = some ((if m < 0 then -m else m) % 10 ^ 36) := by rw [← hcs, List.getElem?_map, hm]; rfl
        refine ⟨rfl, .int m, rfl, .inl ⟨m, rfl, m, rfl, .inl ⟨_, rfl, 10, 36, rfl, rfl, ⟨by decide, by decide, by decide⟩, _, _, rfl, rfl, (show (0 : Int) < 10 ^ 36 by decide), ?_⟩⟩⟩
        refine ⟨_, upd_same, ?_, ?_⟩
        · rw [List.length_map, List.length_take]
          exact lb _ (by omega)
        · rw [upd_upd, List.take_add_one, hc]
          simp
    · subst e
      rw [List.take_of_length_le (by rw [hcl]; simp)]
      refine ⟨.ref D, rfl, .int salt, rfl, .ref D, rfl, D, cs.map V.int, rfl, .inl (.of upd_same), 47, _, rfl, rfl, .inl ⟨by decide, by decide⟩, salt, _, rfl, rfl, by show 5 ≤ sizeLine; decide, fun t ht => ?_⟩
      have ntD : D ≠ t := fun z => by rw [← z, upd_same] at ht; cases ht
      refine ⟨t, D, cs.length, _, rfl, upd_same, ?_⟩
      rw [upd_upd]
      have hD0 : H D = none := by
        rw [upd_ne (Ne.symm npD)] at hD
        exact hD
      have ht0 : H t = none := by
        rw [upd_ne (Ne.symm ntD)] at ht
        have ntp : t ≠ p := fun z => by rw [z, upd_same] at ht; cases ht
        rw [upd_ne ntp] at ht
        exact ht
      refine q (.ref t) _ (fun b o e => ?_) (fun O ow => ?_) fun _ => ⟨t, rfl, ht0⟩
      · have n1 : b ≠ t := fun z => by rw [z, ht0] at e; cases e
        have n2 : b ≠ D := fun z => by rw [z, hD0] at e; cases e
        have n3 : b ≠ p := fun z => by rw [z, hp] at e; cases e
        rw [upd_ne n1, upd_ne n2, upd_ne n3]
        exact e
      · refine .hnd (c := D) (cs := cs) ?_ ?_ fun x hx => ?_
        · rw [msk_out (out_new ht0 ow.ex), upd_same]
        · rw [msk_out (out_new hD0 ow.ex), upd_ne ntD, upd_same]
        · rw [← hcs] at hx
          obtain ⟨i, _, rfl⟩ := List.mem_map.mp hx
          exact Int.emod_nonneg _ (by decide)
end
end DL

set_option Elab.async false
set_option linter.all false
set_option maxRecDepth 100000
/-! DL21: a family is made. -/
namespace DL
open PySem PySem.Spec PyProof.Rows L2
abbrev sInit : Stmt := inClass (topS 18) 0
theorem scInit : FnScope ["self", "points", "lots"] ["self", "points", "lots"] (defScope sInit) := ⟨rfl, rfl, rfl, by decide +kernel, rfl, by decide +kernel, by decide +kernel⟩
theorem fam_inv {C : Calls} {a b : Nat} {ds : List D} {Q : D → Prop} (h : primW C (.family a b) ds Q) : ∃ (p : Int) (l : List D), ds = [.int p, .tuple l] ∧ C a [.int p] (fun d => d = .bool true) ∧ C b [.int p, .tuple l] (fun d => d = .bool true) ∧ immAll l = true ∧ Q (fam p l) := by
  match ds, h with
  | [x, y], h =>
    obtain ⟨h1, h2, h3⟩ := h
    split at h3
    · exact ⟨_, _, rfl, h1, h2, h3⟩
    · exact h3.elim
  | [], h => exact (h : False).elim
  | [_], h => exact (h : False).elim
  | _ :: _ :: _ :: _, h => exact (h : False).elim
theorem make_guards {A : Around} {C : Addr} {us : List Value} {kw : List (Str × Value)} : (A.under (.builtin "type.__call__" ⟨.ref C :: us, kw⟩)).guards = A.guards := by
  have e : (Code.builtin "type.__call__" ⟨.ref C :: us, kw⟩).guards = [] := by simp [Code.guards, Code.isGuard, guardIds]
  unfold Around.under
  dsimp only
  rw [e]
  rfl
def gFld (K : PySem.W.Frag) (to : TE) (f : Str) : TG := fun v σ H Q => to σ H fun x H1 => ∃ a C dx fs, x = .ref a ∧ H1 a = some (.ins C dx fs) ∧ Cls K C ∧ NoAttr K C f ∧ fs.length < 1000 ∧ Q σ (upd H1 a (.ins C dx (putF f v fs)))
theorem pg_fld {X : Cx} {o : Expr} {f : Str} {p : Pos} {to : TE} (ho : PE X o to) : PG X (.Attribute o f p) (gFld X.K to f) := by
  refine ⟨fun pins s σ H v u Q I r h => ?_⟩
  rw [assign_Attribute]
  refine wpAny_bind (wpAny_holding (thn (ho.run pins s σ H _ I h) fun ov s1 ⟨x, H1, I1, rx, a, C, dx, fs, ex, ea, c, n, l, q⟩ => ?_))
  subst ex
  obtain rfl : ov = Value.ref a := rx
  refine wpAny_bind (wpAny_standAt (wpAny_bind (wpAny_holding (setattr_ok I1 ea c n l r fun s3 I3 => ?_))))
  exact wpAny_release ⟨σ, _, I3, q⟩
section
variable {g : Gx} {P : Program} {w : World} {K : PySem.W.Frag} {mg : Str → Option Value} {base : Heap}
/-- a class, by the promise of its __init__ -/
theorem FnG.makes {n : Nat} {fI C : Addr} {sp : List V → Hp → VK → Prop} (M : Mk K C fI) (F : FnG P w K mg base n fI sp) : CallAt P w K mg base (n + 1) C fun vs H Q => ∀ x dx, H x = none → H dx = none → dx ≠ x →
    sp (.ref x :: vs) (upd (upd H dx (.own x)) x (.ins C dx [])) fun v H' => v = .non ∧ Q (.ref x) H' := fun A room gd => by
  refine ⟨M.kp, fun X hP hw hK hmg hb hA pins s σ H us vs Q I r q => ?_⟩
  cases hP; cases hw; cases hK; cases hmg; cases hb; cases hA
  have J := I.made (C := C)
  have q' := q (s.heap.objs.size + 1) s.heap.objs.size (I.hok.fresh (Nat.le_succ _)) (I.hok.fresh (Nat.le_refl _)) (Nat.ne_of_lt (Nat.lt_succ_self _))
  have ini := F.run _ _ _ _ (.ref (s.heap.objs.size + 1) :: us) _ _ (room.make C us []) (make_guards.trans gd) (J.env0.make C us []) (Paired.cons (show RelV (V.ref (s.heap.objs.size + 1)) (Value.ref (s.heap.objs.size + 1)) from rfl) r) q'
  refine wpAny_call (make_map I.kIn M.makes M.init (LawfulBEq.eq_of_beq M.fn) (codeAny_mono ini fun res s' z => ?_))
  match res, z with
  | .ok (.ret u), z =>
    obtain ⟨v, H', J', rv, hv, q⟩ := J.after z
    cases hv
    exact ⟨rv, .ref (s.heap.objs.size + 1), H', J', rfl, q⟩
/-- what Family's __init__ does -/
def spFam (g : Gx) (Ca Cb : List D → (D → Prop) → Prop) : List V → Hp → VK → Prop := fun vs H Q => ∃ (x dx : Addr) (p : Int) (l : List D) (v : V), vs = [.ref x, .int p, v] ∧ H x = some (.ins g.C dx []) ∧ Rp g H v (.tuple l) ∧
  Ca [.int p] (fun d => d = .bool true) ∧ Cb [.int p, .tuple l] (fun d => d = .bool true) ∧
  ∀ H' fs, (∀ b o, b ≠ x → H b = some o → H' b = some o) → H' x = some (.ins g.C dx fs) → fs.lookup ("points" : Str) = some (.int p) → fs.lookup ("lots" : Str) = some v → Q .non H'
theorem bool_of {H H' : Hp} {d : D} {v : V} (h : ∀ O, OwO O H → Rp g (msk O H') v d) {b : Bool} (e : d = .bool b) : v = .bl b := by
  subst e
  cases h [] OwO.nil
  rfl
theorem init_ok {n : Nat} {C : Calls} (mC : Mono C) {fI fa fb : Addr} {fd : FuncData} {a b : Nat} (gK : g.K = K) (F : L2.Fun K "__init__" "Family.__init__" sInit fI fd) (bI : Binds K fd ["self", "points", "lots"] []) (c : Cls K g.C)
    (n1 : NoAttr K g.C "points") (n2 : NoAttr K g.C "lots") (n3 : NoAttr K g.C "looked") (ma : mg "is_count" = some (.ref fa)) (mb : mg "are_lots" = some (.ref fb)) (Fa : CallAt P w K mg base n fa (spC g (C a))) (Fb : CallAt P w K mg base n fb (spC g (C b))) :
    FnG P w K mg base (n + 1) fI (spFam g (C a) (C b)) := by
  refine fnG_of F bI scInit (fun vs H Q h => ?_) fun cdv A outer s H vs Q hr hg h => ?_
  · obtain ⟨x, dx, p, l, v, rfl, _⟩ := h
    rfl
  obtain ⟨x, dx, p, l, v, rfl, hx, rv, ha, hb, q⟩ := h
  refine ⟨_, pss_cons (ps_if (pt_not (pt_val (pe_cok (Fa _ hr hg) (by rfl) ma (pa_cons (pv 1) pa_nil)))) pss_never pss_nil)
    (pss_cons (ps_if (pt_not (pt_val (pe_cok (Fb _ hr hg) (by rfl) mb (pa_cons (pv 1) (pa_cons (pv 2) pa_nil))))) pss_never pss_nil)
    (pss_cons (ps_asg (pe_tup (pa_cons (pv 1) (pa_cons (pv 2) pa_nil))) (pg_tup rfl (pgs_cons (pg_fld (pv 0)) (pgs_cons (pg_fld (pv 0)) pgs_nil))))
    (pss_one (ps_fld (pv 0) pe_dnewK (by rfl))))), ?_⟩
  -- the two looks
  refine ⟨.int p, rfl, [.int p], .cons (.int p) .nil, mC a _ _ _ (fun d hd => ?_) ha⟩
  intro b1 H1 s1 w1 _
  cases bool_of w1 hd
  refine ⟨true, rfl, iteF ⟨.int p, rfl, v, rfl, [.int p, .tuple l], .cons (.int p) (.cons (rv.mono s1) .nil), mC b _ _ _ (fun d hd => ?_) hb⟩⟩
  intro b2 H2 s2 w2 _
  cases bool_of w2 hd
  -- the fields
  have s3 := s1.trans s2
  have x2 : H2 x = some (.ins g.C dx []) := s3 _ _ hx
  refine ⟨true, rfl, iteF ?_⟩
  refine ⟨.int p, rfl, v, rfl, by show 2 ≤ sizeLine; decide, fun t ht => ?_⟩
  have xt : x ≠ t := fun z => by rw [← z, x2] at ht; cases ht
  refine ⟨t, [.int p, v], rfl, .of upd_same, rfl, .int p, [v], rfl, .ref x, rfl, x, g.C, dx, [], rfl, (upd_ne xt).trans x2, c, n1, by decide, v, [], rfl, .ref x, rfl, x, g.C, dx, _, rfl, upd_same, c, n2, by show 1 < 1000; decide, rfl, ?_⟩
  intro u hu
  have xu : x ≠ u := fun z => by rw [← z, upd_same] at hu; cases hu
  refine ⟨.ref x, rfl, x, g.C, dx, _, rfl, (upd_ne xu).trans upd_same, c, n3, by show 2 < 1000; decide, ?_⟩
  refine q _ _ (fun b o nb e => ?_) upd_same rfl rfl
  have e2 := s3 _ _ e
  have bt : b ≠ t := fun z => by rw [z, ht] at e2; cases e2
  have bu : b ≠ u := fun z => by
    subst z
    rw [upd_ne nb, upd_ne nb, upd_ne bt, e2] at hu
    cases hu
  rw [upd_ne nb, upd_ne bu, upd_ne nb, upd_ne nb, upd_ne bt]
  exact e2
/-- Family(..) -/
theorem ok_family {n : Nat} {fI fa fb : Addr} {fd : FuncData} {a b : Nat} {C : Calls} (mC : Mono C) (gK : g.K = K) (F : L2.Fun K "__init__" "Family.__init__" sInit fI fd) (bI : Binds K fd ["self", "points", "lots"] []) (M : Mk K g.C fI) (c : Cls K g.C)
    (n1 : NoAttr K g.C "points") (n2 : NoAttr K g.C "lots") (n3 : NoAttr K g.C "looked") (ma : mg "is_count" = some (.ref fa)) (mb : mg "are_lots" = some (.ref fb)) (Fa : CallAt P w K mg base n fa (spC g (C a))) (Fb : CallAt P w K mg base n fb (spC g (C b))) :
    CallAt P w K mg base (n + 2) g.C (spC g (primW C (.family a b))) := by
  refine ((init_ok mC gK F bI c n1 n2 n3 ma mb Fa Fb).makes M).imp fun vs H Q h x dx hx hdx ne => ?_
  obtain ⟨ds, rd, h⟩ := h
  obtain ⟨p, l, rfl, ha, hb, hi, q⟩ := fam_inv h
  match vs, rd with
  | [v1, v2], .cons r1 (.cons r2 .nil) =>
    obtain rfl : v1 = .int p := by cases r1; rfl
    have new : Same H (upd (upd H dx (.own x)) x (.ins g.C dx [])) := fun b o e => by
      have bx : b ≠ x := fun z => by rw [z, hx] at e; cases e
      have bd : b ≠ dx := fun z => by rw [z, hdx] at e; cases e
      rw [upd_ne bx, upd_ne bd]
      exact e
    refine ⟨x, dx, p, l, v2, rfl, upd_same, r2.mono new, ha, hb, fun H' fs keep at_ f1 f2 => ⟨rfl, ?_⟩⟩
    have old : Same H H' := fun b o e => keep b o (fun z => by rw [z, hx] at e; cases e) (new _ _ e)
    refine q _ _ old (fun O ow => ?_) (TopNew.imm hi)
    exact .fam (by rw [msk_out (out_new hx ow.ex)]; exact at_) f1 f2 ((r2.mono old).imm (ow.go old).no hi)
end
end DL
set_option Elab.async false
set_option linter.all false
set_option maxRecDepth 100000
/-! DL22: the law's end. -/
namespace DL
open PySem PySem.Spec PyProof.Rows L2
section
variable {P : Program} {w : World} {K : PySem.W.Frag} {a : Addr} {s : Shared} {vs : List Value} {ns : List Int}
/-- what is tracked as the law begins: the script, locked, if the module does not hold it -/
def scriptH (K : PySem.W.Frag) (h : Heap) (a : Addr) (ns : List Int) : Hp := fun b =>
  if b = a ∧ K.lookup a = none then (h.get? a).map fun o => .frz o (.lst (ns.map V.int)) else none
theorem scriptH_some {h : Heap} {b : Addr} {u : HO} (e : scriptH K h a ns b = some u) : b = a ∧ K.lookup a = none ∧ ∃ o, h.get? a = some o ∧ u = .frz o (.lst (ns.map V.int)) := by
  unfold scriptH at e
  split at e
  · rename_i c
    obtain ⟨o, ho, rfl⟩ := Option.map_eq_some_iff.mp e
    exact ⟨c.1, c.2, o, ho, rfl⟩
  · cases e
theorem scriptH_none {h : Heap} {b : Addr} (ne : b ≠ a ∨ K.lookup a ≠ none) : scriptH K h a ns b = none := if_neg fun c => ne.elim (fun n => n c.1) fun n => n c.2
/-- the first state of a law: nothing runs, the script stands at a -/
theorem law_env {mg mb : Str → Option Value} (KX : K.In s.heap) (glob : s.heap.Ns mainGlobals mg) (bl : s.heap.Ns builtinsNs mb) (boot : ∀ x : Str, x ≠ "__name__" → mb x = bootBuiltins x) (nolim : s.heap.NoLimit) (nogen : s.gens = #[])
    (at_ : s.heap.get? a = some { cls := .type "list", data := .seq vs.toArray }) (whole : IntsAre vs ns) (fits : ns.length ≤ sizeLine) :
    Env0 P w K mg (hidT s.heap (scriptH K s.heap a ns)) callerA [] s (scriptH K s.heap a ns) ∧ SqL K (scriptH K s.heap a ns) a (ns.map V.int) := by
  have rel := vals_ints whole
  -- the script is hidden in the module's part alone; a namespace is no list
  have dicts : ∀ {b : Addr} {m : Str → Option Value}, s.heap.Ns b m → (hidT s.heap (scriptH K s.heap a ns)).Ns b m := by
    rintro b m ⟨o, es, ep, e, d, rest⟩
    have ne : b ≠ a := by
      rintro rfl
      rw [at_] at e
      cases e
      cases d
    exact ⟨o, es, ep, hidT_get e (scriptH_none (.inl ne)), d, rest⟩
  have own : K.In (hidT s.heap (scriptH K s.heap a ns)) := fun b o e => by
    refine hidT_get (KX b o e) (scriptH_none ?_)
    by_cases z : b = a
    · exact .inr fun n => by rw [z, n] at e; cases e
    · exact .inl z
  obtain ⟨mc, l1, l2⟩ := nolim
  have held : HOk P w (scriptH K s.heap a ns) s.heap := fun b u e => by
    obtain ⟨rfl, _, o, ho, rfl⟩ := scriptH_some e
    rw [at_] at ho
    cases ho
    exact ⟨at_, by rw [List.length_map]; exact fits, vs, _, rel, at_⟩
  refine ⟨⟨rfl, ⟨own, dicts glob, ⟨mb, dicts bl, boot⟩, ⟨mc, dicts l1, l2⟩⟩, fun b o e => of_hidT e, Nat.le_of_eq (hidT_size ..), trivial, nofun, held, .of_eq nogen⟩, ?_⟩
  cases k : K.lookup a with
  | none =>
    refine .inl (.inr ⟨{ cls := .type "list", data := .seq vs.toArray }, ?_⟩)
    unfold scriptH
    rw [if_pos ⟨rfl, k⟩, at_]
    rfl
  | some o =>
    have e := KX a o k
    rw [at_] at e
    cases e
    refine .inr ⟨_, vs.toArray, _, k, rfl, rfl, rfl, ?_, rel⟩
    rw [List.size_toArray, whole.length]
    exact fits
/-- the law's run at the heap behind the top -/
theorem law_run {mg mb : Str → Option Value} {k : Nat} {fa : Addr} {sp : List V → Hp → VK → Prop} (KX : K.In s.heap) (glob : s.heap.Ns mainGlobals mg) (bl : s.heap.Ns builtinsNs mb) (boot : ∀ x : Str, x ≠ "__name__" → mb x = bootBuiltins x)
    (nolim : s.heap.NoLimit) (nogen : s.gens = #[]) (at_ : s.heap.get? a = some { cls := .type "list", data := .seq vs.toArray }) (whole : IntsAre vs ns) (fits : ns.length ≤ sizeLine) (room : Room k callerA)
    (F : ∀ base : Heap, K.In base → base.Ns mainGlobals mg → FnG P w K mg base k fa sp) (q : ∀ H : Hp, SqL K H a (ns.map V.int) → sp [.ref a] H fun v _ => v = .bl true) :
    codeAny (model P w) callerA (.call (.ref fa) ⟨[.ref a], []⟩) (fun r s' => r = .ok (.ret (.bool true)) ∧ OldK s.heap s'.heap ∧ s'.os = s.os ∧ AllBare s'.gens) s := by
  obtain ⟨env, seq⟩ := law_env (P := P) (w := w) KX glob bl boot nolim nogen at_ whole fits
  have f := F _ env.mod.kin env.mod.glob
  refine codeAny_mono (f.run callerA [] s _ [.ref a] [.ref a] _ room rfl env (Paired.cons (show RelV (V.ref a) (Value.ref a) from rfl) .nil) (q _ seq)) fun r s' h => ?_
  match r, h with
  | .ok (.ret u), ⟨v, H', os, bare, moved, held, rel, yes⟩ =>
    have yes : v = .bl true := yes
    subst yes
    have isTrue : u = .bool true := rel
    subst isTrue
    refine ⟨rfl, .of_keep fun b o e => ?_, os, bare⟩
    cases t : scriptH K s.heap a ns b with
    | none => exact moved.keep b o e t (fun z => nomatch z) (fun z => nomatch z)
    | some u =>
      obtain ⟨rfl, _, o', ho, rfl⟩ := scriptH_some t
      rw [ho] at e
      cases e
      exact (held _ _ (moved.frzs _ _ _ t)).1
end
/-- a law's def means True: what the written part K gives, and the def's promise over it -/
structure LawMeans (l : PySem.W.OpenLaw) (K : Params → PySem.W.Frag) (there : World → Heap → Prop) (name : Str) (k : Nat) : Prop where
  part : ∀ {w : World} {h : Heap}, there w h → (K w.params).In h
  means : ∀ {w : World} {mg : Str → Option Value} {fa : Addr} {h : Heap}, (K w.params).In h → h.Ns mainGlobals mg → mg name = some (.ref fa) →
    ∃ (g : Gx) (Ck : List D → (D → Prop) → Prop), g.K = K w.params ∧ (∀ Q : D → Prop, Q (.bool true) → Ck [scr] Q) ∧ ∀ base : Heap, (K w.params).In base → base.Ns mainGlobals mg → FnG l.prog w (K w.params) mg base k fa (spC g Ck)
/-- .. so the row's goal holds -/
theorem LawMeans.goal {l : PySem.W.OpenLaw} {K : Params → PySem.W.Frag} {there : World → Heap → Prop} {rec_ : DefRec} {n k : Nat} {q : Program} {loose : List Str} {XP : (Str → Option Value) → Heap → Prop} (M : LawMeans l K there rec_.name k)
    (most : l.most = some n) (small : n ≤ 63) (plain : rec_.params.defaults = []) (room : Room k callerA) : PySem.W.WalkO q loose XP there l.row.toRowW rec_ [] fun f vs => PySem.call f vs := by
  refine Att.attach_call most plain ?_
  intro w _ s mg mb fa _ _ _ _ a vs ns G given _ _ _ at_ obj whole len nogen
  have KX := M.part given
  obtain ⟨g, Ck, gK, yes, F⟩ := M.means KX G.T.g at_
  refine law_run KX G.T.g G.T.b G.T.builtins G.T.nolimit nogen obj whole (by unfold sizeLine; omega) room F fun H seq => ⟨[scr], .cons (.scr (gK ▸ seq) (by omega)) .nil, yes _ ?_⟩
  intro v H' _ rv _
  exact bool_of rv rfl
end DL
set_option Elab.async false
set_option linter.all false
set_option maxRecDepth 100000
/-! DL23: what the top has written, in short. -/
namespace DL
open PySem PySem.Spec PyProof.Rows L2
/-- a def of the module at f -/
def DefK (K : PySem.W.Frag) (x : Str) (st : Stmt) (f : Addr) : Prop := PySem.W.nsIn K mainGlobals x = some (some (.ref f)) ∧ ∃ fd, L2.Fun K x x st f fd
theorem DefK.mk {K : PySem.W.Frag} {x : Str} {st : Stmt} {f : Addr} {oc : Value} {od an : Option Addr} {osl : Array (Option Value)} {kV doc pm cdv ct : Value} (a : PySem.W.nsIn K mainGlobals x = some (some (.ref f)))
    (l : K.lookup f = some ⟨oc, od, .func (PySem.W.fnOf x x (defArgs st) (defBody st) (defScope st) .none kV doc pm an cdv ct), osl⟩) (c : PySem.W.codeIn K cdv x = true) (k : PySem.W.keepIn K (.ref f) = true) : DefK K x st f := ⟨a, _, fun_mk l c k⟩
def MethK (K : PySem.W.Frag) (x q : Str) (st : Stmt) (f : Addr) : Prop := ∃ fd, L2.Fun K x q st f fd
theorem MethK.mk {K : PySem.W.Frag} {x q : Str} {st : Stmt} {f : Addr} {oc : Value} {od an : Option Addr} {osl : Array (Option Value)} {kV doc pm cdv ct : Value}
    (l : K.lookup f = some ⟨oc, od, .func (PySem.W.fnOf x q (defArgs st) (defBody st) (defScope st) .none kV doc pm an cdv ct), osl⟩) (c : PySem.W.codeIn K cdv q = true) (k : PySem.W.keepIn K (.ref f) = true) : MethK K x q st f := ⟨_, fun_mk l c k⟩
theorem DefK.mg {K : PySem.W.Frag} {h : Heap} {mg : Str → Option Value} {x : Str} {st : Stmt} {f : Addr} (X : K.In h) (G : h.Ns mainGlobals mg) (D : DefK K x st f) : mg x = some (.ref f) := PySem.W.mg_of X G D.1
theorem DefK.kp {K : PySem.W.Frag} {x : Str} {st : Stmt} {f : Addr} (D : DefK K x st f) : PySem.W.keepIn K (.ref f) = true := let ⟨_, F⟩ := D.2; F.kp
theorem zip_at {α β : Type} : ∀ {xs : List α} {ys : List β} {k : Nat} {x : α} {y0 : β}, xs.length ≤ ys.length → xs[k]? = some x → (x, ys.getD k y0) ∈ xs.zip ys
  | [], _, _, _, _, _, h => by simp at h
  | _ :: _, [], _, _, _, hl, _ => by simp at hl
  | x :: xs, y :: ys, 0, _, _, _, h => by simp at h; subst h; simp
  | x :: xs, y :: ys, k + 1, _, y0, hl, h => by
    have := zip_at (y0 := y0) (k := k) (by simpa using hl) (by simpa using h)
    rw [List.zip_cons_cons]
    exact List.mem_cons_of_mem _ (by simpa using this)
theorem getD_mem {β : Type} {ys : List β} {k : Nat} {y0 : β} (h : y0 ∈ ys) : ys.getD k y0 ∈ ys := by
  rcases Nat.lt_or_ge k ys.length with z | z
  · rw [List.getD_eq_getElem?_getD, List.getElem?_eq_getElem z]
    exact List.getElem_mem z
  · rw [List.getD_eq_getElem?_getD, List.getElem?_eq_none z]
    exact h
theorem dead {tab : Nat → FD} {k : Nat} (h : tab k = .body 0 0 (.cons .never .nil)) : ∀ n ds Q, ¬ wC tab n k ds Q
  | 0, ds, Q, w => w
  | n + 1, ds, Q, w => by
    unfold wC at w
    rw [h] at w
    dsimp only at w
    have := w.2
    unfold wSs wS at this
    exact this
end DL
set_option linter.all false
namespace K16
open DL
/-- is_integer: 0 thing -/
def B_is_integer : Ss :=
  (.cons (.ret (.and (.cons (.bi .isInt (.cons (.var 0) .nil)) (.cons (.not (.bi .isBool (.cons (.var 0) .nil))) .nil))))
    .nil)
/-- is_within: 0 thing, 1 low, 2 high -/
def B_is_within : Ss :=
  (.cons (.ret (.and (.cons (.call 0 (.cons (.var 0) .nil)) (.cons (.chain .le .le (.var 1) (.var 0) (.var 2)) .nil))))
    .nil)
/-- is_number: 0 thing -/
def B_is_number : Ss :=
  (.cons (.ret (.and (.cons (.call 0 (.cons (.var 0) .nil)) (.cons (.cmp .ge (.var 0) (.cst (.int 0))) .nil))))
    .nil)
/-- is_tuple: 0 thing, 1 least, 2 most -/
def B_is_tuple : Ss :=
  (.cons (.ret (.and (.cons (.bi .isTup (.cons (.var 0) .nil)) (.cons (.chain .le .le (.var 1) (.bi .len (.cons (.var 0) .nil)) (.var 2)) .nil))))
    .nil)
/-- is_lot: 0 thing, 1 many, 2 one, 3 other -/
def B_is_lot : Ss :=
  (.cons (.ite (.or (.cons (.not (.bi .isTup (.cons (.var 0) .nil))) (.cons (.not (.bi .all (.cons (.comp (.call 1 (.cons (.var 2) (.cons (.cst (.int 0)) (.cons (.bin .sub (.var 1) (.cst (.int 1))) .nil)))) [2] (.valsT (.var 0)) .nil) .nil))) .nil))) (.cons (.ret (.cst (.bool false)))
    .nil) .nil)
    (.cons (.ret (.bi .all (.cons (.comp (.cmp .lt (.var 2) (.var 3)) [2, 3] (.zip (.var 0) (.sl (.var 0) (.yes (.cst (.int 1))) .no)) .nil) .nil)))
    .nil))
/-- is_count: 0 thing -/
def B_is_count : Ss :=
  (.cons (.ret (.call 1 (.cons (.var 0) (.cons (.cst (.int 1)) (.cons (.gint (PySem.Str.ofString "MOST_POINTS_families") 7) .nil)))))
    .nil)
/-- is_lot_of: 0 points, 1 thing -/
def B_is_lot_of : Ss :=
  (.cons (.ret (.call 4 (.cons (.var 1) (.cons (.var 0) .nil))))
    .nil)
/-- are_lots: 0 points, 1 thing, 2 one, 3 other, 4 lot -/
def B_are_lots : Ss :=
  (.cons (.ite (.or (.cons (.not (.bi .isTup (.cons (.var 1) .nil))) (.cons (.not (.bi .all (.cons (.comp (.call 6 (.cons (.var 0) (.cons (.var 4) .nil))) [4] (.valsT (.var 1)) .nil) .nil))) .nil))) (.cons (.ret (.cst (.bool false)))
    .nil) .nil)
    (.cons (.ret (.bi .all (.cons (.comp (.cmp .lt (.var 2) (.var 3)) [2, 3] (.zip (.var 1) (.sl (.var 1) (.yes (.cst (.int 1))) .no)) .nil) .nil)))
    .nil))
def B_lot_of_t1 : Ss :=
  (.cons (.ret (.bi .tuple (.cons (.var 1) .nil)))
    .nil)
def B_lot_of_c2 : E :=
  (.cmp .gt (.var 0) (.cst (.int 0)))
def B_lot_of_3 : Ss :=
  (.cons (.ite (.cmp .eq (.bin .mod (.var 0) (.cst (.int 2))) (.cst (.int 1))) (.cons (.app 1 (.var 2))
    .nil) .nil)
    (.cons (.asgT [0, 2] (.cons (.bin .fdiv (.var 0) (.cst (.int 2))) (.cons (.bin .add (.var 2) (.cst (.int 1))) .nil)))
    .nil))
/-- lot_of: 0 number, 1 found, 2 point -/
def B_lot_of : Ss :=
  (.cons (.asgT [1, 2] (.cons (.lst .nil) (.cons (.cst (.int 0)) .nil)))
    (.cons (.whil B_lot_of_c2 B_lot_of_3)
    B_lot_of_t1))
/-- lots_of: 0 points, 1 number -/
def B_lots_of : Ss :=
  (.cons (.ret (.comp (.call 8 (.cons (.var 1) .nil)) [1] (.rng1 (.bin .shl (.cst (.int 1)) (.var 0))) .nil))
    .nil)
/-- meets: 0 one, 1 other, 2 point -/
def B_meets : Ss :=
  (.cons (.ret (.bi .any (.cons (.comp (.cmp .isin (.var 2) (.var 1)) [2] (.valsT (.var 0)) .nil) .nil)))
    .nil)
/-- common_of: 0 one, 1 other, 2 point -/
def B_common_of : Ss :=
  (.cons (.ret (.bi .tuple (.cons (.comp (.var 2) [2] (.valsT (.var 0)) (.cons (.cmp .isin (.var 2) (.var 1)) .nil)) .nil)))
    .nil)
/-- check_lot: 0 family, 1 lot -/
def B_check_lot : Ss :=
  (.cons (.ite (.not (.call 6 (.cons (.fld (.var 0) 0) (.cons (.var 1) .nil)))) (.cons .never
    .nil) .nil)
    .nil)
/-- counts_for: 0 questions, 1 lot, 2 one -/
def B_counts_for : Ss :=
  (.cons (.ret (.bi .tuple (.cons (.comp (.bi .len (.cons (.call 11 (.cons (.var 2) (.cons (.var 1) .nil))) .nil)) [2] (.valsT (.var 0)) .nil) .nil)))
    .nil)
/-- bits_for: 0 questions, 1 lot, 2 one -/
def B_bits_for : Ss :=
  (.cons (.ret (.bi .tuple (.cons (.comp (.call 10 (.cons (.var 2) (.cons (.var 1) .nil))) [2] (.valsT (.var 0)) .nil) .nil)))
    .nil)
/-- answers_of: 0 family, 1 lot -/
def B_answers_of : Ss :=
  (.cons (.drop (.call 12 (.cons (.var 0) (.cons (.var 1) .nil))))
    (.cons (.ret (.call 13 (.cons (.fld (.var 0) 1) (.cons (.var 1) .nil))))
    .nil))
def B_least_alike_t1 : Ss :=
  (.cons (.ret (.cst .none))
    .nil)
def B_least_alike_2 : Ss :=
  (.cons (.asg 6 (.comp (.var 7) [7] (.rng2 (.bin .add (.var 4) (.cst (.int 1))) (.bi .len (.cons (.var 0) .nil))) (.cons (.cmp .eq (.idx (.var 3) (.var 7)) (.idx (.var 3) (.var 4))) .nil)))
    (.cons (.ite (.cmp .gt (.bi .len (.cons (.var 6) .nil)) (.cst (.int 0))) (.cons (.ret (.tup (.cons (.var 5) (.cons (.idx (.var 0) (.idx (.var 6) (.cst (.int 0)))) .nil))))
    .nil) .nil)
    .nil))
/-- least_alike: 0 lots, 1 questions, 2 told, 3 rows, 4 at, 5 lot, 6 alike, 7 b -/
def B_least_alike : Ss :=
  (.cons (.asg 3 (.comp (.callv 2 (.cons (.var 1) (.cons (.var 5) .nil))) [5] (.vals (.var 0)) .nil))
    (.cons (.for_ [4, 5] (.enum (.var 0)) B_least_alike_2)
    B_least_alike_t1))
/-- told_apart: 0 family -/
def B_told_apart : Ss :=
  (.cons (.ret (.call 16 (.cons (.bi .sorted (.cons (.call 9 (.cons (.fld (.var 0) 0) .nil)) .nil)) (.cons (.fld (.var 0) 1) (.cons (.gfn 13) .nil)))))
    .nil)
/-- is_alike_pair: 0 family, 1 thing, 2 one, 3 other, 4 lot -/
def B_is_alike_pair : Ss :=
  (.cons (.ite (.or (.cons (.not (.call 3 (.cons (.var 1) (.cons (.cst (.int 2)) (.cons (.cst (.int 2)) .nil))))) (.cons (.not (.bi .all (.cons (.comp (.call 6 (.cons (.fld (.var 0) 0) (.cons (.var 4) .nil))) [4] (.valsT (.var 1)) .nil) .nil))) .nil))) (.cons (.ret (.cst (.bool false)))
    .nil) .nil)
    (.cons (.unp [2, 3] (.var 1))
    (.cons (.ret (.and (.cons (.cmp .ne (.var 2) (.var 3)) (.cons (.cmp .eq (.call 13 (.cons (.fld (.var 0) 1) (.cons (.var 2) .nil))) (.call 13 (.cons (.fld (.var 0) 1) (.cons (.var 3) .nil)))) .nil))))
    .nil)))
def B_questions_on_t1 : Ss :=
  (.cons (.ret (.cst .none))
    .nil)
def B_questions_on_2 : Ss :=
  (.cons (.asg 5 (.call 19 (.cons (.var 0) (.cons (.bin .add (.var 4) (.cst (.int 1))) (.cons (.bin .add (.var 2) (.tup (.cons (.idx (.var 0) (.var 4)) .nil))) (.cons (.bin .sub (.var 3) (.cst (.int 1))) .nil))))))
    (.cons (.ite (.cmp .isnot (.var 5) (.cst .none)) (.cons (.ret (.var 5))
    .nil) .nil)
    .nil))
/-- questions_on: 0 every, 1 start, 2 taken, 3 many, 4 at, 5 found -/
def B_questions_on : Ss :=
  (.cons (.ite (.cmp .eq (.var 3) (.cst (.int 0))) (.cons (.ret (.ife (.cmp .is_ (.call 16 (.cons (.var 0) (.cons (.var 2) (.cons (.gfn 13) .nil)))) (.cst .none)) (.var 2) (.cst .none)))
    .nil) .nil)
    (.cons (.for_ [4] (.rng2 (.var 1) (.bin .add (.bin .sub (.bi .len (.cons (.var 0) .nil)) (.var 3)) (.cst (.int 1)))) B_questions_on_2)
    B_questions_on_t1))
def B_fewest_questions_t1 : Ss :=
  (.cons (.ret (.tup (.cons (.var 2) (.cons (.var 3) .nil))))
    .nil)
def B_fewest_questions_c2 : E :=
  (.cmp .is_ (.var 3) (.cst .none))
def B_fewest_questions_3 : Ss :=
  (.cons (.asg 2 (.bin .add (.var 2) (.cst (.int 1))))
    (.cons (.asg 3 (.call 19 (.cons (.var 1) (.cons (.cst (.int 0)) (.cons (.tup .nil) (.cons (.var 2) .nil))))))
    .nil))
/-- fewest_questions: 0 points, 1 every, 2 many, 3 found -/
def B_fewest_questions : Ss :=
  (.cons (.ite (.not (.call 1 (.cons (.var 0) (.cons (.cst (.int 1)) (.cons (.gint (PySem.Str.ofString "MOST_POINTS_answers") 4) .nil))))) (.cons .never
    .nil) .nil)
    (.cons (.asgT [1, 2, 3] (.cons (.bi .sorted (.cons (.call 9 (.cons (.var 0) .nil)) .nil)) (.cons (.cst (.int 0)) (.cons (.cst .none) .nil))))
    (.cons (.whil B_fewest_questions_c2 B_fewest_questions_3)
    B_fewest_questions_t1)))
/-- found_by: 0 family, 1 answers, 2 many, 3 lot, 4 one -/
def B_found_by : Ss :=
  (.cons (.asg 2 (.bi .len (.cons (.fld (.var 0) 1) .nil)))
    (.cons (.ite (.or (.cons (.not (.call 3 (.cons (.var 1) (.cons (.var 2) (.cons (.var 2) .nil))))) (.cons (.not (.bi .all (.cons (.comp (.call 2 (.cons (.var 4) .nil)) [4] (.valsT (.var 1)) .nil) .nil))) .nil))) (.cons .never
    .nil) .nil)
    (.cons (.ret (.bi .tuple (.cons (.comp (.var 3) [3] (.vals (.bi .sorted (.cons (.call 9 (.cons (.fld (.var 0) 0) .nil)) .nil))) (.cons (.cmp .eq (.call 13 (.cons (.fld (.var 0) 1) (.cons (.var 3) .nil))) (.var 1)) .nil)) .nil)))
    .nil)))
/-- bits_apart: 0 family -/
def B_bits_apart : Ss :=
  (.cons (.ret (.call 16 (.cons (.bi .sorted (.cons (.call 9 (.cons (.fld (.var 0) 0) .nil)) .nil)) (.cons (.fld (.var 0) 1) (.cons (.gfn 14) .nil)))))
    .nil)
def B__law_mixed_t1 : Ss :=
  (.cons (.ret (.var 3))
    .nil)
def B__law_mixed_c2 : E :=
  (.cmp .ne (.var 2) (.lst .nil))
def B__law_mixed_3 : Ss :=
  (.cons (.popApp 3 2 (.call 24 (.cons (.var 0) (.cons (.bi .len (.cons (.var 2) .nil)) .nil))))
    .nil)
/-- _law_mixed: 0 hand, 1 many, 2 left, 3 found -/
def B__law_mixed : Ss :=
  (.cons (.asgT [2, 3] (.cons (.bi .rangeL (.cons (.var 1) .nil)) (.cons (.lst .nil) .nil)))
    (.cons (.whil B__law_mixed_c2 B__law_mixed_3)
    B__law_mixed_t1))
/-- _law_is: 0 told, 1 due -/
def B__law_is : Ss :=
  (.cons (.ret (.reprEq (.var 0) (.var 1)))
    .nil)
def B__law_all_t1 : Ss :=
  (.cons (.ret (.bi .sorted (.cons (.var 1) .nil)))
    .nil)
def B__law_all_2 : Ss :=
  (.cons (.asg 1 (.bin .add (.var 1) (.comp (.bin .add (.var 3) (.tup (.cons (.var 2) .nil))) [3] (.vals (.var 1)) .nil)))
    .nil)
/-- _law_all: 0 points, 1 found, 2 point, 3 lot -/
def B__law_all : Ss :=
  (.cons (.asg 1 (.lst (.cons (.tup .nil) .nil)))
    (.cons (.for_ [2] (.rng1 (.var 0)) B__law_all_2)
    B__law_all_t1))
/-- _law_meet: 0 one, 1 other, 2 point -/
def B__law_meet : Ss :=
  (.cons (.ret (.bi .tuple (.cons (.comp (.var 2) [2] (.valsT (.var 0)) (.cons (.cmp .isin (.var 2) (.var 1)) .nil)) .nil)))
    .nil)
/-- _law_answers: 0 lots, 1 lot, 2 one -/
def B__law_answers : Ss :=
  (.cons (.ret (.bi .tuple (.cons (.comp (.bi .len (.cons (.call 28 (.cons (.var 2) (.cons (.var 1) .nil))) .nil)) [2] (.valsT (.var 0)) .nil) .nil)))
    .nil)
def B__law_told_t1 : Ss :=
  (.cons (.ret (.var 6))
    .nil)
def B__law_told_2 : Ss :=
  (.cons (.asg 7 (.ife (.var 2) (.call 29 (.cons (.var 1) (.cons (.var 4) .nil))) (.bi .tuple (.cons (.comp (.cmp .ne (.call 28 (.cons (.var 9) (.cons (.var 4) .nil))) (.tup .nil)) [9] (.valsT (.var 1)) .nil) .nil))))
    (.cons (.ite (.cmp .isin (.var 7) (.var 5)) (.cons (.asg 8 (.tup (.cons (.idx (.var 5) (.var 7)) (.cons (.var 4) .nil))))
    (.cons (.asg 6 (.ife (.or (.cons (.cmp .is_ (.var 6) (.cst .none)) (.cons (.cmp .lt (.var 8) (.var 6)) .nil))) (.var 8) (.var 6)))
    .nil)) (.cons (.setI 5 (.var 7) (.var 4))
    .nil))
    .nil))
/-- _law_told: 0 points, 1 lots, 2 count, 3 every, 4 lot, 5 known, 6 best, 7 answers, 8 pair, 9 one -/
def B__law_told : Ss :=
  (.cons (.asg 3 (.call 27 (.cons (.var 0) .nil)))
    (.cons (.asgT [5, 6] (.cons .dict0 (.cons (.cst .none) .nil)))
    (.cons (.for_ [4] (.vals (.var 3)) B__law_told_2)
    B__law_told_t1)))
/-- _law_rows: 0 hand, 1 some, 2 names, 3 lots, 4 points, 5 numbers, 6 number, 7 lot, 8 point -/
def B__law_rows : Ss :=
  (.cons (.asg 1 (.lst (.cons (.tup (.cons (.cst (.int 4)) (.cons (.lst (.cons (.cst (.int 3)) (.cons (.cst (.int 5)) (.cons (.cst (.int 14)) .nil)))) .nil))) (.cons (.tup (.cons (.cst (.int 4)) (.cons (.lst (.cons (.cst (.int 3)) (.cons (.cst (.int 9)) (.cons (.cst (.int 14)) .nil)))) .nil))) (.cons (.tup (.cons (.cst (.int 5)) (.cons (.lst (.cons (.cst (.int 4)) (.cons (.cst (.int 7)) (.cons (.cst (.int 13)) (.cons (.cst (.int 26)) .nil))))) .nil))) (.cons (.tup (.cons (.cst (.int 6)) (.cons (.lst (.cons (.cst (.int 1)) (.cons (.cst (.int 28)) (.cons (.cst (.int 39)) (.cons (.cst (.int 49)) (.cons (.cst (.int 50)) .nil)))))) .nil))) (.cons (.tup (.cons (.cst (.int 7)) (.cons (.lst (.cons (.cst (.int 38)) (.cons (.cst (.int 59)) (.cons (.cst (.int 83)) (.cons (.cst (.int 90)) (.cons (.cst (.int 92)) .nil)))))) .nil))) .nil)))))))
    (.cons (.unp [4, 5] (.some_ (.var 0) (.var 1)))
    (.cons (.asg 2 (.call 25 (.cons (.var 0) (.cons (.var 4) .nil))))
    (.cons (.asg 3 (.comp (.call 32 (.cons (.var 4) (.cons (.var 6) .nil))) [6] (.vals (.var 5)) .nil))
    (.cons (.ret (.tup (.cons (.var 4) (.cons (.bi .tuple (.cons (.bi .sorted (.cons (.comp (.bi .tuple (.cons (.bi .sorted (.cons (.comp (.idx (.var 2) (.var 8)) [8] (.valsT (.var 7)) .nil) .nil)) .nil)) [7] (.vals (.var 3)) .nil) .nil)) .nil)) .nil))))
    .nil)))))
def B__law_bits_t1 : Ss :=
  (.cons (.ret (.bi .tuple (.cons (.var 2) .nil)))
    .nil)
def B__law_bits_2 : Ss :=
  (.cons (.ite (.cmp .ne (.bin .mul (.bin .fdiv (.var 1) (.cst (.int 2))) (.cst (.int 2))) (.var 1)) (.cons (.app 2 (.var 3))
    .nil) .nil)
    (.cons (.asg 1 (.bin .fdiv (.var 1) (.cst (.int 2))))
    .nil))
/-- _law_bits: 0 points, 1 number, 2 found, 3 point -/
def B__law_bits : Ss :=
  (.cons (.asg 2 (.lst .nil))
    (.cons (.for_ [3] (.rng1 (.var 0)) B__law_bits_2)
    B__law_bits_t1))
def B__law_is_right_t1 : Ss :=
  (.cons (.ret (.call 26 (.cons (.call 17 (.cons (.call 35 (.cons (.var 11) (.cons (.var 10) .nil))) .nil)) (.cons (.call 30 (.cons (.var 11) (.cons (.var 10) (.cons (.cst (.bool true)) .nil)))) .nil))))
    .nil)
def B__law_is_right_t2 : Ss :=
  (.cons (.asg 10 (.bi .tuple (.cons (.bi .sortedSet (.cons (.bin .add (.var 7) (.tup (.cons (.some_ (.var 0) (.var 2)) .nil))) .nil)) .nil)))
    B__law_is_right_t1)
def B__law_is_right_t3 : Ss :=
  (.cons (.ite (.not (.call 26 (.cons (.call 22 (.cons (.var 1) .nil)) (.cons (.call 30 (.cons (.var 11) (.cons (.var 12) (.cons (.cst (.bool false)) .nil)))) .nil)))) (.cons (.ret (.cst (.bool false)))
    .nil) .nil)
    B__law_is_right_t2)
def B__law_is_right_t4 : Ss :=
  (.cons (.ite (.or (.cons (.cmp .isnot (.call 18 (.cons (.call 35 (.cons (.var 11) (.cons (.var 7) .nil))) (.cons (.var 9) .nil))) (.cst (.bool true))) (.cons (.cmp .isnot (.call 18 (.cons (.var 1) (.cons (.var 9) .nil))) (.cst (.bool false))) .nil))) (.cons (.ret (.cst (.bool false)))
    .nil) .nil)
    B__law_is_right_t3)
def B__law_is_right_t5 : Ss :=
  (.cons (.asg 9 (.tup (.cons (.idx (.var 8) (.cst (.int 1))) (.cons (.idx (.var 8) (.cst (.int 0))) .nil))))
    B__law_is_right_t4)
def B__law_is_right_t6 : Ss :=
  (.cons (.ite (.or (.cons (.not (.call 26 (.cons (.call 17 (.cons (.call 35 (.cons (.var 11) (.cons (.var 7) .nil))) .nil)) (.cons (.var 8) .nil)))) (.cons (.cmp .is_ (.var 8) (.cst .none)) .nil))) (.cons (.ret (.cst (.bool false)))
    .nil) .nil)
    B__law_is_right_t5)
def B__law_is_right_t7 : Ss :=
  (.cons (.asg 8 (.call 30 (.cons (.var 11) (.cons (.var 7) (.cons (.cst (.bool true)) .nil)))))
    B__law_is_right_t6)
def B__law_is_right_t8 : Ss :=
  (.cons (.asg 7 (.bin .add (.sl (.var 12) .no (.yes (.var 6))) (.sl (.var 12) (.yes (.bin .add (.var 6) (.cst (.int 1)))) .no)))
    B__law_is_right_t7)
def B__law_is_right_t9 : Ss :=
  (.cons (.asg 6 (.call 24 (.cons (.var 0) (.cons (.bi .len (.cons (.var 12) .nil)) .nil))))
    B__law_is_right_t8)
def B__law_is_right_t10 : Ss :=
  (.cons (.ite (.not (.call 26 (.cons (.call 21 (.cons (.var 1) (.cons (.var 5) .nil))) (.cons (.bi .tuple (.cons (.comp (.var 13) [13] (.vals (.var 2)) (.cons (.cmp .eq (.call 29 (.cons (.var 12) (.cons (.var 13) .nil))) (.var 5)) .nil)) .nil)) .nil)))) (.cons (.ret (.cst (.bool false)))
    .nil) .nil)
    B__law_is_right_t9)
def B__law_is_right_t11 : Ss :=
  (.cons (.asg 5 (.bi .tuple (.cons (.comp (.bin .add (.var 13) (.cst (.int 1))) [13] (.valsT (.var 4)) .nil) .nil)))
    B__law_is_right_t10)
def B__law_is_right_t12 : Ss :=
  (.cons (.ite (.not (.call 26 (.cons (.lst (.cons (.call 15 (.cons (.var 1) (.cons (.var 3) .nil))) (.cons (.call 21 (.cons (.var 1) (.cons (.var 4) .nil))) .nil))) (.cons (.lst (.cons (.var 4) (.cons (.tup (.cons (.var 3) .nil)) .nil))) .nil)))) (.cons (.ret (.cst (.bool false)))
    .nil) .nil)
    B__law_is_right_t11)
def B__law_is_right_t13 : Ss :=
  (.cons (.asg 4 (.call 29 (.cons (.var 12) (.cons (.var 3) .nil))))
    B__law_is_right_t12)
def B__law_is_right_t14 : Ss :=
  (.cons (.asg 3 (.some_ (.var 0) (.var 2)))
    B__law_is_right_t13)
def B__law_is_right_t15 : Ss :=
  (.cons (.asg 2 (.call 27 (.cons (.var 11) .nil)))
    B__law_is_right_t14)
def B__law_is_right_t16 : Ss :=
  (.cons (.ite (.or (.cons (.cmp .isnot (.call 30 (.cons (.var 11) (.cons (.var 12) (.cons (.cst (.bool true)) .nil)))) (.cst .none)) (.cons (.cmp .isnot (.call 17 (.cons (.var 1) .nil)) (.cst .none)) (.cons (.cmp .ge (.bi .len (.cons (.var 12) .nil)) (.var 11)) .nil)))) (.cons (.ret (.cst (.bool false)))
    .nil) .nil)
    B__law_is_right_t15)
def B__law_is_right_t17 : Ss :=
  (.cons (.asg 1 (.call 35 (.cons (.var 11) (.cons (.var 12) .nil))))
    B__law_is_right_t16)
/-- _law_is_right: 0 hand, 1 family, 2 every, 3 lot, 4 answers, 5 odd, 6 at, 7 fewer, 8 due, 9 pair, 10 other, 11 points, 12 lots, 13 one -/
def B__law_is_right : Ss :=
  (.cons (.unp [11, 12] (.call 31 (.cons (.var 0) .nil)))
    B__law_is_right_t17)
def B_law_t1 : Ss :=
  (.cons (.ret (.bi .all (.cons (.comp (.call 33 (.cons (.var 1) .nil)) [4] (.rng1 (.cst (.int 4))) .nil) .nil)))
    .nil)
def B_law_t2 : Ss :=
  (.cons (.ite (.cmp .ne (.comp (.idx (.call 20 (.cons (.var 3) .nil)) (.cst (.int 0))) [3] (.valsT (.tup (.cons (.cst (.int 1)) (.cons (.cst (.int 2)) (.cons (.cst (.int 3)) .nil))))) .nil) (.lst (.cons (.cst (.int 1)) (.cons (.cst (.int 2)) (.cons (.cst (.int 3)) .nil))))) (.cons (.ret (.cst (.bool false)))
    .nil) .nil)
    B_law_t1)
def B_law_t3 : Ss :=
  (.cons (.ite (.or (.cons (.cmp .ne (.idx (.var 2) (.cst (.int 0))) (.cst (.int 3))) (.cons (.cmp .ne (.bi .len (.cons (.idx (.var 2) (.cst (.int 1))) .nil)) (.cst (.int 3))) (.cons (.cmp .isnot (.call 30 (.cons (.cst (.int 4)) (.cons (.idx (.var 2) (.cst (.int 1))) (.cons (.cst (.bool true)) .nil)))) (.cst .none)) .nil)))) (.cons (.ret (.cst (.bool false)))
    .nil) .nil)
    B_law_t2)
def B_law_t4 : Ss :=
  (.cons (.asg 2 (.call 20 (.cons (.cst (.int 4)) .nil)))
    B_law_t3)
/-- law: 0 script, 1 hand, 2 told, 3 points, 4 turn -/
def B_law : Ss :=
  (.cons (.asg 1 (.call 23 (.cons (.var 0) (.cons (.cst (.int 1843)) .nil))))
    B_law_t4)
def tab : Nat → FD
  | 0 => .body 1 1 B_is_integer
  | 1 => .body 3 3 B_is_within
  | 2 => .body 1 1 B_is_number
  | 3 => .body 3 3 B_is_tuple
  | 4 => .body 2 4 B_is_lot
  | 5 => .body 1 1 B_is_count
  | 6 => .body 2 2 B_is_lot_of
  | 7 => .body 2 5 B_are_lots
  | 8 => .body 1 3 B_lot_of
  | 9 => .body 1 2 B_lots_of
  | 10 => .body 2 3 B_meets
  | 11 => .body 2 3 B_common_of
  | 12 => .body 2 2 B_check_lot
  | 13 => .body 2 3 B_counts_for
  | 14 => .body 2 3 B_bits_for
  | 15 => .body 2 2 B_answers_of
  | 16 => .body 3 8 B_least_alike
  | 17 => .body 1 1 B_told_apart
  | 18 => .body 2 5 B_is_alike_pair
  | 19 => .body 4 6 B_questions_on
  | 20 => .body 1 4 B_fewest_questions
  | 21 => .body 2 5 B_found_by
  | 22 => .body 1 1 B_bits_apart
  | 23 => .prim .hand
  | 24 => .prim .draw
  | 25 => .body 2 4 B__law_mixed
  | 26 => .body 2 2 B__law_is
  | 27 => .body 1 4 B__law_all
  | 28 => .body 2 3 B__law_meet
  | 29 => .body 2 3 B__law_answers
  | 30 => .body 3 10 B__law_told
  | 31 => .body 1 9 B__law_rows
  | 32 => .body 2 4 B__law_bits
  | 33 => .body 1 14 B__law_is_right
  | 34 => .body 1 5 B_law
  | 35 => .prim (.family 5 7)
  | _ => .body 0 0 (.cons .never .nil)
end K16
set_option linter.all false
set_option maxRecDepth 100000
namespace K16
open DL PySem L2
def cf : Cfg := ⟨[("is_integer" : Str), ("is_within" : Str), ("is_number" : Str), ("is_tuple" : Str), ("is_lot" : Str), ("is_count" : Str), ("is_lot_of" : Str), ("are_lots" : Str), ("lot_of" : Str), ("lots_of" : Str), ("meets" : Str), ("common_of" : Str), ("check_lot" : Str), ("counts_for" : Str), ("bits_for" : Str), ("answers_of" : Str), ("least_alike" : Str), ("told_apart" : Str), ("is_alike_pair" : Str), ("questions_on" : Str), ("fewest_questions" : Str), ("found_by" : Str), ("bits_apart" : Str), ("_law_hand" : Str), ("_law_draw" : Str), ("_law_mixed" : Str), ("_law_is" : Str), ("_law_all" : Str), ("_law_meet" : Str), ("_law_answers" : Str), ("_law_told" : Str), ("_law_rows" : Str), ("_law_bits" : Str), ("_law_is_right" : Str), ("law" : Str), ("Family" : Str)], [(("MOST_POINTS_families" : Str), (7 : Int)), (("MOST_POINTS_answers" : Str), (4 : Int))]⟩
theorem chk_is_integer : mSs cf [("thing" : Str)] (defScope (topS 2)) B_is_integer (defBody (topS 2)) = true := by decide +kernel
theorem sc_is_integer : FnScope [("thing" : Str)] [("thing" : Str)] (defScope (topS 2)) := ⟨rfl, rfl, rfl, by decide +kernel, rfl, by decide +kernel, by decide +kernel⟩
theorem chk_is_within : mSs cf [("thing" : Str), ("low" : Str), ("high" : Str)] (defScope (topS 3)) B_is_within (defBody (topS 3)) = true := by decide +kernel
theorem sc_is_within : FnScope [("thing" : Str), ("low" : Str), ("high" : Str)] [("thing" : Str), ("low" : Str), ("high" : Str)] (defScope (topS 3)) := ⟨rfl, rfl, rfl, by decide +kernel, rfl, by decide +kernel, by decide +kernel⟩
theorem chk_is_number : mSs cf [("thing" : Str)] (defScope (topS 4)) B_is_number (defBody (topS 4)) = true := by decide +kernel
theorem sc_is_number : FnScope [("thing" : Str)] [("thing" : Str)] (defScope (topS 4)) := ⟨rfl, rfl, rfl, by decide +kernel, rfl, by decide +kernel, by decide +kernel⟩
theorem chk_is_tuple : mSs cf [("thing" : Str), ("least" : Str), ("most" : Str)] (defScope (topS 5)) B_is_tuple (defBody (topS 5)) = true := by decide +kernel
theorem sc_is_tuple : FnScope [("thing" : Str), ("least" : Str), ("most" : Str)] [("thing" : Str), ("least" : Str), ("most" : Str)] (defScope (topS 5)) := ⟨rfl, rfl, rfl, by decide +kernel, rfl, by decide +kernel, by decide +kernel⟩
theorem chk_is_lot : mSs cf [("thing" : Str), ("many" : Str), ("one" : Str), ("other" : Str)] (defScope (topS 6)) B_is_lot (defBody (topS 6)) = true := by decide +kernel
theorem sc_is_lot : FnScope [("thing" : Str), ("many" : Str), ("one" : Str), ("other" : Str)] [("thing" : Str), ("many" : Str)] (defScope (topS 6)) := ⟨rfl, rfl, rfl, by decide +kernel, rfl, by decide +kernel, by decide +kernel⟩
theorem chk_is_count : mSs cf [("thing" : Str)] (defScope (topS 15)) B_is_count (defBody (topS 15)) = true := by decide +kernel
theorem sc_is_count : FnScope [("thing" : Str)] [("thing" : Str)] (defScope (topS 15)) := ⟨rfl, rfl, rfl, by decide +kernel, rfl, by decide +kernel, by decide +kernel⟩
theorem chk_is_lot_of : mSs cf [("points" : Str), ("thing" : Str)] (defScope (topS 16)) B_is_lot_of (defBody (topS 16)) = true := by decide +kernel
theorem sc_is_lot_of : FnScope [("points" : Str), ("thing" : Str)] [("points" : Str), ("thing" : Str)] (defScope (topS 16)) := ⟨rfl, rfl, rfl, by decide +kernel, rfl, by decide +kernel, by decide +kernel⟩
theorem chk_are_lots : mSs cf [("points" : Str), ("thing" : Str), ("one" : Str), ("other" : Str), ("lot" : Str)] (defScope (topS 17)) B_are_lots (defBody (topS 17)) = true := by decide +kernel
theorem sc_are_lots : FnScope [("points" : Str), ("thing" : Str), ("one" : Str), ("other" : Str), ("lot" : Str)] [("points" : Str), ("thing" : Str)] (defScope (topS 17)) := ⟨rfl, rfl, rfl, by decide +kernel, rfl, by decide +kernel, by decide +kernel⟩
theorem chk_lot_of : mSs cf [("number" : Str), ("found" : Str), ("point" : Str)] (defScope (topS 19)) B_lot_of (defBody (topS 19)) = true := by decide +kernel
theorem sc_lot_of : FnScope [("number" : Str), ("found" : Str), ("point" : Str)] [("number" : Str)] (defScope (topS 19)) := ⟨rfl, rfl, rfl, by decide +kernel, rfl, by decide +kernel, by decide +kernel⟩
theorem chk_lots_of : mSs cf [("points" : Str), ("number" : Str)] (defScope (topS 20)) B_lots_of (defBody (topS 20)) = true := by decide +kernel
theorem sc_lots_of : FnScope [("points" : Str), ("number" : Str)] [("points" : Str)] (defScope (topS 20)) := ⟨rfl, rfl, rfl, by decide +kernel, rfl, by decide +kernel, by decide +kernel⟩
theorem chk_meets : mSs cf [("one" : Str), ("other" : Str), ("point" : Str)] (defScope (topS 21)) B_meets (defBody (topS 21)) = true := by decide +kernel
theorem sc_meets : FnScope [("one" : Str), ("other" : Str), ("point" : Str)] [("one" : Str), ("other" : Str)] (defScope (topS 21)) := ⟨rfl, rfl, rfl, by decide +kernel, rfl, by decide +kernel, by decide +kernel⟩
theorem chk_common_of : mSs cf [("one" : Str), ("other" : Str), ("point" : Str)] (defScope (topS 22)) B_common_of (defBody (topS 22)) = true := by decide +kernel
theorem sc_common_of : FnScope [("one" : Str), ("other" : Str), ("point" : Str)] [("one" : Str), ("other" : Str)] (defScope (topS 22)) := ⟨rfl, rfl, rfl, by decide +kernel, rfl, by decide +kernel, by decide +kernel⟩
theorem chk_check_lot : mSs cf [("family" : Str), ("lot" : Str)] (defScope (topS 23)) B_check_lot (defBody (topS 23)) = true := by decide +kernel
theorem sc_check_lot : FnScope [("family" : Str), ("lot" : Str)] [("family" : Str), ("lot" : Str)] (defScope (topS 23)) := ⟨rfl, rfl, rfl, by decide +kernel, rfl, by decide +kernel, by decide +kernel⟩
theorem chk_counts_for : mSs cf [("questions" : Str), ("lot" : Str), ("one" : Str)] (defScope (topS 26)) B_counts_for (defBody (topS 26)) = true := by decide +kernel
theorem sc_counts_for : FnScope [("questions" : Str), ("lot" : Str), ("one" : Str)] [("questions" : Str), ("lot" : Str)] (defScope (topS 26)) := ⟨rfl, rfl, rfl, by decide +kernel, rfl, by decide +kernel, by decide +kernel⟩
theorem chk_bits_for : mSs cf [("questions" : Str), ("lot" : Str), ("one" : Str)] (defScope (topS 27)) B_bits_for (defBody (topS 27)) = true := by decide +kernel
theorem sc_bits_for : FnScope [("questions" : Str), ("lot" : Str), ("one" : Str)] [("questions" : Str), ("lot" : Str)] (defScope (topS 27)) := ⟨rfl, rfl, rfl, by decide +kernel, rfl, by decide +kernel, by decide +kernel⟩
theorem chk_answers_of : mSs cf [("family" : Str), ("lot" : Str)] (defScope (topS 28)) B_answers_of (defBody (topS 28)) = true := by decide +kernel
theorem sc_answers_of : FnScope [("family" : Str), ("lot" : Str)] [("family" : Str), ("lot" : Str)] (defScope (topS 28)) := ⟨rfl, rfl, rfl, by decide +kernel, rfl, by decide +kernel, by decide +kernel⟩
theorem chk_least_alike : mSs cf [("lots" : Str), ("questions" : Str), ("told" : Str), ("rows" : Str), ("at" : Str), ("lot" : Str), ("alike" : Str), ("b" : Str)] (defScope (topS 29)) B_least_alike (defBody (topS 29)) = true := by decide +kernel
theorem sc_least_alike : FnScope [("lots" : Str), ("questions" : Str), ("told" : Str), ("rows" : Str), ("at" : Str), ("lot" : Str), ("alike" : Str), ("b" : Str)] [("lots" : Str), ("questions" : Str), ("told" : Str)] (defScope (topS 29)) := ⟨rfl, rfl, rfl, by decide +kernel, rfl, by decide +kernel, by decide +kernel⟩
theorem chk_told_apart : mSs cf [("family" : Str)] (defScope (topS 30)) B_told_apart (defBody (topS 30)) = true := by decide +kernel
theorem sc_told_apart : FnScope [("family" : Str)] [("family" : Str)] (defScope (topS 30)) := ⟨rfl, rfl, rfl, by decide +kernel, rfl, by decide +kernel, by decide +kernel⟩
theorem chk_is_alike_pair : mSs cf [("family" : Str), ("thing" : Str), ("one" : Str), ("other" : Str), ("lot" : Str)] (defScope (topS 31)) B_is_alike_pair (defBody (topS 31)) = true := by decide +kernel
theorem sc_is_alike_pair : FnScope [("family" : Str), ("thing" : Str), ("one" : Str), ("other" : Str), ("lot" : Str)] [("family" : Str), ("thing" : Str)] (defScope (topS 31)) := ⟨rfl, rfl, rfl, by decide +kernel, rfl, by decide +kernel, by decide +kernel⟩
theorem chk_questions_on : mSs cf [("every" : Str), ("start" : Str), ("taken" : Str), ("many" : Str), ("at" : Str), ("found" : Str)] (defScope (topS 32)) B_questions_on (defBody (topS 32)) = true := by decide +kernel
theorem sc_questions_on : FnScope [("every" : Str), ("start" : Str), ("taken" : Str), ("many" : Str), ("at" : Str), ("found" : Str)] [("every" : Str), ("start" : Str), ("taken" : Str), ("many" : Str)] (defScope (topS 32)) := ⟨rfl, rfl, rfl, by decide +kernel, rfl, by decide +kernel, by decide +kernel⟩
theorem chk_fewest_questions : mSs cf [("points" : Str), ("every" : Str), ("many" : Str), ("found" : Str)] (defScope (topS 33)) B_fewest_questions (defBody (topS 33)) = true := by decide +kernel
theorem sc_fewest_questions : FnScope [("points" : Str), ("every" : Str), ("many" : Str), ("found" : Str)] [("points" : Str)] (defScope (topS 33)) := ⟨rfl, rfl, rfl, by decide +kernel, rfl, by decide +kernel, by decide +kernel⟩
theorem chk_found_by : mSs cf [("family" : Str), ("answers" : Str), ("many" : Str), ("lot" : Str), ("one" : Str)] (defScope (topS 34)) B_found_by (defBody (topS 34)) = true := by decide +kernel
theorem sc_found_by : FnScope [("family" : Str), ("answers" : Str), ("many" : Str), ("lot" : Str), ("one" : Str)] [("family" : Str), ("answers" : Str)] (defScope (topS 34)) := ⟨rfl, rfl, rfl, by decide +kernel, rfl, by decide +kernel, by decide +kernel⟩
theorem chk_bits_apart : mSs cf [("family" : Str)] (defScope (topS 35)) B_bits_apart (defBody (topS 35)) = true := by decide +kernel
theorem sc_bits_apart : FnScope [("family" : Str)] [("family" : Str)] (defScope (topS 35)) := ⟨rfl, rfl, rfl, by decide +kernel, rfl, by decide +kernel, by decide +kernel⟩
theorem chk__law_mixed : mSs cf [("hand" : Str), ("many" : Str), ("left" : Str), ("found" : Str)] (defScope (topS 40)) B__law_mixed (defBody (topS 40)) = true := by decide +kernel
theorem sc__law_mixed : FnScope [("hand" : Str), ("many" : Str), ("left" : Str), ("found" : Str)] [("hand" : Str), ("many" : Str)] (defScope (topS 40)) := ⟨rfl, rfl, rfl, by decide +kernel, rfl, by decide +kernel, by decide +kernel⟩
theorem chk__law_is : mSs cf [("told" : Str), ("due" : Str)] (defScope (topS 41)) B__law_is (defBody (topS 41)) = true := by decide +kernel
theorem sc__law_is : FnScope [("told" : Str), ("due" : Str)] [("told" : Str), ("due" : Str)] (defScope (topS 41)) := ⟨rfl, rfl, rfl, by decide +kernel, rfl, by decide +kernel, by decide +kernel⟩
theorem chk__law_all : mSs cf [("points" : Str), ("found" : Str), ("point" : Str), ("lot" : Str)] (defScope (topS 42)) B__law_all (defBody (topS 42)) = true := by decide +kernel
theorem sc__law_all : FnScope [("points" : Str), ("found" : Str), ("point" : Str), ("lot" : Str)] [("points" : Str)] (defScope (topS 42)) := ⟨rfl, rfl, rfl, by decide +kernel, rfl, by decide +kernel, by decide +kernel⟩
theorem chk__law_meet : mSs cf [("one" : Str), ("other" : Str), ("point" : Str)] (defScope (topS 43)) B__law_meet (defBody (topS 43)) = true := by decide +kernel
theorem sc__law_meet : FnScope [("one" : Str), ("other" : Str), ("point" : Str)] [("one" : Str), ("other" : Str)] (defScope (topS 43)) := ⟨rfl, rfl, rfl, by decide +kernel, rfl, by decide +kernel, by decide +kernel⟩
theorem chk__law_answers : mSs cf [("lots" : Str), ("lot" : Str), ("one" : Str)] (defScope (topS 44)) B__law_answers (defBody (topS 44)) = true := by decide +kernel
theorem sc__law_answers : FnScope [("lots" : Str), ("lot" : Str), ("one" : Str)] [("lots" : Str), ("lot" : Str)] (defScope (topS 44)) := ⟨rfl, rfl, rfl, by decide +kernel, rfl, by decide +kernel, by decide +kernel⟩
theorem chk__law_told : mSs cf [("points" : Str), ("lots" : Str), ("count" : Str), ("every" : Str), ("lot" : Str), ("known" : Str), ("best" : Str), ("answers" : Str), ("pair" : Str), ("one" : Str)] (defScope (topS 45)) B__law_told (defBody (topS 45)) = true := by decide +kernel
theorem sc__law_told : FnScope [("points" : Str), ("lots" : Str), ("count" : Str), ("every" : Str), ("lot" : Str), ("known" : Str), ("best" : Str), ("answers" : Str), ("pair" : Str), ("one" : Str)] [("points" : Str), ("lots" : Str), ("count" : Str)] (defScope (topS 45)) := ⟨rfl, rfl, rfl, by decide +kernel, rfl, by decide +kernel, by decide +kernel⟩
theorem chk__law_rows : mSs cf [("hand" : Str), ("some" : Str), ("names" : Str), ("lots" : Str), ("points" : Str), ("numbers" : Str), ("number" : Str), ("lot" : Str), ("point" : Str)] (defScope (topS 46)) B__law_rows (defBody (topS 46)) = true := by decide +kernel
theorem sc__law_rows : FnScope [("hand" : Str), ("some" : Str), ("names" : Str), ("lots" : Str), ("points" : Str), ("numbers" : Str), ("number" : Str), ("lot" : Str), ("point" : Str)] [("hand" : Str)] (defScope (topS 46)) := ⟨rfl, rfl, rfl, by decide +kernel, rfl, by decide +kernel, by decide +kernel⟩
theorem chk__law_bits : mSs cf [("points" : Str), ("number" : Str), ("found" : Str), ("point" : Str)] (defScope (topS 47)) B__law_bits (defBody (topS 47)) = true := by decide +kernel
theorem sc__law_bits : FnScope [("points" : Str), ("number" : Str), ("found" : Str), ("point" : Str)] [("points" : Str), ("number" : Str)] (defScope (topS 47)) := ⟨rfl, rfl, rfl, by decide +kernel, rfl, by decide +kernel, by decide +kernel⟩
theorem chk__law_is_right : mSs cf [("hand" : Str), ("family" : Str), ("every" : Str), ("lot" : Str), ("answers" : Str), ("odd" : Str), ("at" : Str), ("fewer" : Str), ("due" : Str), ("pair" : Str), ("other" : Str), ("points" : Str), ("lots" : Str), ("one" : Str)] (defScope (topS 48)) B__law_is_right (defBody (topS 48)) = true := by decide +kernel
theorem sc__law_is_right : FnScope [("hand" : Str), ("family" : Str), ("every" : Str), ("lot" : Str), ("answers" : Str), ("odd" : Str), ("at" : Str), ("fewer" : Str), ("due" : Str), ("pair" : Str), ("other" : Str), ("points" : Str), ("lots" : Str), ("one" : Str)] [("hand" : Str)] (defScope (topS 48)) := ⟨rfl, rfl, rfl, by decide +kernel, rfl, by decide +kernel, by decide +kernel⟩
theorem chk_law : mSs cf [("script" : Str), ("hand" : Str), ("told" : Str), ("points" : Str), ("turn" : Str)] (defScope (topS 49)) B_law (defBody (topS 49)) = true := by decide +kernel
theorem sc_law : FnScope [("script" : Str), ("hand" : Str), ("told" : Str), ("points" : Str), ("turn" : Str)] [("script" : Str)] (defScope (topS 49)) := ⟨rfl, rfl, rfl, by decide +kernel, rfl, by decide +kernel, by decide +kernel⟩
end K16
set_option Elab.async false
set_option linter.all false
set_option maxRecDepth 100000
namespace K16
open DL PySem
/-- an ascending list of whole numbers from 0 on, below p -/
structure VL (p : Int) (l : List Int) : Prop where
  rng : ∀ x ∈ l, 0 ≤ x ∧ x < p
  asc : l.Pairwise (· < ·)
theorem asc_len : ∀ {l : List Int} {lo p : Int}, (∀ x ∈ l, lo ≤ x ∧ x < p) → l.Pairwise (· < ·) → lo ≤ p → (l.length : Int) ≤ p - lo
  | [], _, _, _, _, h => by simp; omega
  | x :: l, lo, p, r, a, _ => by
    have hx := r x (.head _)
    have := asc_len (l := l) (lo := x + 1) (p := p) (fun y hy => ⟨by have := (List.pairwise_cons.mp a).1 y hy; omega, (r y (.tail _ hy)).2⟩) (List.pairwise_cons.mp a).2 (by omega)
    simp
    omega
theorem VL.len {p : Int} {l : List Int} (h : VL p l) (hp : 0 ≤ p) : (l.length : Int) ≤ p := by
  have := asc_len h.rng h.asc hp
  omega
@[simp] theorem c_is_integer (n : Nat) (i : Int) (Q : D → Prop) : wC tab (n + 1) 0 [.int i] Q = Q (.bool true) := by
  rw [wC_body (b := B_is_integer) rfl]
  simp [B_is_integer]
@[simp] theorem c_is_within (n : Nat) (i lo hi : Int) (Q : D → Prop) : wC tab (n + 2) 1 [.int i, .int lo, .int hi] Q = Q (.bool (decide (lo ≤ i) && decide (i ≤ hi))) := by
  rw [wC_body (b := B_is_within) rfl]
  by_cases h : lo ≤ i <;> simp [B_is_within, h]
@[simp] theorem c_is_number (n : Nat) (i : Int) (Q : D → Prop) : wC tab (n + 2) 2 [.int i] Q = Q (.bool (decide (0 ≤ i))) := by
  rw [wC_body (b := B_is_number) rfl]
  simp [B_is_number]
@[simp] theorem c_is_tuple (n : Nat) (xs : List D) (lo hi : Int) (Q : D → Prop) : wC tab (n + 1) 3 [.tuple xs, .int lo, .int hi] Q = Q (.bool (decide (lo ≤ xs.length) && decide ((xs.length : Int) ≤ hi))) := by
  rw [wC_body (b := B_is_tuple) rfl]
  by_cases h : lo ≤ xs.length <;> simp [B_is_tuple, h]
theorem p_common_of {n : Nat} {a b : List Int} {Q : D → Prop} (h : a.length ≤ 100000) (q : Q (tupI (a.filter fun x => b.contains x))) : wC tab (n + 1) 11 [tupI a, tupI b] Q := by
  rw [wC_body (b := B_common_of) rfl]
  simp [B_common_of, tupI]
  refine comp_if (fun x => b.contains x) (fun x => .int x) (fun x _ K k => ?_) h ⟨immAll_ints _, q⟩
  by_cases e : x ∈ b <;> simpa [e] using k
theorem p_meets {n : Nat} {a b : List Int} {Q : D → Prop} (h : a.length ≤ 100000) (q : Q (.bool (a.any fun x => b.contains x))) : wC tab (n + 1) 10 [tupI a, tupI b] Q := by
  rw [wC_body (b := B_meets) rfl]
  simp [B_meets, tupI]
  refine ⟨size_of h, ?_⟩
  have : (fun a : Int => b.any ((fun y => PyData.eqv y (.int a)) ∘ PyData.int)) = fun x => b.contains x := by
    funext x
    have := any_ints x b
    rw [List.any_map] at this
    exact this
  rw [this]
  exact q
theorem p_is_lot {n : Nat} {p : Int} {l : List Int} {Q : D → Prop} (v : VL p l) (h0 : 0 ≤ p) (h : p ≤ 1000) (q : Q (.bool true)) : wC tab (n + 3) 4 [tupI l, .int p] Q := by
  rw [wC_body (b := B_is_lot) rfl]
  have len := v.len h0
  simp [B_is_lot, tupI]
  refine ⟨size_of (by omega), ?_⟩
  rw [if_pos fun x hx => ⟨(v.rng x hx).1, by have := (v.rng x hx).2; omega⟩, cut_from _ (by decide), ← List.map_drop, zip_maps, compG_map]
  refine comp_to (fun p => .bool (decide (p.1 < p.2))) (fun p _ K k => by simpa using k) (by simp; omega) ?_
  rw [allB_map]
  have := all_next v.asc
  simp only [Option.map_some]
  rw [show (1 : Int).toNat = 1 from rfl, this]
  exact ⟨.inl rfl, q⟩
theorem p_is_lot_of {n : Nat} {p : Int} {l : List Int} {Q : D → Prop} (v : VL p l) (h0 : 0 ≤ p) (h : p ≤ 1000) (q : Q (.bool true)) : wC tab (n + 4) 6 [.int p, tupI l] Q := by
  rw [wC_body (b := B_is_lot_of) rfl]
  simp [B_is_lot_of]
  exact p_is_lot v h0 h ⟨.inl rfl, q⟩
@[simp] theorem c_is_count (n : Nat) (p : Int) (Q : D → Prop) : wC tab (n + 3) 5 [.int p] Q = Q (.bool (decide (1 ≤ p) && decide (p ≤ 7))) := by
  rw [wC_body (b := B_is_count) rfl]
  simp [B_is_count]
theorem p_check_lot {n : Nat} {p : Int} {fl : List D} {l : List Int} {Q : D → Prop} (v : VL p l) (h0 : 0 ≤ p) (h : p ≤ 1000) (q : Q .none) : wC tab (n + 5) 12 [fam p fl, tupI l] Q := by
  rw [wC_body (b := B_check_lot) rfl]
  simp [B_check_lot, fam]
  exact p_is_lot_of v h0 h ⟨rfl, q⟩
theorem p_are_lots {n : Nat} {p : Int} {ls : List (List Int)} {Q : D → Prop} (v : ∀ l ∈ ls, VL p l) (asc : ls.Pairwise (· < ·)) (len : ls.length ≤ 10000) (h0 : 0 ≤ p) (h : p ≤ 1000) (q : Q (.bool true)) : wC tab (n + 5) 7 [.int p, .tuple (ls.map tupI)] Q := by
  rw [wC_body (b := B_are_lots) rfl]
  simp [B_are_lots]
  refine comp_to (fun _ => .bool true) (fun l hl K k => p_is_lot_of (v l hl) h0 h k) (by omega) ?_
  rw [allB_map]
  have all_true : ∀ m : List (List Int), (m.all fun _ => true) = true := fun m => by simp
  rw [all_true]
  simp only [Option.map_some, if_true]
  rw [cut_from _ (by decide), ← List.map_drop, zip_maps, compG_map]
  refine comp_to (fun p => .bool (decide (p.1 < p.2))) (fun p _ K k => ?_) (by simp; omega) ?_
  · simp only [ordOk_tupI, if_true, lt_tupI]
    exact k
  rw [allB_map]
  have := all_next asc
  simp only [Option.map_some]
  rw [show (1 : Int).toNat = 1 from rfl, this]
  exact ⟨.inl rfl, q⟩
/-! the program's counts -/
def cnt (qs : List (List Int)) (l : List Int) : List Int := qs.map fun one => ((one.filter fun x => l.contains x).length : Int)
def bts (qs : List (List Int)) (l : List Int) : List Bool := qs.map fun one => one.any fun x => l.contains x
theorem p_counts_for {n : Nat} {qs : List (List Int)} {l : List Int} {Q : D → Prop} (h : ∀ one ∈ qs, one.length ≤ 100000) (h2 : qs.length ≤ 100000) (q : Q (tupI (cnt qs l))) : wC tab (n + 2) 13 [.tuple (qs.map tupI), tupI l] Q := by
  rw [wC_body (b := B_counts_for) rfl]
  simp [B_counts_for]
  refine comp_to (fun one => .int ((one.filter fun x => l.contains x).length : Int)) (fun one ho K k => p_common_of (h one ho) ?_) h2 ?_
  · simpa [tupI] using k
  have e : (qs.map fun one => (PyData.int ((one.filter fun x => l.contains x).length : Int))) = (cnt qs l).map .int := by
    unfold cnt
    rw [List.map_map]
    rfl
  rw [e]
  exact ⟨immAll_ints _, q⟩
theorem p_bits_for {n : Nat} {qs : List (List Int)} {l : List Int} {Q : D → Prop} (h : ∀ one ∈ qs, one.length ≤ 100000) (h2 : qs.length ≤ 100000) (q : Q (tupB (bts qs l))) : wC tab (n + 2) 14 [.tuple (qs.map tupI), tupI l] Q := by
  rw [wC_body (b := B_bits_for) rfl]
  simp [B_bits_for]
  refine comp_to (fun one => .bool (one.any fun x => l.contains x)) (fun one ho K k => p_meets (h one ho) ?_) h2 ?_
  · simpa using k
  have e : (qs.map fun one => (PyData.bool (one.any fun x => l.contains x))) = (bts qs l).map .bool := by
    unfold bts
    rw [List.map_map]
    rfl
  rw [e]
  exact ⟨immAll_map (fun _ => rfl) _, q⟩
theorem p_answers_of {n : Nat} {p : Int} {qs : List (List Int)} {l : List Int} {Q : D → Prop} (v : VL p l) (h0 : 0 ≤ p) (h1 : p ≤ 1000) (h : ∀ one ∈ qs, one.length ≤ 100000) (h2 : qs.length ≤ 100000) (q : Q (tupI (cnt qs l))) : wC tab (n + 6) 15 [fam p (qs.map tupI), tupI l] Q := by
  rw [wC_body (b := B_answers_of) rfl]
  simp [B_answers_of]
  refine p_check_lot v h0 h1 ?_
  exact p_counts_for (n := n + 3) h h2 ⟨.inl (imm_tupI _), q⟩
def pairD : Option (List Int × List Int) → D
  | none => .none
  | some (a, b) => .tuple [tupI a, tupI b]
theorem p_least_alike {κ : Type} [DecidableEq κ] [Key κ] {n k : Nat} (f : List Int → κ) {qs : List (List Int)} {ls : List (List Int)} {Q : D → Prop} (hf : ∀ l ∈ ls, ∀ K : D → Prop, K (Key.enc (f l)) → wC tab n k [.tuple (qs.map tupI), tupI l] K) (h : ls.length ≤ 10000)
    (q : Q (pairD (alikePair f ls))) : wC tab (n + 1) 16 [.list (ls.map tupI), .tuple (qs.map tupI), fnv k] Q := by
  rw [wC_body (b := B_least_alike) rfl]
  simp [B_least_alike, fnv]
  refine comp_to (fun l => Key.enc (f l)) (fun l hl K k => hf l hl _ k) (by omega) ?_
  have im : immAll (ls.map fun l => Key.enc (f l)) = true := immAll_map (fun _ => imm_key _) ls
  simp [im]
  rw [zip_range_right, List.map_map]
  refine for_inv (g := fun p : Nat × List Int => .tuple [.int p.1, tupI p.2]) (done := []) (I := fun done rest ρ => (∃ s4 s5 s6, ρ = [some (Sl.frz (.list (ls.map tupI))), some (Sl.frz (.tuple (qs.map tupI))), some (Sl.frz (.dict [(.int (k : Int), .none)])), some (Sl.own (.list (ls.map fun l => Key.enc (f l)))), s4, s5, s6, none]) ∧
      (List.range ls.length).zip ls = done ++ rest ∧ Q (pairD (alikePair f (rest.map (·.2))))) ⟨⟨_, _, _, rfl⟩, rfl, by rw [List.map_snd_zip (by simp)]; exact q⟩ (fun done a rest ρ hI K hK => ?_) fun done ρ hI => by simpa [alikePair, pairD, B_least_alike_t1] using hI.2.2
  obtain ⟨i, x⟩ := a
  obtain ⟨⟨s4, s5, s6, rfl⟩, e, q⟩ := hI
  obtain ⟨rfl, e2⟩ := zip_split e
  simp [B_least_alike_2]
  generalize hr : rest.map (·.2) = r at *
  simp only [List.map_cons, hr] at q
  have len : ls.length = done.length + 1 + r.length := by
    rw [e2]
    simp
    omega
  have gx : L2.atI (ls.map fun l => Key.enc (f l)) (done.length : Int) = some (Key.enc (f x)) := by
    rw [atI_of done.length rfl, e2, List.map_append, List.getElem?_append_right (by simp)]
    simp
  have gk : ∀ k, k < r.length → L2.atI (ls.map fun l => Key.enc (f l)) ((done.length : Int) + 1 + k) = some (Key.enc (f (r.getD k []))) := fun k hk => by
    rw [atI_of (done.length + 1 + k) (by omega), e2, List.map_append, List.getElem?_append_right (by simp; omega), List.map_cons, show done.length + 1 + k - (List.map (fun l => Key.enc (f l)) (List.map (fun x => x.snd) done)).length = k + 1 from by simp; omega, List.getElem?_cons_succ, List.getElem?_map]
    simp [List.getD_eq_getElem?_getD, List.getElem?_eq_getElem hk]
  have lk : ∀ k, k < r.length → L2.atI (ls.map tupI) ((done.length : Int) + 1 + k) = some (tupI (r.getD k [])) := fun k hk => by
    rw [atI_of (done.length + 1 + k) (by omega), e2, List.map_append, List.getElem?_append_right (by simp; omega), List.map_cons, show done.length + 1 + k - (List.map tupI (List.map (fun x => x.snd) done)).length = k + 1 from by simp; omega, List.getElem?_cons_succ, List.getElem?_map]
    simp [List.getD_eq_getElem?_getD, List.getElem?_eq_getElem hk]
  refine ⟨by omega, comp_if (fun k => decide (f (r.getD k []) = f x)) (fun k => .int ((done.length : Int) + 1 + k)) (fun k hk K' kk => ?_) (by simp; omega) ?_⟩
  · rw [List.mem_range] at hk
    rw [gk k (by omega), gx]
    by_cases z : f (r.getD k []) = f x <;> simpa [z, -List.getD_eq_getElem?_getD] using kk
  have e3 : ((ls.length : Int) - ((done.length : Int) + 1)).toNat = r.length := by omega
  rw [e3]
  have fr := find_range [] (fun y => decide (f y = f x)) r
  have sub : ∀ k ∈ (List.range r.length).filter (fun k => decide (f (r.getD k []) = f x)), k < r.length := fun k hk => List.mem_range.mp (List.mem_filter.mp hk).1
  generalize (List.range r.length).filter (fun k => decide (f (r.getD k []) = f x)) = ks at fr sub
  cases ks with
  | nil =>
    simp
    refine hK _ ⟨⟨_, _, _, rfl⟩, by rw [e, List.append_assoc]; rfl, ?_⟩
    rw [alikePair, fr] at q
    exact q
  | cons k ks =>
    have im2 : immAll (ks.map fun (k : Nat) => (PyData.int ((done.length : Int) + 1 + k) : D)) = true := immAll_map (fun _ => rfl) _
    rw [alikePair, fr] at q
    simp only [List.head?_cons, Option.map_some] at q
    have l0 := lk k (sub k (.head _))
    have pos : (0 : Int) < (ks.length : Int) + 1 := by omega
    simp [im2, l0, pos]
    exact ⟨by decide, q⟩
end K16
set_option Elab.async false
set_option linter.all false
set_option maxRecDepth 100000
namespace K16
open DL PySem
/-- the points whose bits are set, from p on -/
def bitsF : Nat → Nat → Int → List Int
  | 0, _, _ => []
  | f + 1, n, p => if n = 0 then [] else (if n % 2 = 1 then [p] else []) ++ bitsF f (n / 2) (p + 1)
/-- all lots of so many points, by their sums of powers of 2 -/
def bitsL : Nat → List (List Int)
  | 0 => [[]]
  | p + 1 => bitsL p ++ (bitsL p).map fun l => l ++ [(p : Int)]
theorem bits_eq : ∀ p : Nat, p ≤ 7 → (List.range (2 ^ p)).map (fun k => bitsF p k 0) = bitsL p := by decide +kernel
theorem bitsL_len : ∀ p : Nat, (bitsL p).length = 2 ^ p
  | 0 => rfl
  | p + 1 => by
    rw [bitsL, List.length_append, List.length_map, bitsL_len p]
    omega
theorem bitsL_mem : ∀ {p : Nat} {l : List Int}, l ∈ bitsL p ↔ VL p l
  | 0, l => by
    constructor
    · intro h
      have : l = [] := by simpa [bitsL] using h
      subst this
      exact ⟨by simp, .nil⟩
    · intro v
      cases l with
      | nil => simp [bitsL]
      | cons x l =>
        have := v.rng x (.head _)
        omega
  | p + 1, l => by
    rw [bitsL, List.mem_append, bitsL_mem]
    constructor
    · rintro (v | h)
      · exact ⟨fun x hx => by have := v.rng x hx; omega, v.asc⟩
      · obtain ⟨m, hm, rfl⟩ := List.mem_map.mp h
        have v := bitsL_mem.mp hm
        refine ⟨fun x hx => ?_, List.pairwise_append.mpr ⟨v.asc, List.pairwise_singleton .., fun x hx y hy => ?_⟩⟩
        · rcases List.mem_append.mp hx with hx | hx
          · have := v.rng x hx
            omega
          · have := List.mem_singleton.mp hx
            omega
        · have := v.rng x hx
          have := List.mem_singleton.mp hy
          omega
    · intro v
      rcases List.eq_nil_or_concat l with rfl | ⟨m, x, e⟩
      · exact .inl ⟨by simp, .nil⟩
      · rw [List.concat_eq_append] at e
        subst e
        have hx := v.rng x (by simp)
        have pw := List.pairwise_append.mp v.asc
        have below : ∀ y ∈ m, y < x := fun y hy => pw.2.2 y hy x (by simp)
        by_cases z : x = p
        · subst z
          refine .inr (List.mem_map.mpr ⟨m, bitsL_mem.mpr ⟨fun y hy => ⟨(v.rng y (by simp [hy])).1, below y hy⟩, pw.1⟩, rfl⟩)
        · refine .inl ⟨fun y hy => ?_, v.asc⟩
          have := v.rng y hy
          rcases List.mem_append.mp hy with hy | hy
          · have := below y hy
            omega
          · have := List.mem_singleton.mp hy
            omega
theorem bitsL_nodup : ∀ p : Nat, (bitsL p).Nodup
  | 0 => by simp [bitsL]
  | p + 1 => by
    rw [bitsL]
    have h := bitsL_nodup p
    refine List.nodup_append.mpr ⟨h, List.pairwise_map.mpr (h.imp fun ne e => ne (List.append_cancel_right e)), fun a ha b hb e => ?_⟩
    obtain ⟨m, _, rfl⟩ := List.mem_map.mp hb
    have := (bitsL_mem.mp ha).rng p (by rw [e]; simp)
    omega
theorem bitsF_len : ∀ (f n : Nat) (p : Int), (bitsF f n p).length ≤ f
  | 0, _, _ => Nat.le_refl _
  | f + 1, n, p => by
    rw [bitsF]
    have := bitsF_len f (n / 2) (p + 1)
    split
    · exact Nat.zero_le _
    · split <;> simp <;> omega
theorem fdiv2 (k : Nat) : ((k : Int)).fdiv 2 = ((k / 2 : Nat) : Int) := by
  rw [Int.fdiv_eq_ediv_of_nonneg _ (by decide)]
  rfl
theorem fmod2 (k : Nat) : ((k : Int)).fmod 2 = ((k % 2 : Nat) : Int) := by
  rw [Int.fmod_eq_emod_of_nonneg _ (by decide)]
  rfl
theorem p_lot_of {n f k : Nat} {Q : D → Prop} (hk : k < 2 ^ f) (hf : f ≤ 1000) (q : Q (tupI (bitsF f k 0))) : wC tab (n + 1) 8 [.int k] Q := by
  rw [wC_body (b := B_lot_of) rfl]
  simp [B_lot_of]
  refine while_to (m := f) (fun m ρ => ∃ (k : Nat) (acc : List Int) (pt : Int), ρ = [some (.frz (.int k)), some (.own (.list (acc.map .int))), some (.frz (.int pt))] ∧ k < 2 ^ m ∧ acc.length + m ≤ 1000 ∧ Q (tupI (acc ++ bitsF m k pt))) ?_ ?_ ⟨k, [], 0, rfl, hk, by simpa using hf, by simpa using q⟩
  · rintro ρ ⟨k, acc, pt, rfl, hk, ha, q⟩ K
    have : k = 0 := by omega
    subst this
    simpa [B_lot_of_c2, B_lot_of_t1, bitsF, tupI] using q
  · rintro m ρ ⟨k, acc, pt, rfl, hk, ha, q⟩ K hK
    simp [B_lot_of_c2]
    by_cases z : k = 0
    · subst z
      simpa [B_lot_of_t1, bitsF, tupI] using q
    · have kp : 0 < k := by omega
      rw [if_pos kp]
      rw [bitsF, if_neg z] at q
      simp [B_lot_of_3, fdiv2, fmod2]
      rcases Nat.mod_two_eq_zero_or_one k with e1 | e1
      · have e2 : (k : Int) % 2 = 0 := by omega
        rw [e1] at q
        rw [e2]
        simp
        exact hK _ ⟨k / 2, acc, pt + 1, by simp, by omega, by omega, by simpa using q⟩
      · have e2 : (k : Int) % 2 = 1 := by omega
        rw [e1] at q
        rw [e2]
        simp
        exact ⟨by unfold sizeLine; omega, hK _ ⟨k / 2, acc ++ [pt], pt + 1, by simp, by omega, by simp; omega, by simpa using q⟩⟩
theorem p_lots_of {n p : Nat} {Q : D → Prop} (hp : p ≤ 7) (q : Q (.list ((bitsL p).map tupI))) : wC tab (n + 2) 9 [.int p] Q := by
  rw [wC_body (b := B_lots_of) rfl]
  have up : (2 : Int) ^ p ≤ 128 := by
    have : (2 : Nat) ^ p ≤ 2 ^ 7 := Nat.pow_le_pow_right (by decide) hp
    have e : ((2 ^ p : Nat) : Int) = 2 ^ p := by simp
    omega
  have lo : (0 : Int) < 2 ^ p := Int.pow_pos (by decide)
  have le : (p : Int) ≤ 1000000 := by omega
  have nat : ((2 : Int) ^ p).toNat = 2 ^ p := by
    have e : ((2 ^ p : Nat) : Int) = 2 ^ p := by simp
    rw [← e, Int.toNat_natCast]
  simp [B_lots_of, le, nat]
  refine ⟨by omega, comp_to (fun k => tupI (bitsF p k 0)) (fun k hk K kk => p_lot_of (List.mem_range.mp hk) (by omega) kk) ?_ ?_⟩
  · rw [List.length_range]
    have : (2 : Nat) ^ p ≤ 2 ^ 7 := Nat.pow_le_pow_right (by decide) hp
    omega
  have e : (List.range (2 ^ p)).map (fun k => tupI (bitsF p k 0)) = (bitsL p).map tupI := by
    rw [← bits_eq p hp, List.map_map]
    rfl
  rw [e]
  exact ⟨immAll_tupIs _, q⟩
/-- all lots of so many points, as tuples are ordered -/
def lotsA (p : Nat) : List (List Int) := (bitsL p).mergeSort fun a b => decide (a ≤ b)
theorem lotsA_mem {p : Nat} {l : List Int} : l ∈ lotsA p ↔ VL p l := (List.mergeSort_perm _ _).mem_iff.trans bitsL_mem
theorem lotsA_asc (p : Nat) : (lotsA p).Pairwise (· < ·) := by
  have s := List.pairwise_mergeSort (fun a b c => le_trn a b c) (fun a b => le_tot a b) (bitsL p)
  have n : (lotsA p).Nodup := (List.mergeSort_perm _ _).nodup_iff.mpr (bitsL_nodup p)
  refine (List.Pairwise.and s n).imp fun {a b} h => ?_
  have h1 : a ≤ b := by simpa using h.1
  rcases List.le_iff_lt_or_eq.mp h1 with z | z
  · exact z
  · exact absurd z h.2
theorem lotsA_len (p : Nat) : (lotsA p).length = 2 ^ p := by
  unfold lotsA
  rw [List.length_mergeSort, bitsL_len]
theorem p7 {p : Nat} (hp : p ≤ 7) : 2 ^ p ≤ 128 := (Nat.pow_le_pow_right (by decide) hp : 2 ^ p ≤ 2 ^ 7)
theorem p_law_all {n p : Nat} {Q : D → Prop} (hp : p ≤ 7) (q : Q (.list ((lotsA p).map tupI))) : wC tab (n + 1) 27 [.int p] Q := by
  rw [wC_body (b := B__law_all) rfl]
  simp [B__law_all]
  refine ⟨by decide, by omega, for_inv (g := fun k : Nat => .int k) (done := []) (I := fun done rest ρ => ∃ s2, ρ = [some (.frz (.int p)), some (.own (.list ((bitsL done.length).map tupI))), s2, none] ∧ List.range p = done ++ rest) ⟨_, rfl, rfl⟩ (fun done a rest ρ hI K hK => ?_) fun done ρ hI => ?_⟩
  · obtain ⟨s2, rfl, e⟩ := hI
    obtain rfl := range_split e
    have lt : done.length < p := by
      have := congrArg List.length e
      simp at this
      omega
    have b1 := bitsL_len done.length
    have b2 : 2 ^ done.length ≤ 64 := (Nat.pow_le_pow_right (by decide) (by omega) : 2 ^ done.length ≤ 2 ^ 6)
    simp [B__law_all_2]
    refine comp_to (fun l => tupI (l ++ [(done.length : Int)])) (fun l hl K' kk => ?_) (by omega) ?_
    · have := (bitsL_mem.mp hl).len (by omega)
      simp [tupI] at kk ⊢
      rw [if_pos (size_of (by omega))]
      exact ⟨by decide, kk⟩
    have e2 : (bitsL done.length).map tupI ++ (bitsL done.length).map (fun l => tupI (l ++ [(done.length : Int)])) = (bitsL (done.length + 1)).map tupI := by
      rw [bitsL, List.map_append, List.map_map]
      rfl
    rw [if_pos (size_of (by simp; omega)), e2]
    simp
    refine hK _ ⟨some (.frz (.int done.length)), ?_, by rw [e, List.append_assoc]; rfl⟩
    rw [List.length_append]
    rfl
  · obtain ⟨s2, rfl, e⟩ := hI
    have : done.length = p := by
      have := congrArg List.length e
      simpa using this.symm
    rw [this]
    simp [B__law_all_t1]
    rw [sortD_tupI]
    exact ⟨immAll_tupIs _, q⟩
end K16
set_option Elab.async false
set_option linter.all false
set_option maxRecDepth 100000
namespace K16
open DL PySem
/-- the questions are of a small size -/
structure Qs (qs : List (List Int)) : Prop where
  one : ∀ q ∈ qs, q.length ≤ 100000
  all : qs.length ≤ 10000
@[simp] theorem imm_pairD (o : Option (List Int × List Int)) : imm (pairD o) = true := by
  match o with
  | none => rfl
  | some (a, b) => simp [pairD]
theorem p_told_apart {n p : Nat} {qs : List (List Int)} {Q : D → Prop} (hp : p ≤ 7) (h : Qs qs) (q : Q (pairD (alikePair (cnt qs) (lotsA p)))) : wC tab (n + 4) 17 [fam p (qs.map tupI)] Q := by
  rw [wC_body (b := B_told_apart) rfl]
  simp [B_told_apart, fam]
  refine p_lots_of hp ?_
  simp [sortD_tupI]
  refine p_least_alike (n := n + 2) (k := 13) (cnt qs) (fun l hl K k => p_counts_for (n := n) h.one (by have := h.all; omega) k) ?_ ⟨.inl (imm_pairD _), q⟩
  rw [List.length_mergeSort, bitsL_len]
  have := p7 hp
  omega
theorem p_bits_apart {n p : Nat} {qs : List (List Int)} {Q : D → Prop} (hp : p ≤ 7) (h : Qs qs) (q : Q (pairD (alikePair (bts qs) (lotsA p)))) : wC tab (n + 4) 22 [fam p (qs.map tupI)] Q := by
  rw [wC_body (b := B_bits_apart) rfl]
  simp [B_bits_apart, fam]
  refine p_lots_of hp ?_
  simp [sortD_tupI]
  refine p_least_alike (n := n + 2) (k := 14) (bts qs) (fun l hl K k => p_bits_for (n := n) h.one (by have := h.all; omega) k) ?_ ⟨.inl (imm_pairD _), q⟩
  rw [List.length_mergeSort, bitsL_len]
  have := p7 hp
  omega
theorem p_is_alike_pair {n p : Nat} {qs : List (List Int)} {a b : List Int} {Q : D → Prop} (hp : p ≤ 7) (h : Qs qs) (va : VL p a) (vb : VL p b) (q : Q (.bool (decide (a ≠ b) && decide (cnt qs a = cnt qs b)))) : wC tab (n + 6) 18 [fam p (qs.map tupI), .tuple [tupI a, tupI b]] Q := by
  rw [wC_body (b := B_is_alike_pair) rfl]
  simp [B_is_alike_pair, fam]
  rw [show [tupI a, tupI b] = [a, b].map tupI from rfl, compL_map]
  refine comp_to (fun _ => .bool true) (fun l hl K k => p_is_lot_of (n := n + 1) ?_ (by omega) (by omega) k) (by simp) ?_
  · rcases List.mem_cons.mp hl with rfl | hl
    · exact va
    · rw [List.mem_singleton.mp hl]
      exact vb
  simp
  by_cases e : a = b
  · simpa [e] using q
  · rw [if_neg e]
    have hq := h.all
    refine p_counts_for (n := n + 3) h.one (by omega) (p_counts_for (n := n + 3) h.one (by omega) ?_)
    simpa [e] using q
theorem p_found_by {n p : Nat} {qs : List (List Int)} {an : List Int} {Q : D → Prop} (hp : p ≤ 7) (h : Qs qs) (ha : an.length = qs.length) (h0 : ∀ x ∈ an, 0 ≤ x) (q : Q (.tuple (((lotsA p).filter fun l => decide (cnt qs l = an)).map tupI))) : wC tab (n + 4) 21 [fam p (qs.map tupI), tupI an] Q := by
  have hq := h.all
  rw [wC_body (b := B_found_by) rfl]
  simp [B_found_by, fam]
  rw [show tupI an = .tuple (an.map .int) from rfl, c_is_tuple]
  simp [ha]
  refine ⟨size_of (by omega), fun x hx => h0 x hx, ?_⟩
  refine p_lots_of hp ?_
  simp [sortD_tupI]
  refine comp_if (fun l => decide (cnt qs l = an)) tupI (fun l hl K k => p_counts_for (n := n + 1) h.one (by omega) ?_) ?_ ⟨immAll_tupIs _, q⟩
  · rw [tupI_def]
    by_cases e : cnt qs l = an <;> simpa [e] using k
  rw [List.length_mergeSort, bitsL_len]
  have := p7 hp
  omega
theorem p_law_meet {n : Nat} {a b : List Int} {Q : D → Prop} (h : a.length ≤ 100000) (q : Q (tupI (a.filter fun x => b.contains x))) : wC tab (n + 1) 28 [tupI a, tupI b] Q := by
  rw [wC_body (b := B__law_meet) rfl]
  simp [B__law_meet, tupI]
  refine comp_if (fun x => b.contains x) (fun x => .int x) (fun x _ K k => ?_) h ⟨immAll_ints _, q⟩
  by_cases e : x ∈ b <;> simpa [e] using k
theorem p_law_answers {n : Nat} {qs : List (List Int)} {l : List Int} {Q : D → Prop} (h : Qs qs) (q : Q (tupI (cnt qs l))) : wC tab (n + 2) 29 [.tuple (qs.map tupI), tupI l] Q := by
  have hq := h.all
  rw [wC_body (b := B__law_answers) rfl]
  simp [B__law_answers]
  refine comp_to (fun one => .int ((one.filter fun x => l.contains x).length : Int)) (fun one ho K k => p_law_meet (h.one one ho) ?_) (by omega) ?_
  · simpa [tupI] using k
  have e : (qs.map fun one => (PyData.int ((one.filter fun x => l.contains x).length : Int))) = (cnt qs l).map .int := by
    unfold cnt
    rw [List.map_map]
    rfl
  rw [e]
  exact ⟨immAll_ints _, q⟩
end K16
set_option Elab.async false
set_option linter.all false
set_option maxRecDepth 100000
namespace K16
open DL PySem
def tl1 : Ss → Ss
  | .cons _ s => s
  | .nil => .nil
def hd1 : Ss → E
  | .cons (.asg _ e) _ => e
  | _ => .dict0
def R_told : Ss := tl1 B__law_told_2
def E_told : E := hd1 B__law_told_2
theorem told_split (C : Calls) (ρ : DL.Env) (D : En) : wSs C B__law_told_2 ρ D = wE C E_told ρ fun d => match put 7 E_told ρ d ρ with
    | some ρ' => wSs C R_told ρ' D
    | none => False := rfl
section
variable {κ : Type} [DecidableEq κ] [Key κ] (f : L → κ)
/-- what is known of the lots met, each answer's first one -/
def known (fs : List L) : List (D × D) := fs.map fun x => (Key.enc (f x), tupI x)
theorem known_get (fs : List L) (l : L) : dctGet (known f fs) (Key.enc (f l)) = (fs.find? fun x => decide (f x = f l)).map tupI := by
  unfold dctGet known
  rw [List.find?_map]
  have : ((fun p : D × D => decide (nkey p.1 = nkey (Key.enc (f l)))) ∘ fun x => (Key.enc (f x), tupI x)) = fun x => decide (f x = f l) := by
    funext x
    simp [Function.comp, Key.nk]
  rw [this]
  cases fs.find? fun x => decide (f x = f l) <;> rfl
theorem known_put {fs : List L} {l : L} (h : fs.find? (fun x => decide (f x = f l)) = none) : dctPut (known f fs) (Key.enc (f l)) (tupI l) = known f (fs ++ [l]) := by
  unfold dctPut
  rw [known_get, h]
  simp [known]
theorem lt_pairs (a b c d : L) : PySem.W.dataLt (.tuple [tupI a, tupI b]) (.tuple [tupI c, tupI d]) = decide (a < c ∨ (a = c ∧ b < d)) := by
  rw [PySem.W.dataLt_pair (alike_tupI a c) (alike_tupI b d), eqv_tupI, eqv_tupI, lt_tupI, lt_tupI]
  by_cases h : a = c
  · subst h
    by_cases h2 : b = d
    · subst h2
      simp [l_irr]
    · simp [h2, l_irr]
  · simp [h]
theorem ord_pairs (a b c d : L) : ordOk (.tuple [tupI a, tupI b]) (.tuple [tupI c, tupI d]) = true := by
  have : smallD (.tuple [tupI a, tupI b] : D) = true := by
    have d1 : ∀ l : L, (tupI l).depth = 1 := fun l => by simp [tupI, PyData.depth]
    simp [smallD, PyData.depth, PyData.depthAll, d1]
  have al : PySem.W.alike (.tuple [tupI a, tupI b]) (.tuple [tupI c, tupI d]) = true := by
    simp [PySem.W.alike, PySem.W.alikeAll]
  simp [ordOk, this, al, PyData.plainAll]
theorem told_rest {C : Calls} {P LO CN EV s8 : Option Sl} {l : L} {fs : List L} {best : Option (L × L)} {D : En} (hf : fs.length < 100000)
    (q1 : ∀ c, fs.find? (fun x => decide (f x = f l)) = some c → D.nx [P, LO, CN, EV, some (.frz (tupI l)), some (.own (dct (known f fs))), some (.frz (pairD (some (lessPair (c, l) best)))), some (.frz (Key.enc (f l))), some (.frz (pairD (some (c, l)))), none])
    (q2 : fs.find? (fun x => decide (f x = f l)) = none → D.nx [P, LO, CN, EV, some (.frz (tupI l)), some (.own (dct (known f (fs ++ [l])))), some (.frz (pairD best)), some (.frz (Key.enc (f l))), s8, none]) :
    wSs C R_told [P, LO, CN, EV, some (.frz (tupI l)), some (.own (dct (known f fs))), some (.frz (pairD best)), some (.frz (Key.enc (f l))), s8, none] D := by
  have ok := Key.ok (f l)
  have kl : (known f fs).length < 1000000 := by simp [known]; omega
  cases z : fs.find? (fun x => decide (f x = f l)) with
  | some c =>
    have q := q1 c z
    have g := known_get f fs l
    rw [z] at g
    cases best with
    | none =>
      simp [R_told, tl1, B__law_told_2, dct, ok, g, pairD]
      exact ⟨by decide, by simpa [pairD, lessPair, dct] using q⟩
    | some p =>
      obtain ⟨a, b⟩ := p
      have o := ord_pairs c l a b
      have t := lt_pairs c l a b
      simp [R_told, tl1, B__law_told_2, dct, ok, g, pairD, o, t]
      refine ⟨by decide, ?_⟩
      by_cases u : c < a ∨ (c = a ∧ l < b)
      · rw [if_pos u]
        simpa [show lessPair (c, l) (some (a, b)) = (c, l) from if_pos u, pairD, dct] using q
      · rw [if_neg u]
        simpa [show lessPair (c, l) (some (a, b)) = (a, b) from if_neg u, pairD, dct] using q
  | none =>
    have q := q2 z
    have g := known_get f fs l
    rw [z] at g
    rw [← known_put f z] at q
    simp [R_told, tl1, B__law_told_2, dct, ok, g, kl]
    exact q
/-- what is known, and the best pair, of the lots met -/
structure Told (done fs : List L) (best : Option (L × L)) : Prop where
  sub : ∀ x ∈ fs, x ∈ done
  all : ∀ y ∈ done, ∃ x ∈ fs, f x = f y ∧ (x < y ∨ x = y)
  one : ∀ x ∈ fs, ∀ y ∈ done, f y = f x → x < y ∨ x = y
  len : fs.length ≤ done.length
  lp : IsLP f done best
variable {f}
theorem Told.like {done fs : List L} {best : Option (L × L)} {l c : L} (t : Told f done fs best) (asc : (done ++ [l]).Pairwise (· < ·)) (h : fs.find? (fun x => decide (f x = f l)) = some c) : Told f (done ++ [l]) fs (some (lessPair (c, l) best)) := by
  have hc := List.mem_of_find?_eq_some h
  have ec : f c = f l := by simpa using List.find?_some h
  have pl : ∀ x ∈ done, x < l := fun x hx => (List.pairwise_append.mp asc).2.2 x hx l (by simp)
  refine ⟨fun x hx => List.mem_append_left _ (t.sub x hx), fun y hy => ?_, fun x hx y hy e => ?_, by have := t.len; simp; omega, t.lp.like asc (t.sub c hc) ec fun y hy e => t.one c hc y hy (e.trans ec.symm)⟩
  · rcases List.mem_append.mp hy with hy | hy
    · exact t.all y hy
    · rw [List.mem_singleton.mp hy]
      exact ⟨c, hc, ec, .inl (pl c (t.sub c hc))⟩
  · rcases List.mem_append.mp hy with hy | hy
    · exact t.one x hx y hy e
    · rw [List.mem_singleton.mp hy]
      exact .inl (pl x (t.sub x hx))
theorem Told.new {done fs : List L} {best : Option (L × L)} {l : L} (t : Told f done fs best) (asc : (done ++ [l]).Pairwise (· < ·)) (h : fs.find? (fun x => decide (f x = f l)) = none) : Told f (done ++ [l]) (fs ++ [l]) best := by
  have no : ∀ x ∈ fs, f x ≠ f l := fun x hx => by simpa using List.find?_eq_none.mp h x hx
  have pl : ∀ x ∈ done, x < l := fun x hx => (List.pairwise_append.mp asc).2.2 x hx l (by simp)
  have nd : ∀ y ∈ done, f y ≠ f l := fun y hy e => by
    obtain ⟨x, hx, ex, _⟩ := t.all y hy
    exact no x hx (ex.trans e)
  refine ⟨fun x hx => ?_, fun y hy => ?_, fun x hx y hy e => ?_, by have := t.len; simp; omega, t.lp.new asc nd⟩
  · rcases List.mem_append.mp hx with hx | hx
    · exact List.mem_append_left _ (t.sub x hx)
    · exact List.mem_append_right _ hx
  · rcases List.mem_append.mp hy with hy | hy
    · obtain ⟨x, hx, ex⟩ := t.all y hy
      exact ⟨x, List.mem_append_left _ hx, ex⟩
    · rw [List.mem_singleton.mp hy]
      exact ⟨l, by simp, rfl, .inr rfl⟩
  · rcases List.mem_append.mp hx with hx | hx
    · rcases List.mem_append.mp hy with hy | hy
      · exact t.one x hx y hy e
      · rw [List.mem_singleton.mp hy]
        exact .inl (pl x (t.sub x hx))
    · rw [List.mem_singleton.mp hx] at e ⊢
      rcases List.mem_append.mp hy with hy | hy
      · exact absurd e (nd y hy)
      · exact .inr (List.mem_singleton.mp hy).symm
end
theorem p_told {κ : Type} [DecidableEq κ] [Key κ] (f : L → κ) {n p : Nat} {ls : List L} {cb : Bool} {Q : D → Prop} (hp : p ≤ 7)
    (hf : ∀ l ∈ lotsA p, ∀ s3 s5 s6 s7 s8, ∀ K : D → Prop, K (Key.enc (f l)) → wE (wC tab (n + 1)) E_told [some (.frz (.int p)), some (.frz (.tuple (ls.map tupI))), some (.frz (.bool cb)), s3, some (.frz (tupI l)), s5, s6, s7, s8, none] K)
    (q : Q (pairD (alikePair f (lotsA p)))) : wC tab (n + 2) 30 [.int p, .tuple (ls.map tupI), .bool cb] Q := by
  rw [wC_body (b := B__law_told) rfl]
  simp [B__law_told]
  refine p_law_all hp ?_
  simp [dct]
  refine for_inv (g := tupI) (done := []) (I := fun done rest ρ => ∃ s4 s7 s8 fs best, ρ = [some (.frz (.int p)), some (.frz (.tuple (ls.map tupI))), some (.frz (.bool cb)), some (.frz (.list ((lotsA p).map tupI))), s4, some (.own (dct (known f fs))), some (.frz (pairD best)), s7, s8, none] ∧ lotsA p = done ++ rest ∧ Told f done fs best)
    ⟨none, none, none, [], none, rfl, rfl, ⟨fun x hx => (by cases hx), fun y hy => (by cases hy), fun x hx => (by cases hx), Nat.le_refl _, .no fun x hx => (by cases hx)⟩⟩ (fun done l rest ρ hI K hK => ?_) fun done ρ hI => ?_
  · obtain ⟨s4, s7, s8, fs, best, rfl, e, t⟩ := hI
    have asc := lotsA_asc p
    rw [e] at asc
    have asc2 : (done ++ [l]).Pairwise (· < ·) := by
      rw [show done ++ l :: rest = (done ++ [l]) ++ rest by simp] at asc
      exact (List.pairwise_append.mp asc).1
    have ml : l ∈ lotsA p := by rw [e]; simp
    have len : fs.length < 100000 := by
      have h1 := t.len
      have h2 := congrArg List.length e
      have h3 := p7 hp
      rw [lotsA_len] at h2
      simp at h2
      omega
    show wSs _ B__law_told_2 _ _
    rw [told_split]
    refine hf l ml _ _ _ _ _ _ ?_
    simp [E_told, hd1, B__law_told_2]
    refine told_rest f len (fun c hc => hK _ ⟨_, _, _, _, _, rfl, by rw [e]; simp, t.like asc2 hc⟩) fun hc => hK _ ⟨_, _, _, _, _, rfl, by rw [e]; simp, t.new asc2 hc⟩
  · obtain ⟨s4, s7, s8, fs, best, rfl, e, t⟩ := hI
    rw [List.append_nil] at e
    subst e
    have := t.lp.uniq (alikePair_is (lotsA_asc p))
    subst this
    simp [B__law_told_t1]
    exact q
end K16
set_option Elab.async false
set_option linter.all false
set_option maxRecDepth 100000
namespace K16
open DL PySem
theorem p_told_count {n p : Nat} {ls : List L} {Q : D → Prop} (hp : p ≤ 7) (h : Qs ls) (q : Q (pairD (alikePair (cnt ls) (lotsA p)))) : wC tab (n + 4) 30 [.int p, .tuple (ls.map tupI), .bool true] Q := by
  refine p_told (n := n + 2) (cnt ls) hp (fun l hl s3 s5 s6 s7 s8 K k => ?_) q
  simp [E_told, hd1, B__law_told_2]
  exact p_law_answers (n := n + 1) h k
theorem p_told_bits {n p : Nat} {ls : List L} {Q : D → Prop} (hp : p ≤ 7) (h : Qs ls) (q : Q (pairD (alikePair (bts ls) (lotsA p)))) : wC tab (n + 4) 30 [.int p, .tuple (ls.map tupI), .bool false] Q := by
  refine p_told (n := n + 2) (bts ls) hp (fun l hl s3 s5 s6 s7 s8 K k => ?_) q
  have hq := h.all
  simp [E_told, hd1, B__law_told_2]
  refine comp_to (fun one => .bool (one.any fun x => l.contains x)) (fun one ho K k => p_law_meet (n := n + 2) (h.one one ho) ?_) (by omega) ?_
  · have e1 : PyData.eqv (tupI (one.filter fun x => l.contains x)) (.tuple []) = decide (one.filter (fun x => l.contains x) = []) := eqv_tupI _ []
    have e3 : (.tuple [] : D) = tupI [] := rfl
    rw [e3]
    have e4 : PyData.plainAll [] = true := rfl
    simp only [plain_tupI', smallD_tupI, eqv_tupI', Bool.and_self, if_true, e4]
    have e2 : (!decide (∀ (a : Int), a ∈ one → ¬a ∈ l)) = one.any fun x => l.contains x := by
      rw [Bool.eq_iff_iff]
      simp
    have e5 : (!decide (one.filter (fun x => l.contains x) = [])) = one.any fun x => l.contains x := by
      rw [← e2]
      congr 1
      simp [List.filter_eq_nil_iff]
    rw [if_pos ⟨⟨trivial, trivial⟩, trivial⟩]
    dsimp only
    rw [e5]
    exact k
  have e : (ls.map fun one => (PyData.bool (one.any fun x => l.contains x))) = (bts ls l).map .bool := by
    unfold bts
    rw [List.map_map]
    rfl
  rw [e]
  exact k
/-- the points whose bits are set -/
def lawBits (p : Nat) (n : Nat) : L := ((List.range p).filter fun k => decide (n / 2 ^ k % 2 = 1)).map fun (k : Nat) => (k : Int)
theorem p_law_bits {n p k : Nat} {Q : D → Prop} (hp : p ≤ 1000) (q : Q (tupI (lawBits p k))) : wC tab (n + 1) 32 [.int p, .int k] Q := by
  rw [wC_body (b := B__law_bits) rfl]
  simp [B__law_bits]
  refine ⟨by omega, for_inv (g := fun k : Nat => .int k) (done := []) (I := fun done rest ρ => ∃ s3, ρ = [some (.frz (.int p)), some (.frz (.int (k / 2 ^ done.length : Nat))), some (.own (.list (((done.filter fun i => decide (k / 2 ^ i % 2 = 1)).map fun (k : Nat) => (k : Int)).map .int))), s3] ∧ List.range p = done ++ rest)
    ⟨none, by simp, rfl⟩ (fun done a rest ρ hI K hK => ?_) fun done ρ hI => ?_⟩
  · obtain ⟨s3, rfl, e⟩ := hI
    obtain rfl := range_split e
    have lt : done.length < p := by
      have := congrArg List.length e
      simp at this
      omega
    generalize hm : k / 2 ^ done.length = m at *
    have half : k / 2 ^ (done.length + 1) = m / 2 := by rw [← hm, Nat.pow_succ, Nat.div_div_eq_div_mul]
    have fl : ((done.filter fun i => decide (k / 2 ^ i % 2 = 1)).length) ≤ done.length := List.length_filter_le _ _
    have step : ∀ b : Bool, decide (m % 2 = 1) = b → ((done ++ [done.length]).filter fun i => decide (k / 2 ^ i % 2 = 1)) = (done.filter fun i => decide (k / 2 ^ i % 2 = 1)) ++ if b = true then [done.length] else [] := fun b hb => by
      rw [List.filter_append]
      congr 1
      simp [List.filter, hm, hb]
      cases b <;> rfl
    have fd := fdiv2 m
    simp [B__law_bits_2]
    rw [fd]
    by_cases o : m % 2 = 1
    · rw [if_neg (by omega)]
      refine ⟨by unfold sizeLine; omega, hK _ ⟨some (.frz (.int done.length)), ?_, by rw [e]; simp⟩⟩
      rw [step true (by simp [o]), show (done ++ [done.length]).length = done.length + 1 by simp, half]
      simp
    · rw [if_pos (by omega)]
      refine hK _ ⟨some (.frz (.int done.length)), ?_, by rw [e]; simp⟩
      rw [step false (by simp [o]), show (done ++ [done.length]).length = done.length + 1 by simp, half]
      simp
  · obtain ⟨s3, rfl, e⟩ := hI
    rw [List.append_nil] at e
    subst e
    simp [B__law_bits_t1]
    simpa [lawBits, tupI] using q
theorem p_draw {n : Nat} {Q : D → Prop} {i : Int} (h0 : 0 < i) (h1 : i < 1000000) (q : ∀ r : Nat, (r : Int) < i → Q (.int r)) : wC tab (n + 1) 24 [DL.hand, .int i] Q := by
  rw [wC_prim (p := .draw) rfl]
  refine ⟨rfl, h0, by omega, fun r r0 r1 => ?_⟩
  obtain ⟨k, rfl⟩ := Int.eq_ofNat_of_zero_le r0
  exact q k r1
theorem map_erase {α β : Type} (f : α → β) : ∀ (l : List α) (i : Nat), (l.map f).eraseIdx i = (l.eraseIdx i).map f
  | [], _ => rfl
  | _ :: _, 0 => rfl
  | x :: l, i + 1 => by
    simp only [List.map_cons, List.eraseIdx_cons_succ]
    rw [map_erase f l i]
theorem erase_perm {α : Type} (d : α) : ∀ {l : List α} {i : Nat}, i < l.length → (l.getD i d :: l.eraseIdx i).Perm l
  | x :: l, 0, _ => .refl _
  | x :: l, i + 1, h => by
    rw [List.eraseIdx_cons_succ, List.getD_cons_succ]
    exact (List.Perm.swap ..).trans ((erase_perm d (by simpa using h)).cons x)
theorem nil_small : smallD (.list []) = true := by simp [smallD, PyData.depth, PyData.depthAll]
theorem nil_plain : PyData.plainAll [] = true := rfl
theorem nil_eqv : PyData.eqv (.list []) (.list []) = true := by simp [PyData.eqv, PyData.eqvAll]
theorem p_mixed {n p : Nat} {Q : D → Prop} (hp : p ≤ 1000) (q : ∀ m : List Int, m.Perm ((List.range p).map fun (k : Nat) => (k : Int)) → Q (.list (m.map .int))) : wC tab (n + 2) 25 [DL.hand, .int p] Q := by
  rw [wC_body (b := B__law_mixed) rfl]
  have h3 : immAll ((List.range p).map fun (k : Nat) => (.int k : D)) = true := immAll_map (fun _ => rfl) _
  have first : ∀ R : D → Prop, R (.list ((List.range p).map fun (k : Nat) => .int k)) → wE (wC tab (n + 1)) (.bi .rangeL (.cons (.var 1) .nil)) (start0 4 [DL.hand, .int p]) R := fun R r => by
    simp only [wE, wEs, biD, start0, Env.at, List.map_cons, List.map_nil, List.length_cons, List.length_nil, List.cons_append, List.nil_append, List.getElem?_cons_succ, List.getElem?_cons_zero, Option.join_some, Sl.val]
    rw [range_nat hp]
    exact ⟨nofun, r⟩
  refine ⟨rfl, first _ ⟨nofun, ?_⟩⟩
  simp [h3]
  rw [show ((List.range p).map fun (k : Nat) => (.int k : D)) = ((List.range p).map fun (k : Nat) => (k : Int)).map .int by rw [List.map_map]; rfl]
  refine while_to (m := p) (fun m ρ => ∃ left found : L, ρ = [some (.frz DL.hand), some (.frz (.int p)), some (.own (.list (left.map .int))), some (.own (.list (found.map .int)))] ∧ left.length ≤ m ∧ (found ++ left).Perm ((List.range p).map fun (k : Nat) => (k : Int))) ?_ ?_ ⟨_, [], rfl, by simp, by simp⟩
  · rintro ρ ⟨left, found, rfl, hl, pm⟩ K
    obtain rfl : left = [] := List.length_eq_zero_iff.mp (by omega)
    rw [List.append_nil] at pm
    simp [B__law_mixed_c2, B__law_mixed_t1, nil_small, nil_plain, nil_eqv]
    exact q found pm
  · rintro m ρ ⟨left, found, rfl, hl, pm⟩ K hK
    cases left with
    | nil =>
      rw [List.append_nil] at pm
      simp [B__law_mixed_c2, B__law_mixed_t1, nil_small, nil_plain, nil_eqv]
      exact q found pm
    | cons x left =>
      have ne : PyData.eqv (.list (PyData.int x :: left.map .int)) (.list []) = false := by simp [PyData.eqv, PyData.eqvAll]
      have sm := smallD_lints (x :: left)
      have fl : found.length + (left.length + 1) = p := by simpa using pm.length_eq
      rw [List.map_cons] at sm
      simp [B__law_mixed_c2, ne, sm, nil_plain, B__law_mixed_3]
      have pl : PyData.plainAll (PyData.int x :: left.map .int) = true := plainAll_ints (x :: left)
      rw [if_pos pl]
      simp only [if_true]
      refine p_draw (by omega) (by omega) fun r hr => ?_
      have get : (PyData.int x :: left.map .int)[((r : Nat) : Int).toNat]? = some (.int ((x :: left).getD r 0)) := by
        rw [Int.toNat_natCast, ← List.map_cons (f := PyData.int), List.getElem?_map]
        have : r < (x :: left).length := by simp; omega
        simp [List.getD_eq_getElem?_getD, List.getElem?_eq_getElem this]
      simp only [get]
      refine ⟨by omega, by unfold sizeLine; omega, hK _ ⟨(x :: left).eraseIdx r, found ++ [(x :: left).getD r 0], ?_, ?_, ?_⟩⟩
      · rw [Int.toNat_natCast, ← List.map_cons (f := PyData.int), map_erase]
        simp
      · rw [List.length_eraseIdx]
        simp at hl ⊢
        split <;> omega
      · refine List.Perm.trans ?_ pm
        rw [List.append_assoc]
        refine List.Perm.append_left _ ?_
        have : r < (x :: left).length := by simp; omega
        exact erase_perm 0 this
end K16
set_option Elab.async false
set_option linter.all false
set_option maxRecDepth 100000
namespace K16
open DL PySem
def menu : List (Nat × List Nat) := [(4, [3, 5, 14]), (4, [3, 9, 14]), (5, [4, 7, 13, 26]), (6, [1, 28, 39, 49, 50]), (7, [38, 59, 83, 90, 92])]
/-- a lot called otherwise -/
def ren (m lot : L) : L := (lot.map fun i => m.getD i.toNat 0).mergeSort fun a b => decide (a ≤ b)
def sortL (ls : List L) : List L := ls.mergeSort fun a b => decide (a ≤ b)
def rowL (p : Nat) (nums : List Nat) (m : L) : List L := sortL ((nums.map (lawBits p)).map (ren m))
def rowD (r : Nat × List Nat) : D := .tuple [.int r.1, .list (r.2.map fun (k : Nat) => .int k)]
def E_rows : E := hd1 B__law_rows
def R_rows : Ss := tl1 B__law_rows
theorem rows_split (C : Calls) (ρ : DL.Env) (D : En) : wSs C B__law_rows ρ D = wE C E_rows ρ fun d => match put 1 E_rows ρ d ρ with
    | some ρ' => wSs C R_rows ρ' D
    | none => False := rfl
theorem rows_first {C : Calls} {ρ : DL.Env} {R : D → Prop} (r : R (.list (menu.map rowD))) : wE C E_rows ρ R := by
  simp [E_rows, hd1, B__law_rows]
  repeat (first | exact r | refine ⟨by decide, ?_⟩)
theorem p_law_rows {n : Nat} {Q : D → Prop} (q : ∀ r ∈ menu, ∀ m : L, m.Perm ((List.range r.1).map fun (k : Nat) => (k : Int)) → Q (.tuple [.int r.1, .tuple ((rowL r.1 r.2 m).map tupI)])) : wC tab (n + 3) 31 [DL.hand] Q := by
  rw [wC_body (b := B__law_rows) rfl]
  refine ⟨rfl, ?_⟩
  rw [rows_split]
  refine rows_first ?_
  have pt : ∀ ρ to : DL.Env, put 1 E_rows ρ (.list (menu.map rowD)) to = some (to.setF 1 (.list (menu.map rowD))) := fun ρ to => by
    simp [E_rows, hd1, B__law_rows, menu, rowD]
  rw [pt]
  have big : ∀ r ∈ menu, r.1 ≤ 7 ∧ r.2.length ≤ 5 := by decide
  simp [R_rows, tl1, B__law_rows]
  refine ⟨by decide, fun d p nums hr hd => ?_⟩
  subst hd
  have hp := big _ hr
  dsimp only at hp
  simp [rowD]
  refine p_mixed (n := n) (by omega) fun m pm => ?_
  have lm : m.length = p := by simpa using pm.length_eq
  have mm : ∀ i : Nat, i < p → L2.atI (m.map PyData.int) (i : Int) = some (.int (m.getD i 0)) := fun i hi => by
    rw [atI_of i rfl, List.getElem?_map]
    simp [List.getD_eq_getElem?_getD, List.getElem?_eq_getElem (show i < m.length by omega)]
  simp
  refine comp_to (fun k => tupI (lawBits p k)) (fun k _ K kk => p_law_bits (n := n + 1) (by omega) kk) (by omega) ?_
  rw [show (nums.map fun k => tupI (lawBits p k)) = (nums.map (lawBits p)).map tupI by rw [List.map_map]; rfl]
  simp
  have lb : ∀ k, ∀ i ∈ lawBits p k, ∃ j : Nat, i = j ∧ j < p := fun k i hi => by
    obtain ⟨j, hj, rfl⟩ := List.mem_map.mp hi
    exact ⟨j, rfl, List.mem_range.mp (List.mem_filter.mp hj).1⟩
  have ll : ∀ k, (lawBits p k).length ≤ p := fun k => by
    unfold lawBits
    have := List.length_filter_le (fun i => decide (k / 2 ^ i % 2 = 1)) (List.range p)
    simpa using this
  refine comp_to (fun k => tupI (ren m (lawBits p k))) (fun k _ K kk => ?_) (by omega) ?_
  · have l1 := ll k
    rw [show tupI (lawBits p k) = .tuple ((lawBits p k).map .int) from rfl]
    simp only [compL_map]
    refine comp_to (fun i => .int (m.getD i.toNat 0)) (fun i hi K kk => ?_) (by omega) ?_
    · obtain ⟨j, rfl, hj⟩ := lb k i hi
      simp only [mm j hj]
      simpa using kk
    rw [show ((lawBits p k).map fun i => (PyData.int (m.getD i.toNat 0) : D)) = ((lawBits p k).map fun i => m.getD i.toNat 0).map .int by rw [List.map_map]; rfl, if_pos (sortable_ints _), sortD_ints]
    exact kk
  rw [show (nums.map fun k => tupI (ren m (lawBits p k))) = ((nums.map (lawBits p)).map (ren m)).map tupI by rw [List.map_map, List.map_map]; rfl, if_pos (sortable_tupI _), sortD_tupI]
  refine ⟨by decide, ?_, q _ hr m pm⟩
  show immAll _ = true
  exact immAll_tupIs _
end K16
set_option Elab.async false
set_option linter.all false
set_option maxRecDepth 100000
namespace K16
open DL PySem
/-! repr -/
theorem reprWs_ints : ∀ {l : L}, (∀ x ∈ l, 0 ≤ x ∧ x < 1000000) → reprWs (l.map .int) = some (14 * l.length)
  | [], _ => by rw [List.map_nil, reprWs]; rfl
  | x :: l, h => by
    rw [List.map_cons, reprWs, reprWs_ints fun y hy => h y (.tail _ hy), reprW, if_pos (h x (.head _))]
    simp
    omega
theorem reprW_tupI {l : L} (h : ∀ x ∈ l, 0 ≤ x ∧ x < 1000000) : reprW (tupI l) = some (14 * l.length + 4) := by
  unfold tupI
  rw [reprW, reprWs_ints h]
  rfl
/-- a lot of which repr is known -/
structure RL (l : L) : Prop where
  rng : ∀ x ∈ l, 0 ≤ x ∧ x < 1000000
  len : l.length ≤ 100
theorem reprWs_tups : ∀ {ls : List L}, (∀ l ∈ ls, RL l) → ∃ k, reprWs (ls.map tupI) = some k ∧ k ≤ 1406 * ls.length
  | [], _ => ⟨0, by rw [List.map_nil, reprWs], Nat.zero_le _⟩
  | l :: ls, h => by
    obtain ⟨k, e, hk⟩ := reprWs_tups fun l hl => h l (.tail _ hl)
    have r := h l (.head _)
    rw [List.map_cons, reprWs, e, reprW_tupI r.rng]
    exact ⟨_, rfl, by have := r.len; simp; omega⟩
theorem depth_tupI (l : L) : (tupI l).depth = 1 := by simp [tupI, PyData.depth]
theorem depthAll_tups : ∀ ls : List L, PyData.depthAll (ls.map tupI) ≤ 1
  | [] => by simp [PyData.depthAll]
  | l :: ls => by
    rw [List.map_cons, PyData.depthAll, depth_tupI]
    have := depthAll_tups ls
    omega
theorem repr_tups {ls : List L} (h : ∀ l ∈ ls, RL l) (n : ls.length ≤ 500) : reprOk (.tuple (ls.map tupI)) = true := by
  obtain ⟨k, e, hk⟩ := reprWs_tups h
  have := depthAll_tups ls
  have sm : smallD (.tuple (ls.map tupI)) = true := by
    unfold smallD
    rw [PyData.depth]
    simp
    omega
  unfold reprOk
  rw [sm, reprW, e]
  simp
  omega
theorem repr_pair {o : Option (L × L)} (h : ∀ a b, o = some (a, b) → RL a ∧ RL b) : reprOk (pairD o) = true := by
  match o with
  | none => decide
  | some (a, b) =>
    obtain ⟨ha, hb⟩ := h a b rfl
    refine repr_tups (ls := [a, b]) (fun l hl => ?_) (by simp)
    rcases List.mem_cons.mp hl with rfl | hl
    · exact ha
    · rw [List.mem_singleton.mp hl]
      exact hb
theorem repr_found {a l : L} (ha : RL a) (hl : RL l) : reprOk (.list [tupI a, .tuple [tupI l]]) = true := by
  have sm : smallD (.list [tupI a, .tuple [tupI l]]) = true := by
    unfold smallD
    simp [PyData.depth, PyData.depthAll, depth_tupI]
  have := ha.len
  have := hl.len
  unfold reprOk
  have e : reprWs [tupI l] = some (14 * l.length + 6) := by
    rw [reprWs, reprW_tupI hl.rng, reprWs]
  have e2 : reprWs ([] : List D) = some 0 := by rw [reprWs]
  rw [sm, reprW, reprWs, reprW_tupI ha.rng, reprWs, reprW, e, e2]
  simp
  omega
theorem VL.rl {p : Nat} {l : L} (hp : p ≤ 7) (v : VL p l) : RL l := ⟨fun x hx => by have := v.rng x hx; omega, by have := v.len (by omega); omega⟩
theorem p_law_is {n : Nat} {d : D} {Q : D → Prop} (h : reprOk d = true) (q : Q (.bool true)) : wC tab (n + 1) 26 [d, d] Q := by
  rw [wC_body (b := B__law_is) rfl]
  simp [B__law_is, h]
  exact q
/-- a family that may be made -/
structure Fam (p : Nat) (ls : List L) : Prop where
  lot : ∀ l ∈ ls, VL p l
  asc : ls.Pairwise (· < ·)
  len : ls.length ≤ 200
theorem Fam.qs {p : Nat} {ls : List L} (f : Fam p ls) (hp : p ≤ 7) : Qs ls := ⟨fun l hl => by have := (f.lot l hl).len (by omega); omega, by have := f.len; omega⟩
theorem p_family {n p : Nat} {ls : List L} {Q : D → Prop} (h1 : 1 ≤ p) (hp : p ≤ 7) (f : Fam p ls) (q : Q (fam p (ls.map tupI))) : wC tab (n + 6) 35 [.int p, .tuple (ls.map tupI)] Q := by
  rw [wC_prim (p := .family 5 7) rfl]
  refine ⟨?_, p_are_lots (n := n) f.lot f.asc (by have := f.len; omega) (by omega) (by omega) rfl, immAll_tupIs ls, q⟩
  rw [c_is_count]
  have a : decide ((1 : Int) ≤ p) = true := by simp; omega
  have b : decide ((p : Int) ≤ 7) = true := by simp; omega
  rw [a, b]
  rfl
theorem cnt_len (qs : List L) (l : L) : (cnt qs l).length = qs.length := by simp [cnt]
theorem cnt_rl {p : Nat} {ls : List L} (hp : p ≤ 7) (f : Fam p ls) (h : ls.length ≤ 100) (l : L) : RL (cnt ls l) := by
  refine ⟨fun x hx => ?_, by rw [cnt_len]; exact h⟩
  obtain ⟨one, ho, rfl⟩ := List.mem_map.mp hx
  have := (f.lot one ho).len (by omega)
  have := List.length_filter_le (fun x => l.contains x) one
  omega
end K16
set_option Elab.async false
set_option linter.all false
set_option maxRecDepth 100000
namespace K16
open DL PySem
def rest1 (ls : List L) (at_ : Nat) : List L := ls.take at_ ++ ls.drop (at_ + 1)
/-- what is known of a drawn row -/
structure Row (p : Nat) (ls : List L) : Prop where
  p1 : 1 ≤ p
  p7 : p ≤ 7
  fam : Fam p ls
  few : ls.length < p
  some_ : 0 < ls.length
  apart : alikePair (cnt ls) (lotsA p) = none
  less : ∀ i, i < ls.length → alikePair (cnt (rest1 ls i)) (lotsA p) ≠ none
theorem p_is_right_a {n : Nat} {Q : D → Prop} (rows : ∀ r ∈ menu, ∀ m : L, m.Perm ((List.range r.1).map fun (k : Nat) => (k : Int)) → Row r.1 (rowL r.1 r.2 m))
    (go : ∀ p ls, Row p ls → wSs (wC tab (n + 9)) B__law_is_right_t15 [some (.frz DL.hand), some (.frz (fam p (ls.map tupI))), none, none, none, none, none, none, none, none, none, some (.frz (.int p)), some (.frz (.tuple (ls.map tupI))), none] { nx := fun _ => Q .none, rt := fun _ => Q, bk := fun _ => False, ct := fun _ => False }) : wC tab (n + 10) 33 [DL.hand] Q := by
  rw [wC_body (b := B__law_is_right) rfl]
  simp [B__law_is_right]
  refine p_law_rows (n := n + 6) fun r hr m pm => ?_
  have row := rows r hr m pm
  generalize rowL r.1 r.2 m = ls at row
  generalize r.1 = p at row
  simp [B__law_is_right_t17]
  refine p_family (n := n + 3) row.p1 row.p7 row.fam ?_
  simp [B__law_is_right_t16, fam]
  refine p_told_count (n := n + 5) row.p7 (row.fam.qs row.p7) ?_
  rw [row.apart]
  simp [pairD]
  refine p_told_apart (n := n + 5) row.p7 (row.fam.qs row.p7) ?_
  rw [row.apart]
  have few := row.few
  have : ¬ p ≤ ls.length := by omega
  simp [pairD, this]
  exact go p ls row
theorem tup_ints (l : L) : (.tuple (l.map .int) : D) = tupI l := rfl
theorem cnt_inj {p : Nat} {ls : List L} (h : alikePair (cnt ls) (lotsA p) = none) {a b : L} (ha : VL p a) (hb : VL p b) (e : cnt ls a = cnt ls b) : a = b := by
  have q := alikePair_is (f := cnt ls) (lotsA_asc p)
  rw [h] at q
  cases q with
  | no q =>
    rcases l_tri a b with z | z | z
    · exact absurd e (q a (lotsA_mem.mpr ha) b (lotsA_mem.mpr hb) z)
    · exact z
    · exact absurd e.symm (q b (lotsA_mem.mpr hb) a (lotsA_mem.mpr ha) z)
theorem lotsA_nodup (p : Nat) : (lotsA p).Nodup := (List.mergeSort_perm _ _).nodup_iff.mpr (bitsL_nodup p)
theorem filter_one {α : Type} [DecidableEq α] {l : List α} (nd : l.Nodup) {a : α} (ha : a ∈ l) {p : α → Bool} (h : ∀ x ∈ l, p x = decide (x = a)) : l.filter p = [a] := by
  rw [List.filter_congr h]
  induction l with
  | nil => cases ha
  | cons x l ih =>
    have nx := (List.nodup_cons.mp nd).1
    rw [List.filter_cons]
    by_cases e : x = a
    · subst e
      have : l.filter (fun y => decide (y = x)) = [] := by
        rw [List.filter_eq_nil_iff]
        intro y hy e
        have e := of_decide_eq_true e
        exact nx (e ▸ hy)
      simp [this]
    · have ha : a ∈ l := by
        rcases List.mem_cons.mp ha with q | q
        · exact absurd q.symm e
        · exact q
      simp only [e, decide_false, Bool.false_eq_true, if_false]
      exact ih (List.nodup_cons.mp nd).2 ha (fun y hy => h y (.tail _ hy))
def D_right (C : Calls) (Q : D → Prop) : En := { nx := fun _ => Q .none, rt := fun _ => Q, bk := fun _ => False, ct := fun _ => False }
theorem p_is_right_b {n p : Nat} {ls : List L} {Q : D → Prop} (row : Row p ls)
    (go : ∀ l an od, VL p l → wSs (wC tab (n + 9)) B__law_is_right_t9 [some (.frz DL.hand), some (.frz (fam p (ls.map tupI))), some (.own (.list ((lotsA p).map tupI))), some (.frz (tupI l)), some (.frz an), some (.frz od), none, none, none, none, none, some (.frz (.int p)), some (.frz (.tuple (ls.map tupI))), none] { nx := fun _ => Q .none, rt := fun _ => Q, bk := fun _ => False, ct := fun _ => False }) :
    wSs (wC tab (n + 9)) B__law_is_right_t15 [some (.frz DL.hand), some (.frz (fam p (ls.map tupI))), none, none, none, none, none, none, none, none, none, some (.frz (.int p)), some (.frz (.tuple (ls.map tupI))), none] { nx := fun _ => Q .none, rt := fun _ => Q, bk := fun _ => False, ct := fun _ => False } := by
  have hp := row.p7
  have qs := row.fam.qs hp
  have few := row.few
  simp [B__law_is_right_t15]
  refine p_law_all (n := n + 8) hp ?_
  simp [B__law_is_right_t14]
  refine ⟨?_, fun l hl => ?_⟩
  · intro z
    have := lotsA_len p
    rw [z] at this
    have := Nat.pow_pos (a := 2) (n := p) (by decide)
    simp at *
    omega
  have v := lotsA_mem.mp hl
  simp [B__law_is_right_t13]
  refine p_law_answers (n := n + 7) qs ?_
  simp [B__law_is_right_t12]
  refine p_answers_of (n := n + 3) v (by omega) (by omega) qs.one (by omega) ?_
  have c0 : ∀ x ∈ cnt ls l, 0 ≤ x := fun x hx => ((cnt_rl hp row.fam (by omega) l).rng x hx).1
  refine p_found_by (n := n + 5) hp qs (cnt_len ls l) c0 ?_
  have one : (lotsA p).filter (fun l' => decide (cnt ls l' = cnt ls l)) = [l] := by
    refine filter_one (lotsA_nodup p) hl fun x hx => ?_
    rw [decide_eq_decide]
    exact ⟨cnt_inj row.apart (lotsA_mem.mp hx) v, fun e => by rw [e]⟩
  rw [one]
  simp
  refine ⟨by decide, by decide, by decide, p_law_is (n := n + 8) (repr_found (cnt_rl hp row.fam (by omega) l) (v.rl hp)) ?_⟩
  simp [B__law_is_right_t11]
  rw [show tupI (cnt ls l) = .tuple ((cnt ls l).map .int) from rfl]
  simp only [compL_map]
  have lc := cnt_len ls l
  refine comp_to (fun i => .int (i + 1)) (fun i hi K kk => by simpa using kk) (by omega) ?_
  have e : ((cnt ls l).map fun i => (PyData.int (i + 1) : D)) = ((cnt ls l).map fun i => i + 1).map .int := by
    rw [List.map_map]
    rfl
  rw [e]
  simp only [tup_ints]
  generalize ho : (cnt ls l).map (fun i => i + 1) = odd
  have o0 : ∀ x ∈ odd, 0 ≤ x := fun x hx => by
    rw [← ho] at hx
    obtain ⟨y, hy, rfl⟩ := List.mem_map.mp hx
    have := c0 y hy
    omega
  have ol : odd.length = ls.length := by rw [← ho, List.length_map, lc]
  simp [B__law_is_right_t10]
  refine p_found_by (n := n + 5) hp qs ol o0 ?_
  have big : (lotsA p).length ≤ 128 := by rw [lotsA_len]; exact p7 hp
  refine comp_if (fun x => decide (cnt ls x = odd)) tupI (fun x hx K kk => p_law_answers (n := n + 7) qs ?_) (by omega) ?_
  · by_cases z : cnt ls x = odd <;> simpa [z] using kk
  have fl := List.length_filter_le (fun x => decide (cnt ls x = odd)) (lotsA p)
  refine p_law_is (n := n + 8) (repr_tups (fun x hx => (lotsA_mem.mp (List.mem_filter.mp hx).1).rl hp) (by omega)) ?_
  simp
  exact go l _ _ v
theorem rest1_fam {p : Nat} {ls : List L} (f : Fam p ls) (i : Nat) : Fam p (rest1 ls i) := by
  have sub : (rest1 ls i).Sublist ls := by
    unfold rest1
    have := List.Sublist.append (List.Sublist.refl (ls.take i)) (List.drop_sublist_drop_left ls (Nat.le_succ i))
    rwa [List.take_append_drop] at this
  exact ⟨fun l hl => f.lot l (sub.subset hl), f.asc.sublist sub, Nat.le_trans sub.length_le f.len⟩
theorem fSset_tups {ls : List L} (h : ls.length < 64) : fSset [.tuple (ls.map tupI)] = some (.list ((sortL (onceL ls)).map tupI)) := by
  have al : (ls.map tupI).all intsTup = true := by
    rw [List.all_map, List.all_eq_true]
    intro l _
    show ((l.map PyData.int).all fun d => match d with | .int _ => true | _ => false) = true
    rw [List.all_map, List.all_eq_true]
    intro _ _
    rfl
  show (if ((ls.map tupI).all intsTup && decide ((ls.map tupI).length < 64)) = true then some (PyData.list (sortD (onceD (ls.map tupI)))) else none) = _
  rw [al, onceD_tupI, sortD_tupI]
  simp [h, sortL]
theorem once_len (ls : List L) : (onceL ls).length ≤ ls.length := by
  induction ls with
  | nil => exact Nat.le_refl _
  | cons x xs ih =>
    rw [onceL, List.length_cons, List.length_cons]
    exact Nat.succ_le_succ (Nat.le_trans (List.length_filter_le _ _) ih)
theorem once_fam {p : Nat} {ls : List L} {l : L} (hp : p ≤ 7) (f : Fam p ls) (v : VL p l) (h : ls.length ≤ 100) : Fam p (sortL (onceL (ls ++ [l]))) := by
  have pm := List.mergeSort_perm (onceL (ls ++ [l])) (fun a b => decide (a ≤ b))
  have nd : (sortL (onceL (ls ++ [l]))).Nodup := pm.nodup_iff.mpr (onceL_nodup _)
  refine ⟨fun x hx => ?_, ?_, ?_⟩
  · have := mem_onceL.mp (pm.mem_iff.mp hx)
    rcases List.mem_append.mp this with z | z
    · exact f.lot x z
    · rw [List.mem_singleton.mp z]
      exact v
  · have s := List.pairwise_mergeSort (fun a b c => le_trn a b c) (fun a b => le_tot a b) (onceL (ls ++ [l]))
    refine (List.Pairwise.and s nd).imp fun {a b} h => ?_
    have h1 : a ≤ b := by simpa using h.1
    rcases List.le_iff_lt_or_eq.mp h1 with z | z
    · exact z
    · exact absurd z h.2
  · unfold sortL
    rw [List.length_mergeSort]
    have := once_len (ls ++ [l])
    simp at this
    omega
theorem p_is_right_c {n p : Nat} {ls : List L} {Q : D → Prop} (row : Row p ls) (q : Q (.bool true)) {l : L} {an od : D} :
    wSs (wC tab (n + 9)) B__law_is_right_t9 [some (.frz DL.hand), some (.frz (fam p (ls.map tupI))), some (.own (.list ((lotsA p).map tupI))), some (.frz (tupI l)), some (.frz an), some (.frz od), none, none, none, none, none, some (.frz (.int p)), some (.frz (.tuple (ls.map tupI))), none] { nx := fun _ => Q .none, rt := fun _ => Q, bk := fun _ => False, ct := fun _ => False } := by
  have hp := row.p7
  have qs := row.fam.qs hp
  have few := row.few
  have pos := row.some_
  simp [B__law_is_right_t9]
  refine p_draw (n := n + 8) (by omega) (by omega) fun r hr => ?_
  have hr : r < ls.length := by omega
  simp [B__law_is_right_t8]
  rw [cut_to _ (by omega), cut_from _ (by omega), Int.toNat_natCast, show ((r : Int) + 1).toNat = r + 1 from by omega]
  have ff := rest1_fam row.fam r
  have fl : (rest1 ls r).length + 1 = ls.length := by
    unfold rest1
    rw [List.length_append, List.length_take, List.length_drop]
    omega
  have ef : (ls.map tupI).take r ++ (ls.map tupI).drop (r + 1) = (rest1 ls r).map tupI := by
    unfold rest1
    rw [List.map_append, List.map_take, List.map_drop]
  have sz : ((ls.map tupI).take r).length + ((ls.map tupI).drop (r + 1)).length ≤ sizeLine := by
    rw [← List.length_append, ef, List.length_map]
    exact size_of (by omega)
  rw [if_pos sz, ef]
  have fq := ff.qs hp
  have nn := row.less r hr
  generalize rest1 ls r = fewer at ff fl fq nn
  simp [B__law_is_right_t7]
  refine p_told_count (n := n + 5) hp fq ?_
  have due := alikePair_is (f := cnt fewer) (lotsA_asc p)
  cases hd : alikePair (cnt fewer) (lotsA p) with
  | none => exact absurd hd nn
  | some ab =>
  obtain ⟨a, b⟩ := ab
  rw [hd] at due
  cases due with
  | yes ha hb ab e _ =>
  have va := lotsA_mem.mp ha
  have vb := lotsA_mem.mp hb
  have ra := va.rl hp
  have rb := vb.rl hp
  have ne : b ≠ a := fun z => l_irr a (by rw [z] at ab; exact ab)
  simp [B__law_is_right_t6]
  refine p_family (n := n + 3) row.p1 hp ff ?_
  refine p_told_apart (n := n + 5) hp fq ?_
  rw [hd]
  refine p_law_is (n := n + 8) (repr_pair fun a' b' z => by cases z; exact ⟨ra, rb⟩) ?_
  simp [pairD, B__law_is_right_t5]
  refine ⟨by decide, ?_⟩
  simp [B__law_is_right_t4]
  refine p_family (n := n + 3) row.p1 hp ff ?_
  refine p_is_alike_pair (n := n + 3) hp fq vb va ?_
  rw [show (decide (b ≠ a) && decide (cnt fewer b = cnt fewer a)) = true by simp [ne, e]]
  simp
  refine p_is_alike_pair (n := n + 3) hp qs vb va ?_
  rw [show (decide (b ≠ a) && decide (cnt ls b = cnt ls a)) = false by simp; exact fun _ z => ne (cnt_inj row.apart vb va z)]
  simp [B__law_is_right_t3]
  refine p_bits_apart (n := n + 5) hp qs ?_
  refine p_told_bits (n := n + 5) hp qs ?_
  have bp := alikePair_is (f := bts ls) (lotsA_asc p)
  generalize alikePair (bts ls) (lotsA p) = o at bp
  refine p_law_is (n := n + 8) (repr_pair fun a' b' z => by
    subst z
    cases bp with
    | yes ha hb _ _ _ => exact ⟨(lotsA_mem.mp ha).rl hp, (lotsA_mem.mp hb).rl hp⟩) ?_
  simp [B__law_is_right_t2, -fSset]
  refine ⟨?_, fun l2 hl2 => ⟨by decide, ?_⟩⟩
  · intro z
    rw [z] at ha
    cases ha
  have v2 := lotsA_mem.mp hl2
  rw [if_pos (size_of (by omega)), show fewer.map tupI ++ [tupI l2] = (fewer ++ [l2]).map tupI by simp]
  simp only [fSset_tups (ls := fewer ++ [l2]) (by simp; omega)]
  have fo := once_fam hp ff v2 (by omega)
  generalize sortL (onceL (fewer ++ [l2])) = other at fo
  simp [B__law_is_right_t1]
  refine p_family (n := n + 3) row.p1 hp fo ?_
  refine p_told_apart (n := n + 5) hp (fo.qs hp) ?_
  refine p_told_count (n := n + 5) hp (fo.qs hp) ?_
  have op := alikePair_is (f := cnt other) (lotsA_asc p)
  generalize alikePair (cnt other) (lotsA p) = o at op
  refine p_law_is (n := n + 8) (repr_pair fun a' b' z => by
    subst z
    cases op with
    | yes ha hb _ _ _ => exact ⟨(lotsA_mem.mp ha).rl hp, (lotsA_mem.mp hb).rl hp⟩) ⟨.inl rfl, q⟩
end K16
set_option Elab.async false
set_option linter.all false
set_option maxRecDepth 100000
namespace K16
open DL PySem
/-- the least questions, so many more behind some, that tell all lots apart -/
def qOn (ev : List L) : Nat → Nat → List L → Option (List L)
  | 0, _, taken => if alikePair (cnt taken) ev = none then some taken else none
  | m + 1, start, taken => (List.range (ev.length - m - start)).findSome? fun k => qOn ev m (start + k + 1) (taken ++ [ev.getD (start + k) []])
def optD : Option (List L) → D
  | none => .none
  | some ts => .tuple (ts.map tupI)
@[simp] theorem imm_optD (o : Option (List L)) : imm (optD o) = true := by
  cases o with
  | none => rfl
  | some ts => exact immAll_tupIs ts
theorem p_questions_on {ev : List L} (he : ∀ l ∈ ev, l.length ≤ 1000) (hl : ev.length ≤ 200) : ∀ (m : Nat) {n start : Nat} {taken : List L} {Q : D → Prop}, (∀ l ∈ taken, l.length ≤ 1000) → taken.length + m ≤ 1000 → start ≤ 1000 → Q (optD (qOn ev m start taken)) →
    wC tab (n + 4 + m) 19 [.list (ev.map tupI), .int start, .tuple (taken.map tupI), .int m] Q
  | 0, n, start, taken, Q, ht, hn, hs, q => by
    rw [wC_body (b := B_questions_on) rfl]
    simp [B_questions_on]
    refine p_least_alike (n := n + 2) (k := 13) (cnt taken) (fun l hl K k => p_counts_for (n := n) (fun l hl => by have := ht l hl; omega) (by omega) k) (by omega) ?_
    rw [qOn] at q
    cases z : alikePair (cnt taken) ev with
    | none =>
      rw [if_pos z] at q
      simpa [pairD, optD] using q
    | some ab =>
      rw [if_neg (by rw [z]; exact nofun)] at q
      obtain ⟨a, b⟩ := ab
      simpa [pairD, optD] using q
  | m + 1, n, start, taken, Q, ht, hn, hs, q => by
    rw [show n + 4 + (m + 1) = (n + 4 + m) + 1 by omega, wC_body (b := B_questions_on) rfl]
    have z : ¬ ((m : Int) + 1 = 0) := by omega
    simp [B_questions_on, z]
    rw [show ((ev.length : Int) - ((m : Int) + 1) + 1).toNat - start = ev.length - m - start by omega]
    refine ⟨by omega, for_inv (g := fun k : Nat => .int ((start : Int) + k)) (done := []) (I := fun done rest ρ => (∃ s4 s5, ρ = [some (.frz (.list (ev.map tupI))), some (.frz (.int start)), some (.frz (.tuple (taken.map tupI))), some (.frz (.int ((m : Int) + 1))), s4, s5]) ∧ List.range (ev.length - m - start) = done ++ rest ∧
        Q (optD (rest.findSome? fun k => qOn ev m (start + k + 1) (taken ++ [ev.getD (start + k) []])))) ⟨⟨none, none, rfl⟩, rfl, q⟩ (fun done k rest ρ hI K hK => ?_) fun done ρ hI => ?_⟩
    · obtain ⟨⟨s4, s5, rfl⟩, e, q⟩ := hI
      have hk : k < ev.length - m - start := List.mem_range.mp (by rw [e]; simp)
      have gt : L2.atI (ev.map tupI) ((start : Int) + k) = some (tupI (ev.getD (start + k) [])) := by
        rw [atI_of (start + k) (by omega), List.getElem?_map]
        simp [List.getD_eq_getElem?_getD, List.getElem?_eq_getElem (show start + k < ev.length by omega)]
      have hx : (ev.getD (start + k) []).length ≤ 1000 := by
        rw [List.getD_eq_getElem?_getD, List.getElem?_eq_getElem (show start + k < ev.length by omega)]
        exact he _ (List.getElem_mem _)
      simp [B_questions_on_2, gt, -List.getD_eq_getElem?_getD]
      refine ⟨by decide, ?_⟩
      rw [if_pos (size_of (by omega))]
      dsimp only
      rw [show taken.map tupI ++ [tupI (ev.getD (start + k) [])] = (taken ++ [ev.getD (start + k) []]).map tupI by simp, show (start : Int) + k + 1 = ((start + k + 1 : Nat) : Int) by omega]
      refine p_questions_on he hl m (fun l hl => ?_) (by simp; omega) (by omega) ?_
      · rcases List.mem_append.mp hl with z | z
        · exact ht l z
        · rw [List.mem_singleton.mp z]
          exact hx
      rw [List.findSome?_cons] at q
      cases z : qOn ev m (start + k + 1) (taken ++ [ev.getD (start + k) []]) with
      | none =>
        rw [z] at q
        simp [optD]
        exact hK _ ⟨⟨_, _, rfl⟩, by rw [e]; simp, q⟩
      | some ts =>
        rw [z] at q
        simp [optD]
        exact q
    · obtain ⟨⟨s4, s5, rfl⟩, e, q⟩ := hI
      simp [B_questions_on_t1]
      exact q
theorem p_fewest {p k : Nat} {f : List L} {n : Nat} {Q : D → Prop} (h1 : 1 ≤ p) (h4 : p ≤ 4) (hk : 1 ≤ k) (k9 : k ≤ 9) (yes : qOn (lotsA p) k 0 [] = some f) (no : ∀ j, 1 ≤ j → j < k → qOn (lotsA p) j 0 [] = none) (q : Q (.tuple [.int k, .tuple (f.map tupI)])) : wC tab (n + 14) 20 [.int p] Q := by
  rw [wC_body (b := B_fewest_questions) rfl]
  have a : (1 : Int) ≤ p := by omega
  have b : (p : Int) ≤ 4 := by omega
  have len : (lotsA p).length ≤ 128 := by rw [lotsA_len]; exact p7 (by omega)
  simp [B_fewest_questions, a, b]
  refine p_lots_of (n := n + 11) (by omega) ?_
  simp [sortD_tupI]
  refine while_to (m := k) (fun m ρ => ∃ many : Nat, m + many = k ∧ ρ = [some (.frz (.int p)), some (.own (.list ((lotsA p).map tupI))), some (.frz (.int many)), some (.frz (optD (if many = 0 then none else qOn (lotsA p) many 0 [])))]) ?_ ?_ ⟨0, rfl, by simp [optD, lotsA]⟩
  · rintro ρ ⟨many, e, rfl⟩ K
    have : many = k := by omega
    subst this
    rw [if_neg (by omega), yes]
    simp [B_fewest_questions_c2, B_fewest_questions_t1, optD]
    exact ⟨by decide, q⟩
  · rintro m ρ ⟨many, e, rfl⟩ K hK
    have z : (if many = 0 then none else qOn (lotsA p) many 0 []) = none := by
      by_cases h : many = 0
      · rw [if_pos h]
      · rw [if_neg h]
        exact no many (by omega) (by omega)
    rw [z]
    simp [B_fewest_questions_c2, B_fewest_questions_3, optD]
    rw [show (many : Int) + 1 = ((many + 1 : Nat) : Int) by omega]
    obtain ⟨n', hn⟩ : ∃ n', n + 13 = n' + 4 + (many + 1) := ⟨n + 13 - 4 - (many + 1), by omega⟩
    rw [hn]
    refine p_questions_on (ev := lotsA p) (fun l hl => by have := (lotsA_mem.mp hl).len (by omega); omega) (by omega) (many + 1) (start := 0) (taken := []) (fun l hl => by cases hl) (by simp; omega) (by omega) ?_
    simp
    refine hK _ ⟨many + 1, by omega, ?_⟩
    rw [if_neg (by omega)]
    simp
theorem l4 : lotsA 4 = [[], [0], [0, 1], [0, 1, 2], [0, 1, 2, 3], [0, 1, 3], [0, 2], [0, 2, 3], [0, 3], [1], [1, 2], [1, 2, 3], [1, 3], [2], [2, 3], [3]] := by
  refine List.Perm.eq_of_pairwise (le := (· < ·)) (fun a b _ _ h1 h2 => (l_no h1 h2).elim) (lotsA_asc 4) (by decide +kernel) ((List.mergeSort_perm _ _).trans (by decide +kernel))
end K16
set_option Elab.async false
set_option linter.all false
set_option maxRecDepth 100000
namespace K16
open DL PySem
theorem lotsA_is {p : Nat} {X : List L} (asc : X.Pairwise (· < ·)) (pm : (bitsL p).Perm X) : lotsA p = X :=
  List.Perm.eq_of_pairwise (le := (· < ·)) (fun a b _ _ h1 h2 => (l_no h1 h2).elim) (lotsA_asc p) asc ((List.mergeSort_perm _ _).trans pm)
theorem l1 : lotsA 1 = [[], [0]] := lotsA_is (by decide +kernel) (by decide +kernel)
theorem l2 : lotsA 2 = [[], [0], [0, 1], [1]] := lotsA_is (by decide +kernel) (by decide +kernel)
theorem l3 : lotsA 3 = [[], [0], [0, 1], [0, 1, 2], [0, 2], [1], [1, 2], [2]] := lotsA_is (by decide +kernel) (by decide +kernel)
theorem f1 : qOn (lotsA 1) 1 0 [] = some [[0]] := by
  rw [l1]
  decide +kernel
theorem f2 : qOn (lotsA 2) 2 0 [] = some [[0], [0, 1]] ∧ qOn (lotsA 2) 1 0 [] = none := by
  rw [l2]
  decide +kernel
theorem f3 : qOn (lotsA 3) 3 0 [] = some [[0], [0, 1], [0, 1, 2]] ∧ qOn (lotsA 3) 2 0 [] = none ∧ qOn (lotsA 3) 1 0 [] = none := by
  rw [l3]
  decide +kernel
theorem f4 : qOn (lotsA 4) 3 0 [] = some [[0, 1], [0, 2], [1, 2, 3]] ∧ qOn (lotsA 4) 2 0 [] = none ∧ qOn (lotsA 4) 1 0 [] = none := by
  rw [l4]
  decide +kernel
theorem a4 : alikePair (cnt [[0, 1], [0, 2], [1, 2, 3]]) (lotsA 4) = none := by
  rw [l4]
  decide +kernel
theorem p_few (n : Nat) : ∀ p : Nat, 1 ≤ p → p ≤ 3 → ∃ f : List L, ∀ Q : D → Prop, Q (.tuple [.int p, .tuple (f.map tupI)]) → wC tab (n + 14) 20 [.int p] Q
  | 1, _, _ => ⟨_, fun Q q => p_fewest (p := 1) (k := 1) (by decide) (by decide) (by decide) (by decide) f1 (fun j h1 h2 => by omega) q⟩
  | 2, _, _ => ⟨_, fun Q q => p_fewest (p := 2) (k := 2) (by decide) (by decide) (by decide) (by decide) f2.1 (fun j h1 h2 => by
      obtain rfl : j = 1 := by omega
      exact f2.2) q⟩
  | 3, _, _ => ⟨_, fun Q q => p_fewest (p := 3) (k := 3) (by decide) (by decide) (by decide) (by decide) f3.1 (fun j h1 h2 => by
      have : j = 1 ∨ j = 2 := by omega
      rcases this with rfl | rfl
      · exact f3.2.2
      · exact f3.2.1) q⟩
theorem p_few4 {n : Nat} {Q : D → Prop} (q : Q (.tuple [.int 3, .tuple ([[0, 1], [0, 2], [1, 2, 3]].map tupI)])) : wC tab (n + 14) 20 [.int 4] Q :=
  p_fewest (p := 4) (k := 3) (by decide) (by decide) (by decide) (by decide) f4.1 (fun j h1 h2 => by
      have : j = 1 ∨ j = 2 := by omega
      rcases this with rfl | rfl
      · exact f4.2.2
      · exact f4.2.1) q
theorem law_of (rows : ∀ r ∈ menu, ∀ m : L, m.Perm ((List.range r.1).map fun (k : Nat) => (k : Int)) → Row r.1 (rowL r.1 r.2 m)) : ∀ Q : D → Prop, Q (.bool true) → wC tab 20 34 [scr] Q := by
  intro Q q
  rw [wC_body (b := B_law) rfl]
  simp [B_law]
  rw [wC_prim (p := .hand) rfl]
  refine ⟨rfl, ?_⟩
  simp [B_law_t4, DL.hand]
  refine p_few4 (n := 5) ?_
  have q4 : Qs [[0, 1], [0, 2], [1, 2, 3]] := ⟨by decide, by decide⟩
  simp [B_law_t3]
  refine p_told_count (n := 15) (p := 4) (ls := [[0, 1], [0, 2], [1, 2, 3]]) (by decide) q4 ?_
  rw [a4]
  simp [pairD, B_law_t2]
  refine ⟨by decide, ?_⟩
  rw [show [PyData.int 1, PyData.int 2, PyData.int 3] = ([1, 2, 3] : List Nat).map (fun (k : Nat) => (.int k : D)) from rfl]
  simp only [compL_map]
  refine comp_to (fun (k : Nat) => .int k) (fun k hk K kk => ?_) (by decide) ?_
  · have hk : 1 ≤ k ∧ k ≤ 3 := by
      have : k = 1 ∨ k = 2 ∨ k = 3 := by simpa using hk
      omega
    obtain ⟨f, hf⟩ := p_few 5 k hk.1 hk.2
    refine hf _ ?_
    simpa using kk
  have e : (if (PyData.plainAll (([1, 2, 3] : List Nat).map fun (k : Nat) => (.int k : D)) = true ∧ PyData.plainAll (([1, 2, 3] : List Nat).map fun (k : Nat) => (.int k : D)) = true) ∧ smallD (.list (([1, 2, 3] : List Nat).map fun (k : Nat) => (.int k : D))) = true then some (!PyData.eqv (.list (([1, 2, 3] : List Nat).map fun (k : Nat) => (.int k : D))) (.list (([1, 2, 3] : List Nat).map fun (k : Nat) => (.int k : D)))) else none) = some false := by decide +kernel
  refine ⟨by decide, ?_⟩
  rw [e]
  simp [B_law_t1]
  have turn : ∀ K : D → Prop, K (.bool true) → wC tab 19 33 [DL.hand] K := fun K kk =>
    p_is_right_a (n := 9) rows fun p ls row => p_is_right_b row fun l an od v => p_is_right_c row kk
  rw [show (List.range 4) = [0, 1, 2, 3] from rfl]
  refine comp_to (fun _ => .bool true) (fun k hk K kk => turn _ kk) (by decide) ?_
  exact ⟨.inl rfl, q⟩
end K16
set_option Elab.async false
set_option linter.all false
set_option maxRecDepth 100000
namespace K16
open DL PySem
/-- how many points of a question lie in a lot -/
def cn (q l : L) : Nat := (q.filter fun x => l.contains x).length
theorem cnt_eq {qs : List L} {a b : L} : cnt qs a = cnt qs b ↔ ∀ q ∈ qs, cn q a = cn q b := by
  unfold cnt
  rw [List.map_inj_left]
  constructor
  · intro h q hq
    have := h q hq
    unfold cn
    omega
  · intro h q hq
    have := h q hq
    unfold cn at this
    rw [this]
/-- a row as it stands ahead of the renaming -/
structure Base (p : Nat) (bs : List L) : Prop where
  p1 : 1 ≤ p
  p7 : p ≤ 7
  some_ : 0 < bs.length
  few : bs.length < p
  lot : ∀ l ∈ bs, l ∈ bitsL p
  nd : bs.Nodup
  inj : ((bitsL p).map (cnt bs)).Nodup
  less : ∀ q ∈ bs, ¬ ((bitsL p).map (cnt (bs.filter fun x => decide (x ≠ q)))).Nodup
theorem base_all : ∀ r ∈ menu, (1 ≤ r.1 ∧ r.1 ≤ 7 ∧ 0 < (r.2.map (lawBits r.1)).length ∧ (r.2.map (lawBits r.1)).length < r.1) ∧ (∀ l ∈ r.2.map (lawBits r.1), l ∈ bitsL r.1) ∧ (r.2.map (lawBits r.1)).Nodup := by decide +kernel
theorem base_inj : ∀ r ∈ menu, ((bitsL r.1).map (cnt (r.2.map (lawBits r.1)))).Nodup := by decide +kernel
theorem base_less : ∀ r ∈ menu, ∀ q ∈ r.2.map (lawBits r.1), ¬ ((bitsL r.1).map (cnt ((r.2.map (lawBits r.1)).filter fun x => decide (x ≠ q)))).Nodup := by decide +kernel
theorem base_of {r : Nat × List Nat} (h : r ∈ menu) : Base r.1 (r.2.map (lawBits r.1)) := by
  obtain ⟨⟨a, b, c, d⟩, e, f⟩ := base_all r h
  exact ⟨a, b, c, d, e, f, base_inj r h, base_less r h⟩
theorem eq_of_inj {α β : Type} {f : α → β} : ∀ {l : List α}, (l.map f).Nodup → ∀ a ∈ l, ∀ b ∈ l, f a = f b → a = b
  | [], _, a, ha, _, _, _ => by cases ha
  | x :: l, nd, a, ha, b, hb, e => by
    rw [List.map_cons, List.nodup_cons] at nd
    rcases List.mem_cons.mp ha with za | za
    · rcases List.mem_cons.mp hb with zb | zb
      · rw [za, zb]
      · exact absurd (List.mem_map.mpr ⟨b, zb, by rw [← e, za]⟩) nd.1
    · rcases List.mem_cons.mp hb with zb | zb
      · exact absurd (List.mem_map.mpr ⟨a, za, by rw [e, zb]⟩) nd.1
      · exact eq_of_inj nd.2 a za b zb e
theorem two_of {α β : Type} [DecidableEq α] {f : α → β} {l : List α} (nl : l.Nodup) (h : ¬ (l.map f).Nodup) : ∃ a ∈ l, ∃ b ∈ l, a ≠ b ∧ f a = f b := by
  refine Classical.byContradiction fun no => h ?_
  refine List.pairwise_map.mpr (List.Pairwise.imp_of_mem (fun {a b} ha hb ne e => ?_) nl)
  exact no ⟨a, ha, b, hb, ne, e⟩
/-! points called otherwise -/
section
variable {p : Nat} {m : L} (pm : m.Perm ((List.range p).map fun (k : Nat) => (k : Int)))
def call (m : L) (i : Int) : Int := m.getD i.toNat 0
theorem m_nodup (pm : m.Perm ((List.range p).map fun (k : Nat) => (k : Int))) : m.Nodup := by
  refine pm.nodup_iff.mpr (List.pairwise_map.mpr (List.nodup_range.imp fun ne e => ne (by omega)))
theorem m_len (pm : m.Perm ((List.range p).map fun (k : Nat) => (k : Int))) : m.length = p := by simpa using pm.length_eq
theorem call_rng (pm : m.Perm ((List.range p).map fun (k : Nat) => (k : Int))) {i : Int} (h : 0 ≤ i ∧ i < p) : 0 ≤ call m i ∧ call m i < p := by
  have hi : i.toNat < m.length := by rw [m_len pm]; omega
  have : call m i ∈ m := by
    unfold call
    rw [List.getD_eq_getElem?_getD, List.getElem?_eq_getElem hi]
    exact List.getElem_mem hi
  obtain ⟨k, hk, e⟩ := List.mem_map.mp (pm.mem_iff.mp this)
  rw [← e]
  have := List.mem_range.mp hk
  omega
theorem call_inj (pm : m.Perm ((List.range p).map fun (k : Nat) => (k : Int))) {i j : Int} (hi : 0 ≤ i ∧ i < p) (hj : 0 ≤ j ∧ j < p) (e : call m i = call m j) : i = j := by
  have li : i.toNat < m.length := by rw [m_len pm]; omega
  have lj : j.toNat < m.length := by rw [m_len pm]; omega
  unfold call at e
  rw [List.getD_eq_getElem?_getD, List.getElem?_eq_getElem li, List.getD_eq_getElem?_getD, List.getElem?_eq_getElem lj] at e
  have e : m[i.toNat] = m[j.toNat] := e
  have nd := List.pairwise_iff_getElem.mp (m_nodup pm)
  rcases Nat.lt_trichotomy i.toNat j.toNat with z | z | z
  · exact absurd e (nd _ _ li lj z)
  · omega
  · exact absurd e.symm (nd _ _ lj li z)
theorem call_onto (pm : m.Perm ((List.range p).map fun (k : Nat) => (k : Int))) {x : Int} (h : 0 ≤ x ∧ x < p) : ∃ i : Int, (0 ≤ i ∧ i < p) ∧ call m i = x := by
  have : x ∈ m := pm.mem_iff.mpr (List.mem_map.mpr ⟨x.toNat, List.mem_range.mpr (by omega), by omega⟩)
  obtain ⟨k, hk, e⟩ := List.getElem_of_mem this
  have := m_len pm
  refine ⟨k, by omega, ?_⟩
  unfold call
  rw [Int.toNat_natCast, List.getD_eq_getElem?_getD, List.getElem?_eq_getElem hk]
  exact e
theorem ren_perm (m l : L) : (ren m l).Perm (l.map (call m)) := List.mergeSort_perm _ _
theorem mem_ren (pm : m.Perm ((List.range p).map fun (k : Nat) => (k : Int))) {l : L} (v : VL p l) {i : Int} (hi : 0 ≤ i ∧ i < p) : call m i ∈ ren m l ↔ i ∈ l := by
  rw [(ren_perm m l).mem_iff, List.mem_map]
  constructor
  · rintro ⟨j, hj, e⟩
    rw [call_inj pm hi (v.rng j hj) e.symm]
    exact hj
  · exact fun h => ⟨i, h, rfl⟩
theorem ren_vl (pm : m.Perm ((List.range p).map fun (k : Nat) => (k : Int))) {l : L} (v : VL p l) : VL p (ren m l) := by
  have nd : (ren m l).Nodup := by
    refine (ren_perm m l).nodup_iff.mpr (List.pairwise_map.mpr (List.Pairwise.imp_of_mem (fun {i j} hi hj lt e => ?_) v.asc))
    have := call_inj pm (v.rng i hi) (v.rng j hj) e
    omega
  refine ⟨fun x hx => ?_, ?_⟩
  · obtain ⟨i, hi, rfl⟩ := List.mem_map.mp ((ren_perm m l).mem_iff.mp hx)
    exact call_rng pm (v.rng i hi)
  · have s := List.pairwise_mergeSort (le := fun a b : Int => decide (a ≤ b)) (fun a b c h1 h2 => by simp at h1 h2 ⊢; omega) (fun a b => by simp; omega) (l.map (call m))
    refine (List.Pairwise.and s nd).imp fun {a b} h => ?_
    have h1 : a ≤ b := by simpa using h.1
    have h2 : a ≠ b := h.2
    omega
theorem vl_ext {a b : L} (va : VL p a) (vb : VL p b) (h : ∀ x : Int, 0 ≤ x ∧ x < p → (x ∈ a ↔ x ∈ b)) : a = b := by
  have nd : ∀ {l : L}, VL p l → l.Nodup := fun v => v.asc.imp fun h => by omega
  have pm2 : a.Perm b := (List.perm_ext_iff_of_nodup (nd va) (nd vb)).mpr fun x => ⟨fun hx => (h x (va.rng x hx)).mp hx, fun hx => (h x (vb.rng x hx)).mpr hx⟩
  exact List.Perm.eq_of_pairwise (le := (· < ·)) (fun x y _ _ h1 h2 => by omega) va.asc vb.asc pm2
theorem ren_inj (pm : m.Perm ((List.range p).map fun (k : Nat) => (k : Int))) {a b : L} (va : VL p a) (vb : VL p b) (e : ren m a = ren m b) : a = b :=
  vl_ext va vb fun x hx => by rw [← mem_ren pm va hx, ← mem_ren pm vb hx, e]
/-- the points that are called into a lot -/
def back (p : Nat) (m l : L) : L := ((List.range p).map fun (k : Nat) => (k : Int)).filter fun i => l.contains (call m i)
theorem mem_back {l : L} {i : Int} : i ∈ back p m l ↔ (0 ≤ i ∧ i < p) ∧ call m i ∈ l := by
  unfold back
  rw [List.mem_filter, List.mem_map]
  constructor
  · rintro ⟨⟨k, hk, rfl⟩, h⟩
    have := List.mem_range.mp hk
    exact ⟨by omega, by simpa using h⟩
  · rintro ⟨h1, h2⟩
    exact ⟨⟨i.toNat, List.mem_range.mpr (by omega), by omega⟩, by simpa using h2⟩
theorem back_vl (l : L) : VL p (back p m l) :=
  ⟨fun x hx => (mem_back.mp hx).1, List.Pairwise.filter _ (List.pairwise_map.mpr (List.pairwise_lt_range.imp fun h => by omega))⟩
theorem back_inj (pm : m.Perm ((List.range p).map fun (k : Nat) => (k : Int))) {a b : L} (va : VL p a) (vb : VL p b) (e : back p m a = back p m b) : a = b :=
  vl_ext va vb fun x hx => by
    obtain ⟨i, hi, rfl⟩ := call_onto pm hx
    have h1 := mem_back (p := p) (m := m) (l := a) (i := i)
    have h2 := mem_back (p := p) (m := m) (l := b) (i := i)
    rw [e] at h1
    constructor
    · intro h
      exact (h2.mp (h1.mpr ⟨hi, h⟩)).2
    · intro h
      exact (h1.mp (h2.mpr ⟨hi, h⟩)).2
theorem cn_ren {q l : L} (v : VL p q) : cn (ren m q) l = cn q (back p m l) := by
  unfold cn
  rw [((ren_perm m q).filter _).length_eq, List.filter_map, List.length_map]
  congr 1
  refine List.filter_congr fun i hi => ?_
  rw [Bool.eq_iff_iff]
  simp only [Function.comp, List.contains_iff_mem]
  rw [mem_back]
  exact ⟨fun h => ⟨v.rng i hi, h⟩, fun h => h.2⟩
theorem back_ren (pm : m.Perm ((List.range p).map fun (k : Nat) => (k : Int))) {l : L} (v : VL p l) : back p m (ren m l) = l :=
  vl_ext (back_vl _) v fun x hx => by
    rw [mem_back, mem_ren pm v hx]
    exact ⟨fun h => h.2, fun h => ⟨hx, h⟩⟩
end
theorem sortL_perm (ls : List L) : (sortL ls).Perm ls := List.mergeSort_perm _ _
theorem row_of {p : Nat} {bs : List L} {m : L} (B : Base p bs) (pm : m.Perm ((List.range p).map fun (k : Nat) => (k : Int))) : Row p (sortL (bs.map (ren m))) := by
  have vb : ∀ q ∈ bs, VL p q := fun q hq => bitsL_mem.mp (B.lot q hq)
  have mem : ∀ {l : L}, l ∈ sortL (bs.map (ren m)) ↔ ∃ q ∈ bs, ren m q = l := fun {l} => by rw [(sortL_perm _).mem_iff, List.mem_map]
  have nd : (sortL (bs.map (ren m))).Nodup := by
    refine (sortL_perm _).nodup_iff.mpr (List.pairwise_map.mpr (List.Pairwise.imp_of_mem (fun {a b} ha hb ne e => ?_) B.nd))
    exact ne (ren_inj pm (vb a ha) (vb b hb) e)
  have len : (sortL (bs.map (ren m))).length = bs.length := by
    rw [(sortL_perm _).length_eq, List.length_map]
  have fam_ : Fam p (sortL (bs.map (ren m))) := by
    refine ⟨fun l hl => ?_, ?_, ?_⟩
    · obtain ⟨q, hq, rfl⟩ := mem.mp hl
      exact ren_vl pm (vb q hq)
    · have s := List.pairwise_mergeSort (fun a b c => le_trn a b c) (fun a b => le_tot a b) (bs.map (ren m))
      refine (List.Pairwise.and s nd).imp fun {a b} h => ?_
      have h1 : a ≤ b := by simpa using h.1
      rcases List.le_iff_lt_or_eq.mp h1 with z | z
      · exact z
      · exact absurd z h.2
    · have := B.few
      have := B.p7
      omega
  refine ⟨B.p1, B.p7, fam_, by rw [len]; exact B.few, by rw [len]; exact B.some_, ?_, fun i hi => ?_⟩
  · have q := alikePair_is (f := cnt (sortL (bs.map (ren m)))) (lotsA_asc p)
    generalize alikePair (cnt (sortL (bs.map (ren m)))) (lotsA p) = o at q
    cases q with
    | no _ => rfl
    | @yes a b ha hb ab e _ =>
      have va := lotsA_mem.mp ha
      have vb2 := lotsA_mem.mp hb
      have e2 : cnt bs (back p m a) = cnt bs (back p m b) := cnt_eq.mpr fun q hq => by
        rw [← cn_ren (vb q hq), ← cn_ren (vb q hq)]
        exact cnt_eq.mp e _ (mem.mpr ⟨q, hq, rfl⟩)
      have e3 := eq_of_inj B.inj _ (bitsL_mem.mpr (back_vl a)) _ (bitsL_mem.mpr (back_vl b)) e2
      have e4 := back_inj pm va vb2 e3
      rw [e4] at ab
      exact (l_irr _ ab).elim
  · intro none_
    obtain ⟨q0, hq0, e0⟩ := mem.mp (List.getElem_mem hi)
    obtain ⟨a, ha, b, hb, ne, e⟩ := two_of (bitsL_nodup p) (B.less q0 hq0)
    have va := bitsL_mem.mp ha
    have vb2 := bitsL_mem.mp hb
    have e1 : cnt (rest1 (sortL (bs.map (ren m))) i) (ren m a) = cnt (rest1 (sortL (bs.map (ren m))) i) (ren m b) := cnt_eq.mpr fun l hl => by
      have inl : l ∈ sortL (bs.map (ren m)) := by
        rcases List.mem_append.mp hl with z | z
        · exact List.mem_of_mem_take z
        · exact List.mem_of_mem_drop z
      obtain ⟨q, hq, rfl⟩ := mem.mp inl
      have nq : q ≠ q0 := fun z => by
        subst z
        rw [e0] at hl
        have sp : sortL (bs.map (ren m)) = (sortL (bs.map (ren m))).take i ++ (sortL (bs.map (ren m)))[i] :: (sortL (bs.map (ren m))).drop (i + 1) := by
          rw [List.getElem_cons_drop, List.take_append_drop]
        rw [sp, List.nodup_append] at nd
        rcases List.mem_append.mp hl with z | z
        · exact nd.2.2 _ z _ (.head _) rfl
        · exact (List.nodup_cons.mp nd.2.1).1 z
      rw [cn_ren (vb q hq), cn_ren (vb q hq), back_ren pm va, back_ren pm vb2]
      exact cnt_eq.mp e q (List.mem_filter.mpr ⟨hq, by simpa using nq⟩)
    exact ne (ren_inj pm va vb2 (cnt_inj none_ (ren_vl pm va) (ren_vl pm vb2) e1))
theorem law_true : ∀ Q : D → Prop, Q (.bool true) → wC tab 20 34 [scr] Q := law_of fun r hr m pm => row_of (base_of hr) pm
end K16
set_option linter.all false
set_option maxRecDepth 100000
namespace K16
open DL PySem PySem.Spec PyProof.Rows L2
set_option maxHeartbeats 1000000 in
theorem all_mk {l : PySem.W.OpenLaw} {w : World} {K : PySem.W.Frag} {h : Heap} {mg : Str → Option Value} {fa C fI fS f0 f1 f2 f3 f4 f5 f6 f7 f8 f9 f10 f11 f12 f13 f14 f15 f16 f17 f18 f19 f20 f21 f22 f23 f24 f25 f26 f27 f28 f29 f30 f31 f32 f33 f34 : Addr} (X : K.In h) (G : h.Ns mainGlobals mg) (hfa : mg "law" = some (.ref fa)) (D0 : DefK K "is_integer" (topS 2) f0) (D1 : DefK K "is_within" (topS 3) f1) (D2 : DefK K "is_number" (topS 4) f2) (D3 : DefK K "is_tuple" (topS 5) f3) (D4 : DefK K "is_lot" (topS 6) f4) (D5 : DefK K "is_count" (topS 15) f5) (D6 : DefK K "is_lot_of" (topS 16) f6) (D7 : DefK K "are_lots" (topS 17) f7) (D8 : DefK K "lot_of" (topS 19) f8) (D9 : DefK K "lots_of" (topS 20) f9) (D10 : DefK K "meets" (topS 21) f10) (D11 : DefK K "common_of" (topS 22) f11) (D12 : DefK K "check_lot" (topS 23) f12) (D13 : DefK K "counts_for" (topS 26) f13) (D14 : DefK K "bits_for" (topS 27) f14) (D15 : DefK K "answers_of" (topS 28) f15) (D16 : DefK K "least_alike" (topS 29) f16) (D17 : DefK K "told_apart" (topS 30) f17) (D18 : DefK K "is_alike_pair" (topS 31) f18) (D19 : DefK K "questions_on" (topS 32) f19) (D20 : DefK K "fewest_questions" (topS 33) f20) (D21 : DefK K "found_by" (topS 34) f21) (D22 : DefK K "bits_apart" (topS 35) f22) (D23 : DefK K "_law_hand" (topS 37) f23) (D24 : DefK K "_law_draw" (topS 38) f24) (D25 : DefK K "_law_mixed" (topS 40) f25) (D26 : DefK K "_law_is" (topS 41) f26) (D27 : DefK K "_law_all" (topS 42) f27) (D28 : DefK K "_law_meet" (topS 43) f28) (D29 : DefK K "_law_answers" (topS 44) f29) (D30 : DefK K "_law_told" (topS 45) f30) (D31 : DefK K "_law_rows" (topS 46) f31) (D32 : DefK K "_law_bits" (topS 47) f32) (D33 : DefK K "_law_is_right" (topS 48) f33) (D34 : DefK K "law" (topS 49) f34) (DS : DefK K "_law_some" (topS 39) fS)
    (aC : PySem.W.nsIn K mainGlobals "Family" = some (some (.ref C))) (a1 : PySem.W.findIn K (.ref C) "__init__" = some (some (.ref fI))) (i1 : PySem.W.isFn K (.ref fI) = true) (MI : MethK K "__init__" "Family.__init__" sInit fI) (pg : PySem.W.plainGet K C Str.empty = true) (hd : PySem.W.hasDictIn K C = true) (po : PySem.W.plainOver K C = true)
    (sa : PySem.W.findIn K (.ref C) "__setattr__" = some (some (.builtin "object.__setattr__"))) (mk : PySem.W.makesIn K C = true) (kc : PySem.W.keepIn K (.ref C) = true) (nP : PySem.W.findIn K (.ref C) "points" = some none) (nL : PySem.W.findIn K (.ref C) "lots" = some none) (nK : PySem.W.findIn K (.ref C) "looked" = some none)
    {c0 : Tok} (hc0 : PySem.W.nsIn K mainGlobals "MOST_POINTS_families" = some (some (.int 7 c0))) {c1 : Tok} (hc1 : PySem.W.nsIn K mainGlobals "MOST_POINTS_answers" = some (some (.int 4 c1))) (z0 : PySem.W.nsIn K mainGlobals "len" = some none) (z1 : PySem.W.nsIn K mainGlobals "tuple" = some none) (z2 : PySem.W.nsIn K mainGlobals "list" = some none) (z3 : PySem.W.nsIn K mainGlobals "sorted" = some none) (z4 : PySem.W.nsIn K mainGlobals "all" = some none) (z5 : PySem.W.nsIn K mainGlobals "any" = some none) (z6 : PySem.W.nsIn K mainGlobals "sum" = some none) (z7 : PySem.W.nsIn K mainGlobals "abs" = some none) (z8 : PySem.W.nsIn K mainGlobals "int" = some none) (z9 : PySem.W.nsIn K mainGlobals "min" = some none) (z10 : PySem.W.nsIn K mainGlobals "max" = some none) (z11 : PySem.W.nsIn K mainGlobals "isinstance" = some none) (z12 : PySem.W.nsIn K mainGlobals "bool" = some none) (z13 : PySem.W.nsIn K mainGlobals "str" = some none) (z14 : PySem.W.nsIn K mainGlobals "set" = some none) (z15 : PySem.W.nsIn K mainGlobals "range" = some none) (z16 : PySem.W.nsIn K mainGlobals "enumerate" = some none) (z17 : PySem.W.nsIn K mainGlobals "zip" = some none) (z18 : PySem.W.nsIn K mainGlobals "repr" = some none) :
    ∃ (g : Gx) (Ck : List D → (D → Prop) → Prop), g.K = K ∧ (∀ Q : D → Prop, Q (.bool true) → Ck [scr] Q) ∧ ∀ base : Heap, K.In base → base.Ns mainGlobals mg → FnG l.prog w K mg base 41 fa (spC g Ck) := by
  obtain ⟨g, eg⟩ : ∃ g : Gx, g = ⟨l.prog, w, K, C, fun k => [f0, f1, f2, f3, f4, f5, f6, f7, f8, f9, f10, f11, f12, f13, f14, f15, f16, f17, f18, f19, f20, f21, f22, f23, f24, f25, f26, f27, f28, f29, f30, f31, f32, f33, f34, C].getD k f0⟩ := ⟨_, rfl⟩
  have e0 : g.fa 0 = f0 := by rw [eg]; rfl
  have e1 : g.fa 1 = f1 := by rw [eg]; rfl
  have e2 : g.fa 2 = f2 := by rw [eg]; rfl
  have e3 : g.fa 3 = f3 := by rw [eg]; rfl
  have e4 : g.fa 4 = f4 := by rw [eg]; rfl
  have e5 : g.fa 5 = f5 := by rw [eg]; rfl
  have e6 : g.fa 6 = f6 := by rw [eg]; rfl
  have e7 : g.fa 7 = f7 := by rw [eg]; rfl
  have e8 : g.fa 8 = f8 := by rw [eg]; rfl
  have e9 : g.fa 9 = f9 := by rw [eg]; rfl
  have e10 : g.fa 10 = f10 := by rw [eg]; rfl
  have e11 : g.fa 11 = f11 := by rw [eg]; rfl
  have e12 : g.fa 12 = f12 := by rw [eg]; rfl
  have e13 : g.fa 13 = f13 := by rw [eg]; rfl
  have e14 : g.fa 14 = f14 := by rw [eg]; rfl
  have e15 : g.fa 15 = f15 := by rw [eg]; rfl
  have e16 : g.fa 16 = f16 := by rw [eg]; rfl
  have e17 : g.fa 17 = f17 := by rw [eg]; rfl
  have e18 : g.fa 18 = f18 := by rw [eg]; rfl
  have e19 : g.fa 19 = f19 := by rw [eg]; rfl
  have e20 : g.fa 20 = f20 := by rw [eg]; rfl
  have e21 : g.fa 21 = f21 := by rw [eg]; rfl
  have e22 : g.fa 22 = f22 := by rw [eg]; rfl
  have e23 : g.fa 23 = f23 := by rw [eg]; rfl
  have e24 : g.fa 24 = f24 := by rw [eg]; rfl
  have e25 : g.fa 25 = f25 := by rw [eg]; rfl
  have e26 : g.fa 26 = f26 := by rw [eg]; rfl
  have e27 : g.fa 27 = f27 := by rw [eg]; rfl
  have e28 : g.fa 28 = f28 := by rw [eg]; rfl
  have e29 : g.fa 29 = f29 := by rw [eg]; rfl
  have e30 : g.fa 30 = f30 := by rw [eg]; rfl
  have e31 : g.fa 31 = f31 := by rw [eg]; rfl
  have e32 : g.fa 32 = f32 := by rw [eg]; rfl
  have e33 : g.fa 33 = f33 := by rw [eg]; rfl
  have e34 : g.fa 34 = f34 := by rw [eg]; rfl
  have e35 : g.fa 35 = C := by rw [eg]; rfl
  have eC : g.C = C := by rw [eg]
  have cl : Cls K C := ⟨pg, hd, po, sa⟩
  have hz : ∀ x ∈ bltNames, mg x = none := by
    intro x hx
    simp only [bltNames, List.mem_cons, List.not_mem_nil, or_false] at hx
    rcases hx with rfl | rfl | rfl | rfl | rfl | rfl | rfl | rfl | rfl | rfl | rfl | rfl | rfl | rfl | rfl | rfl | rfl | rfl | rfl
    · exact PySem.W.mg_none_of X G z0
    · exact PySem.W.mg_none_of X G z1
    · exact PySem.W.mg_none_of X G z2
    · exact PySem.W.mg_none_of X G z3
    · exact PySem.W.mg_none_of X G z4
    · exact PySem.W.mg_none_of X G z5
    · exact PySem.W.mg_none_of X G z6
    · exact PySem.W.mg_none_of X G z7
    · exact PySem.W.mg_none_of X G z8
    · exact PySem.W.mg_none_of X G z9
    · exact PySem.W.mg_none_of X G z10
    · exact PySem.W.mg_none_of X G z11
    · exact PySem.W.mg_none_of X G z12
    · exact PySem.W.mg_none_of X G z13
    · exact PySem.W.mg_none_of X G z14
    · exact PySem.W.mg_none_of X G z15
    · exact PySem.W.mg_none_of X G z16
    · exact PySem.W.mg_none_of X G z17
    · exact PySem.W.mg_none_of X G z18
  have hmg : ∀ p ∈ cf.fns.zip [f0, f1, f2, f3, f4, f5, f6, f7, f8, f9, f10, f11, f12, f13, f14, f15, f16, f17, f18, f19, f20, f21, f22, f23, f24, f25, f26, f27, f28, f29, f30, f31, f32, f33, f34, C], mg p.1 = some (.ref p.2) := by
    intro p hp
    simp only [cf, List.zip_cons_cons, List.zip_nil_right, List.zip_nil_left, List.mem_cons, List.not_mem_nil, or_false] at hp
    rcases hp with rfl | rfl | rfl | rfl | rfl | rfl | rfl | rfl | rfl | rfl | rfl | rfl | rfl | rfl | rfl | rfl | rfl | rfl | rfl | rfl | rfl | rfl | rfl | rfl | rfl | rfl | rfl | rfl | rfl | rfl | rfl | rfl | rfl | rfl | rfl | rfl
    · exact D0.mg X G
    · exact D1.mg X G
    · exact D2.mg X G
    · exact D3.mg X G
    · exact D4.mg X G
    · exact D5.mg X G
    · exact D6.mg X G
    · exact D7.mg X G
    · exact D8.mg X G
    · exact D9.mg X G
    · exact D10.mg X G
    · exact D11.mg X G
    · exact D12.mg X G
    · exact D13.mg X G
    · exact D14.mg X G
    · exact D15.mg X G
    · exact D16.mg X G
    · exact D17.mg X G
    · exact D18.mg X G
    · exact D19.mg X G
    · exact D20.mg X G
    · exact D21.mg X G
    · exact D22.mg X G
    · exact D23.mg X G
    · exact D24.mg X G
    · exact D25.mg X G
    · exact D26.mg X G
    · exact D27.mg X G
    · exact D28.mg X G
    · exact D29.mg X G
    · exact D30.mg X G
    · exact D31.mg X G
    · exact D32.mg X G
    · exact D33.mg X G
    · exact D34.mg X G
    · exact PySem.W.mg_of X G aC
  have M : ModOk g l.prog w K mg cf := by
    refine ⟨by rw [eg], by rw [eg], by rw [eg], hz, fun x i hx => ?_, fun k x hx => ?_, fun k => ?_, fun _ => ?_⟩
    · simp only [cf, List.lookup_cons, List.lookup_nil] at hx
      repeat' (split at hx)
      all_goals first
        | (cases hx; rename_i e; rw [beq_iff_eq.mp e]; exact ⟨_, PySem.W.mg_of X G hc0⟩)
        | (cases hx; rename_i e; rw [beq_iff_eq.mp e]; exact ⟨_, PySem.W.mg_of X G hc1⟩)
        | cases hx
    · rw [eg]; exact hmg _ (zip_at (Nat.le_of_eq rfl) hx)
    · have hk : ∀ a ∈ [f0, f1, f2, f3, f4, f5, f6, f7, f8, f9, f10, f11, f12, f13, f14, f15, f16, f17, f18, f19, f20, f21, f22, f23, f24, f25, f26, f27, f28, f29, f30, f31, f32, f33, f34, C], PySem.W.keepIn K (.ref a) = true := by
        intro a ha
        simp only [List.mem_cons, List.not_mem_nil, or_false] at ha
        rcases ha with rfl | rfl | rfl | rfl | rfl | rfl | rfl | rfl | rfl | rfl | rfl | rfl | rfl | rfl | rfl | rfl | rfl | rfl | rfl | rfl | rfl | rfl | rfl | rfl | rfl | rfl | rfl | rfl | rfl | rfl | rfl | rfl | rfl | rfl | rfl | rfl
        · exact D0.kp
        · exact D1.kp
        · exact D2.kp
        · exact D3.kp
        · exact D4.kp
        · exact D5.kp
        · exact D6.kp
        · exact D7.kp
        · exact D8.kp
        · exact D9.kp
        · exact D10.kp
        · exact D11.kp
        · exact D12.kp
        · exact D13.kp
        · exact D14.kp
        · exact D15.kp
        · exact D16.kp
        · exact D17.kp
        · exact D18.kp
        · exact D19.kp
        · exact D20.kp
        · exact D21.kp
        · exact D22.kp
        · exact D23.kp
        · exact D24.kp
        · exact D25.kp
        · exact D26.kp
        · exact D27.kp
        · exact D28.kp
        · exact D29.kp
        · exact D30.kp
        · exact D31.kp
        · exact D32.kp
        · exact D33.kp
        · exact D34.kp
        · exact kc
      rw [eg]; exact hk _ (getD_mem (List.mem_cons_self ..))
    · rw [eC]; exact ⟨cl, nP, nL⟩
  have dom : ∀ k, cf.fns[k]? = none → ∀ n ds Q, ¬ wC tab n k ds Q := by
    intro k hk
    have hk2 : 36 ≤ k := by simpa [cf] using hk
    obtain ⟨j, rfl⟩ := Nat.exists_eq_add_of_le' hk2
    exact dead rfl
  have gK : g.K = K := by rw [eg]
  refine ⟨g, wC tab 20 34, gK, law_true, fun base hb hG => ?_⟩
  obtain ⟨_, F0⟩ := D0.2
  have bF0 := F0.binds (ps := ["thing"]) fun _ _ _ _ _ _ us hl => match us, hl with | [_], _ => rfl
  obtain ⟨_, F1⟩ := D1.2
  have bF1 := F1.binds (ps := ["thing", "low", "high"]) fun _ _ _ _ _ _ us hl => match us, hl with | [_, _, _], _ => rfl
  obtain ⟨_, F2⟩ := D2.2
  have bF2 := F2.binds (ps := ["thing"]) fun _ _ _ _ _ _ us hl => match us, hl with | [_], _ => rfl
  obtain ⟨_, F3⟩ := D3.2
  have bF3 := F3.binds (ps := ["thing", "least", "most"]) fun _ _ _ _ _ _ us hl => match us, hl with | [_, _, _], _ => rfl
  obtain ⟨_, F4⟩ := D4.2
  have bF4 := F4.binds (ps := ["thing", "many"]) fun _ _ _ _ _ _ us hl => match us, hl with | [_, _], _ => rfl
  obtain ⟨_, F5⟩ := D5.2
  have bF5 := F5.binds (ps := ["thing"]) fun _ _ _ _ _ _ us hl => match us, hl with | [_], _ => rfl
  obtain ⟨_, F6⟩ := D6.2
  have bF6 := F6.binds (ps := ["points", "thing"]) fun _ _ _ _ _ _ us hl => match us, hl with | [_, _], _ => rfl
  obtain ⟨_, F7⟩ := D7.2
  have bF7 := F7.binds (ps := ["points", "thing"]) fun _ _ _ _ _ _ us hl => match us, hl with | [_, _], _ => rfl
  obtain ⟨_, F8⟩ := D8.2
  have bF8 := F8.binds (ps := ["number"]) fun _ _ _ _ _ _ us hl => match us, hl with | [_], _ => rfl
  obtain ⟨_, F9⟩ := D9.2
  have bF9 := F9.binds (ps := ["points"]) fun _ _ _ _ _ _ us hl => match us, hl with | [_], _ => rfl
  obtain ⟨_, F10⟩ := D10.2
  have bF10 := F10.binds (ps := ["one", "other"]) fun _ _ _ _ _ _ us hl => match us, hl with | [_, _], _ => rfl
  obtain ⟨_, F11⟩ := D11.2
  have bF11 := F11.binds (ps := ["one", "other"]) fun _ _ _ _ _ _ us hl => match us, hl with | [_, _], _ => rfl
  obtain ⟨_, F12⟩ := D12.2
  have bF12 := F12.binds (ps := ["family", "lot"]) fun _ _ _ _ _ _ us hl => match us, hl with | [_, _], _ => rfl
  obtain ⟨_, F13⟩ := D13.2
  have bF13 := F13.binds (ps := ["questions", "lot"]) fun _ _ _ _ _ _ us hl => match us, hl with | [_, _], _ => rfl
  obtain ⟨_, F14⟩ := D14.2
  have bF14 := F14.binds (ps := ["questions", "lot"]) fun _ _ _ _ _ _ us hl => match us, hl with | [_, _], _ => rfl
  obtain ⟨_, F15⟩ := D15.2
  have bF15 := F15.binds (ps := ["family", "lot"]) fun _ _ _ _ _ _ us hl => match us, hl with | [_, _], _ => rfl
  obtain ⟨_, F16⟩ := D16.2
  have bF16 := F16.binds (ps := ["lots", "questions", "told"]) fun _ _ _ _ _ _ us hl => match us, hl with | [_, _, _], _ => rfl
  obtain ⟨_, F17⟩ := D17.2
  have bF17 := F17.binds (ps := ["family"]) fun _ _ _ _ _ _ us hl => match us, hl with | [_], _ => rfl
  obtain ⟨_, F18⟩ := D18.2
  have bF18 := F18.binds (ps := ["family", "thing"]) fun _ _ _ _ _ _ us hl => match us, hl with | [_, _], _ => rfl
  obtain ⟨_, F19⟩ := D19.2
  have bF19 := F19.binds (ps := ["every", "start", "taken", "many"]) fun _ _ _ _ _ _ us hl => match us, hl with | [_, _, _, _], _ => rfl
  obtain ⟨_, F20⟩ := D20.2
  have bF20 := F20.binds (ps := ["points"]) fun _ _ _ _ _ _ us hl => match us, hl with | [_], _ => rfl
  obtain ⟨_, F21⟩ := D21.2
  have bF21 := F21.binds (ps := ["family", "answers"]) fun _ _ _ _ _ _ us hl => match us, hl with | [_, _], _ => rfl
  obtain ⟨_, F22⟩ := D22.2
  have bF22 := F22.binds (ps := ["family"]) fun _ _ _ _ _ _ us hl => match us, hl with | [_], _ => rfl
  obtain ⟨_, F23⟩ := D23.2
  have bF23 := F23.binds (ps := ["script", "salt"]) fun _ _ _ _ _ _ us hl => match us, hl with | [_, _], _ => rfl
  obtain ⟨_, F24⟩ := D24.2
  have bF24 := F24.binds (ps := ["hand", "many"]) fun _ _ _ _ _ _ us hl => match us, hl with | [_, _], _ => rfl
  obtain ⟨_, F25⟩ := D25.2
  have bF25 := F25.binds (ps := ["hand", "many"]) fun _ _ _ _ _ _ us hl => match us, hl with | [_, _], _ => rfl
  obtain ⟨_, F26⟩ := D26.2
  have bF26 := F26.binds (ps := ["told", "due"]) fun _ _ _ _ _ _ us hl => match us, hl with | [_, _], _ => rfl
  obtain ⟨_, F27⟩ := D27.2
  have bF27 := F27.binds (ps := ["points"]) fun _ _ _ _ _ _ us hl => match us, hl with | [_], _ => rfl
  obtain ⟨_, F28⟩ := D28.2
  have bF28 := F28.binds (ps := ["one", "other"]) fun _ _ _ _ _ _ us hl => match us, hl with | [_, _], _ => rfl
  obtain ⟨_, F29⟩ := D29.2
  have bF29 := F29.binds (ps := ["lots", "lot"]) fun _ _ _ _ _ _ us hl => match us, hl with | [_, _], _ => rfl
  obtain ⟨_, F30⟩ := D30.2
  have bF30 := F30.binds (ps := ["points", "lots", "count"]) fun _ _ _ _ _ _ us hl => match us, hl with | [_, _, _], _ => rfl
  obtain ⟨_, F31⟩ := D31.2
  have bF31 := F31.binds (ps := ["hand"]) fun _ _ _ _ _ _ us hl => match us, hl with | [_], _ => rfl
  obtain ⟨_, F32⟩ := D32.2
  have bF32 := F32.binds (ps := ["points", "number"]) fun _ _ _ _ _ _ us hl => match us, hl with | [_, _], _ => rfl
  obtain ⟨_, F33⟩ := D33.2
  have bF33 := F33.binds (ps := ["hand"]) fun _ _ _ _ _ _ us hl => match us, hl with | [_], _ => rfl
  obtain ⟨_, F34⟩ := D34.2
  have bF34 := F34.binds (ps := ["script"]) fun _ _ _ _ _ _ us hl => match us, hl with | [_], _ => rfl
  obtain ⟨_, FS⟩ := DS.2
  have bFS := FS.binds (ps := ["hand", "things"]) fun _ _ _ _ _ _ us hl => match us, hl with | [_, _], _ => rfl
  obtain ⟨_, FI⟩ := MI
  have bFI := FI.binds (ps := ["self", "points", "lots"]) fun _ _ _ _ _ _ us hl => match us, hl with | [_, _, _], _ => rfl
  have oD : ∀ C, FnG l.prog w K mg base 1 f24 (spC g (primW C .draw)) := fun C => ok_draw F24 bF24 (hz _ (by decide)) (hz _ (by decide)) C
  have oS : FnG l.prog w K mg base 2 fS (spSome g) := ok_some FS bFS (hz _ (by decide)) (D24.mg X G) (oD fun _ _ _ => False)
  have A : ∀ n, AllOk g l.prog w K mg base cf tab n := by
    intro n
    induction n with
    | zero => exact ⟨fun k x hx A hr hg => ⟨M.keep k, fun _ _ _ _ _ _ _ _ _ _ _ _ _ _ _ _ h => by obtain ⟨_, _, q⟩ := h; exact q.elim⟩, fS, DS.mg X G, (oS.mono (by omega)).at_⟩
    | succ n ih =>
      have p0 : CallAt l.prog w K mg base (2 * (n + 1) + 2) (g.fa 0) (spC g (wC tab (n + 1) 0)) := (def_ok M ih dom (k := 0) rfl (by rw [e0]; exact F0) bF0 sc_is_integer chk_is_integer rfl rfl).at_.mono (by omega)
      have p1 : CallAt l.prog w K mg base (2 * (n + 1) + 2) (g.fa 1) (spC g (wC tab (n + 1) 1)) := (def_ok M ih dom (k := 1) rfl (by rw [e1]; exact F1) bF1 sc_is_within chk_is_within rfl rfl).at_.mono (by omega)
      have p2 : CallAt l.prog w K mg base (2 * (n + 1) + 2) (g.fa 2) (spC g (wC tab (n + 1) 2)) := (def_ok M ih dom (k := 2) rfl (by rw [e2]; exact F2) bF2 sc_is_number chk_is_number rfl rfl).at_.mono (by omega)
      have p3 : CallAt l.prog w K mg base (2 * (n + 1) + 2) (g.fa 3) (spC g (wC tab (n + 1) 3)) := (def_ok M ih dom (k := 3) rfl (by rw [e3]; exact F3) bF3 sc_is_tuple chk_is_tuple rfl rfl).at_.mono (by omega)
      have p4 : CallAt l.prog w K mg base (2 * (n + 1) + 2) (g.fa 4) (spC g (wC tab (n + 1) 4)) := (def_ok M ih dom (k := 4) rfl (by rw [e4]; exact F4) bF4 sc_is_lot chk_is_lot rfl rfl).at_.mono (by omega)
      have p5 : CallAt l.prog w K mg base (2 * (n + 1) + 2) (g.fa 5) (spC g (wC tab (n + 1) 5)) := (def_ok M ih dom (k := 5) rfl (by rw [e5]; exact F5) bF5 sc_is_count chk_is_count rfl rfl).at_.mono (by omega)
      have p6 : CallAt l.prog w K mg base (2 * (n + 1) + 2) (g.fa 6) (spC g (wC tab (n + 1) 6)) := (def_ok M ih dom (k := 6) rfl (by rw [e6]; exact F6) bF6 sc_is_lot_of chk_is_lot_of rfl rfl).at_.mono (by omega)
      have p7 : CallAt l.prog w K mg base (2 * (n + 1) + 2) (g.fa 7) (spC g (wC tab (n + 1) 7)) := (def_ok M ih dom (k := 7) rfl (by rw [e7]; exact F7) bF7 sc_are_lots chk_are_lots rfl rfl).at_.mono (by omega)
      have p8 : CallAt l.prog w K mg base (2 * (n + 1) + 2) (g.fa 8) (spC g (wC tab (n + 1) 8)) := (def_ok M ih dom (k := 8) rfl (by rw [e8]; exact F8) bF8 sc_lot_of chk_lot_of rfl rfl).at_.mono (by omega)
      have p9 : CallAt l.prog w K mg base (2 * (n + 1) + 2) (g.fa 9) (spC g (wC tab (n + 1) 9)) := (def_ok M ih dom (k := 9) rfl (by rw [e9]; exact F9) bF9 sc_lots_of chk_lots_of rfl rfl).at_.mono (by omega)
      have p10 : CallAt l.prog w K mg base (2 * (n + 1) + 2) (g.fa 10) (spC g (wC tab (n + 1) 10)) := (def_ok M ih dom (k := 10) rfl (by rw [e10]; exact F10) bF10 sc_meets chk_meets rfl rfl).at_.mono (by omega)
      have p11 : CallAt l.prog w K mg base (2 * (n + 1) + 2) (g.fa 11) (spC g (wC tab (n + 1) 11)) := (def_ok M ih dom (k := 11) rfl (by rw [e11]; exact F11) bF11 sc_common_of chk_common_of rfl rfl).at_.mono (by omega)
      have p12 : CallAt l.prog w K mg base (2 * (n + 1) + 2) (g.fa 12) (spC g (wC tab (n + 1) 12)) := (def_ok M ih dom (k := 12) rfl (by rw [e12]; exact F12) bF12 sc_check_lot chk_check_lot rfl rfl).at_.mono (by omega)
      have p13 : CallAt l.prog w K mg base (2 * (n + 1) + 2) (g.fa 13) (spC g (wC tab (n + 1) 13)) := (def_ok M ih dom (k := 13) rfl (by rw [e13]; exact F13) bF13 sc_counts_for chk_counts_for rfl rfl).at_.mono (by omega)
      have p14 : CallAt l.prog w K mg base (2 * (n + 1) + 2) (g.fa 14) (spC g (wC tab (n + 1) 14)) := (def_ok M ih dom (k := 14) rfl (by rw [e14]; exact F14) bF14 sc_bits_for chk_bits_for rfl rfl).at_.mono (by omega)
      have p15 : CallAt l.prog w K mg base (2 * (n + 1) + 2) (g.fa 15) (spC g (wC tab (n + 1) 15)) := (def_ok M ih dom (k := 15) rfl (by rw [e15]; exact F15) bF15 sc_answers_of chk_answers_of rfl rfl).at_.mono (by omega)
      have p16 : CallAt l.prog w K mg base (2 * (n + 1) + 2) (g.fa 16) (spC g (wC tab (n + 1) 16)) := (def_ok M ih dom (k := 16) rfl (by rw [e16]; exact F16) bF16 sc_least_alike chk_least_alike rfl rfl).at_.mono (by omega)
      have p17 : CallAt l.prog w K mg base (2 * (n + 1) + 2) (g.fa 17) (spC g (wC tab (n + 1) 17)) := (def_ok M ih dom (k := 17) rfl (by rw [e17]; exact F17) bF17 sc_told_apart chk_told_apart rfl rfl).at_.mono (by omega)
      have p18 : CallAt l.prog w K mg base (2 * (n + 1) + 2) (g.fa 18) (spC g (wC tab (n + 1) 18)) := (def_ok M ih dom (k := 18) rfl (by rw [e18]; exact F18) bF18 sc_is_alike_pair chk_is_alike_pair rfl rfl).at_.mono (by omega)
      have p19 : CallAt l.prog w K mg base (2 * (n + 1) + 2) (g.fa 19) (spC g (wC tab (n + 1) 19)) := (def_ok M ih dom (k := 19) rfl (by rw [e19]; exact F19) bF19 sc_questions_on chk_questions_on rfl rfl).at_.mono (by omega)
      have p20 : CallAt l.prog w K mg base (2 * (n + 1) + 2) (g.fa 20) (spC g (wC tab (n + 1) 20)) := (def_ok M ih dom (k := 20) rfl (by rw [e20]; exact F20) bF20 sc_fewest_questions chk_fewest_questions rfl rfl).at_.mono (by omega)
      have p21 : CallAt l.prog w K mg base (2 * (n + 1) + 2) (g.fa 21) (spC g (wC tab (n + 1) 21)) := (def_ok M ih dom (k := 21) rfl (by rw [e21]; exact F21) bF21 sc_found_by chk_found_by rfl rfl).at_.mono (by omega)
      have p22 : CallAt l.prog w K mg base (2 * (n + 1) + 2) (g.fa 22) (spC g (wC tab (n + 1) 22)) := (def_ok M ih dom (k := 22) rfl (by rw [e22]; exact F22) bF22 sc_bits_apart chk_bits_apart rfl rfl).at_.mono (by omega)
      have p23 : CallAt l.prog w K mg base (2 * (n + 1) + 2) (g.fa 23) (spC g (wC tab (n + 1) 23)) := by rw [e23]; exact ((ok_hand (n := 0) gK F23 bF23 (hz _ (by decide)) (hz _ (by decide)) (hz _ (by decide)) (wC tab n)).mono (by omega)).at_
      have p24 : CallAt l.prog w K mg base (2 * (n + 1) + 2) (g.fa 24) (spC g (wC tab (n + 1) 24)) := by rw [e24]; exact ((oD (wC tab n)).mono (by omega)).at_
      have p25 : CallAt l.prog w K mg base (2 * (n + 1) + 2) (g.fa 25) (spC g (wC tab (n + 1) 25)) := (def_ok M ih dom (k := 25) rfl (by rw [e25]; exact F25) bF25 sc__law_mixed chk__law_mixed rfl rfl).at_.mono (by omega)
      have p26 : CallAt l.prog w K mg base (2 * (n + 1) + 2) (g.fa 26) (spC g (wC tab (n + 1) 26)) := (def_ok M ih dom (k := 26) rfl (by rw [e26]; exact F26) bF26 sc__law_is chk__law_is rfl rfl).at_.mono (by omega)
      have p27 : CallAt l.prog w K mg base (2 * (n + 1) + 2) (g.fa 27) (spC g (wC tab (n + 1) 27)) := (def_ok M ih dom (k := 27) rfl (by rw [e27]; exact F27) bF27 sc__law_all chk__law_all rfl rfl).at_.mono (by omega)
      have p28 : CallAt l.prog w K mg base (2 * (n + 1) + 2) (g.fa 28) (spC g (wC tab (n + 1) 28)) := (def_ok M ih dom (k := 28) rfl (by rw [e28]; exact F28) bF28 sc__law_meet chk__law_meet rfl rfl).at_.mono (by omega)
      have p29 : CallAt l.prog w K mg base (2 * (n + 1) + 2) (g.fa 29) (spC g (wC tab (n + 1) 29)) := (def_ok M ih dom (k := 29) rfl (by rw [e29]; exact F29) bF29 sc__law_answers chk__law_answers rfl rfl).at_.mono (by omega)
      have p30 : CallAt l.prog w K mg base (2 * (n + 1) + 2) (g.fa 30) (spC g (wC tab (n + 1) 30)) := (def_ok M ih dom (k := 30) rfl (by rw [e30]; exact F30) bF30 sc__law_told chk__law_told rfl rfl).at_.mono (by omega)
      have p31 : CallAt l.prog w K mg base (2 * (n + 1) + 2) (g.fa 31) (spC g (wC tab (n + 1) 31)) := (def_ok M ih dom (k := 31) rfl (by rw [e31]; exact F31) bF31 sc__law_rows chk__law_rows rfl rfl).at_.mono (by omega)
      have p32 : CallAt l.prog w K mg base (2 * (n + 1) + 2) (g.fa 32) (spC g (wC tab (n + 1) 32)) := (def_ok M ih dom (k := 32) rfl (by rw [e32]; exact F32) bF32 sc__law_bits chk__law_bits rfl rfl).at_.mono (by omega)
      have p33 : CallAt l.prog w K mg base (2 * (n + 1) + 2) (g.fa 33) (spC g (wC tab (n + 1) 33)) := (def_ok M ih dom (k := 33) rfl (by rw [e33]; exact F33) bF33 sc__law_is_right chk__law_is_right rfl rfl).at_.mono (by omega)
      have p34 : CallAt l.prog w K mg base (2 * (n + 1) + 2) (g.fa 34) (spC g (wC tab (n + 1) 34)) := (def_ok M ih dom (k := 34) rfl (by rw [e34]; exact F34) bF34 sc_law chk_law rfl rfl).at_.mono (by omega)
      have p35 : CallAt l.prog w K mg base (2 * (n + 1) + 2) (g.fa 35) (spC g (wC tab (n + 1) 35)) := by
        rw [e35, ← eC]
        have hF := ok_family (wC_mono tab n) gK FI bFI (by rw [eC]; exact ⟨mk, a1, i1, kc⟩) (by rw [eC]; exact cl) (by rw [eC]; exact nP) (by rw [eC]; exact nL) (by rw [eC]; exact nK) (D5.mg X G) (D7.mg X G) (by have := ih.1 5 _ rfl; rwa [e5] at this) (by have := ih.1 7 _ rfl; rwa [e7] at this)
        exact (hF.imp fun vs H Q h => h).mono (by omega)
      refine ⟨fun k x hx => ?_, fS, DS.mg X G, (oS.mono (by omega)).at_⟩
      match k, hx with
      | 0, _ => exact p0
      | 1, _ => exact p1
      | 2, _ => exact p2
      | 3, _ => exact p3
      | 4, _ => exact p4
      | 5, _ => exact p5
      | 6, _ => exact p6
      | 7, _ => exact p7
      | 8, _ => exact p8
      | 9, _ => exact p9
      | 10, _ => exact p10
      | 11, _ => exact p11
      | 12, _ => exact p12
      | 13, _ => exact p13
      | 14, _ => exact p14
      | 15, _ => exact p15
      | 16, _ => exact p16
      | 17, _ => exact p17
      | 18, _ => exact p18
      | 19, _ => exact p19
      | 20, _ => exact p20
      | 21, _ => exact p21
      | 22, _ => exact p22
      | 23, _ => exact p23
      | 24, _ => exact p24
      | 25, _ => exact p25
      | 26, _ => exact p26
      | 27, _ => exact p27
      | 28, _ => exact p28
      | 29, _ => exact p29
      | 30, _ => exact p30
      | 31, _ => exact p31
      | 32, _ => exact p32
      | 33, _ => exact p33
      | 34, _ => exact p34
      | 35, _ => exact p35
      | k + 36, hx => simp [cf] at hx
  have eL := hfa.symm.trans (D34.mg X G)
  cases eL
  have := def_ok M (A 19) dom (k := 34) rfl (by rw [e34]; exact F34) bF34 sc_law chk_law rfl rfl
  rw [e34] at this
  exact this
end K16
set_option linter.all false
open PySem PySem.W PyProof.Rows
set_option maxRecDepth 100000 in
set_option maxHeartbeats 0 in
theorem PySem.Challenge.cw_familyworks_k16_whole_fewer_questions_th_holds : PySem.Challenge.rw_familyworks_k16_whole_fewer_questions_th.Holds := by
  w_on; o_law; k_head; (case hw => w_witness2)
  k_fill
  refine DL.LawMeans.goal (l := PySem.Challenge.rw_familyworks_k16_whole_fewer_questions_th) (n := 63) (k := 41) ⟨fun Y => PySem.W.kIn_of Y, ?F⟩ rfl (by decide) rfl ⟨rfl, by decide, by decide⟩
  case F =>
    intro w mg fa h KX G hmg
    refine' K16.all_mk KX G hmg (DL.DefK.mk ?a0 ?l0 ?d0 ?k0) (DL.DefK.mk ?a1 ?l1 ?d1 ?k1) (DL.DefK.mk ?a2 ?l2 ?d2 ?k2) (DL.DefK.mk ?a3 ?l3 ?d3 ?k3) (DL.DefK.mk ?a4 ?l4 ?d4 ?k4) (DL.DefK.mk ?a5 ?l5 ?d5 ?k5) (DL.DefK.mk ?a6 ?l6 ?d6 ?k6) (DL.DefK.mk ?a7 ?l7 ?d7 ?k7) (DL.DefK.mk ?a8 ?l8 ?d8 ?k8) (DL.DefK.mk ?a9 ?l9 ?d9 ?k9) (DL.DefK.mk ?a10 ?l10 ?d10 ?k10) (DL.DefK.mk ?a11 ?l11 ?d11 ?k11) (DL.DefK.mk ?a12 ?l12 ?d12 ?k12) (DL.DefK.mk ?a13 ?l13 ?d13 ?k13) (DL.DefK.mk ?a14 ?l14 ?d14 ?k14) (DL.DefK.mk ?a15 ?l15 ?d15 ?k15) (DL.DefK.mk ?a16 ?l16 ?d16 ?k16) (DL.DefK.mk ?a17 ?l17 ?d17 ?k17) (DL.DefK.mk ?a18 ?l18 ?d18 ?k18) (DL.DefK.mk ?a19 ?l19 ?d19 ?k19) (DL.DefK.mk ?a20 ?l20 ?d20 ?k20) (DL.DefK.mk ?a21 ?l21 ?d21 ?k21) (DL.DefK.mk ?a22 ?l22 ?d22 ?k22) (DL.DefK.mk ?a23 ?l23 ?d23 ?k23) (DL.DefK.mk ?a24 ?l24 ?d24 ?k24) (DL.DefK.mk ?a25 ?l25 ?d25 ?k25) (DL.DefK.mk ?a26 ?l26 ?d26 ?k26) (DL.DefK.mk ?a27 ?l27 ?d27 ?k27) (DL.DefK.mk ?a28 ?l28 ?d28 ?k28) (DL.DefK.mk ?a29 ?l29 ?d29 ?k29) (DL.DefK.mk ?a30 ?l30 ?d30 ?k30) (DL.DefK.mk ?a31 ?l31 ?d31 ?k31) (DL.DefK.mk ?a32 ?l32 ?d32 ?k32) (DL.DefK.mk ?a33 ?l33 ?d33 ?k33) (DL.DefK.mk ?a34 ?l34 ?d34 ?k34) (DL.DefK.mk ?aS ?lS ?dS ?kS) ?aC ?aI ?i1 (DL.MethK.mk ?lI ?dI ?kI) ?pg ?hd ?po ?sa ?mk ?kc ?nP ?nL ?nK ?hc0 ?hc1 ?z0 ?z1 ?z2 ?z3 ?z4 ?z5 ?z6 ?z7 ?z8 ?z9 ?z10 ?z11 ?z12 ?z13 ?z14 ?z15 ?z16 ?z17 ?z18
    (case a0 => k_is); (case l0 => k_is); (case d0 => k_is); (case k0 => k_is); (case a1 => k_is); (case l1 => k_is); (case d1 => k_is); (case k1 => k_is)
    (case a2 => k_is); (case l2 => k_is); (case d2 => k_is); (case k2 => k_is); (case a3 => k_is); (case l3 => k_is); (case d3 => k_is); (case k3 => k_is)
    (case a4 => k_is); (case l4 => k_is); (case d4 => k_is); (case k4 => k_is); (case a5 => k_is); (case l5 => k_is); (case d5 => k_is); (case k5 => k_is)
    (case a6 => k_is); (case l6 => k_is); (case d6 => k_is); (case k6 => k_is); (case a7 => k_is); (case l7 => k_is); (case d7 => k_is); (case k7 => k_is)
    (case a8 => k_is); (case l8 => k_is); (case d8 => k_is); (case k8 => k_is); (case a9 => k_is); (case l9 => k_is); (case d9 => k_is); (case k9 => k_is)
    (case a10 => k_is); (case l10 => k_is); (case d10 => k_is); (case k10 => k_is); (case a11 => k_is); (case l11 => k_is); (case d11 => k_is); (case k11 => k_is)
    (case a12 => k_is); (case l12 => k_is); (case d12 => k_is); (case k12 => k_is); (case a13 => k_is); (case l13 => k_is); (case d13 => k_is); (case k13 => k_is)
    (case a14 => k_is); (case l14 => k_is); (case d14 => k_is); (case k14 => k_is); (case a15 => k_is); (case l15 => k_is); (case d15 => k_is); (case k15 => k_is)
    (case a16 => k_is); (case l16 => k_is); (case d16 => k_is); (case k16 => k_is); (case a17 => k_is); (case l17 => k_is); (case d17 => k_is); (case k17 => k_is)
    (case a18 => k_is); (case l18 => k_is); (case d18 => k_is); (case k18 => k_is); (case a19 => k_is); (case l19 => k_is); (case d19 => k_is); (case k19 => k_is)
    (case a20 => k_is); (case l20 => k_is); (case d20 => k_is); (case k20 => k_is); (case a21 => k_is); (case l21 => k_is); (case d21 => k_is); (case k21 => k_is)
    (case a22 => k_is); (case l22 => k_is); (case d22 => k_is); (case k22 => k_is); (case a23 => k_is); (case l23 => k_is); (case d23 => k_is); (case k23 => k_is)
    (case a24 => k_is); (case l24 => k_is); (case d24 => k_is); (case k24 => k_is); (case a25 => k_is); (case l25 => k_is); (case d25 => k_is); (case k25 => k_is)
    (case a26 => k_is); (case l26 => k_is); (case d26 => k_is); (case k26 => k_is); (case a27 => k_is); (case l27 => k_is); (case d27 => k_is); (case k27 => k_is)
    (case a28 => k_is); (case l28 => k_is); (case d28 => k_is); (case k28 => k_is); (case a29 => k_is); (case l29 => k_is); (case d29 => k_is); (case k29 => k_is)
    (case a30 => k_is); (case l30 => k_is); (case d30 => k_is); (case k30 => k_is); (case a31 => k_is); (case l31 => k_is); (case d31 => k_is); (case k31 => k_is)
    (case a32 => k_is); (case l32 => k_is); (case d32 => k_is); (case k32 => k_is); (case a33 => k_is); (case l33 => k_is); (case d33 => k_is); (case k33 => k_is)
    (case a34 => k_is); (case l34 => k_is); (case d34 => k_is); (case k34 => k_is); (case aS => k_is); (case lS => k_is); (case dS => k_is); (case kS => k_is)
    (case aC => k_is); (case aI => k_is); (case i1 => k_is); (case lI => k_is); (case dI => k_is); (case kI => k_is); (case pg => k_is); (case hd => k_is)
    (case po => k_is); (case sa => k_is); (case mk => k_is); (case kc => k_is); (case nP => k_is); (case nL => k_is); (case nK => k_is); (case hc0 => k_is)
    (case hc1 => k_is); (case z0 => k_is); (case z1 => k_is); (case z2 => k_is); (case z3 => k_is); (case z4 => k_is); (case z5 => k_is); (case z6 => k_is)
    (case z7 => k_is); (case z8 => k_is); (case z9 => k_is); (case z10 => k_is); (case z11 => k_is); (case z12 => k_is); (case z13 => k_is); (case z14 => k_is)
    (case z15 => k_is); (case z16 => k_is); (case z17 => k_is); (case z18 => k_is)
