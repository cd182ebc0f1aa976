import PyProof.Rows.All
import Wide.All
import OpenK.AllK
import Wide.FinOn
import HandS.ForMost
import HandS.ForExc
import HandS.EndOwn
import HandS.TupAny
import HandS.TupLe
import HandS.Conv
import HandS.SortInts
import HandS.SortRule
import HandS.FStr
import HandS.Style
import HandS.Codes
import HandS.More
import HandS.Defaults
import HandS.TryOnly
import HandS.Small
import HandS.Iter
import HandS.Zip
import KE.GoesMore
import KE.GoesEnum
import HandS.Lambda
import HandS.MapJoin
import KE.DataMinMax
import HandS.GenList
import HandS.AnyAll
import PyProof.Rows.SortShellAny
import PyProof.SumWalkG
import HandS.SetFor
import HandS.ListItems
import KE.KRevSl
import HandS.TupSets
import HandS.Words
import HandS.WordsExc
import KE.KNest
import PySem.Challenge.RW_taxstack_k08_ledgers_day_by_day
/-! TxA: the pure domain: values, abstract heaps, what a piece of the text means (combinators) -/
set_option autoImplicit false
namespace TX

abbrev Tx := List Nat

/-- a value; tuples, and lists that never change, are values -/
inductive AV where
  | non
  | bl (b : Bool)
  | int (i : Int)
  | str (s : Tx)
  | tup (xs : List AV)
  | lst (xs : List AV)
  | dct (kvs : List (AV × AV))
  | ref (i : Nat)
  | scr (xs : List AV)
  deriving Inhabited

mutual
def AV.beq : AV → AV → Bool
  | .non, .non => true
  | .bl a, .bl b => a == b
  | .int a, .int b => decide (a = b)
  | .str a, .str b => decide (a = b)
  | .tup a, .tup b => AV.beqL a b
  | .lst a, .lst b => AV.beqL a b
  | .dct a, .dct b => AV.beqP a b
  | .ref a, .ref b => decide (a = b)
  | .scr a, .scr b => AV.beqL a b
  | _, _ => false
def AV.beqL : List AV → List AV → Bool
  | [], [] => true
  | x :: xs, y :: ys => AV.beq x y && AV.beqL xs ys
  | _, _ => false
def AV.beqP : List (AV × AV) → List (AV × AV) → Bool
  | [], [] => true
  | (k, v) :: xs, (l, w) :: ys => AV.beq k l && (AV.beq v w && AV.beqP xs ys)
  | _, _ => false
end

mutual
theorem AV.beq_iff : ∀ (x y : AV), AV.beq x y = true ↔ x = y
  | .non, y => by cases y <;> simp [AV.beq]
  | .bl a, y => by cases y <;> simp [AV.beq]
  | .int a, y => by cases y <;> simp [AV.beq]
  | .str a, y => by cases y <;> simp [AV.beq]
  | .tup a, y => by cases y <;> simp [AV.beq, AV.beqL_iff a]
  | .lst a, y => by cases y <;> simp [AV.beq, AV.beqL_iff a]
  | .dct a, y => by cases y <;> simp [AV.beq, AV.beqP_iff a]
  | .ref a, y => by cases y <;> simp [AV.beq]
  | .scr a, y => by cases y <;> simp [AV.beq, AV.beqL_iff a]
theorem AV.beqL_iff : ∀ (x y : List AV), AV.beqL x y = true ↔ x = y
  | [], y => by cases y <;> simp [AV.beqL]
  | x :: xs, y => by cases y <;> simp [AV.beqL, AV.beq_iff x, AV.beqL_iff xs]
theorem AV.beqP_iff : ∀ (x y : List (AV × AV)), AV.beqP x y = true ↔ x = y
  | [], y => by cases y <;> simp [AV.beqP]
  | (k, v) :: xs, y => by
    cases y with
    | nil => simp [AV.beqP]
    | cons p ys => obtain ⟨l, w⟩ := p; simp [AV.beqP, AV.beq_iff k, AV.beq_iff v, AV.beqP_iff xs, and_assoc]
end
instance : DecidableEq AV := fun x y => decidable_of_iff _ (AV.beq_iff x y)

/-- a changing object -/
inductive AO where
  | lst (xs : List AV)
  | dct (kvs : List (AV × AV))
  | ins (c : Nat) (fs : List (Tx × AV))
  deriving DecidableEq, Inhabited

/-- the changing objects, the newest first; object i is the i-th that was made -/
abbrev AH := List AO
def hget : AH → Nat → Option AO
  | [], _ => none
  | o :: h, i => if i = h.length then some o else hget h i
def hset : AH → Nat → AO → AH
  | [], _, _ => []
  | o :: h, i, u => if i = h.length then u :: h else o :: hset h i u

inductive Out (α : Type) where
  | ok (a : α) (h : AH)
  | exc (c : Nat) (h : AH)
  | stuck
def Out.bind {α β : Type} (o : Out α) (f : α → AH → Out β) : Out β :=
  match o with
  | .ok a h => f a h
  | .exc c h => .exc c h
  | .stuck => .stuck
@[simp] theorem bind_ok {α β : Type} (a : α) (h : AH) (f : α → AH → Out β) : (Out.ok a h).bind f = f a h := rfl
@[simp] theorem bind_exc {α β : Type} (c : Nat) (h : AH) (f : α → AH → Out β) : (Out.exc c h : Out α).bind f = .exc c h := rfl
@[simp] theorem bind_stuck {α β : Type} (f : α → AH → Out β) : (Out.stuck : Out α).bind f = .stuck := rfl
@[simp] theorem bind_ite {α β : Type} (c : Prop) [Decidable c] (a b : Out α) (f : α → AH → Out β) : (if c then a else b).bind f = if c then a.bind f else b.bind f := by split <;> rfl

abbrev St := List (Option AV)
/-- the calls: how many levels below, which def, the arguments -/
abbrev Fn := Nat → Nat → List AV → AH → Out AV
abbrev EF := Fn → St → AH → Out AV
abbrev AF := Fn → St → AH → Out (List AV)
inductive Fl where
  | nx (s : St)
  | rt (v : AV)
  | bk (s : St)
  | ct (s : St)
abbrev SF := Fn → St → AH → Out Fl

def SZ : Nat := 16777216
def shift (φ : Fn) : Fn := fun i => φ (i + 1)

/-! ### values -/
mutual
/-- data without truths and changing things: == is = -/
def AV.data : AV → Bool
  | .non => true
  | .int _ => true
  | .str s => s.all fun c => decide (c < 1114112)
  | .tup xs => AV.dataL xs
  | .lst xs => AV.dataL xs
  | _ => false
def AV.dataL : List AV → Bool
  | [] => true
  | x :: xs => AV.data x && AV.dataL xs
end
mutual
def AV.dep : AV → Nat
  | .tup xs => AV.depL xs + 1
  | .lst xs => AV.depL xs + 1
  | _ => 0
def AV.depL : List AV → Nat
  | [] => 0
  | x :: xs => max (AV.dep x) (AV.depL xs)
end
mutual
/-- no changing object from n on is named -/
def AV.under (n : Nat) : AV → Bool
  | .ref i => decide (i < n)
  | .scr xs => AV.underL n xs
  | .tup xs => AV.underL n xs
  | .lst xs => AV.underL n xs
  | .dct kvs => AV.underP n kvs
  | _ => true
def AV.underL (n : Nat) : List AV → Bool
  | [] => true
  | x :: xs => AV.under n x && AV.underL n xs
def AV.underP (n : Nat) : List (AV × AV) → Bool
  | [] => true
  | (k, v) :: xs => AV.under n k && (AV.under n v && AV.underP n xs)
end
def AV.underF (n : Nat) : List (Tx × AV) → Bool
  | [] => true
  | (_, v) :: xs => AV.under n v && AV.underF n xs
def AO.under (n : Nat) : AO → Bool
  | .lst xs => AV.underL n xs
  | .dct kvs => AV.underP n kvs
  | .ins _ fs => AV.underF n fs

/-- a list, a tuple, as it stands -/
def seqOf (v : AV) (h : AH) : Option (List AV) :=
  match v with
  | .tup xs => some xs
  | .lst xs => some xs
  | .ref i => match hget h i with
    | some (.lst xs) => some xs
    | _ => none
  | _ => none
/-- a list alone -/
def lstOf (v : AV) (h : AH) : Option (List AV) :=
  match v with
  | .lst xs => some xs
  | .ref i => match hget h i with
    | some (.lst xs) => some xs
    | _ => none
  | _ => none
/-- a list made: it changes (m), or it never does -/
def mk (m : Bool) (xs : List AV) (h : AH) : Out AV := if m then .ok (.ref h.length) (.lst xs :: h) else .ok (.lst xs) h
/-- .. as long as a list may be -/
def mkLst (m : Bool) (xs : List AV) (h : AH) : Out AV :=
  if xs.length ≤ SZ then mk m xs h else .stuck

/-- the value with lists that change read once -/
def still (v : AV) (h : AH) : Option AV :=
  match v with
  | .ref i => match hget h i with
    | some (.lst xs) => some (.lst xs)
    | _ => none
  | v => some v
/-- None, a number, a text -/
def AV.flat : AV → Bool
  | .non => true
  | .int _ => true
  | .str _ => true
  | _ => false
def eqA (x y : AV) : Option Bool :=
  match x, y with
  | .bl a, .bl b => some (a == b)
  | .bl _, .str _ => some false
  | .str _, .bl _ => some false
  | .bl _, .non => some false
  | .non, .bl _ => some false
  | x, y => if (x.flat && y.flat) || (x.data && y.data && decide (x.dep ≤ 64) && decide (y.dep ≤ 64)) then some (decide (x = y)) else none

def txLt (a b : Tx) : Bool := decide (a < b)
def intLL : List AV → Bool
  | [] => true
  | .int _ :: r => intLL r
  | _ => false
def ltLL : List AV → List AV → Bool
  | [], [] => false
  | [], _ :: _ => true
  | _ :: _, [] => false
  | .int x :: xs, .int y :: ys => if x = y then ltLL xs ys else decide (x < y)
  | _, _ => false
def ltA (x y : AV) : Option Bool :=
  match x, y with
  | .int a, .int b => some (decide (a < b))
  | .str a, .str b => some (txLt a b)
  | .tup a, .tup b => if intLL a && intLL b then some (ltLL a b) else none
  | _, _ => none

/-- numbers and texts alone -/
def ltS (x y : AV) : Option Bool :=
  match x, y with
  | .int a, .int b => some (decide (a < b))
  | .str a, .str b => some (txLt a b)
  | _, _ => none

/-! ### operators -/
inductive BO where | add | sub | mul | div | mod | pow
def small (i : Int) : Bool := decide (-(2 ^ 64) < i ∧ i < 2 ^ 64)
def intOp (op : BO) (i j : Int) : Option Int :=
  match op with
  | .add => some (i + j)
  | .sub => some (i - j)
  | .mul => if small i || small j then some (i * j) else none
  | .div => if j ≠ 0 ∧ j.natAbs < 1073741824 then some (i.fdiv j) else none
  | .mod => if j ≠ 0 then some (i.fmod j) else none
  | .pow => if 0 ≤ j ∧ j ≤ 1000000 ∧ i.natAbs < 2 ^ 64 then some (i ^ j.toNat) else none
def binA (m : Bool) (op : BO) (x y : AV) (h : AH) : Out AV :=
  match x, y with
  | .int i, .int j => match intOp op i j with
    | some k => .ok (.int k) h
    | none => .stuck
  | .str a, .str b => match op with
    | .add => if a.length + b.length ≤ SZ then .ok (.str (a ++ b)) h else .stuck
    | _ => .stuck
  | .tup a, .tup b => match op with
    | .add => if a.length ≤ SZ ∧ b.length ≤ SZ ∧ a.length + b.length ≤ SZ then .ok (.tup (a ++ b)) h else .stuck
    | _ => .stuck
  | x, .int k => match op with
    | .mul => match lstOf x h with
      | some xs => if -(2 ^ 63) ≤ k ∧ k < 2 ^ 63 ∧ xs.length * k.toNat ≤ SZ then mkLst m (List.replicate k.toNat xs).flatten h else .stuck
      | none => .stuck
    | _ => .stuck
  | x, y => match op with
    | .add => match lstOf x h, lstOf y h with
      | some a, some b => if a.length + b.length ≤ SZ then mkLst m (a ++ b) h else .stuck
      | _, _ => .stuck
    | _ => .stuck

inductive CO where | lt | le | gt | ge | eq | ne | isN | notN | inn | notIn
def someB (o : Option Bool) (h : AH) : Out AV :=
  match o with
  | some b => .ok (.bl b) h
  | none => .stuck
def notO (o : Option Bool) : Option Bool := o.map (!·)
/-- x stands among the keys -/
def hasK (k : AV) (kvs : List (AV × AV)) : Bool := kvs.any fun p => decide (p.1 = k)
def getK (k : AV) : List (AV × AV) → Option AV
  | [] => none
  | (l, v) :: r => if l = k then some v else getK k r
def putK (k v : AV) (kvs : List (AV × AV)) : List (AV × AV) :=
  if hasK k kvs then kvs.map (fun p => if p.1 = k then (p.1, v) else p) else kvs ++ [(k, v)]
def isKey : AV → Bool
  | .int _ => true
  | .str _ => true
  | _ => false
def dctOf (v : AV) (h : AH) : Option (List (AV × AV)) :=
  match v with
  | .dct kvs => some kvs
  | .ref i => match hget h i with
    | some (.dct kvs) => some kvs
    | _ => none
  | _ => none
/-- the text b begins at some place of a -/
def txAt (b : Tx) : Tx → Bool
  | [] => b.isEmpty
  | c :: a => b.isPrefixOf (c :: a) || txAt b a
def inA (x y : AV) (h : AH) : Option Bool :=
  match x, y with
  | .str a, .str b => match a with
    | [c] => some (decide (c ∈ b))
    | _ => none
  | x, y => match dctOf y h with
    | some kvs => if isKey x then some (hasK x kvs) else none
    | none => match seqOf y h with
      | some ys => if x.flat && ys.all AV.flat then some (ys.any fun z => decide (z = x)) else none
      | none => none
def cmpA (op : CO) (x y : AV) (h : AH) : Out AV :=
  match op with
  | .lt => someB (ltA x y) h
  | .gt => someB (ltS y x) h
  | .le => someB (notO (ltA y x)) h
  | .ge => someB (notO (ltS x y)) h
  | .eq => match still x h, still y h with
    | some a, some b => someB (eqA a b) h
    | _, _ => .stuck
  | .ne => match still x h, still y h with
    | some a, some b => someB (notO (eqA a b)) h
    | _, _ => .stuck
  | .isN => match y with
    | .non => .ok (.bl (decide (x = .non))) h
    | _ => .stuck
  | .notN => match y with
    | .non => .ok (.bl (!decide (x = .non))) h
    | _ => .stuck
  | .inn => someB (inA x y h) h
  | .notIn => someB (notO (inA x y h)) h

/-! ### expressions -/
def eC (v : AV) : EF := fun _ _ h => .ok v h
def eV (i : Nat) : EF := fun _ s h => match s[i]? with
  | some (some v) => .ok v h
  | _ => .stuck
def aNil : AF := fun _ _ h => .ok [] h
def aCons (e : EF) (a : AF) : AF := fun φ s h => (e φ s h).bind fun x h1 => (a φ s h1).bind fun xs h2 => .ok (x :: xs) h2
def eTup (a : AF) : EF := fun φ s h => (a φ s h).bind fun xs h1 => if xs.length ≤ SZ then .ok (.tup xs) h1 else .stuck
def eLst (m : Bool) (a : AF) : EF := fun φ s h => (a φ s h).bind fun xs h1 => mkLst m xs h1
def eBin (m : Bool) (op : BO) (a b : EF) : EF := fun φ s h => (a φ s h).bind fun x h1 => (b φ s h1).bind fun y h2 => binA m op x y h2
def eNeg (a : EF) : EF := fun φ s h => (a φ s h).bind fun x h1 => match x with
  | .int i => .ok (.int (-i)) h1
  | _ => .stuck
def eCmp (op : CO) (a b : EF) : EF := fun φ s h => (a φ s h).bind fun x h1 => (b φ s h1).bind fun y h2 => cmpA op x y h2
/-- by a truth -/
def tst {α : Type} (x : AV) (a b : Out α) : Out α :=
  match x with
  | .bl true => a
  | .bl false => b
  | _ => .stuck
@[simp] theorem tst_bl {α : Type} (c : Bool) (a b : Out α) : tst (.bl c) a b = if c = true then a else b := by cases c <;> rfl
def eChain (op op' : CO) (a b c : EF) : EF := fun φ s h => (a φ s h).bind fun x h1 => (b φ s h1).bind fun y h2 => (cmpA op x y h2).bind fun z h3 =>
  tst z ((c φ s h3).bind fun u h4 => cmpA op' y u h4) (.ok (.bl false) h3)
def eAnd (a b : EF) : EF := fun φ s h => (a φ s h).bind fun x h1 => tst x (b φ s h1) (.ok (.bl false) h1)
def eOr (a b : EF) : EF := fun φ s h => (a φ s h).bind fun x h1 => tst x (.ok (.bl true) h1) (b φ s h1)
/-- the last of and, or: a truth -/
def eB (a : EF) : EF := fun φ s h => (a φ s h).bind fun x h1 => tst x (.ok (.bl true) h1) (.ok (.bl false) h1)
def eNot (a : EF) : EF := fun φ s h => (a φ s h).bind fun x h1 => tst x (.ok (.bl false) h1) (.ok (.bl true) h1)
def eIf (c a b : EF) : EF := fun φ s h => (c φ s h).bind fun x h1 => tst x (a φ s h1) (b φ s h1)
def eCall (f : Nat) (a : AF) : EF := fun φ s h => (a φ s h).bind fun xs h1 => φ 0 f xs h1

/-! ### places -/
def ixN (n : Nat) (i : Int) : Option Nat := if 0 ≤ i then (if i < n then some i.toNat else none) else if -(n : Int) ≤ i then some (i + n).toNat else none
def atI {α : Type} (xs : List α) (i : Int) : Option α := (ixN xs.length i).bind fun j => xs[j]?
/-- an end of a slice, as a place -/
def sIx (n d : Nat) : Option Int → Nat
  | none => d
  | some i => if 0 ≤ i then min i.toNat n else (i + n).toNat
def cut {α : Type} (xs : List α) (lo hi : Option Int) : List α := (xs.drop (sIx xs.length 0 lo)).take (sIx xs.length xs.length hi - sIx xs.length 0 lo)
def idxA (x i : AV) (h : AH) : Option AV :=
  match x, i with
  | .str a, .int i => if a.length ≤ SZ then (atI a i).map fun c => .str [c] else none
  | x, .int i => match seqOf x h with
    | some xs => atI xs i
    | none => match dctOf x h with
      | some kvs => getK (.int i) kvs
      | none => none
  | x, .str k => match dctOf x h with
    | some kvs => getK (.str k) kvs
    | none => none
  | _, _ => none
def eIdx (a i : EF) : EF := fun φ s h => (a φ s h).bind fun x h1 => (i φ s h1).bind fun y h2 => match idxA x y h2 with
  | some v => .ok v h2
  | none => .stuck
abbrev OF := Fn → St → AH → Out (Option Int)
def oNone : OF := fun _ _ h => .ok none h
def oSome (e : EF) : OF := fun φ s h => (e φ s h).bind fun x h1 => match x with
  | .int i => .ok (some i) h1
  | _ => .stuck
def sliceA (m : Bool) (x : AV) (lo hi : Option Int) (h : AH) : Out AV :=
  match x with
  | .str a => if a.length ≤ SZ then .ok (.str (cut a lo hi)) h else .stuck
  | .tup xs => .ok (.tup (cut xs lo hi)) h
  | .scr xs => mk m (cut xs lo hi) h
  | x => match seqOf x h with
    | some xs => mk m (cut xs lo hi) h
    | none => .stuck
def eSlc (m : Bool) (a : EF) (lo hi : OF) : EF := fun φ s h => (a φ s h).bind fun x h1 => (lo φ s h1).bind fun i h2 => (hi φ s h2).bind fun j h3 => sliceA m x i j h3

/-! ### builtins -/
def intsO : List AV → Option (List Int)
  | [] => some []
  | .int i :: r => (intsO r).map (i :: ·)
  | _ => none
def strsO : List AV → Option (List Tx)
  | [] => some []
  | .str i :: r => (strsO r).map (i :: ·)
  | _ => none
/-- pairs of numbers alone -/
def prsO : List AV → Option (List (Int × Int))
  | [] => some []
  | .tup [.int i, .int j] :: r => (prsO r).map ((i, j) :: ·)
  | _ => none
def prA (p : Int × Int) : AV := .tup [.int p.1, .int p.2]
def ins {α : Type} (lt : α → α → Bool) (x : α) : List α → List α
  | [] => [x]
  | y :: r => if lt y x then y :: ins lt x r else x :: y :: r
/-- sorted by inserting -/
def isort {α : Type} (lt : α → α → Bool) : List α → List α
  | [] => []
  | x :: r => ins lt x (isort lt r)
def ilt (a b : Int) : Bool := decide (a < b)
def plt (a b : Int × Int) : Bool := decide (a.1 < b.1) || (decide (a.1 = b.1) && decide (a.2 < b.2))
def sortA (xs : List AV) : Option (List AV) :=
  match intsO xs with
  | some is => some ((isort ilt is).map .int)
  | none => match strsO xs with
    | some ss => if ss.length < 64 then some ((isort txLt ss).map .str) else none
    | none => match prsO xs with
      | some ts => some ((isort plt ts).map prA)
      | none => none
/-- the first of the greatest -/
def maxOf {α : Type} (lt : α → α → Bool) : α → List α → α
  | a, [] => a
  | a, b :: r => maxOf lt (if lt a b then b else a) r
def minOf {α : Type} (lt : α → α → Bool) : α → List α → α
  | a, [] => a
  | a, b :: r => minOf lt (if lt b a then b else a) r
def maxA (xs : List AV) : Option AV :=
  match intsO xs with
  | some (i :: is) => some (.int (maxOf ilt i is))
  | some [] => none
  | none => match prsO xs with
    | some (t :: ts) => some (prA (maxOf plt t ts))
    | _ => none
def minA (xs : List AV) : Option AV :=
  match intsO xs with
  | some (i :: is) => some (.int (minOf ilt i is))
  | some [] => none
  | none => match prsO xs with
    | some (t :: ts) => some (prA (minOf plt t ts))
    | _ => none
/-- the signs of a number -/
def natTx (n : Nat) : Tx := (Nat.toDigits 10 n).map Char.toNat
def intTx (i : Int) : Tx := if i < 0 then 45 :: natTx i.natAbs else natTx i.natAbs
def numTx (acc : Nat) : Tx → Option Nat
  | [] => some acc
  | c :: r => if 48 ≤ c ∧ c ≤ 57 then numTx (acc * 10 + (c - 48)) r else none

inductive UB where | len | abs | int | str | sum | sorted (m : Bool) | list (m : Bool) | tuple | max | min | dict (m : Bool)
def mkD (m : Bool) (kvs : List (AV × AV)) (h : AH) : Out AV := if m then .ok (.ref h.length) (.dct kvs :: h) else .ok (.dct kvs) h
/-- pairs laid one after another; a key told again keeps its place -/
def putAll : List (AV × AV) → List AV → Option (List (AV × AV))
  | kvs, [] => some kvs
  | kvs, .tup [k, v] :: r => if isKey k then putAll (putK k v kvs) r else none
  | _, _ => none
/-- of the items themselves -/
def uL (b : UB) (xs : List AV) (h : AH) : Out AV :=
  match b with
  | .sum => match intsO xs with
    | some is => .ok (.int is.sum) h
    | none => .stuck
  | .sorted m => match sortA xs with
    | some ys => mk m ys h
    | none => .stuck
  | .max => match maxA xs with
    | some v => .ok v h
    | none => .stuck
  | .min => match minA xs with
    | some v => .ok v h
    | none => .stuck
  | .list m => mk m xs h
  | .tuple => .ok (.tup xs) h
  | _ => .stuck
def uA (b : UB) (x : AV) (h : AH) : Out AV :=
  match b with
  | .len => match x with
    | .str a => if a.length ≤ SZ then .ok (.int a.length) h else .stuck
    | x => match seqOf x h with
      | some xs => .ok (.int xs.length) h
      | none => match dctOf x h with
        | some kvs => .ok (.int kvs.length) h
        | none => .stuck
  | .abs => match x with
    | .int i => .ok (.int (if i < 0 then -i else i)) h
    | _ => .stuck
  | .int => match x with
    | .int i => .ok (.int i) h
    | .bl b => .ok (.int (if b then 1 else 0)) h
    | .str (c :: a) => if (c :: a).length ≤ 640 then (match numTx 0 (c :: a) with
      | some n => .ok (.int n) h
      | none => .stuck) else .stuck
    | _ => .stuck
  | .str => match x with
    | .int i => if i.natAbs.log2 < 1920 then .ok (.str (intTx i)) h else .stuck
    | _ => .stuck
  | .list m => match seqOf x h with
    | some xs => mk m xs h
    | none => match dctOf x h with
      | some kvs => mk m (kvs.map (·.1)) h
      | none => .stuck
  | .tuple => match seqOf x h with
    | some xs => .ok (.tup xs) h
    | none => .stuck
  | .dict m => match lstOf x h with
    | some xs => match putAll [] xs with
      | some kvs => mkD m kvs h
      | none => .stuck
    | none => .stuck
  | .sum => match seqOf x h with
    | some xs => uL .sum xs h
    | none => .stuck
  | .sorted m => match lstOf x h with
    | some xs => uL (.sorted m) xs h
    | none => match dctOf x h with
      | some kvs => if kvs.length < 64 then uL (.sorted m) (kvs.map (·.1)) h else .stuck
      | none => .stuck
  | b => match lstOf x h with
    | some xs => uL b xs h
    | none => .stuck
def eU (b : UB) (a : EF) : EF := fun φ s h => (a φ s h).bind fun x h1 => uA b x h1
def mmA (mx : Bool) (x y : AV) : Option AV :=
  match x, y with
  | .int i, .int j => some (.int (if mx then (if j > i then j else i) else (if j < i then j else i)))
  | _, _ => none
/-- max(a, b), min(a, b) -/
def eMM (mx : Bool) (a b : EF) : EF := fun φ s h => (a φ s h).bind fun x h1 => (b φ s h1).bind fun y h2 => match mmA mx x y with
  | some v => .ok v h2
  | none => .stuck

/-! ### texts -/
def splitGo (c : Nat) : Tx → Tx → List Tx
  | acc, [] => [acc]
  | acc, d :: r => if d = c then acc :: splitGo c [] r else splitGo c (acc ++ [d]) r
/-- a text parted by one sign -/
def splitTx (a : Tx) (c : Nat) : List Tx := splitGo c [] a
def joinTx (sep : Tx) : List Tx → Tx
  | [] => []
  | [a] => a
  | a :: b :: r => a ++ sep ++ joinTx sep (b :: r)
def eStarts (a : EF) (p : Tx) : EF := fun φ s h => (a φ s h).bind fun x h1 => match x with
  | .str t => .ok (.bl (p.isPrefixOf t)) h1
  | _ => .stuck
def eSplit (m : Bool) (a : EF) (c : Nat) : EF := fun φ s h => (a φ s h).bind fun x h1 => match x with
  | .str t => if t.length + 2 ≤ SZ then mkLst m ((splitTx t c).map .str) h1 else .stuck
  | _ => .stuck
def eJoin (sep : Tx) (a : EF) : EF := fun φ s h => (a φ s h).bind fun x h1 => match seqOf x h1 with
  | some xs => match strsO xs with
    | some ss => if (ss.map List.length).sum + ss.length * sep.length ≤ SZ then .ok (.str (joinTx sep ss)) h1 else .stuck
    | none => .stuck
  | none => .stuck
/-- the parts of an f-string: texts and whole numbers -/
def fsPart : AV → Option Tx
  | .str a => if a.length ≤ 4000 then some a else none
  | .int i => if i.natAbs.log2 < 1920 then some (intTx i) else none
  | _ => none
def fsGo (φ : Fn) (s : St) : List EF → Tx → AH → Out AV
  | [], acc, h => .ok (.str acc) h
  | e :: es, acc, h => (e φ s h).bind fun x h1 => match fsPart x with
    | some t => fsGo φ s es (acc ++ t) h1
    | none => .stuck
def eFs (es : List EF) : EF := fun φ s h => fsGo φ s es [] h

def rng (lo : Int) : Nat → List AV
  | 0 => []
  | n + 1 => .int lo :: rng (lo + 1) n
def rngOk (i : Int) : Bool := decide (-(2 ^ 62) ≤ i ∧ i < 2 ^ 62)
/-- list(range(a, b)) -/
def eLRg (m : Bool) (a b : EF) : EF := fun φ s h => (a φ s h).bind fun x h1 => (b φ s h1).bind fun y h2 => match x, y with
  | .int i, .int j => if rngOk i && rngOk j && decide ((j - i).toNat ≤ SZ) then mk m (rng i (j - i).toNat) h2 else .stuck
  | _, _ => .stuck
/-! ### what is walked: the items, and what must stay as it is meanwhile -/
abbrev Gd := List (Nat × AO)
def gOk (g : Gd) (h : AH) : Bool := g.all fun p => decide (hget h p.1 = some p.2)
abbrev IF_ := Fn → St → AH → Out (List AV × Gd)
def gdOf (v : AV) (h : AH) : Gd :=
  match v with
  | .ref i => match hget h i with
    | some o => [(i, o)]
    | none => []
  | _ => []
def iSeq (a : EF) : IF_ := fun φ s h => (a φ s h).bind fun x h1 => match x with
  | .str t => .ok (t.map fun c => .str [c], []) h1
  | x => match seqOf x h1 with
    | some xs => .ok (xs, gdOf x h1) h1
    | none => .stuck
def iRng1 (a : EF) : IF_ := fun φ s h => (a φ s h).bind fun x h1 => match x with
  | .int j => if rngOk j then .ok (rng 0 j.toNat, []) h1 else .stuck
  | _ => .stuck
def iRng2 (a b : EF) : IF_ := fun φ s h => (a φ s h).bind fun x h1 => (b φ s h1).bind fun y h2 => match x, y with
  | .int i, .int j => if rngOk i && rngOk j then .ok (rng i (j - i).toNat, []) h2 else .stuck
  | _, _ => .stuck
def enumL (k : Int) : List AV → List AV
  | [] => []
  | x :: r => .tup [.int k, x] :: enumL (k + 1) r
def iEnum (a : EF) : IF_ := fun φ s h => (a φ s h).bind fun x h1 => match seqOf x h1 with
  | some xs => .ok (enumL 0 xs, gdOf x h1) h1
  | none => .stuck
def zipL : List AV → List AV → List AV
  | x :: r, y :: u => .tup [x, y] :: zipL r u
  | _, _ => []
def iZip (a b : EF) : IF_ := fun φ s h => (a φ s h).bind fun x h1 => (b φ s h1).bind fun y h2 => match seqOf x h2, seqOf y h2 with
  | some xs, some ys => match x, y with
    | .tup _, .tup _ => .ok (zipL xs ys, []) h2
    | .tup _, _ => .stuck
    | _, .tup _ => .stuck
    | x, y => .ok (zipL xs ys, gdOf x h2 ++ gdOf y h2) h2
  | _, _ => .stuck

/-! ### targets -/
abbrev TF := AV → St → AH → Option St
def gN (i : Nat) : TF := fun v s _ => some (s.set i (some v))
def gsNil : List AV → St → AH → Option St
  | [], s, _ => some s
  | _, _, _ => none
def gsCons (g : TF) (gs : List AV → St → AH → Option St) : List AV → St → AH → Option St
  | v :: r, s, h => (g v s h).bind fun s1 => gs r s1 h
  | [], _, _ => none
/-- a tuple, or a list, taken apart -/
def gT (gs : List AV → St → AH → Option St) : TF := fun v s h => match v with
  | .tup xs => gs xs s h
  | v => match lstOf v h with
    | some xs => gs xs s h
    | none => none

/-! ### comprehensions -/
def wipe (s : St) : List Nat → St
  | [] => s
  | v :: vs => (wipe s vs).set v none
def lcGo (φ : Fn) (g : TF) (c e : EF) (s0 : St) (gd : Gd) : List AV → AH → Out (List AV)
  | [], h => if gOk gd h then .ok [] h else .stuck
  | x :: r, h => if gOk gd h then (match g x s0 h with
    | none => .stuck
    | some s1 => (c φ s1 h).bind fun b h1 => tst b ((e φ s1 h1).bind fun y h2 => (lcGo φ g c e s0 gd r h2).bind fun ys h3 => .ok (y :: ys) h3) (lcGo φ g c e s0 gd r h1)) else .stuck
/-- what a comprehension lets out: no error -/
def quiet {α : Type} (o : Out α) : Out α :=
  match o with
  | .ok a h => .ok a h
  | _ => .stuck
@[simp] theorem quiet_ok {α : Type} (a : α) (h : AH) : quiet (.ok a h) = .ok a h := rfl
def eLc (m : Bool) (own : List Nat) (it : IF_) (g : TF) (c e : EF) : EF := fun φ s h => (it φ s h).bind fun p h1 =>
  if p.1.length < SZ then (quiet (lcGo φ g c e (wipe s own) p.2 p.1 h1)).bind fun ys h2 => mkLst m ys h2 else .stuck
def eYes : EF := eC (.bl true)

/-! generator expressions, used up at once; s0 the slots -/
def anyGo (φ : Fn) (g : TF) (c e : EF) (s0 : St) (gd : Gd) : List AV → AH → Out Bool
  | [], h => if gOk gd h then .ok false h else .stuck
  | x :: r, h => if gOk gd h then (match g x s0 h with
    | none => .stuck
    | some s1 => (c φ s1 h).bind fun b h1 => tst b ((e φ s1 h1).bind fun y h2 => tst y (.ok true h2) (anyGo φ g c e s0 gd r h2)) (anyGo φ g c e s0 gd r h1)) else .stuck
def eAny (own : List Nat) (it : IF_) (g : TF) (c e : EF) : EF := fun φ s h => (it φ s h).bind fun p h1 =>
  (quiet (anyGo φ g c e (wipe s own) p.2 p.1 h1)).bind fun b h2 => .ok (.bl b) h2
/-- the other uses: sum, tuple, sorted, min of all that comes -/
def eGen (b : UB) (own : List Nat) (it : IF_) (g : TF) (c e : EF) : EF := fun φ s h => (it φ s h).bind fun p h1 =>
  if p.1.length < SZ then (quiet (lcGo φ g c e (wipe s own) p.2 p.1 h1)).bind fun ys h2 => uL b ys h2 else .stuck

/-! ### statements -/
def sNil : SF := fun _ s h => .ok (.nx s) h
def seqK (φ : Fn) (b : SF) (f : Fl) (h1 : AH) : Out Fl := match f with
  | .nx s1 => b φ s1 h1
  | f => .ok f h1
def sSeq (a b : SF) : SF := fun φ s h => (a φ s h).bind (seqK φ b)
def sSet (g : TF) (e : EF) : SF := fun φ s h => (e φ s h).bind fun v h1 => match g v s h1 with
  | some s1 => .ok (.nx s1) h1
  | none => .stuck
def setA (o i v : AV) (h : AH) : Option AH :=
  match o with
  | .ref r => match hget h r with
    | some (.lst xs) => match i with
      | .int k => (ixN xs.length k).map fun j => hset h r (.lst (xs.set j v))
      | _ => none
    | some (.dct kvs) => if isKey i && decide (kvs.length < SZ) then some (hset h r (.dct (putK i v kvs))) else none
    | _ => none
  | _ => none
/-- o[i] = e -/
def sPut (o i e : EF) : SF := fun φ s h => (e φ s h).bind fun v h1 => (o φ s h1).bind fun x h2 => (i φ s h2).bind fun k h3 => match setA x k v h3 with
  | some h4 => .ok (.nx s) h4
  | none => .stuck
/-- a name op= e -/
def sAug (i : Nat) (op : BO) (e : EF) : SF := fun φ s h => match s[i]? with
  | some (some x) => (e φ s h).bind fun y h1 => match x, y with
    | .int a, .int b => match intOp op a b with
      | some k => .ok (.nx (s.set i (some (.int k)))) h1
      | none => .stuck
    | _, _ => .stuck
  | _ => .stuck
/-- o[i] op= e -/
def sAugI (o i : EF) (op : BO) (e : EF) : SF := fun φ s h => (o φ s h).bind fun x h1 => (i φ s h1).bind fun k h2 => match idxA x k h2 with
  | some (.int a) => (e φ s h2).bind fun y h3 => match y with
    | .int b => match intOp op a b with
      | some c => match setA x k (.int c) h3 with
        | some h4 => .ok (.nx s) h4
        | none => .stuck
      | none => .stuck
    | _ => .stuck
  | _ => .stuck
def sExp (e : EF) : SF := fun φ s h => (e φ s h).bind fun _ h1 => .ok (.nx s) h1
def sRet (e : EF) : SF := fun φ s h => (e φ s h).bind fun v h1 => .ok (.rt v) h1
def sIf (c : EF) (a b : SF) : SF := fun φ s h => (c φ s h).bind fun x h1 => tst x (a φ s h1) (b φ s h1)
def sBrk : SF := fun _ s h => .ok (.bk s) h
def sCnt : SF := fun _ s h => .ok (.ct s) h
def sRaise (c : Nat) : SF := fun _ _ h => .exc c h
def forGo (φ : Fn) (g : TF) (b : SF) (gd : Gd) : List AV → St → AH → Out Fl
  | [], s, h => if gOk gd h then .ok (.nx s) h else .stuck
  | x :: r, s, h => if gOk gd h then (match g x s h with
    | none => .stuck
    | some s1 => (b φ s1 h).bind fun f h1 => match f with
      | .nx s2 => forGo φ g b gd r s2 h1
      | .ct s2 => forGo φ g b gd r s2 h1
      | .bk s2 => .ok (.nx s2) h1
      | .rt v => .ok (.rt v) h1) else .stuck
def sFor (it : IF_) (g : TF) (b : SF) : SF := fun φ s h => (it φ s h).bind fun p h1 => forGo φ g b p.2 p.1 s h1
def WF : Nat := 1000000000000
def whGo (φ : Fn) (c : EF) (b : SF) : Nat → St → AH → Out Fl
  | 0, _, _ => .stuck
  | n + 1, s, h => (c φ s h).bind fun x h1 => tst x ((b φ s h1).bind fun f h2 => match f with
      | .nx s2 => whGo φ c b n s2 h2
      | .ct s2 => whGo φ c b n s2 h2
      | .bk s2 => .ok (.nx s2) h2
      | .rt v => .ok (.rt v) h2) (.ok (.nx s) h1)
def sWhile (c : EF) (b : SF) : SF := fun φ s h => whGo φ c b WF s h

/-! ### a def's call -/
/-- behind a call: what was made meanwhile and is named by nothing is let go -/
def gcOk (n : Nat) : AH → AH → Bool
  | [], [] => true
  | o :: r, u :: v => (u.under n || decide (o = u)) && gcOk n r v
  | _, _ => false
def gcRet (h : AH) (v : AV) (h' : AH) : Out AV :=
  if v.under h.length && gcOk h.length h (h'.drop (h'.length - h.length)) then .ok v (h'.drop (h'.length - h.length)) else .ok v h'
def gcExc (h : AH) (c : Nat) (h' : AH) : Out AV :=
  if gcOk h.length h (h'.drop (h'.length - h.length)) then .exc c (h'.drop (h'.length - h.length)) else .exc c h'
structure Def where
  names : Nat
  pars : Nat
  body : SF
def start (n : Nat) (vs : List AV) : St := vs.map some ++ List.replicate (n - vs.length) none
def runDef (d : Def) (φ : Fn) (vs : List AV) (h : AH) : Out AV :=
  if vs.length = d.pars then (match d.body φ (start d.names vs) h with
    | .ok (.rt v) h1 => gcRet h v h1
    | .ok (.nx _) h1 => gcRet h .non h1
    | .exc c h1 => gcExc h c h1
    | _ => .stuck) else .stuck
abbrev Prog := Nat → Option Def
def pg (P : Prog) : Nat → Fn
  | 0 => fun _ _ _ _ => .stuck
  | d + 1 => fun i => match i with
    | 0 => fun f vs h => match P f with
      | some D => runDef D (pg P d) vs h
      | none => .stuck
    | i + 1 => pg P d i
/-! ### heaps as lists -/
theorem hget_lt : ∀ {h : AH} {i : Nat} {o : AO}, hget h i = some o → i < h.length
  | [], _, _, e => by simp [hget] at e
  | o :: h, i, u, e => by
    unfold hget at e
    split at e
    · simp; omega
    · have := hget_lt e; simp; omega
theorem hget_of_lt : ∀ {h : AH} {i : Nat}, i < h.length → ∃ o, hget h i = some o
  | [], _, e => by simp at e
  | o :: h, i, e => by
    unfold hget
    split
    · exact ⟨_, rfl⟩
    · refine hget_of_lt ?_
      simp at e
      omega
@[simp] theorem hset_length : ∀ (h : AH) (i : Nat) (u : AO), (hset h i u).length = h.length
  | [], _, _ => rfl
  | o :: h, i, u => by
    unfold hset
    split
    · rfl
    · simp [hset_length h i u]
theorem hget_hset : ∀ {h : AH} {i j : Nat} {u : AO}, i < h.length → hget (hset h i u) j = if j = i then some u else hget h j
  | [], _, _, _, e => by simp at e
  | o :: h, i, j, u, e => by
    unfold hset
    split
    · rename_i hi
      subst hi
      unfold hget
      split <;> rfl
    · rename_i hi
      have hi2 : i < h.length := by simp at e; omega
      show (if j = (hset h i u).length then some o else hget (hset h i u) j) = _
      rw [hset_length, hget_hset hi2]
      by_cases hj : j = h.length
      · rw [if_pos hj, if_neg (by omega)]
        subst hj
        simp [hget]
      · rw [if_neg hj]
        split
        · rfl
        · simp [hget, hj]
/-! ### what is told of a lambda -/
/-- which classes the clause names -/
abbrev Ct := Nat → Option Bool
def told (w : Ct) (ret : Tx) (o : Out AV) : Out AV :=
  match o with
  | .ok v h => .ok v h
  | .exc c h => if w c = some true then .ok (.str ret) h else .stuck
  | .stuck => .stuck
def eTold (w : Ct) (ret : Tx) (e : EF) : EF := fun φ s h => told w ret (e φ s h)
def ctOf (w : List Nat) : Ct := fun c => if c ∈ w then some true else none
/-- each is told of, each is refused -/
def toldAll (w : Ct) (ret : Tx) (φ : Fn) (s : St) : List EF → AH → Option AH
  | [], h => some h
  | f :: fs, h => match told w ret (f φ s h) with
    | .ok (.str t) h1 => if t = ret then toldAll w ret φ s fs h1 else none
    | _ => none
/-- bad = [lambda: .., ..], then what stands behind it with the answer «nothing was let through» -/
def sBad (kb : Nat) (es : List EF) (w : Ct) (ret : Tx) (b : SF) : SF := fun φ s h => match s[kb]? with
  | some none => (match toldAll w ret φ s es h with
    | some h1 => b φ s h1
    | none => .stuck)
  | _ => .stuck
/-! ### a list grows -/
def appA (x v : AV) (h : AH) : Option AH :=
  match x with
  | .ref r => match hget h r with
    | some (.lst xs) => if xs.length < SZ then some (hset h r (.lst (xs ++ [v]))) else none
    | _ => none
  | _ => none
/-- o.append(e) -/
def eApp (o e : EF) : EF := fun φ s h => (o φ s h).bind fun x h1 => match lstOf x h1 with
  | some _ => (e φ s h1).bind fun v h2 => match appA x v h2 with
    | some h3 => .ok .non h3
    | none => .stuck
  | none => .stuck
/-! ### classes: c the class's number, f an attribute's name -/
def fget (f : Tx) : List (Tx × AV) → Option AV
  | [] => none
  | (g, v) :: r => if g = f then some v else fget f r
def fput (f : Tx) (v : AV) : List (Tx × AV) → List (Tx × AV)
  | [] => [(f, v)]
  | (g, x) :: r => if g = f then (g, v) :: r else (g, x) :: fput f v r
def insOf (x : AV) (h : AH) : Option (Nat × List (Tx × AV)) :=
  match x with
  | .ref i => match hget h i with
    | some (.ins c fs) => some (c, fs)
    | _ => none
  | _ => none
/-- an attribute of an instance of one of the classes cs -/
def fldA (cs : List Nat) (f : Tx) (x : AV) (h : AH) : Option AV := match insOf x h with
  | some (c, fs) => if c ∈ cs then fget f fs else none
  | none => none
def eFld (cs : List Nat) (f : Tx) (o : EF) : EF := fun φ s h => (o φ s h).bind fun x h1 => match fldA cs f x h1 with
  | some v => .ok v h1
  | none => .stuck
def setF (cs : List Nat) (f : Tx) (x v : AV) (h : AH) : Option AH := match x with
  | .ref i => match hget h i with
    | some (.ins c fs) => if c ∈ cs ∧ fs.length < 1000 then some (hset h i (.ins c (fput f v fs))) else none
    | _ => none
  | _ => none
/-- o.f = e -/
def sFld (cs : List Nat) (f : Tx) (o e : EF) : SF := fun φ s h => (e φ s h).bind fun v h1 => (o φ s h1).bind fun x h2 => match setF cs f x v h2 with
  | some h3 => .ok (.nx s) h3
  | none => .stuck
/-- o.f op= e, whole numbers -/
def sFldA (cs : List Nat) (f : Tx) (o : EF) (op : BO) (e : EF) : SF := fun φ s h => (o φ s h).bind fun x h1 => match insOf x h1 with
  | some (c, fs) => if c ∈ cs then (match fget f fs with
    | some (.int a) => (e φ s h1).bind fun y h2 => match y with
      | .int b => match intOp op a b with
        | some k => match setF [c] f x (.int k) h2 with
          | some h3 => .ok (.nx s) h3
          | none => .stuck
        | none => .stuck
      | _ => .stuck
    | _ => .stuck) else .stuck
  | none => .stuck
/-- o.m(..): of an instance of class c, the def fi -/
def eMeth (c : Nat) (m : Tx) (fi : Nat) (o : EF) (a : AF) : EF := fun φ s h => (o φ s h).bind fun x h1 => match insOf x h1 with
  | some (c', fs) => if c' = c ∧ fget m fs = none then (a φ s h1).bind fun vs h2 => φ 0 fi (x :: vs) h2 else .stuck
  | none => .stuck
/-- one reading, or another -/
def eAlt (a b : EF) : EF := fun φ s h => match a φ s h with
  | .stuck => b φ s h
  | r => r
/-- C(..): fi its __init__, dvs what stands for arguments that are not given -/
def mkIns (φ : Fn) (c fi : Nat) (vs : List AV) (h : AH) : Out AV := match φ 0 fi (.ref h.length :: vs) (.ins c [] :: h) with
  | .ok .non h2 => .ok (.ref h.length) h2
  | .exc e h2 => .exc e h2
  | _ => .stuck
def eMake (c fi : Nat) (dvs : List AV) (a : AF) : EF := fun φ s h => (a φ s h).bind fun vs h1 => mkIns φ c fi (vs ++ dvs) h1
/-! ### a tail that looks at no object made before -/
/-- the rest, run on no objects at all -/
def sCl (b : SF) : SF := fun φ s h => match b φ (List.replicate s.length none) [] with
  | .ok (.rt v) _ => if v.under 0 then .ok (.rt v) h else .stuck
  | .exc c _ => .exc c h
  | _ => .stuck
end TX

/-! TxA2: more pieces of the pure domain: displays of dicts, min of many, tuple(range), count -/
set_option autoImplicit false
namespace TX
/-- the pairs of a display, from the left -/
def dpGo (φ : Fn) (s : St) : List (EF × EF) → AH → Out (List (AV × AV))
  | [], h => .ok [] h
  | (k, v) :: r, h => (k φ s h).bind fun x h1 => (v φ s h1).bind fun y h2 => if isKey x then (dpGo φ s r h2).bind fun ps h3 => .ok ((x, y) :: ps) h3 else .stuck
def putsL : List (AV × AV) → List (AV × AV) → List (AV × AV)
  | kvs, [] => kvs
  | kvs, (k, v) :: r => putsL (putK k v kvs) r
/-- {k: v, ..} -/
def eDct (m : Bool) (ps : List (EF × EF)) : EF := fun φ s h => if ps.length ≤ 15 then (dpGo φ s ps h).bind fun kvs h1 => mkD m (putsL [] kvs) h1 else .stuck
/-- min of seven -/
def eMin7 (a : AF) : EF := fun φ s h => (a φ s h).bind fun xs h1 => match intsO xs with
  | some (i :: ns) => if ns.length = 6 then .ok (.int (minOf ilt i ns)) h1 else .stuck
  | _ => .stuck
/-- tuple(range(a, b)) -/
def eTRg (a b : EF) : EF := fun φ s h => (a φ s h).bind fun x h1 => (b φ s h1).bind fun y h2 => match x, y with
  | .int i, .int j => if rngOk i && rngOk j && decide ((j - i).toNat ≤ SZ) then .ok (.tup (rng i (j - i).toNat)) h2 else .stuck
  | _, _ => .stuck
/-- o.count(e): whole numbers -/
def cntA (x y : AV) (h : AH) : Option AV := match lstOf x h, y with
  | some xs, .int k => (intsO xs).map fun ns => .int (ns.count k)
  | _, _ => none
def eCount (o e : EF) : EF := fun φ s h => (o φ s h).bind fun x h1 => match lstOf x h1 with
  | some _ => (e φ s h1).bind fun y h2 => match cntA x y h2 with
    | some v => .ok v h2
    | none => .stuck
  | none => .stuck
end TX

/-! TxA3: more pieces of the pure domain: items, targets of all kinds, reversed lists, deep ==, sorted triples -/
set_option autoImplicit false
namespace TX
/-- list(d.items()), tuple(d.items()) -/
def itemsA (x : AV) (h : AH) : Option (List AV) := (dctOf x h).map fun kvs => kvs.map fun p => AV.tup [p.1, p.2]
def eLItems (e : EF) : EF := fun φ s h => (e φ s h).bind fun x h1 => match itemsA x h1 with
  | some xs => .ok (.lst xs) h1
  | none => .stuck
def eTItems (e : EF) : EF := fun φ s h => (e φ s h).bind fun x h1 => match itemsA x h1 with
  | some xs => .ok (.tup xs) h1
  | none => .stuck
/-! targets that may be attributes or places -/
abbrev GE := Fn → AV → St → AH → Out St
abbrev GEs := Fn → List AV → St → AH → Out St
def hN (i : Nat) : GE := fun _ v s h => .ok (s.set i (some v)) h
def hF (cs : List Nat) (f : Tx) (o : EF) : GE := fun φ v s h => (o φ s h).bind fun x h1 => match setF cs f x v h1 with
  | some h2 => .ok s h2
  | none => .stuck
def hS (o i : EF) : GE := fun φ v s h => (o φ s h).bind fun x h1 => (i φ s h1).bind fun k h2 => match setA x k v h2 with
  | some h3 => .ok s h3
  | none => .stuck
def hNil : GEs := fun _ vs s h => match vs with
  | [] => .ok s h
  | _ => .stuck
def hCons (g : GE) (gs : GEs) : GEs := fun φ vs s h => match vs with
  | v :: r => (g φ v s h).bind fun s1 h1 => gs φ r s1 h1
  | [] => .stuck
/-- a, b.c, d[e] = .. -/
def sMul (n : Nat) (gs : GEs) (a : AF) : SF := fun φ s h => (a φ s h).bind fun vs h1 => if vs.length = n ∧ n ≤ 1000 then (gs φ vs s h1).bind fun s1 h2 => .ok (.nx s1) h2 else .stuck
/-! x[a:b:c], lists -/
def pick3 {α : Type} (xs : List α) (lo hi st : Option Int) : Option (List α) := match lo, hi, st with
  | none, none, some k => if k = -1 then some xs.reverse else none
  | _, _, _ => none
def eSl3 (m : Bool) (a : EF) (lo hi st : OF) : EF := fun φ s h => (a φ s h).bind fun x h1 => (lo φ s h1).bind fun i h2 => (hi φ s h2).bind fun j h3 => (st φ s h3).bind fun k h4 => match lstOf x h4 with
  | some xs => match pick3 xs i j k with
    | some ys => mk m ys h4
    | none => .stuck
  | none => .stuck
/-! == of nested lists -/
def allO (f : AV → Option AV) : List AV → Option (List AV)
  | [] => some []
  | x :: r => match f x, allO f r with
    | some y, some ys => some (y :: ys)
    | _, _ => none
def deepA (h : AH) : Nat → AV → Option AV
  | 0, _ => none
  | n + 1, x => match x with
    | .ref i => match hget h i with
      | some (.lst xs) => (allO (deepA h n) xs).map .lst
      | _ => none
    | .tup xs => (allO (deepA h n) xs).map .tup
    | .lst xs => (allO (deepA h n) xs).map .lst
    | .dct _ => none
    | .scr _ => none
    | x => some x
def eqDp (x y : AV) (h : AH) : Option Bool := match deepA h 8 x, deepA h 8 y with
  | some a, some b => if a.data && b.data && decide (a.dep ≤ 64) && decide (b.dep ≤ 64) then some (decide (a = b)) else none
  | _, _ => none
def eEqD (ne : Bool) (a b : EF) : EF := fun φ s h => (a φ s h).bind fun x h1 => (b φ s h1).bind fun y h2 => match eqDp x y h2 with
  | some c => .ok (.bl (if ne then !c else c)) h2
  | none => .stuck
/-! sorted triples of whole numbers from 0 on -/
abbrev T3 := Int × Int × Int
def t3A (t : T3) : AV := .tup [.int t.1, .int t.2.1, .int t.2.2]
def trsO : List AV → Option (List T3)
  | [] => some []
  | .tup [.int i, .int j, .int k] :: r => (trsO r).map ((i, j, k) :: ·)
  | _ => none
def tlt (a b : T3) : Bool := decide (a.1 < b.1) || (decide (a.1 = b.1) && plt a.2 b.2)
def nn3 (t : T3) : Bool := decide (0 ≤ t.1) && decide (0 ≤ t.2.1) && decide (0 ≤ t.2.2)
def eSort3 (m : Bool) (a : EF) : EF := fun φ s h => (a φ s h).bind fun x h1 => match lstOf x h1 with
  | some xs => match trsO xs with
    | some ts => if ts.length < 64 ∧ ts.all nn3 = true then mk m ((isort tlt ts).map t3A) h1 else .stuck
    | none => .stuck
  | none => .stuck
/-- name += list, in place -/
def sAugL (i : Nat) (e : EF) : SF := fun φ s h => match s[i]? with
  | some (some (.ref r)) => (e φ s h).bind fun y h1 => match hget h1 r, lstOf y h1 with
    | some (.lst xs), some ys => if xs.length + ys.length ≤ SZ then .ok (.nx s) (hset h1 r (.lst (xs ++ ys))) else .stuck
    | _, _ => .stuck
  | _ => .stuck
/-- o.f %= e, e above 0 -/
def sFldMod (cs : List Nat) (f : Tx) (o e : EF) : SF := fun φ s h => (o φ s h).bind fun x h1 => match insOf x h1 with
  | some (c, fs) => if c ∈ cs then (match fget f fs with
    | some (.int a) => (e φ s h1).bind fun y h2 => match y with
      | .int b => if 0 < b then (match setF [c] f x (.int (a % b)) h2 with
        | some h3 => .ok (.nx s) h3
        | none => .stuck) else .stuck
      | _ => .stuck
    | _ => .stuck) else .stuck
  | none => .stuck
end TX

/-! LawA: plain lemmas about the interpreter, for plain laws -/
set_option Elab.async false
set_option linter.all false
set_option autoImplicit false
namespace TL
open TX
theorem pg_one {P : Prog} {n i : Nat} {d : Def} {xs : List AV} {h : AH} (e : P i = some d) : pg P (n + 1) 0 i xs h = runDef d (pg P n) xs h := by
  show (match P i with | some D => runDef D (pg P n) xs h | none => .stuck) = _
  rw [e]
@[simp] theorem out_bind_ok {α β : Type} (a : α) (h : AH) (f : α → AH → Out β) : (Out.ok a h).bind f = f a h := rfl
@[simp] theorem out_bind_exc {α β : Type} (c : Nat) (h : AH) (f : α → AH → Out β) : (Out.exc c h : Out α).bind f = .exc c h := rfl
@[simp] theorem gcRet_same (h : AH) (v : AV) : gcRet h v h = .ok v h := by
  unfold gcRet
  split
  · rw [Nat.sub_self, List.drop_zero]
  · rfl
@[simp] theorem gcExc_same (h : AH) (c : Nat) : gcExc h c h = .exc c h := by
  unfold gcExc
  split
  · rw [Nat.sub_self, List.drop_zero]
  · rfl
/-- what a def's end makes of it -/
def finO (h : AH) (o : Out Fl) : Out AV := match o with
  | .ok (.rt v) h1 => gcRet h v h1
  | .ok (.nx _) h1 => gcRet h .non h1
  | .exc c h1 => gcExc h c h1
  | _ => .stuck
theorem runDef_fin {d : Def} {φ : Fn} {vs : List AV} {h : AH} (e : vs.length = d.pars) : runDef d φ vs h = finO h (d.body φ (start d.names vs) h) := by
  unfold runDef
  rw [if_pos e]
  rfl
@[simp] theorem finO_rt (h h1 : AH) (v : AV) : finO h (.ok (.rt v) h1) = gcRet h v h1 := rfl
@[simp] theorem finO_nx (h h1 : AH) (s : St) : finO h (.ok (.nx s) h1) = gcRet h .non h1 := rfl
@[simp] theorem finO_exc (h h1 : AH) (c : Nat) : finO h (.exc c h1) = gcExc h c h1 := rfl
theorem finO_ite (h : AH) (c : Prop) [Decidable c] (a b : Out Fl) : finO h (if c then a else b) = if c then finO h a else finO h b := by split <;> rfl
/-- a comprehension that leaves the heap as it is -/
theorem lc_pure {φ : Fn} {g : TF} {c e : EF} {s0 : St} {gd : Gd} {h : AH} (hk : gOk gd h = true) (st : AV → St) (p : AV → Bool) (F : AV → AV) : ∀ (items : List AV),
    (∀ x ∈ items, g x s0 h = some (st x) ∧ c φ (st x) h = .ok (.bl (p x)) h ∧ (p x = true → e φ (st x) h = .ok (F x) h)) → lcGo φ g c e s0 gd items h = .ok ((items.filter p).map F) h
  | [], _ => by unfold lcGo; rw [if_pos hk]; rfl
  | x :: r, hx => by
    obtain ⟨h1, h2, h3⟩ := hx x List.mem_cons_self
    have ih := lc_pure hk st p F r fun y hy => hx y (List.mem_cons_of_mem _ hy)
    unfold lcGo
    rw [if_pos hk, h1]
    simp only [h2, out_bind_ok, tst_bl]
    cases hp : p x with
    | true => simp [h3 hp, ih, hp]
    | false => simp [ih, hp]
theorem rng_map : ∀ (n : Nat) (lo : Int), rng lo n = (List.range n).map fun (i : Nat) => AV.int (lo + i)
  | 0, _ => rfl
  | n + 1, lo => by
    rw [rng, rng_map n (lo + 1), List.range_succ_eq_map, List.map_cons, List.map_map]
    congr 1
    · simp
    · refine List.map_congr_left fun i _ => ?_
      show AV.int (lo + 1 + i) = AV.int (lo + ((i + 1 : Nat) : Int))
      congr 1
      push_cast
      omega
theorem ints_of (is : List Int) : intsO (is.map .int) = some is := by
  induction is with
  | nil => rfl
  | cons a r ih => simp [intsO, ih]
theorem strs_of (ss : List Tx) : strsO (ss.map .str) = some ss := by
  induction ss with
  | nil => rfl
  | cons a r ih => simp [strsO, ih]
theorem prs_of (ts : List (Int × Int)) : prsO (ts.map prA) = some ts := by
  induction ts with
  | nil => rfl
  | cons a r ih => simp [prsO, prA] at ih ⊢; simp [ih]
end TL

/-! LawS: how simp walks through combinators: outermost first, and behind a bind nothing is looked at before its turn -/
set_option Elab.async false
set_option linter.all false
set_option autoImplicit false
namespace TL
open TX
theorem bind_cg {α β : Type} {o o' : Out α} {f : α → AH → Out β} (e : o = o') : o.bind f = o'.bind f := by rw [e]
@[simp ↓] theorem bind_ok' {α β : Type} (a : α) (h : AH) (f : α → AH → Out β) : (Out.ok a h).bind f = f a h := rfl
@[simp ↓] theorem ap_eC (v : AV) (z0 : Fn) (z1 : St) (h : AH) : eC v z0 z1 h = .ok v h := rfl
@[simp ↓] theorem ap_eV (i : Nat) (z0 : Fn) (s : St) (h : AH) : eV i z0 s h = match s[i]? with
  | some (some v) => .ok v h
  | _ => .stuck := rfl
@[simp ↓] theorem ap_aNil (z0 : Fn) (z1 : St) (h : AH) : aNil z0 z1 h = .ok [] h := rfl
@[simp ↓] theorem ap_aCons (e : EF) (a : AF) (φ : Fn) (s : St) (h : AH) : aCons e a φ s h = (e φ s h).bind fun x h1 => (a φ s h1).bind fun xs h2 => .ok (x :: xs) h2 := rfl
@[simp ↓] theorem ap_eTup (a : AF) (φ : Fn) (s : St) (h : AH) : eTup a φ s h = (a φ s h).bind fun xs h1 => if xs.length ≤ SZ then .ok (.tup xs) h1 else .stuck := rfl
@[simp ↓] theorem ap_eLst (m : Bool) (a : AF) (φ : Fn) (s : St) (h : AH) : eLst m a φ s h = (a φ s h).bind fun xs h1 => mkLst m xs h1 := rfl
@[simp ↓] theorem ap_eBin (m : Bool) (op : BO) (a b : EF) (φ : Fn) (s : St) (h : AH) : eBin m op a b φ s h = (a φ s h).bind fun x h1 => (b φ s h1).bind fun y h2 => binA m op x y h2 := rfl
@[simp ↓] theorem ap_eNeg (a : EF) (φ : Fn) (s : St) (h : AH) : eNeg a φ s h = (a φ s h).bind fun x h1 => match x with
  | .int i => .ok (.int (-i)) h1
  | _ => .stuck := rfl
@[simp ↓] theorem ap_eCmp (op : CO) (a b : EF) (φ : Fn) (s : St) (h : AH) : eCmp op a b φ s h = (a φ s h).bind fun x h1 => (b φ s h1).bind fun y h2 => cmpA op x y h2 := rfl
@[simp ↓] theorem ap_eChain (op op' : CO) (a b c : EF) (φ : Fn) (s : St) (h : AH) : eChain op op' a b c φ s h = (a φ s h).bind fun x h1 => (b φ s h1).bind fun y h2 => (cmpA op x y h2).bind fun z h3 =>
  tst z ((c φ s h3).bind fun u h4 => cmpA op' y u h4) (.ok (.bl false) h3) := rfl
@[simp ↓] theorem ap_eAnd (a b : EF) (φ : Fn) (s : St) (h : AH) : eAnd a b φ s h = (a φ s h).bind fun x h1 => tst x (b φ s h1) (.ok (.bl false) h1) := rfl
@[simp ↓] theorem ap_eOr (a b : EF) (φ : Fn) (s : St) (h : AH) : eOr a b φ s h = (a φ s h).bind fun x h1 => tst x (.ok (.bl true) h1) (b φ s h1) := rfl
@[simp ↓] theorem ap_eB (a : EF) (φ : Fn) (s : St) (h : AH) : eB a φ s h = (a φ s h).bind fun x h1 => tst x (.ok (.bl true) h1) (.ok (.bl false) h1) := rfl
@[simp ↓] theorem ap_eNot (a : EF) (φ : Fn) (s : St) (h : AH) : eNot a φ s h = (a φ s h).bind fun x h1 => tst x (.ok (.bl false) h1) (.ok (.bl true) h1) := rfl
@[simp ↓] theorem ap_eIf (c a b : EF) (φ : Fn) (s : St) (h : AH) : eIf c a b φ s h = (c φ s h).bind fun x h1 => tst x (a φ s h1) (b φ s h1) := rfl
@[simp ↓] theorem ap_eCall (f : Nat) (a : AF) (φ : Fn) (s : St) (h : AH) : eCall f a φ s h = (a φ s h).bind fun xs h1 => φ 0 f xs h1 := rfl
@[simp ↓] theorem ap_eIdx (a i : EF) (φ : Fn) (s : St) (h : AH) : eIdx a i φ s h = (a φ s h).bind fun x h1 => (i φ s h1).bind fun y h2 => match idxA x y h2 with
  | some v => .ok v h2
  | none => .stuck := rfl
@[simp ↓] theorem ap_oNone (z0 : Fn) (z1 : St) (h : AH) : oNone z0 z1 h = .ok none h := rfl
@[simp ↓] theorem ap_oSome (e : EF) (φ : Fn) (s : St) (h : AH) : oSome e φ s h = (e φ s h).bind fun x h1 => match x with
  | .int i => .ok (some i) h1
  | _ => .stuck := rfl
@[simp ↓] theorem ap_eSlc (m : Bool) (a : EF) (lo hi : OF) (φ : Fn) (s : St) (h : AH) : eSlc m a lo hi φ s h = (a φ s h).bind fun x h1 => (lo φ s h1).bind fun i h2 => (hi φ s h2).bind fun j h3 => sliceA m x i j h3 := rfl
@[simp ↓] theorem ap_eU (b : UB) (a : EF) (φ : Fn) (s : St) (h : AH) : eU b a φ s h = (a φ s h).bind fun x h1 => uA b x h1 := rfl
@[simp ↓] theorem ap_eMM (mx : Bool) (a b : EF) (φ : Fn) (s : St) (h : AH) : eMM mx a b φ s h = (a φ s h).bind fun x h1 => (b φ s h1).bind fun y h2 => match mmA mx x y with
  | some v => .ok v h2
  | none => .stuck := rfl
@[simp ↓] theorem ap_eStarts (a : EF) (p : Tx) (φ : Fn) (s : St) (h : AH) : eStarts a p φ s h = (a φ s h).bind fun x h1 => match x with
  | .str t => .ok (.bl (p.isPrefixOf t)) h1
  | _ => .stuck := rfl
@[simp ↓] theorem ap_eSplit (m : Bool) (a : EF) (c : Nat) (φ : Fn) (s : St) (h : AH) : eSplit m a c φ s h = (a φ s h).bind fun x h1 => match x with
  | .str t => if t.length + 2 ≤ SZ then mkLst m ((splitTx t c).map .str) h1 else .stuck
  | _ => .stuck := rfl
@[simp ↓] theorem ap_eJoin (sep : Tx) (a : EF) (φ : Fn) (s : St) (h : AH) : eJoin sep a φ s h = (a φ s h).bind fun x h1 => match seqOf x h1 with
  | some xs => match strsO xs with
    | some ss => if (ss.map List.length).sum + ss.length * sep.length ≤ SZ then .ok (.str (joinTx sep ss)) h1 else .stuck
    | none => .stuck
  | none => .stuck := rfl
@[simp ↓] theorem ap_eFs (es : List EF) (φ : Fn) (s : St) (h : AH) : eFs es φ s h = fsGo φ s es [] h := rfl
@[simp ↓] theorem ap_eLRg (m : Bool) (a b : EF) (φ : Fn) (s : St) (h : AH) : eLRg m a b φ s h = (a φ s h).bind fun x h1 => (b φ s h1).bind fun y h2 => match x, y with
  | .int i, .int j => if rngOk i && rngOk j && decide ((j - i).toNat ≤ SZ) then mk m (rng i (j - i).toNat) h2 else .stuck
  | _, _ => .stuck := rfl
@[simp ↓] theorem ap_iSeq (a : EF) (φ : Fn) (s : St) (h : AH) : iSeq a φ s h = (a φ s h).bind fun x h1 => match x with
  | .str t => .ok (t.map fun c => .str [c], []) h1
  | x => match seqOf x h1 with
    | some xs => .ok (xs, gdOf x h1) h1
    | none => .stuck := rfl
@[simp ↓] theorem ap_iRng1 (a : EF) (φ : Fn) (s : St) (h : AH) : iRng1 a φ s h = (a φ s h).bind fun x h1 => match x with
  | .int j => if rngOk j then .ok (rng 0 j.toNat, []) h1 else .stuck
  | _ => .stuck := rfl
@[simp ↓] theorem ap_iRng2 (a b : EF) (φ : Fn) (s : St) (h : AH) : iRng2 a b φ s h = (a φ s h).bind fun x h1 => (b φ s h1).bind fun y h2 => match x, y with
  | .int i, .int j => if rngOk i && rngOk j then .ok (rng i (j - i).toNat, []) h2 else .stuck
  | _, _ => .stuck := rfl
@[simp ↓] theorem ap_iEnum (a : EF) (φ : Fn) (s : St) (h : AH) : iEnum a φ s h = (a φ s h).bind fun x h1 => match seqOf x h1 with
  | some xs => .ok (enumL 0 xs, gdOf x h1) h1
  | none => .stuck := rfl
@[simp ↓] theorem ap_iZip (a b : EF) (φ : Fn) (s : St) (h : AH) : iZip a b φ s h = (a φ s h).bind fun x h1 => (b φ s h1).bind fun y h2 => match seqOf x h2, seqOf y h2 with
  | some xs, some ys => match x, y with
    | .tup _, .tup _ => .ok (zipL xs ys, []) h2
    | .tup _, _ => .stuck
    | _, .tup _ => .stuck
    | x, y => .ok (zipL xs ys, gdOf x h2 ++ gdOf y h2) h2
  | _, _ => .stuck := rfl
@[simp ↓] theorem ap_gN (i : Nat) (v : AV) (s : St) (z2 : AH) : gN i v s z2 = some (s.set i (some v)) := rfl
@[simp ↓] theorem ap_gT (gs : List AV → St → AH → Option St) (v : AV) (s : St) (h : AH) : gT gs v s h = match v with
  | .tup xs => gs xs s h
  | v => match lstOf v h with
    | some xs => gs xs s h
    | none => none := rfl
@[simp ↓] theorem ap_eLc (m : Bool) (own : List Nat) (it : IF_) (g : TF) (c e : EF) (φ : Fn) (s : St) (h : AH) : eLc m own it g c e φ s h = (it φ s h).bind fun p h1 =>
  if p.1.length < SZ then (quiet (lcGo φ g c e (wipe s own) p.2 p.1 h1)).bind fun ys h2 => mkLst m ys h2 else .stuck := rfl
@[simp ↓] theorem ap_eAny (own : List Nat) (it : IF_) (g : TF) (c e : EF) (φ : Fn) (s : St) (h : AH) : eAny own it g c e φ s h = (it φ s h).bind fun p h1 =>
  (quiet (anyGo φ g c e (wipe s own) p.2 p.1 h1)).bind fun b h2 => .ok (.bl b) h2 := rfl
@[simp ↓] theorem ap_eGen (b : UB) (own : List Nat) (it : IF_) (g : TF) (c e : EF) (φ : Fn) (s : St) (h : AH) : eGen b own it g c e φ s h = (it φ s h).bind fun p h1 =>
  if p.1.length < SZ then (quiet (lcGo φ g c e (wipe s own) p.2 p.1 h1)).bind fun ys h2 => uL b ys h2 else .stuck := rfl
@[simp ↓] theorem ap_sNil (z0 : Fn) (s : St) (h : AH) : sNil z0 s h = .ok (.nx s) h := rfl
@[simp ↓] theorem ap_sSeq (a b : SF) (φ : Fn) (s : St) (h : AH) : sSeq a b φ s h = (a φ s h).bind (seqK φ b) := rfl
@[simp ↓] theorem ap_sSet (g : TF) (e : EF) (φ : Fn) (s : St) (h : AH) : sSet g e φ s h = (e φ s h).bind fun v h1 => match g v s h1 with
  | some s1 => .ok (.nx s1) h1
  | none => .stuck := rfl
@[simp ↓] theorem ap_sPut (o i e : EF) (φ : Fn) (s : St) (h : AH) : sPut o i e φ s h = (e φ s h).bind fun v h1 => (o φ s h1).bind fun x h2 => (i φ s h2).bind fun k h3 => match setA x k v h3 with
  | some h4 => .ok (.nx s) h4
  | none => .stuck := rfl
@[simp ↓] theorem ap_sAug (i : Nat) (op : BO) (e : EF) (φ : Fn) (s : St) (h : AH) : sAug i op e φ s h = match s[i]? with
  | some (some x) => (e φ s h).bind fun y h1 => match x, y with
    | .int a, .int b => match intOp op a b with
      | some k => .ok (.nx (s.set i (some (.int k)))) h1
      | none => .stuck
    | _, _ => .stuck
  | _ => .stuck := rfl
@[simp ↓] theorem ap_sAugI (o i : EF) (op : BO) (e : EF) (φ : Fn) (s : St) (h : AH) : sAugI o i op e φ s h = (o φ s h).bind fun x h1 => (i φ s h1).bind fun k h2 => match idxA x k h2 with
  | some (.int a) => (e φ s h2).bind fun y h3 => match y with
    | .int b => match intOp op a b with
      | some c => match setA x k (.int c) h3 with
        | some h4 => .ok (.nx s) h4
        | none => .stuck
      | none => .stuck
    | _ => .stuck
  | _ => .stuck := rfl
@[simp ↓] theorem ap_sExp (e : EF) (φ : Fn) (s : St) (h : AH) : sExp e φ s h = (e φ s h).bind fun _ h1 => .ok (.nx s) h1 := rfl
@[simp ↓] theorem ap_sRet (e : EF) (φ : Fn) (s : St) (h : AH) : sRet e φ s h = (e φ s h).bind fun v h1 => .ok (.rt v) h1 := rfl
@[simp ↓] theorem ap_sIf (c : EF) (a b : SF) (φ : Fn) (s : St) (h : AH) : sIf c a b φ s h = (c φ s h).bind fun x h1 => tst x (a φ s h1) (b φ s h1) := rfl
@[simp ↓] theorem ap_sBrk (z0 : Fn) (s : St) (h : AH) : sBrk z0 s h = .ok (.bk s) h := rfl
@[simp ↓] theorem ap_sCnt (z0 : Fn) (s : St) (h : AH) : sCnt z0 s h = .ok (.ct s) h := rfl
@[simp ↓] theorem ap_sRaise (c : Nat) (z0 : Fn) (z1 : St) (h : AH) : sRaise c z0 z1 h = .exc c h := rfl
@[simp ↓] theorem ap_sFor (it : IF_) (g : TF) (b : SF) (φ : Fn) (s : St) (h : AH) : sFor it g b φ s h = (it φ s h).bind fun p h1 => forGo φ g b p.2 p.1 s h1 := rfl
@[simp ↓] theorem ap_sWhile (c : EF) (b : SF) (φ : Fn) (s : St) (h : AH) : sWhile c b φ s h = whGo φ c b WF s h := rfl
@[simp ↓] theorem ap_eTold (w : Ct) (ret : Tx) (e : EF) (φ : Fn) (s : St) (h : AH) : eTold w ret e φ s h = told w ret (e φ s h) := rfl
@[simp ↓] theorem ap_sBad (kb : Nat) (es : List EF) (w : Ct) (ret : Tx) (b : SF) (φ : Fn) (s : St) (h : AH) : sBad kb es w ret b φ s h = match s[kb]? with
  | some none => (match toldAll w ret φ s es h with
    | some h1 => b φ s h1
    | none => .stuck)
  | _ => .stuck := rfl
@[simp ↓] theorem ap_eApp (o e : EF) (φ : Fn) (s : St) (h : AH) : eApp o e φ s h = (o φ s h).bind fun x h1 => match lstOf x h1 with
  | some _ => (e φ s h1).bind fun v h2 => match appA x v h2 with
    | some h3 => .ok .non h3
    | none => .stuck
  | none => .stuck := rfl
@[simp ↓] theorem ap_eFld (cs : List Nat) (f : Tx) (o : EF) (φ : Fn) (s : St) (h : AH) : eFld cs f o φ s h = (o φ s h).bind fun x h1 => match fldA cs f x h1 with
  | some v => .ok v h1
  | none => .stuck := rfl
@[simp ↓] theorem ap_sFld (cs : List Nat) (f : Tx) (o e : EF) (φ : Fn) (s : St) (h : AH) : sFld cs f o e φ s h = (e φ s h).bind fun v h1 => (o φ s h1).bind fun x h2 => match setF cs f x v h2 with
  | some h3 => .ok (.nx s) h3
  | none => .stuck := rfl
@[simp ↓] theorem ap_sFldA (cs : List Nat) (f : Tx) (o : EF) (op : BO) (e : EF) (φ : Fn) (s : St) (h : AH) : sFldA cs f o op e φ s h = (o φ s h).bind fun x h1 => match insOf x h1 with
  | some (c, fs) => if c ∈ cs then (match fget f fs with
    | some (.int a) => (e φ s h1).bind fun y h2 => match y with
      | .int b => match intOp op a b with
        | some k => match setF [c] f x (.int k) h2 with
          | some h3 => .ok (.nx s) h3
          | none => .stuck
        | none => .stuck
      | _ => .stuck
    | _ => .stuck) else .stuck
  | none => .stuck := rfl
@[simp ↓] theorem ap_eMeth (c : Nat) (m : Tx) (fi : Nat) (o : EF) (a : AF) (φ : Fn) (s : St) (h : AH) : eMeth c m fi o a φ s h = (o φ s h).bind fun x h1 => match insOf x h1 with
  | some (c', fs) => if c' = c ∧ fget m fs = none then (a φ s h1).bind fun vs h2 => φ 0 fi (x :: vs) h2 else .stuck
  | none => .stuck := rfl
@[simp ↓] theorem ap_eAlt (a b : EF) (φ : Fn) (s : St) (h : AH) : eAlt a b φ s h = match a φ s h with
  | .stuck => b φ s h
  | r => r := rfl
@[simp ↓] theorem ap_eMake (c fi : Nat) (dvs : List AV) (a : AF) (φ : Fn) (s : St) (h : AH) : eMake c fi dvs a φ s h = (a φ s h).bind fun vs h1 => mkIns φ c fi (vs ++ dvs) h1 := rfl
@[simp ↓] theorem ap_eYes (φ : Fn) (s : St) (h : AH) : eYes φ s h = .ok (.bl true) h := rfl
@[simp] theorem seqK_nx (φ : Fn) (b : SF) (s : St) (h : AH) : seqK φ b (.nx s) h = b φ s h := rfl
@[simp] theorem seqK_rt (φ : Fn) (b : SF) (v : AV) (h : AH) : seqK φ b (.rt v) h = .ok (.rt v) h := rfl
@[simp] theorem seqK_bk (φ : Fn) (b : SF) (s : St) (h : AH) : seqK φ b (.bk s) h = .ok (.bk s) h := rfl
@[simp] theorem seqK_ct (φ : Fn) (b : SF) (s : St) (h : AH) : seqK φ b (.ct s) h = .ok (.ct s) h := rfl
/-! values -/
@[simp] theorem SZ_eq : SZ = 16777216 := rfl
@[simp] theorem small_lit (n : Nat) : small (no_index (OfNat.ofNat n : Int)) = decide (n < 18446744073709551616) := by
  unfold small
  have e : (OfNat.ofNat n : Int) = (n : Int) := rfl
  rw [e]
  congr 1
  apply propext
  omega
@[simp] theorem small_neg (i : Int) : small (-i) = small i := by
  unfold small
  congr 1
  apply propext
  omega
theorem small_of {i : Int} (h1 : -18446744073709551616 < i) (h2 : i < 18446744073709551616) : small i = true := by
  unfold small
  simp
  omega
@[simp] theorem add_int (m : Bool) (i j : Int) (h : AH) : binA m .add (.int i) (.int j) h = .ok (.int (i + j)) h := rfl
@[simp] theorem sub_int (m : Bool) (i j : Int) (h : AH) : binA m .sub (.int i) (.int j) h = .ok (.int (i - j)) h := rfl
@[simp] theorem mul_int (m : Bool) {i j : Int} (h : AH) (e : (small i || small j) = true) : binA m .mul (.int i) (.int j) h = .ok (.int (i * j)) h := by
  show (match intOp .mul i j with | some k => Out.ok (AV.int k) h | none => .stuck) = _
  unfold intOp
  rw [if_pos e]
@[simp] theorem mod_int (m : Bool) {i j : Int} (h : AH) (e : j ≠ 0) : binA m .mod (.int i) (.int j) h = .ok (.int (i.fmod j)) h := by
  show (match intOp .mod i j with | some k => Out.ok (AV.int k) h | none => .stuck) = _
  unfold intOp
  rw [if_pos e]
@[simp] theorem div_int (m : Bool) {i j : Int} (h : AH) (e : j ≠ 0) (e2 : j.natAbs < 1073741824) : binA m .div (.int i) (.int j) h = .ok (.int (i.fdiv j)) h := by
  show (match intOp .div i j with | some k => Out.ok (AV.int k) h | none => .stuck) = _
  unfold intOp
  rw [if_pos (show j ≠ 0 ∧ j.natAbs < 1073741824 from ⟨e, e2⟩)]
@[simp] theorem add_str (m : Bool) (a b : Tx) (h : AH) : binA m .add (.str a) (.str b) h = if a.length + b.length ≤ 16777216 then .ok (.str (a ++ b)) h else .stuck := rfl
@[simp] theorem lt_int (i j : Int) (h : AH) : cmpA .lt (.int i) (.int j) h = .ok (.bl (decide (i < j))) h := rfl
@[simp] theorem gt_int (i j : Int) (h : AH) : cmpA .gt (.int i) (.int j) h = .ok (.bl (decide (j < i))) h := rfl
@[simp] theorem le_int (i j : Int) (h : AH) : cmpA .le (.int i) (.int j) h = .ok (.bl (decide (i ≤ j))) h := by
  show Out.ok (AV.bl (!decide (j < i))) h = _
  congr 2
  by_cases e : j < i
  · simp [e]
  · simp [e]; omega
@[simp] theorem ge_int (i j : Int) (h : AH) : cmpA .ge (.int i) (.int j) h = .ok (.bl (decide (j ≤ i))) h := by
  show Out.ok (AV.bl (!decide (i < j))) h = _
  congr 2
  by_cases e : i < j
  · simp [e]
  · simp [e]; omega
@[simp] theorem eq_int (i j : Int) (h : AH) : cmpA .eq (.int i) (.int j) h = .ok (.bl (decide (i = j))) h := by
  show someB (eqA (.int i) (.int j)) h = _
  simp [someB, eqA, AV.flat]
@[simp] theorem ne_int (i j : Int) (h : AH) : cmpA .ne (.int i) (.int j) h = .ok (.bl (!decide (i = j))) h := by
  show someB (notO (eqA (.int i) (.int j))) h = _
  simp [someB, eqA, AV.flat, notO]
@[simp] theorem eq_str (a b : Tx) (h : AH) : cmpA .eq (.str a) (.str b) h = .ok (.bl (decide (a = b))) h := by
  show someB (eqA (.str a) (.str b)) h = _
  simp [someB, eqA, AV.flat]
@[simp] theorem ne_str (a b : Tx) (h : AH) : cmpA .ne (.str a) (.str b) h = .ok (.bl (!decide (a = b))) h := by
  show someB (notO (eqA (.str a) (.str b))) h = _
  simp [someB, eqA, AV.flat, notO]
@[simp] theorem eq_int_str (a : Int) (b : Tx) (h : AH) : cmpA .eq (.int a) (.str b) h = .ok (.bl false) h := by
  show someB (eqA (.int a) (.str b)) h = _
  simp [someB, eqA, AV.flat]
@[simp] theorem ne_int_str (a : Int) (b : Tx) (h : AH) : cmpA .ne (.int a) (.str b) h = .ok (.bl true) h := by
  show someB (notO (eqA (.int a) (.str b))) h = _
  simp [someB, eqA, AV.flat, notO]
@[simp] theorem is_non (x : AV) (h : AH) : cmpA .isN x .non h = .ok (.bl (decide (x = .non))) h := rfl
@[simp] theorem isnt_non (x : AV) (h : AH) : cmpA .notN x .non h = .ok (.bl (!decide (x = .non))) h := rfl
theorem in_flat {x : AV} {ys : List AV} {h : AH} (e1 : x.flat = true) (e2 : ys.all AV.flat = true) : inA x (.tup ys) h = some (ys.any fun z => decide (z = x)) := by
  have : inA x (.tup ys) h = (if x.flat && ys.all AV.flat then some (ys.any fun z => decide (z = x)) else none) := by
    cases x <;> rfl
  rw [this]
  simp [e1, e2]
@[simp] theorem in_tup {x : AV} {ys : List AV} {h : AH} (e : (x.flat && ys.all AV.flat) = true) : cmpA .inn x (.tup ys) h = .ok (.bl (ys.any fun z => decide (z = x))) h := by
  show someB (inA x (.tup ys) h) h = _
  simp only [Bool.and_eq_true] at e
  rw [in_flat e.1 e.2]
  rfl
@[simp] theorem notin_tup {x : AV} {ys : List AV} {h : AH} (e : (x.flat && ys.all AV.flat) = true) : cmpA .notIn x (.tup ys) h = .ok (.bl (!(ys.any fun z => decide (z = x)))) h := by
  show someB (notO (inA x (.tup ys) h)) h = _
  simp only [Bool.and_eq_true] at e
  rw [in_flat e.1 e.2]
  rfl
@[simp] theorem in_sign (c : Nat) (b : Tx) (h : AH) : cmpA .inn (.str [c]) (.str b) h = .ok (.bl (decide (c ∈ b))) h := rfl
@[simp] theorem notin_sign (c : Nat) (b : Tx) (h : AH) : cmpA .notIn (.str [c]) (.str b) h = .ok (.bl (!decide (c ∈ b))) h := rfl
@[simp] theorem flat_int (i : Int) : (AV.int i).flat = true := rfl
@[simp] theorem flat_str (a : Tx) : (AV.str a).flat = true := rfl
@[simp] theorem flat_non : AV.non.flat = true := rfl
@[simp] theorem seq_tup (xs : List AV) (h : AH) : seqOf (.tup xs) h = some xs := rfl
@[simp] theorem seq_lst (xs : List AV) (h : AH) : seqOf (.lst xs) h = some xs := rfl
@[simp] theorem lst_lst (xs : List AV) (h : AH) : lstOf (.lst xs) h = some xs := rfl
@[simp] theorem seq_ref (i : Nat) (h : AH) : seqOf (.ref i) h = match hget h i with | some (.lst xs) => some xs | _ => none := rfl
@[simp] theorem lst_ref (i : Nat) (h : AH) : lstOf (.ref i) h = match hget h i with | some (.lst xs) => some xs | _ => none := rfl
@[simp] theorem gd_lst (xs : List AV) (h : AH) : gdOf (.lst xs) h = [] := rfl
@[simp] theorem gd_tup (xs : List AV) (h : AH) : gdOf (.tup xs) h = [] := rfl
@[simp] theorem gOk_nil (h : AH) : gOk [] h = true := rfl
@[simp] theorem mk_f (xs : List AV) (h : AH) : mk false xs h = .ok (.lst xs) h := rfl
@[simp] theorem mk_t (xs : List AV) (h : AH) : mk true xs h = .ok (.ref h.length) (.lst xs :: h) := rfl
@[simp] theorem mkLst_eq (m : Bool) (xs : List AV) (h : AH) : mkLst m xs h = if xs.length ≤ 16777216 then mk m xs h else .stuck := rfl
@[simp] theorem len_str (a : Tx) (h : AH) : uA .len (.str a) h = if a.length ≤ 16777216 then .ok (.int a.length) h else .stuck := rfl
@[simp] theorem len_lst (xs : List AV) (h : AH) : uA .len (.lst xs) h = .ok (.int xs.length) h := rfl
@[simp] theorem len_tup (xs : List AV) (h : AH) : uA .len (.tup xs) h = .ok (.int xs.length) h := rfl
@[simp] theorem abs_int (i : Int) (h : AH) : uA .abs (.int i) h = .ok (.int (if i < 0 then -i else i)) h := rfl
@[simp] theorem int_int (i : Int) (h : AH) : uA .int (.int i) h = .ok (.int i) h := rfl
@[simp] theorem int_bl (b : Bool) (h : AH) : uA .int (.bl b) h = .ok (.int (if b then 1 else 0)) h := rfl
theorem ap_runDef {P : Prog} {n i : Nat} {d : Def} {xs : List AV} {h : AH} (e : P i = some d) (e2 : xs.length = d.pars) : pg P (n + 1) 0 i xs h = finO h (d.body (pg P n) (start d.names xs) h) := by
  rw [pg_one e, runDef_fin e2]
@[simp] theorem finO_ite' (h : AH) (c : Prop) [Decidable c] (a b : Out Fl) : finO h (if c then a else b) = if c then finO h a else finO h b := by split <;> rfl
theorem finO_cg {h : AH} {o o' : Out Fl} (e : o = o') : finO h o = finO h o' := by rw [e]
end TL

/-! LawR: the dice, the rolls, the rounds: alike in every law -/
set_option Elab.async false
set_option linter.all false
set_option autoImplicit false
set_option maxRecDepth 100000
set_option maxHeartbeats 2000000
namespace TL
open TX
def rollF (q : Nat) : SF :=
  (sSeq (sIf (eOr (eCmp .eq (eIdx (eV 0) (eC (.int 2))) (eC (.int 2))) (eB (eAnd (eCmp .eq (eIdx (eV 0) (eC (.int 2))) (eC (.int 1))) (eB (eCmp .gt (eIdx (eV 0) (eC (.int 0))) (eC (.int 0))))))) (sSeq (sSet (gN 2) (eBin false .mod (eU .int (eIdx (eV 0) (eC (.int 0)))) (eV 1))) (sSeq (sPut (eV 0) (eC (.int 0)) (eBin false .div (eIdx (eV 0) (eC (.int 0))) (eV 1))) (sSeq (sRet (eV 2)) sNil))) sNil) (sSeq (sPut (eV 0) (eC (.int 2)) (eC (.int 0))) (sSeq (sIf (eCmp .gt (eV 1) (eC (.int 100000000))) (sSeq (sRet (eBin false .mod (eU .int (eBin false .add (eBin false .mul (eCall q (aCons (eV 0) (aCons (eBin false .add (eBin false .div (eV 1) (eC (.int 100000000))) (eC (.int 1))) aNil))) (eC (.int 100000000))) (eCall q (aCons (eV 0) (aCons (eC (.int 100000000)) aNil))))) (eV 1))) sNil) sNil) (sSeq (sPut (eV 0) (eC (.int 0)) (eBin false .mod (eU .int (eBin false .add (eBin false .add (eBin false .mul (eIdx (eV 0) (eC (.int 0))) (eC (.int 48271))) (eBin false .mul (eIdx (eV 0) (eC (.int 1))) (eC (.int 69621)))) (eC (.int 11)))) (eC (.int 2147483647)))) (sSeq (sPut (eV 0) (eC (.int 1)) (eBin false .add (eIdx (eV 0) (eC (.int 1))) (eC (.int 1)))) (sSeq (sRet (eBin false .mod (eU .int (eBin false .div (eIdx (eV 0) (eC (.int 0))) (eC (.int 7)))) (eV 1))) sNil))))))
def diceF : SF :=
  (sSeq (sIf (eChain .lt .lt (eBin false .sub (eC (.int 0)) (eC (.int 10))) (eV 0) (eC (.int 10))) (sSeq (sRet (eLst true (aCons (eU .abs (eV 0)) (aCons (eC (.int 0)) (aCons (eC (.int 2)) aNil))))) sNil) sNil) (sSeq (sRet (eLst true (aCons (eV 0) (aCons (eBin false .add (eC (.int 1)) (eBin false .mod (eU .int (eV 0)) (eC (.int 1009)))) (aCons (eU .int (eCmp .ge (eV 0) (eBin false .pow (eC (.int 10)) (eC (.int 18))))) aNil))))) sNil))
def roundsF (q : Nat) : SF :=
  (sSeq (sSet (gN 2) (eSlc false (eV 0) oNone (oSome (eV 1)))) (sSeq (sIf (eCmp .eq (eV 2) (eLst false aNil)) (sSeq (sSet (gN 2) (eLst false (aCons (eC (.int 0)) aNil))) sNil) sNil) (sSeq (sRet (eLc false [3] (iSeq (eV 2)) (gN 3) eYes (eCall q (aCons (eV 3) aNil)))) sNil)))
theorem gcRet_len {h h' : AH} (v : AV) (e : h'.length = h.length) : gcRet h v h' = .ok v h' := by
  unfold gcRet
  split
  · rw [e, Nat.sub_self, List.drop_zero]
  · rfl
theorem hset_hset : ∀ (h : AH) (i : Nat) (u w : AO), hset (hset h i u) i w = hset h i w
  | [], _, _, _ => rfl
  | o :: h, i, u, w => by
    by_cases e : i = h.length
    · simp [hset, e]
    · simp [hset, e, hset_hset h i u w]
theorem hget_same {h : AH} {i : Nat} {u : AO} (hi : i < h.length) : hget (hset h i u) i = some u := by rw [hget_hset hi, if_pos rfl]
/-- the dice: a list of three whole numbers -/
def Dice (h : AH) (r : Nat) : Prop := ∃ a c f : Int, hget h r = some (.lst [.int a, .int c, .int f])
theorem roll_ok {P : Prog} {q n r : Nat} (pq : P q = some ⟨3, 2, rollF q⟩) {h : AH} {m : Int} (hd : Dice h r) (hm : 1 ≤ m) (hm2 : m ≤ 100000000) :
    ∃ v a c f : Int, pg P (n + 1) 0 q [.ref r, .int m] h = .ok (.int v) (hset h r (.lst [.int a, .int c, .int f])) ∧ 0 ≤ v ∧ v < m := by
  obtain ⟨a, c, f, e⟩ := hd
  have hl := hget_lt e
  have m0 : m ≠ 0 := by omega
  have mA : m.natAbs < 1073741824 := by omega
  have g1 : ¬ 100000000 < m := by omega
  have s1 : small 48271 = true := by decide
  have s2 : small 69621 = true := by decide
  have fm : ∀ x : Int, 0 ≤ x.fmod m ∧ x.fmod m < m := fun x => ⟨Int.fmod_nonneg_of_pos x (by omega), Int.fmod_lt_of_pos x (by omega)⟩
  have b1 : (2147483647 : Int) ≠ 0 := by decide
  have b7 : (7 : Int).natAbs < 1073741824 := by decide
  rw [pg_one pq, runDef_fin rfl]
  by_cases c1 : f = 2 ∨ (f = 1 ∧ 0 < a)
  · refine ⟨a.fmod m, a.fdiv m, c, f, ?_, fm a⟩
    have q : (if f = 2 then true else if f = 1 then decide (0 < a) else false) = true := by
      rcases c1 with h1 | ⟨h1, h2⟩
      · simp [h1]
      · simp [h1, h2]
    rcases c1 with h1 | ⟨h1, h2⟩
    · simp [TX.start, rollF, sSeq, sIf, eOr, eAnd, eB, eCmp, cmpA, eIdx, idxA, seqOf, atI, ixN, eV, eC, ltS, ltA, someB, still, eqA, e, h1, AV.flat, seqK, sNil, sSet, gN, eBin, binA, intOp, m0, mA, eU, uA, sPut, setA, sRet, hget_same hl, gcRet_len]
    · simp [TX.start, rollF, sSeq, sIf, eOr, eAnd, eB, eCmp, cmpA, eIdx, idxA, seqOf, atI, ixN, eV, eC, ltS, ltA, someB, still, eqA, e, h1, h2, AV.flat, seqK, sNil, sSet, gN, eBin, binA, intOp, m0, mA, eU, uA, sPut, setA, sRet, hget_same hl, gcRet_len]
  · refine ⟨(((a * 48271 + c * 69621 + 11).fmod 2147483647).fdiv 7).fmod m, (a * 48271 + c * 69621 + 11).fmod 2147483647, c + 1, 0, ?_, fm _⟩
    have h1 : ¬ f = 2 := fun z => c1 (.inl z)
    by_cases h3 : f = 1
    · have h2 : ¬ 0 < a := fun z => c1 (.inr ⟨h3, z⟩)
      simp [TX.start, rollF, sSeq, sIf, eOr, eAnd, eB, eCmp, cmpA, eIdx, idxA, seqOf, atI, ixN, eV, eC, ltS, ltA, someB, still, eqA, e, h1, h2, h3, AV.flat, seqK, sNil, sSet, gN, eBin, binA, intOp, m0, mA, eU, uA, sPut, setA, sRet, hget_same, hl, gcRet_len, g1, s1, s2, hset_hset]
    · simp [TX.start, rollF, sSeq, sIf, eOr, eAnd, eB, eCmp, cmpA, eIdx, idxA, seqOf, atI, ixN, eV, eC, ltS, ltA, someB, still, eqA, e, h1, h3, AV.flat, seqK, sNil, sSet, gN, eBin, binA, intOp, m0, mA, eU, uA, sPut, setA, sRet, hget_same, hl, gcRet_len, g1, s1, s2, hset_hset]
theorem gcRet_up {h : AH} {v : AV} {h' : AH} (e : v.under h.length = false) : gcRet h v h' = .ok v h' := by
  unfold gcRet
  simp [e]
theorem dice_ok {P : Prog} {q n : Nat} (pq : P q = some ⟨1, 1, diceF⟩) (z : Int) (h : AH) : ∃ a c f : Int, pg P (n + 1) 0 q [.int z] h = .ok (.ref h.length) (.lst [.int a, .int c, .int f] :: h) := by
  rw [pg_one pq, runDef_fin rfl]
  by_cases h1 : -10 < z
  · by_cases h2 : z < 10
    · simp [TX.start, diceF, sSeq, sIf, eChain, cmpA, ltA, eV, eC, eBin, binA, intOp, someB, sRet, eLst, aCons, aNil, mkLst, mk, eU, uA, SZ, h1, h2, seqK, gcRet_up, AV.under]
    · simp [TX.start, diceF, sSeq, sIf, eChain, eCmp, cmpA, ltA, ltS, notO, eV, eC, eBin, binA, intOp, someB, sRet, eLst, aCons, aNil, mkLst, mk, eU, uA, SZ, h1, h2, seqK, sNil, gcRet_up, AV.under]
  · simp [TX.start, diceF, sSeq, sIf, eChain, eCmp, cmpA, ltA, ltS, notO, eV, eC, eBin, binA, intOp, someB, sRet, eLst, aCons, aNil, mkLst, mk, eU, uA, SZ, h1, seqK, sNil, gcRet_up, AV.under]
theorem cut_one {α : Type} (xs : List α) : cut xs none (some 1) = xs.take 1 := by
  cases xs with
  | nil => simp [cut, sIx]
  | cons a r => simp [cut, sIx]
theorem rounds_ok {P : Prog} {q qd n : Nat} (pd : P qd = some ⟨1, 1, diceF⟩) (pr : P q = some ⟨4, 2, roundsF qd⟩) (ns : List Int) (h : AH) :
    ∃ a c f : Int, pg P (n + 2) 0 q [.scr (ns.map .int), .int 1] h = .ok (.lst [.ref h.length]) (.lst [.int a, .int c, .int f] :: h) := by
  have key : ∀ z : Int, ∃ a c f : Int, _ := fun z => dice_ok (n := n) pd z h
  cases ns with
  | nil =>
    obtain ⟨a, c, f, e⟩ := key 0
    refine ⟨a, c, f, ?_⟩
    rw [pg_one pr, runDef_fin rfl]
    simp [TX.start, roundsF, sSeq, sIf, eCmp, cmpA, eV, eC, someB, still, eqA, AV.data, AV.dataL, AV.dep, AV.depL, AV.flat, sSet, gN, eSlc, oNone, oSome, sliceA, mk, mkLst, eLst, aCons, aNil, cut_one, SZ, seqK, sRet, eLc, iSeq, seqOf, gdOf, wipe, lcGo, eYes, eCall, gOk, e, quiet, sNil, gcRet_up, AV.under, AV.underL]
  | cons z r =>
    obtain ⟨a, c, f, e⟩ := key z
    refine ⟨a, c, f, ?_⟩
    rw [pg_one pr, runDef_fin rfl]
    simp [TX.start, roundsF, sSeq, sIf, eCmp, cmpA, eV, eC, someB, still, eqA, AV.data, AV.dataL, AV.dep, AV.depL, AV.flat, sSet, gN, eSlc, oNone, oSome, sliceA, mk, mkLst, eLst, aCons, aNil, cut_one, SZ, seqK, sRet, eLc, iSeq, seqOf, gdOf, wipe, lcGo, eYes, eCall, gOk, e, quiet, sNil, gcRet_up, AV.under, AV.underL]
end TL

/-! LawT: lists, loops, heaps, for plain laws -/
set_option Elab.async false
set_option linter.all false
set_option autoImplicit false
set_option maxRecDepth 100000
namespace TL
open TX
/-- the items of a loop, told by a list of anything -/
theorem lc_map {β : Type} {φ : Fn} {g : TF} {c e : EF} {s0 : St} {gd : Gd} {h : AH} (f : β → AV) (F : β → AV) : ∀ {xs : List β}, gOk gd h = true →
    (∀ x ∈ xs, ∃ st, g (f x) s0 h = some st ∧ c φ st h = .ok (.bl true) h ∧ e φ st h = .ok (F x) h) → lcGo φ g c e s0 gd (xs.map f) h = .ok (xs.map F) h
  | [], hk, _ => by
    show lcGo φ g c e s0 gd [] h = _
    unfold lcGo; rw [if_pos hk]; rfl
  | x :: r, hk, hx => by
    obtain ⟨st, h1, h2, h3⟩ := hx x List.mem_cons_self
    have ih := lc_map f F (xs := r) hk fun y hy => hx y (List.mem_cons_of_mem _ hy)
    show lcGo φ g c e s0 gd (f x :: r.map f) h = _
    unfold lcGo
    rw [if_pos hk, h1]
    simp only [h2, out_bind_ok, tst_bl, h3, ih, if_true, List.map_cons]
/-- with a test -/
theorem lc_filter {β : Type} {φ : Fn} {g : TF} {c e : EF} {s0 : St} {gd : Gd} {h : AH} (f : β → AV) (p : β → Bool) (F : β → AV) : ∀ {xs : List β}, gOk gd h = true →
    (∀ x ∈ xs, ∃ st, g (f x) s0 h = some st ∧ c φ st h = .ok (.bl (p x)) h ∧ (p x = true → e φ st h = .ok (F x) h)) → lcGo φ g c e s0 gd (xs.map f) h = .ok ((xs.filter p).map F) h
  | [], hk, _ => by
    show lcGo φ g c e s0 gd [] h = _
    unfold lcGo; rw [if_pos hk]; rfl
  | x :: r, hk, hx => by
    obtain ⟨st, h1, h2, h3⟩ := hx x List.mem_cons_self
    have ih := lc_filter f p F (xs := r) hk fun y hy => hx y (List.mem_cons_of_mem _ hy)
    show lcGo φ g c e s0 gd (f x :: r.map f) h = _
    unfold lcGo
    rw [if_pos hk, h1]
    simp only [h2, out_bind_ok, tst_bl]
    cases hp : p x with
    | true => simp [h3 hp, ih, hp]
    | false => simp [ih, hp]
theorem any_map {β : Type} {φ : Fn} {g : TF} {c e : EF} {s0 : St} {gd : Gd} {h : AH} (f : β → AV) (p q : β → Bool) : ∀ {xs : List β}, gOk gd h = true →
    (∀ x ∈ xs, ∃ st, g (f x) s0 h = some st ∧ c φ st h = .ok (.bl (p x)) h ∧ (p x = true → e φ st h = .ok (.bl (q x)) h)) → anyGo φ g c e s0 gd (xs.map f) h = .ok (xs.any fun x => p x && q x) h
  | [], hk, _ => by
    show anyGo φ g c e s0 gd [] h = _
    unfold anyGo; rw [if_pos hk]; rfl
  | x :: r, hk, hx => by
    obtain ⟨st, h1, h2, h3⟩ := hx x List.mem_cons_self
    have ih := any_map f p q (xs := r) hk fun y hy => hx y (List.mem_cons_of_mem _ hy)
    show anyGo φ g c e s0 gd (f x :: r.map f) h = _
    unfold anyGo
    rw [if_pos hk, h1]
    simp only [h2, out_bind_ok, tst_bl]
    cases hp : p x with
    | true => cases hq : q x <;> simp [h3 hp, ih, hp, hq]
    | false => simp [ih, hp]
/-- a for loop that goes through: what holds of the state, step by step -/
theorem for_rel {β γ : Type} {φ : Fn} {g : TF} {b : SF} {gd : Gd} (f : β → AV) (step : γ → β → γ) (R : γ → St → AH → Prop) (hk : ∀ c s h, R c s h → gOk gd h = true) : ∀ {xs : List β} {c : γ} {s : St} {h : AH},
    (∀ x ∈ xs, ∀ c s h, R c s h → ∃ s1 s2 h2, g (f x) s h = some s1 ∧ (b φ s1 h = .ok (.nx s2) h2 ∨ b φ s1 h = .ok (.ct s2) h2) ∧ R (step c x) s2 h2) → R c s h →
    ∃ s2 h2, forGo φ g b gd (xs.map f) s h = .ok (.nx s2) h2 ∧ R (xs.foldl step c) s2 h2
  | [], c, s, h, _, hr => ⟨s, h, by show forGo φ g b gd [] s h = _; unfold forGo; rw [if_pos (hk c s h hr)], hr⟩
  | x :: r, c, s, h, hx, hr => by
    obtain ⟨s1, s2, h2, e1, e2, hr2⟩ := hx x List.mem_cons_self c s h hr
    obtain ⟨s3, h3, e3, hr3⟩ := for_rel f step R hk (fun y hy => hx y (List.mem_cons_of_mem _ hy)) hr2
    refine ⟨s3, h3, ?_, hr3⟩
    show forGo φ g b gd (f x :: r.map f) s h = _
    unfold forGo
    rw [if_pos (hk c s h hr), e1]
    rcases e2 with e2 | e2 <;> simp only [e2, out_bind_ok, e3]
/-- places and items -/
def zi {β : Type} (k : Int) : List β → List (Int × β)
  | [] => []
  | x :: r => (k, x) :: zi (k + 1) r
theorem enum_map {β : Type} (f : β → AV) : ∀ (xs : List β) (k : Int), enumL k (xs.map f) = (zi k xs).map fun p => .tup [.int p.1, f p.2]
  | [], _ => rfl
  | x :: r, k => by
    show AV.tup [.int k, f x] :: enumL (k + 1) (r.map f) = _
    rw [enum_map f r (k + 1)]
    rfl
theorem zi_mem {β : Type} {p : Int × β} : ∀ {xs : List β} {k : Int}, p ∈ zi k xs → ∃ i : Nat, xs[i]? = some p.2 ∧ p.1 = k + i
  | [], _, h => by cases h
  | x :: r, k, h => by
    rcases List.mem_cons.mp h with rfl | h
    · exact ⟨0, rfl, by simp⟩
    · obtain ⟨i, h1, h2⟩ := zi_mem h
      exact ⟨i + 1, by simpa using h1, by rw [h2]; push_cast; omega⟩
theorem zi_length {β : Type} : ∀ (xs : List β) (k : Int), (zi k xs).length = xs.length
  | [], _ => rfl
  | x :: r, k => by simp [zi, zi_length r]
theorem isort_length {α : Type} (lt : α → α → Bool) : ∀ xs : List α, (isort lt xs).length = xs.length := by
  have h : ∀ (x : α) (xs : List α), (ins lt x xs).length = xs.length + 1 := by
    intro x xs
    induction xs with
    | nil => rfl
    | cons y r ih => unfold ins; split <;> simp [ih]
  intro xs
  induction xs with
  | nil => rfl
  | cons x r ih => rw [isort, h, ih]; rfl
theorem ins_perm {α : Type} (lt : α → α → Bool) (x : α) : ∀ xs : List α, (ins lt x xs).Perm (x :: xs)
  | [] => .refl _
  | y :: r => by
    unfold ins
    split
    · exact (List.Perm.cons y (ins_perm lt x r)).trans (.swap x y r)
    · exact .refl _
theorem isort_perm {α : Type} (lt : α → α → Bool) : ∀ xs : List α, (isort lt xs).Perm xs
  | [] => .refl _
  | x :: r => (ins_perm lt x _).trans (List.Perm.cons x (isort_perm lt r))
theorem gcOk_refl (n : Nat) : ∀ h : AH, gcOk n h h = true
  | [] => rfl
  | o :: r => by simp [gcOk, gcOk_refl n r]
/-- what was made and is named by nothing is let go -/
theorem gcRet_drop {h : AH} {v : AV} (as : AH) (e : v.under h.length = true) : gcRet h v (as ++ h) = .ok v h := by
  unfold gcRet
  have e2 : ((as ++ h).drop ((as ++ h).length - h.length)) = h := by
    simp
  rw [e2, e, gcOk_refl]
  rfl
@[simp] theorem gcRet_one {h : AH} {v : AV} (o : AO) (e : v.under h.length = true) : gcRet h v (o :: h) = .ok v h := gcRet_drop [o] e
theorem underL_ints (n : Nat) : ∀ xs : List Int, AV.underL n (xs.map .int) = true
  | [] => rfl
  | x :: r => by show (AV.under n (.int x) && AV.underL n (r.map .int)) = true; rw [underL_ints n r]; rfl
@[simp] theorem under_tup_ints (n : Nat) (xs : List Int) : (AV.tup (xs.map .int)).under n = true := underL_ints n xs
@[simp] theorem sum_ints_lst (xs : List Int) (h : AH) : uA .sum (.lst (xs.map .int)) h = .ok (.int xs.sum) h := by
  show (match intsO (xs.map .int) with | some is => Out.ok (AV.int is.sum) h | none => .stuck) = _
  rw [ints_of]
@[simp] theorem sum_ints_tup (xs : List Int) (h : AH) : uA .sum (.tup (xs.map .int)) h = .ok (.int xs.sum) h := by
  show (match intsO (xs.map .int) with | some is => Out.ok (AV.int is.sum) h | none => .stuck) = _
  rw [ints_of]
theorem sum_ref {i : Nat} {h : AH} {xs : List Int} (e : hget h i = some (.lst (xs.map .int))) : uA .sum (.ref i) h = .ok (.int xs.sum) h := by
  show (match seqOf (.ref i) h with | some xs => uL .sum xs h | none => .stuck) = _
  have : seqOf (.ref i) h = some (xs.map .int) := by
    show (match hget h i with | some (.lst xs) => some xs | _ => none) = _
    rw [e]
  rw [this]
  show (match intsO (xs.map .int) with | some is => Out.ok (AV.int is.sum) h | none => .stuck) = _
  rw [ints_of]
@[simp] theorem hget_top (o : AO) (h : AH) : hget (o :: h) h.length = some o := by simp [hget]
@[simp] theorem hset_top (o u : AO) (h : AH) : hset (o :: h) h.length u = u :: h := by simp [hset]
theorem atI_nat {α : Type} {xs : List α} {i : Nat} (h : i < xs.length) : atI xs (i : Int) = xs[i]? := by
  unfold atI ixN
  simp [h]
theorem sort_ints (m : Bool) (xs : List Int) (h : AH) : uL (.sorted m) (xs.map .int) h = mk m ((isort ilt xs).map .int) h := by
  show (match sortA (xs.map .int) with | some ys => mk m ys h | none => .stuck) = _
  unfold sortA
  rw [ints_of]
theorem intsO_prs : ∀ (ts : List (Int × Int)), ts ≠ [] → intsO (ts.map prA) = none
  | [], h => absurd rfl h
  | t :: r, _ => rfl
theorem strsO_prs : ∀ (ts : List (Int × Int)), ts ≠ [] → strsO (ts.map prA) = none
  | [], h => absurd rfl h
  | t :: r, _ => rfl
theorem sort_prs (m : Bool) (ts : List (Int × Int)) (h : AH) : uL (.sorted m) (ts.map prA) h = mk m ((isort plt ts).map prA) h := by
  show (match sortA (ts.map prA) with | some ys => mk m ys h | none => .stuck) = _
  unfold sortA
  cases ts with
  | nil => rfl
  | cons t r =>
    rw [intsO_prs (t :: r) (by simp), strsO_prs (t :: r) (by simp), prs_of]
/-- cut at the end alone, at the front alone -/
theorem cut_to {α : Type} (xs : List α) {k : Int} (h : 0 ≤ k) : cut xs none (some k) = xs.take k.toNat := by
  unfold cut sIx
  simp [h]
theorem cut_map {α β : Type} (f : α → β) (xs : List α) (lo hi : Option Int) : cut (xs.map f) lo hi = (cut xs lo hi).map f := by
  unfold cut
  simp [List.map_drop, List.map_take]

@[simp] theorem atI_lit {α : Type} (xs : List α) (n : Nat) : atI xs (no_index (OfNat.ofNat n : Int)) = xs[n]? := by
  have e : (OfNat.ofNat n : Int) = (n : Int) := rfl
  rw [e]
  by_cases h : n < xs.length
  · exact atI_nat h
  · unfold atI ixN
    simp [h]
theorem atI_neg {α : Type} (xs : List α) {n : Nat} (h : 0 < n) (h2 : n ≤ xs.length) : atI xs (-(n : Int)) = xs[xs.length - n]? := by
  unfold atI ixN
  rw [if_neg (by omega), if_pos (by omega)]
  have : (-(n : Int) + (xs.length : Int)).toNat = xs.length - n := by omega
  simp [this]
@[simp] theorem idx_lst (xs : List AV) (i : Int) (h : AH) : idxA (.lst xs) (.int i) h = atI xs i := rfl
@[simp] theorem idx_tup (xs : List AV) (i : Int) (h : AH) : idxA (.tup xs) (.int i) h = atI xs i := rfl
@[simp] theorem idx_str (a : Tx) (i : Int) (h : AH) : idxA (.str a) (.int i) h = if a.length ≤ 16777216 then (atI a i).map (fun c => .str [c]) else none := rfl
theorem idx_ref {r : Nat} {h : AH} {xs : List AV} (e : hget h r = some (.lst xs)) (i : Int) : idxA (.ref r) (.int i) h = atI xs i := by
  show (match seqOf (.ref r) h with | some xs => atI xs i | none => _) = _
  rw [seq_ref, e]

theorem cut_to_neg {α : Type} (xs : List α) (k : Nat) (h : 0 < k) : cut xs none (some (-(k : Int))) = xs.take (xs.length - k) := by
  unfold cut sIx
  simp only
  rw [if_neg (by omega)]
  have : (-(k : Int) + (xs.length : Int)).toNat = xs.length - k := by omega
  rw [this]
  simp
theorem cut_from_neg {α : Type} (xs : List α) (k : Nat) (h : 0 < k) : cut xs (some (-(k : Int))) none = xs.drop (xs.length - k) := by
  unfold cut sIx
  simp only
  rw [if_neg (by omega)]
  have : (-(k : Int) + (xs.length : Int)).toNat = xs.length - k := by omega
  rw [this]
  rw [List.take_of_length_le]
  simp

/-! lists compared -/
theorem eqA_lst {xs ys : List AV} (h1 : AV.dataL xs = true) (h2 : AV.dataL ys = true) (h3 : AV.depL xs ≤ 63) (h4 : AV.depL ys ≤ 63) : eqA (.lst xs) (.lst ys) = some (decide (xs = ys)) := by
  have e : eqA (.lst xs) (.lst ys) = if ((AV.lst xs).flat && (AV.lst ys).flat) || ((AV.lst xs).data && (AV.lst ys).data && decide ((AV.lst xs).dep ≤ 64) && decide ((AV.lst ys).dep ≤ 64)) then some (decide (AV.lst xs = AV.lst ys)) else none := rfl
  have d1 : (AV.lst xs).data = true := h1
  have d2 : (AV.lst ys).data = true := h2
  have p1 : (AV.lst xs).dep ≤ 64 := by show AV.depL xs + 1 ≤ 64; omega
  have p2 : (AV.lst ys).dep ≤ 64 := by show AV.depL ys + 1 ≤ 64; omega
  rw [e, d1, d2]
  simp [p1, p2]
theorem eqA_tup {xs ys : List AV} (h1 : AV.dataL xs = true) (h2 : AV.dataL ys = true) (h3 : AV.depL xs ≤ 63) (h4 : AV.depL ys ≤ 63) : eqA (.tup xs) (.tup ys) = some (decide (xs = ys)) := by
  have e : eqA (.tup xs) (.tup ys) = if ((AV.tup xs).flat && (AV.tup ys).flat) || ((AV.tup xs).data && (AV.tup ys).data && decide ((AV.tup xs).dep ≤ 64) && decide ((AV.tup ys).dep ≤ 64)) then some (decide (AV.tup xs = AV.tup ys)) else none := rfl
  have d1 : (AV.tup xs).data = true := h1
  have d2 : (AV.tup ys).data = true := h2
  have p1 : (AV.tup xs).dep ≤ 64 := by show AV.depL xs + 1 ≤ 64; omega
  have p2 : (AV.tup ys).dep ≤ 64 := by show AV.depL ys + 1 ≤ 64; omega
  rw [e, d1, d2]
  simp [p1, p2]
theorem eq_lst {xs ys : List AV} (h : AH) (h1 : AV.dataL xs = true) (h2 : AV.dataL ys = true) (h3 : AV.depL xs ≤ 63) (h4 : AV.depL ys ≤ 63) : cmpA .eq (.lst xs) (.lst ys) h = .ok (.bl (decide (xs = ys))) h := by
  show someB (eqA (.lst xs) (.lst ys)) h = _
  rw [eqA_lst h1 h2 h3 h4]
  rfl
theorem ne_lst {xs ys : List AV} (h : AH) (h1 : AV.dataL xs = true) (h2 : AV.dataL ys = true) (h3 : AV.depL xs ≤ 63) (h4 : AV.depL ys ≤ 63) : cmpA .ne (.lst xs) (.lst ys) h = .ok (.bl (!decide (xs = ys))) h := by
  show someB (notO (eqA (.lst xs) (.lst ys))) h = _
  rw [eqA_lst h1 h2 h3 h4]
  rfl
theorem eq_tup {xs ys : List AV} (h : AH) (h1 : AV.dataL xs = true) (h2 : AV.dataL ys = true) (h3 : AV.depL xs ≤ 63) (h4 : AV.depL ys ≤ 63) : cmpA .eq (.tup xs) (.tup ys) h = .ok (.bl (decide (xs = ys))) h := by
  show someB (eqA (.tup xs) (.tup ys)) h = _
  rw [eqA_tup h1 h2 h3 h4]
  rfl
theorem ne_tup {xs ys : List AV} (h : AH) (h1 : AV.dataL xs = true) (h2 : AV.dataL ys = true) (h3 : AV.depL xs ≤ 63) (h4 : AV.depL ys ≤ 63) : cmpA .ne (.tup xs) (.tup ys) h = .ok (.bl (!decide (xs = ys))) h := by
  show someB (notO (eqA (.tup xs) (.tup ys))) h = _
  rw [eqA_tup h1 h2 h3 h4]
  rfl
theorem dataL_map {β : Type} (f : β → AV) : ∀ {xs : List β}, (∀ x ∈ xs, (f x).data = true) → AV.dataL (xs.map f) = true
  | [], _ => rfl
  | x :: r, h => by
    show ((f x).data && AV.dataL (r.map f)) = true
    rw [h x List.mem_cons_self, dataL_map f fun y hy => h y (List.mem_cons_of_mem _ hy)]
    rfl
theorem depL_map {β : Type} (f : β → AV) {n : Nat} : ∀ {xs : List β}, (∀ x ∈ xs, (f x).dep ≤ n) → AV.depL (xs.map f) ≤ n
  | [], _ => Nat.zero_le _
  | x :: r, h => by
    show max (f x).dep (AV.depL (r.map f)) ≤ n
    have h1 := h x List.mem_cons_self
    have h2 := depL_map f fun y hy => h y (List.mem_cons_of_mem _ hy)
    omega
theorem dataL_ints (xs : List Int) : AV.dataL (xs.map .int) = true := dataL_map _ fun _ _ => rfl
theorem depL_ints (xs : List Int) : AV.depL (xs.map .int) ≤ 63 := depL_map _ fun _ _ => Nat.zero_le _
theorem inj_map {α β : Type} {f : α → β} (hf : ∀ a b, f a = f b → a = b) : ∀ {xs ys : List α}, xs.map f = ys.map f → xs = ys
  | [], [], _ => rfl
  | [], _ :: _, h => by cases h
  | _ :: _, [], h => by cases h
  | x :: r, y :: u, h => by
    simp only [List.map_cons, List.cons.injEq] at h
    rw [hf _ _ h.1, inj_map hf h.2]
theorem ne_ints (xs ys : List Int) (h : AH) : cmpA .ne (.lst (xs.map .int)) (.lst (ys.map .int)) h = .ok (.bl (!decide (xs = ys))) h := by
  rw [ne_lst h (dataL_ints _) (dataL_ints _) (depL_ints _) (depL_ints _)]
  congr 4
  exact propext ⟨fun e => inj_map (fun _ _ z => by cases z; rfl) e, fun e => by rw [e]⟩
theorem data_str {a : Tx} (h : ∀ c ∈ a, c < 1114112) : (AV.str a).data = true := by
  show (a.all fun c => decide (c < 1114112)) = true
  rw [List.all_eq_true]
  intro c hc
  simpa using h c hc
@[simp] theorem sorted_lst (m : Bool) (xs : List AV) (h : AH) : uA (.sorted m) (.lst xs) h = uL (.sorted m) xs h := rfl
theorem sum_lst_ints {xs : List Int} {h : AH} : uA .sum (.lst (xs.map .int)) h = .ok (.int xs.sum) h := sum_ints_lst xs h
@[simp] theorem add_lst (m : Bool) (xs ys : List AV) (h : AH) : binA m .add (.lst xs) (.lst ys) h = if xs.length + ys.length ≤ 16777216 then mkLst m (xs ++ ys) h else .stuck := rfl
@[simp] theorem list_tup (m : Bool) (xs : List AV) (h : AH) : uA (.list m) (.tup xs) h = mk m xs h := rfl
@[simp] theorem list_lst (m : Bool) (xs : List AV) (h : AH) : uA (.list m) (.lst xs) h = mk m xs h := rfl
theorem drop_one {α : Type} (t : List α) : cut t (some 1) none = t.drop 1 := by
  cases t with
  | nil => rfl
  | cons c r => simp [cut, sIx]
end TL

/-! LawN: numbers as texts, texts that are parted -/
set_option Elab.async false
set_option linter.all false
set_option autoImplicit false
set_option maxRecDepth 100000
namespace TL
open TX
theorem natTx_lt {n : Nat} (h : n < 10) : natTx n = [48 + n] := by
  unfold natTx
  rw [Nat.toDigits_of_lt_base h]
  have : ∀ d < 10, (Nat.digitChar d).toNat = 48 + d := by decide
  simp [this n h]
theorem natTx_ge {n : Nat} (h : 10 ≤ n) : natTx n = natTx (n / 10) ++ [48 + n % 10] := by
  unfold natTx
  rw [Nat.toDigits_of_base_le (by decide) h]
  have : ∀ d < 10, (Nat.digitChar d).toNat = 48 + d := by decide
  simp [this (n % 10) (Nat.mod_lt _ (by decide))]
def digit (c : Nat) : Bool := decide (48 ≤ c) && decide (c ≤ 57)
theorem mem_digits (c : Nat) : decide (c ∈ [48, 49, 50, 51, 52, 53, 54, 55, 56, 57]) = digit c := by
  unfold digit
  rw [← Bool.decide_and]
  congr 1
  apply propext
  simp
  omega
theorem natTx_digits : ∀ (n : Nat), (natTx n).all digit = true := by
  intro n
  induction n using Nat.strongRecOn with
  | _ n ih =>
    by_cases h : n < 10
    · rw [natTx_lt h]
      simp [digit]
      omega
    · rw [natTx_ge (by omega)]
      simp only [List.all_append, ih (n / 10) (by omega), List.all_cons, List.all_nil, Bool.true_and, Bool.and_true]
      have := Nat.mod_lt n (show 0 < 10 by decide)
      simp [digit]
      omega
theorem natTx_ne (n : Nat) : natTx n ≠ [] := by
  by_cases h : n < 10
  · rw [natTx_lt h]; simp
  · rw [natTx_ge (by omega)]; simp
theorem natTx_length {n k : Nat} (hk : 0 < k) (h : n < 10 ^ k) : (natTx n).length ≤ k := by
  induction k generalizing n with
  | zero => omega
  | succ k ih =>
    by_cases h1 : n < 10
    · rw [natTx_lt h1]; simp
    · rw [natTx_ge (by omega)]
      have hk2 : 0 < k := by
        cases k with
        | zero => simp at h; omega
        | succ k => omega
      have := ih hk2 (n := n / 10) (by rw [Nat.pow_succ] at h; omega)
      simp
      exact this
theorem natTx_head {n : Nat} (h : 0 < n) : ∃ c r, natTx n = c :: r ∧ c ≠ 48 := by
  induction n using Nat.strongRecOn with
  | _ n ih =>
    by_cases h1 : n < 10
    · exact ⟨48 + n, [], natTx_lt h1, by omega⟩
    · obtain ⟨c, r, e, hc⟩ := ih (n / 10) (by omega) (by omega)
      exact ⟨c, r ++ [48 + n % 10], by rw [natTx_ge (by omega), e]; rfl, hc⟩
theorem numTx_app {d : Nat} (hd : d < 10) : ∀ (a : Tx) (acc : Nat), numTx acc (a ++ [48 + d]) = (numTx acc a).map fun n => n * 10 + d
  | [], acc => by
    show (if 48 ≤ 48 + d ∧ 48 + d ≤ 57 then numTx (acc * 10 + (48 + d - 48)) [] else none) = _
    rw [if_pos (by omega)]
    simp [numTx]
  | c :: r, acc => by
    show (if 48 ≤ c ∧ c ≤ 57 then numTx (acc * 10 + (c - 48)) (r ++ [48 + d]) else none) = Option.map _ (if 48 ≤ c ∧ c ≤ 57 then numTx (acc * 10 + (c - 48)) r else none)
    split
    · exact numTx_app hd r _
    · rfl
theorem numTx_natTx (n : Nat) : numTx 0 (natTx n) = some n := by
  induction n using Nat.strongRecOn with
  | _ n ih =>
    by_cases h : n < 10
    · rw [natTx_lt h]
      simp [numTx]
      omega
    · rw [natTx_ge (by omega), numTx_app (Nat.mod_lt _ (by decide)), ih (n / 10) (by omega)]
      simp
      omega
theorem natTx_100 : ∀ {r : Nat}, r < 100 → natTx (r + 100) = [49, 48 + r / 10, 48 + r % 10] := by
  intro r h
  rw [natTx_ge (by omega), natTx_ge (by omega), natTx_lt (by omega)]
  have e1 : (r + 100) / 10 / 10 = 1 := by omega
  have e2 : (r + 100) / 10 % 10 = r / 10 := by omega
  have e3 : (r + 100) % 10 = r % 10 := by omega
  rw [e1, e2, e3]
  rfl
theorem digit_dot {a : Tx} (h : a.all digit = true) {c : Nat} (hc : digit c = false) : c ∉ a := by
  intro m
  have := List.all_eq_true.mp h c m
  rw [hc] at this
  cases this
/-! parted by a sign -/
theorem splitGo_none {c : Nat} : ∀ {r acc : Tx}, c ∉ r → splitGo c acc r = [acc ++ r]
  | [], acc, _ => by simp [splitGo]
  | d :: r, acc, h => by
    have h1 : d ≠ c := fun e => h (by simp [e])
    have h2 : c ∉ r := fun e => h (List.mem_cons_of_mem _ e)
    unfold splitGo
    rw [if_neg h1, splitGo_none h2]
    simp
theorem splitGo_mid {c : Nat} : ∀ {a acc b : Tx}, c ∉ a → splitGo c acc (a ++ c :: b) = (acc ++ a) :: splitGo c [] b
  | [], acc, b, _ => by simp [splitGo]
  | d :: r, acc, b, h => by
    have h1 : d ≠ c := fun e => h (by simp [e])
    have h2 : c ∉ r := fun e => h (List.mem_cons_of_mem _ e)
    show (if d = c then acc :: splitGo c [] (r ++ c :: b) else splitGo c (acc ++ [d]) (r ++ c :: b)) = _
    rw [if_neg h1, splitGo_mid h2]
    simp
theorem splitTx_none {c : Nat} {a : Tx} (h : c ∉ a) : splitTx a c = [a] := by
  unfold splitTx
  rw [splitGo_none h]
  rfl
theorem splitTx_mid {c : Nat} {a b : Tx} (h : c ∉ a) : splitTx (a ++ c :: b) c = a :: splitTx b c := by
  unfold splitTx
  rw [splitGo_mid h]
  rfl
/-- a text: no such sign, or all up to the first one -/
theorem first_sign (c : Nat) : ∀ a : Tx, c ∉ a ∨ ∃ p q, a = p ++ c :: q ∧ c ∉ p
  | [] => .inl (by simp)
  | d :: r => by
    by_cases e : d = c
    · exact .inr ⟨[], r, by rw [e]; rfl, by simp⟩
    · rcases first_sign c r with h | ⟨p, q, h1, h2⟩
      · exact .inl (by simp [h]; exact fun x => e x.symm)
      · exact .inr ⟨d :: p, q, by rw [h1]; rfl, by simp [h2]; exact fun x => e x.symm⟩

/-! numbers told as they stand -/
theorem fdiv_lit (k n : Nat) : (k : Int).fdiv (no_index (OfNat.ofNat n : Int)) = ((k / n : Nat) : Int) := by
  have e : (OfNat.ofNat n : Int) = (n : Int) := rfl
  rw [e, Int.fdiv_eq_ediv_of_nonneg _ (by omega)]
  rfl
theorem fmod_lit (k n : Nat) : (k : Int).fmod (no_index (OfNat.ofNat n : Int)) = ((k % n : Nat) : Int) := by
  have e : (OfNat.ofNat n : Int) = (n : Int) := rfl
  rw [e, Int.fmod_eq_emod_of_nonneg _ (by omega)]
  rfl
@[simp] theorem intTx_nat (k : Nat) : intTx (k : Int) = natTx k := by
  unfold intTx
  rw [if_neg (by omega)]
  rfl
theorem intTx_neg {k : Nat} (h : 0 < k) : intTx (-(k : Int)) = 45 :: natTx k := by
  unfold intTx
  rw [if_pos (by omega)]
  simp
theorem log2_small {k : Nat} (h : k < 1000000000000000000) : k.log2 < 1920 := by
  by_cases h0 : k = 0
  · subst h0; decide
  · rw [Nat.log2_lt h0]
    exact Nat.lt_of_lt_of_le h (by decide +kernel)
theorem fsPart_nat {k : Nat} (h : k < 1000000000000000000) : fsPart (.int (k : Int)) = some (natTx k) := by
  show (if (k : Int).natAbs.log2 < 1920 then some (intTx k) else none) = _
  rw [if_pos (by simpa using log2_small h), intTx_nat]
theorem fsPart_int {i : Int} (h : i.natAbs < 1000000000000000000) : fsPart (.int i) = some (intTx i) := by
  show (if i.natAbs.log2 < 1920 then some (intTx i) else none) = _
  rw [if_pos (log2_small h)]
theorem str_nat {k : Nat} (g : AH) (h : k < 1000000000000000000) : uA .str (.int (k : Int)) g = .ok (.str (natTx k)) g := by
  show (if (k : Int).natAbs.log2 < 1920 then Out.ok (AV.str (intTx k)) g else .stuck) = _
  rw [if_pos (by simpa using log2_small h), intTx_nat]
theorem str_int {i : Int} (g : AH) (h : i.natAbs < 1000000000000000000) : uA .str (.int i) g = .ok (.str (intTx i)) g := by
  show (if i.natAbs.log2 < 1920 then Out.ok (AV.str (intTx i)) g else .stuck) = _
  rw [if_pos (log2_small h)]
theorem fsPart_str {a : Tx} (h : a.length ≤ 4000) : fsPart (.str a) = some a := by
  show (if a.length ≤ 4000 then some a else none) = _
  rw [if_pos h]
theorem int_digits {a : Tx} {n : Nat} (g : AH) (h : numTx 0 a = some n) (ne : a ≠ []) (hl : a.length ≤ 640) : uA .int (.str a) g = .ok (.int n) g := by
  cases a with
  | nil => exact absurd rfl ne
  | cons c r =>
    show (if (c :: r).length ≤ 640 then (match numTx 0 (c :: r) with | some n => Out.ok (AV.int n) g | none => .stuck) else .stuck) = _
    rw [if_pos hl, h]
/-- the number that figures tell -/
def numV (acc : Nat) : Tx → Nat
  | [] => acc
  | c :: r => numV (acc * 10 + (c - 48)) r
theorem numTx_digits : ∀ {a : Tx} {acc : Nat}, a.all digit = true → numTx acc a = some (numV acc a)
  | [], _, _ => rfl
  | c :: r, acc, h => by
    simp only [List.all_cons, Bool.and_eq_true] at h
    have h1 := h.1
    simp [digit] at h1
    unfold numTx
    rw [if_pos h1]
    exact numTx_digits h.2
theorem numV_app : ∀ (a b : Tx) (acc : Nat), numV acc (a ++ b) = numV (numV acc a) b
  | [], _, _ => rfl
  | c :: r, b, acc => numV_app r b _

theorem splitGo_len (c : Nat) : ∀ (r acc : Tx), (splitGo c acc r).length ≤ r.length + 1
  | [], acc => by simp [splitGo]
  | d :: r, acc => by
    show (if d = c then acc :: splitGo c [] r else splitGo c (acc ++ [d]) r).length ≤ r.length + 1 + 1
    split
    · have := splitGo_len c r []
      simp
      omega
    · have := splitGo_len c r (acc ++ [d])
      omega
theorem splitTx_len (a : Tx) (c : Nat) : (splitTx a c).length ≤ a.length + 1 := splitGo_len c a []
/-- two parts: what they are of -/
theorem split_two {a p q : Tx} {c : Nat} (h : splitTx a c = [p, q]) : a = p ++ c :: q ∧ c ∉ p ∧ c ∉ q := by
  rcases first_sign c a with h1 | ⟨u, v, rfl, h2⟩
  · rw [splitTx_none h1] at h
    cases h
  · rw [splitTx_mid h2] at h
    rcases first_sign c v with h3 | ⟨u2, v2, rfl, h4⟩
    · rw [splitTx_none h3] at h
      cases h
      exact ⟨rfl, h2, h3⟩
    · rw [splitTx_mid h4] at h
      cases h5 : splitTx v2 c with
      | nil =>
        unfold splitTx at h5
        have : ∀ (r acc : Tx), splitGo c acc r ≠ [] := by
          intro r
          induction r with
          | nil => intro acc; simp [splitGo]
          | cons d r ih =>
            intro acc
            show (if d = c then acc :: splitGo c [] r else splitGo c (acc ++ [d]) r) ≠ []
            split
            · simp
            · exact ih _
        exact absurd h5 (this _ _)
      | cons x y => rw [h5] at h; cases h
end TL

/-! LawD: the dice as a value; heaps with the dice at the bottom -/
set_option Elab.async false
set_option linter.all false
set_option autoImplicit false
set_option maxRecDepth 100000
set_option maxHeartbeats 2000000
namespace TL
open TX
abbrev D3 := Int × Int × Int
def dO (d : D3) : AO := .lst [.int d.1, .int d.2.1, .int d.2.2]
/-- a heap: the dice first, the others behind (the newest first) -/
def hd (os : AH) (d : D3) : AH := os ++ [dO d]
def rollV (d : D3) (m : Int) : Int :=
  if d.2.2 = 2 ∨ (d.2.2 = 1 ∧ 0 < d.1) then d.1.fmod m else (((d.1 * 48271 + d.2.1 * 69621 + 11).fmod 2147483647).fdiv 7).fmod m
def rollN (d : D3) (m : Int) : D3 :=
  if d.2.2 = 2 ∨ (d.2.2 = 1 ∧ 0 < d.1) then (d.1.fdiv m, d.2.1, d.2.2) else ((d.1 * 48271 + d.2.1 * 69621 + 11).fmod 2147483647, d.2.1 + 1, 0)
theorem roll_lo (d : D3) {m : Int} (h : 1 ≤ m) : 0 ≤ rollV d m := by
  unfold rollV
  split <;> exact Int.fmod_nonneg_of_pos _ (by omega)
theorem roll_hi (d : D3) {m : Int} (h : 1 ≤ m) : rollV d m < m := by
  unfold rollV
  split <;> exact Int.fmod_lt_of_pos _ (by omega)
/-- a roll, told as a whole number -/
theorem roll_ex (d : D3) (m : Int) (h : 1 ≤ m) : ∃ k : Nat, rollV d m = k ∧ (k : Int) < m := by
  have h1 := roll_lo d h
  have h2 := roll_hi d h
  exact ⟨(rollV d m).toNat, by omega, by omega⟩
@[simp] theorem hd_cons (o : AO) (os : AH) (d : D3) : o :: hd os d = hd (o :: os) d := rfl
@[simp] theorem hd_length (os : AH) (d : D3) : (hd os d).length = os.length + 1 := by simp [hd]
@[simp] theorem hget_hd (o : AO) (os : AH) (d : D3) (i : Nat) : hget (hd (o :: os) d) i = if i = os.length + 1 then some o else hget (hd os d) i := by
  show hget (o :: (os ++ [dO d])) i = _
  simp [hget, hd]
@[simp] theorem hget_hd0 (d : D3) (i : Nat) : hget (hd [] d) i = if i = 0 then some (dO d) else none := rfl
theorem hget_dice : ∀ (os : AH) (d : D3), hget (hd os d) 0 = some (dO d)
  | [], d => rfl
  | o :: os, d => by rw [hget_hd, if_neg (by omega), hget_dice os d]
theorem hset_dice : ∀ (os : AH) (d e : D3), hset (hd os d) 0 (dO e) = hd os e
  | [], d, e => rfl
  | o :: os, d, e => by
    show hset (o :: (os ++ [dO d])) 0 (dO e) = _
    have ih := hset_dice os d e
    unfold hd at ih
    simp [hset, ih, hd]
@[simp] theorem hset_hd (o u : AO) (os : AH) (d : D3) (i : Nat) : hset (hd (o :: os) d) i u = if i = os.length + 1 then hd (u :: os) d else o :: hset (hd os d) i u := by
  show hset (o :: (os ++ [dO d])) i u = _
  simp [hset, hd]
theorem roll_hd {P : Prog} {q n : Nat} (pq : P q = some ⟨3, 2, rollF q⟩) (os : AH) (d : D3) {m : Int} (hm : 1 ≤ m) (hm2 : m ≤ 100000000) :
    pg P (n + 1) 0 q [.ref 0, .int m] (hd os d) = .ok (.int (rollV d m)) (hd os (rollN d m)) := by
  obtain ⟨a, c, f⟩ := d
  have e := hget_dice os (a, c, f)
  simp only [dO] at e
  have hs : ∀ (x y z : Int), hset (hd os (a, c, f)) 0 (.lst [.int x, .int y, .int z]) = hd os (x, y, z) := fun x y z => hset_dice os (a, c, f) (x, y, z)
  have m0 : m ≠ 0 := by omega
  have mA : m.natAbs < 1073741824 := by omega
  have g1 : ¬ 100000000 < m := by omega
  have hl := hget_lt e
  have hl2 : ∀ d' : D3, (hd os d').length = (hd os (a, c, f)).length := fun d' => by simp
  rw [ap_runDef pq rfl]
  unfold rollV rollN
  by_cases c1 : f = 2 ∨ (f = 1 ∧ 0 < a)
  · rw [if_pos c1, if_pos c1]
    rcases c1 with h1 | ⟨h1, h2⟩
    · subst h1
      simp [TX.start, rollF, idxA, e, gN, m0, mA, setA, ixN, hs, gcRet_len]
    · subst h1
      simp [TX.start, rollF, idxA, e, gN, m0, mA, setA, ixN, hs, gcRet_len, h2]
  · rw [if_neg c1, if_neg c1]
    have h1 : ¬ f = 2 := fun z => c1 (.inl z)
    have e2 : ∀ x y z : Int, hget (hd os (x, y, z)) 0 = some (.lst [.int x, .int y, .int z]) := fun x y z => hget_dice os (x, y, z)
    have hs2 : ∀ (d' : D3) (x y z : Int), hset (hd os d') 0 (.lst [.int x, .int y, .int z]) = hd os (x, y, z) := fun d' x y z => hset_dice os d' (x, y, z)
    by_cases h3 : f = 1
    · have h2 : ¬ 0 < a := fun z => c1 (.inr ⟨h3, z⟩)
      simp [TX.start, rollF, idxA, e2, h1, h2, h3, gN, m0, mA, setA, ixN, hs2, gcRet_len, g1]
    · simp [TX.start, rollF, idxA, e2, h1, h3, gN, m0, mA, setA, ixN, hs2, gcRet_len, g1]
/-- behind a call that has rolled: what it made is let go -/
theorem gcOk_hd (n : Nat) (d e : D3) : ∀ os : AH, gcOk n (hd os d) (hd os e) = true
  | [] => by
    show (((dO e).under n || decide (dO d = dO e)) && true) = true
    have : (dO e).under n = true := rfl
    simp [this]
  | o :: os => by
    have ih := gcOk_hd n d e os
    show ((o.under n || decide (o = o)) && gcOk n (hd os d) (hd os e)) = true
    rw [ih]
    simp
theorem gcRet_hd (as : AH) {os : AH} {d e : D3} {v : AV} (hv : v.under (os.length + 1) = true) : gcRet (hd os d) v (hd (as ++ os) e) = .ok v (hd os e) := by
  unfold gcRet
  have e2 : (hd (as ++ os) e).drop ((hd (as ++ os) e).length - (hd os d).length) = hd os e := by
    have e4 : (hd (as ++ os) e).length - (hd os d).length = as.length := by simp
    rw [e4]
    have e3 : hd (as ++ os) e = as ++ hd os e := by simp [hd]
    rw [e3, List.drop_left]
  rw [e2, hd_length, hv, gcOk_hd]
  rfl
@[simp] theorem gcRet_hd0 {os : AH} {d e : D3} {v : AV} : gcRet (hd os d) v (hd os e) = .ok v (hd os e) := by
  unfold gcRet
  split
  · have e4 : (hd os e).length - (hd os d).length = 0 := by simp
    rw [e4, List.drop_zero]
  · rfl
theorem rounds_hd {P : Prog} {q qd n : Nat} (pd : P qd = some ⟨1, 1, diceF⟩) (pr : P q = some ⟨4, 2, roundsF qd⟩) (ns : List Int) : ∃ d : D3, pg P (n + 2) 0 q [.scr (ns.map .int), .int 1] [] = .ok (.lst [.ref 0]) (hd [] d) := by
  obtain ⟨a, c, f, e⟩ := rounds_ok (n := n) pd pr ns []
  exact ⟨(a, c, f), e⟩
/-- a closed tail that tells True -/
def saysTrue (o : Out Fl) : Bool := match o with
  | .ok (.rt (.bl true)) _ => true
  | _ => false
theorem cl_true {b : SF} {φ : Fn} {s : St} {n : Nat} (h : AH) (e : saysTrue (b φ (List.replicate n none) []) = true) (hn : s.length = n) : sCl b φ s h = .ok (.rt (.bl true)) h := by
  unfold sCl
  rw [hn]
  unfold saysTrue at e
  split at e
  · rename_i z; rw [z]; rfl
  · cases e
/-- a roll, with names for what comes -/
theorem roll_all {P : Prog} {q n : Nat} (pq : P q = some ⟨3, 2, rollF q⟩) (d : D3) (m : Int) (hm : 1 ≤ m) (hm2 : m ≤ 100000000) :
    ∃ v d', (∀ os, pg P (n + 1) 0 q [.ref 0, .int m] (hd os d) = .ok (.int v) (hd os d')) ∧ 0 ≤ v ∧ v < m :=
  ⟨_, _, fun os => roll_hd pq os d hm hm2, roll_lo d hm, roll_hi d hm⟩
/-- a comprehension that rolls for each item -/
theorem lc_roll {β : Type} {φ : Fn} {g : TF} {c e : EF} {s0 : St} {os : AH} (F : β → AV) (Q : β → Prop) : ∀ {items : List AV} {d : D3},
    (∀ x ∈ items, ∃ st, (∀ h, g x s0 h = some st) ∧ (∀ h, c φ st h = .ok (.bl true) h) ∧ ∀ d, ∃ v d', e φ st (hd os d) = .ok (F v) (hd os d') ∧ Q v) →
    ∃ (vs : List β) (d' : D3), lcGo φ g c e s0 [] items (hd os d) = .ok (vs.map F) (hd os d') ∧ vs.length = items.length ∧ ∀ v ∈ vs, Q v
  | [], d, _ => ⟨[], d, by unfold lcGo; rfl, rfl, fun v hv => nomatch hv⟩
  | x :: r, d, hx => by
    obtain ⟨st, h1, h2, h3⟩ := hx x List.mem_cons_self
    obtain ⟨v, d1, h4, h5⟩ := h3 d
    obtain ⟨vs, d2, h6, h7, h8⟩ := lc_roll F Q (items := r) (d := d1) fun y hy => hx y (List.mem_cons_of_mem _ hy)
    refine ⟨v :: vs, d2, ?_, by simp [h7], fun w hw => ?_⟩
    · unfold lcGo
      simp [h1, h2, h4, h6]
    · rcases List.mem_cons.mp hw with rfl | hw
      · exact h5
      · exact h8 w hw
theorem rng_length : ∀ (n : Nat) (lo : Int), (rng lo n).length = n
  | 0, _ => rfl
  | n + 1, lo => by simp [rng, rng_length n]
/-- a for loop that goes through: what holds behind the first so many items -/
theorem for_pre {β : Type} {φ : Fn} {g : TF} {b : SF} {gd : Gd} (f : β → AV) (R : List β → St → AH → Prop) : ∀ {todo done : List β} {s : St} {h : AH},
    (∀ dn s h, R dn s h → gOk gd h = true) →
    (∀ dn x rest, done ++ todo = dn ++ x :: rest → ∀ s h, R dn s h → ∃ s1 s2 h2, g (f x) s h = some s1 ∧ (b φ s1 h = .ok (.nx s2) h2 ∨ b φ s1 h = .ok (.ct s2) h2) ∧ R (dn ++ [x]) s2 h2) → R done s h →
    ∃ s2 h2, forGo φ g b gd (todo.map f) s h = .ok (.nx s2) h2 ∧ R (done ++ todo) s2 h2
  | [], done, s, h, hk, _, hr => ⟨s, h, by show forGo φ g b gd [] s h = _; unfold forGo; rw [if_pos (hk _ s h hr)], by simpa using hr⟩
  | x :: r, done, s, h, hk, hx, hr => by
    obtain ⟨s1, s2, h2, e1, e2, hr2⟩ := hx done x r rfl s h hr
    obtain ⟨s3, h3, e3, hr3⟩ := for_pre f R (todo := r) (done := done ++ [x]) hk (fun dn y rest he => hx dn y rest (by rw [← he]; simp)) hr2
    refine ⟨s3, h3, ?_, by simpa using hr3⟩
    show forGo φ g b gd (f x :: r.map f) s h = _
    unfold forGo
    rw [if_pos (hk _ s h hr), e1]
    rcases e2 with e2 | e2 <;> simp only [e2, out_bind_ok, e3]
@[simp] theorem gcRet_nil (b : Bool) (h : AH) : gcRet [] (.bl b) h = .ok (.bl b) [] := by
  unfold gcRet
  simp [AV.under, gcOk]
def Yes (o : Out AV) : Prop := ∃ h, o = .ok (.bl true) h
@[simp] theorem yes_true (h : AH) : Yes (.ok (.bl true) h) := ⟨h, rfl⟩
theorem yes_of {o : Out AV} (h : Yes o) : ∃ h, o = .ok (.bl true) h := h
end TL

/-! LawE: loops over numbers, while loops -/
set_option Elab.async false
set_option linter.all false
set_option autoImplicit false
set_option maxRecDepth 100000
set_option maxHeartbeats 2000000
namespace TL
open TX
theorem for_rng {φ : Fn} {g : TF} {b : SF} {lo : Int} (R : Nat → St → AH → Prop) : ∀ {k : Nat} {s : St} {h : AH},
    (∀ i, i < k → ∀ s h, R i s h → ∃ s1 s2 h2, g (.int (lo + i)) s h = some s1 ∧ (b φ s1 h = .ok (.nx s2) h2 ∨ b φ s1 h = .ok (.ct s2) h2) ∧ R (i + 1) s2 h2) → R 0 s h →
    ∃ s2 h2, forGo φ g b [] (rng lo k) s h = .ok (.nx s2) h2 ∧ R k s2 h2 := by
  intro k s h hx hr
  have key : ∀ (m j : Nat) (s : St) (h : AH), j + m = k → R j s h → ∃ s2 h2, forGo φ g b [] (rng (lo + j) m) s h = .ok (.nx s2) h2 ∧ R k s2 h2 := by
    intro m
    induction m with
    | zero =>
      intro j s h e hr
      have : j = k := by omega
      subst this
      exact ⟨s, h, by unfold rng forGo; rfl, hr⟩
    | succ m ih =>
      intro j s h e hr
      obtain ⟨s1, s2, h2, e1, e2, hr2⟩ := hx j (by omega) s h hr
      obtain ⟨s3, h3, e3, hr3⟩ := ih (j + 1) s2 h2 (by omega) hr2
      refine ⟨s3, h3, ?_, hr3⟩
      have e4 : lo + ((j + 1 : Nat) : Int) = lo + j + 1 := by push_cast; omega
      rw [e4] at e3
      unfold rng forGo
      rw [if_pos (gOk_nil h), e1]
      rcases e2 with e2 | e2 <;> simp only [e2, out_bind_ok, e3]
  have := key k 0 s h (by omega) hr
  simpa using this
/-- a while loop: what holds each time around, and what falls -/
theorem wh_run {γ : Type} {φ : Fn} {cnd : EF} {b : SF} (R : γ → St → AH → Prop) (cond : γ → Bool) (step : γ → γ) (μ : γ → Nat)
    (hx : ∀ c s h, R c s h → cnd φ s h = .ok (.bl (cond c)) h ∧ (cond c = true → ∃ s2 h2, (b φ s h = .ok (.nx s2) h2 ∨ b φ s h = .ok (.ct s2) h2) ∧ R (step c) s2 h2 ∧ μ (step c) < μ c)) :
    ∀ {n : Nat} {c : γ} {s : St} {h : AH}, R c s h → μ c < n → ∃ c' s' h', whGo φ cnd b n s h = .ok (.nx s') h' ∧ R c' s' h' ∧ cond c' = false := by
  intro n
  induction n with
  | zero => intro c s h _ h2; omega
  | succ n ih =>
    intro c s h hr hm
    obtain ⟨e1, e2⟩ := hx c s h hr
    unfold whGo
    simp only [e1, out_bind_ok, tst_bl]
    cases hc : cond c with
    | false => exact ⟨c, s, h, by simp, hr, hc⟩
    | true =>
      obtain ⟨s2, h2, e3, hr2, hm2⟩ := e2 hc
      obtain ⟨c', s', h', e4, hr', hc'⟩ := ih hr2 (by omega)
      refine ⟨c', s', h', ?_, hr', hc'⟩
      simp only [if_true]
      rcases e3 with e3 | e3 <;> simp only [e3, out_bind_ok, e4]
theorem rngOk_of {i : Int} (h1 : -1000000000000 ≤ i) (h2 : i ≤ 1000000000000) : rngOk i = true := by
  unfold rngOk
  simp
  omega
/-- a comprehension over numbers -/
theorem lc_rng {φ : Fn} {g : TF} {c e : EF} {s0 : St} {h : AH} (lo : Int) (k : Nat) (p : Int → Bool) (F : Int → AV)
    (hx : ∀ i : Int, lo ≤ i → i < lo + k → ∃ st, g (.int i) s0 h = some st ∧ c φ st h = .ok (.bl (p i)) h ∧ (p i = true → e φ st h = .ok (F i) h)) :
    lcGo φ g c e s0 [] (rng lo k) h = .ok ((((List.range k).map fun (i : Nat) => lo + (i : Int)).filter p).map F) h := by
  have e1 : rng lo k = ((List.range k).map fun (i : Nat) => lo + (i : Int)).map AV.int := by
    rw [rng_map, List.map_map]
    rfl
  rw [e1]
  refine lc_filter AV.int p F rfl fun x hx2 => ?_
  obtain ⟨i, hi, rfl⟩ := List.mem_map.mp hx2
  have := List.mem_range.mp hi
  exact hx _ (by omega) (by omega)
theorem lc_rngA {φ : Fn} {g : TF} {c e : EF} {s0 : St} {h : AH} (lo : Int) (k : Nat) (F : Int → AV)
    (hx : ∀ i : Int, lo ≤ i → i < lo + k → ∃ st, g (.int i) s0 h = some st ∧ c φ st h = .ok (.bl true) h ∧ e φ st h = .ok (F i) h) :
    lcGo φ g c e s0 [] (rng lo k) h = .ok (((List.range k).map fun (i : Nat) => lo + (i : Int)).map F) h := by
  rw [lc_rng lo k (fun _ => true) F (fun i i1 i2 => let ⟨st, h1, h2, h3⟩ := hx i i1 i2; ⟨st, h1, h2, fun _ => h3⟩), List.filter_eq_self.mpr (fun _ _ => rfl)]
end TL

/-! LawF: loops by places, sums, lists that grow, instances -/
set_option Elab.async false
set_option linter.all false
set_option autoImplicit false
set_option maxRecDepth 100000
set_option maxHeartbeats 2000000
namespace TL
open TX
/-- a for loop by places: what holds behind the first so many items -/
theorem for_ix {φ : Fn} {g : TF} {b : SF} {gd : Gd} (R : Nat → St → AH → Prop) {items : List AV} {s : St} {h : AH} (hk : ∀ i s h, R i s h → gOk gd h = true)
    (hx : ∀ i x, items[i]? = some x → ∀ s h, R i s h → ∃ s1 s2 h2, g x s h = some s1 ∧ (b φ s1 h = .ok (.nx s2) h2 ∨ b φ s1 h = .ok (.ct s2) h2) ∧ R (i + 1) s2 h2) (hr : R 0 s h) :
    ∃ s2 h2, forGo φ g b gd items s h = .ok (.nx s2) h2 ∧ R items.length s2 h2 := by
  have key : ∀ (todo : List AV) (j : Nat) (s : St) (h : AH), (∀ i, todo[i]? = items[j + i]?) → j + todo.length = items.length → R j s h → ∃ s2 h2, forGo φ g b gd todo s h = .ok (.nx s2) h2 ∧ R items.length s2 h2 := by
    intro todo
    induction todo with
    | nil =>
      intro j s h _ hl hr
      have e : j = items.length := by simpa using hl
      subst e
      exact ⟨s, h, by unfold forGo; rw [if_pos (hk _ s h hr)], hr⟩
    | cons x r ih =>
      intro j s h hi hl hr
      have h0 := hi 0
      simp at h0
      obtain ⟨s1, s2, h2, e1, e2, hr2⟩ := hx j x h0.symm s h hr
      obtain ⟨s3, h3, e3, hr3⟩ := ih (j + 1) s2 h2 (fun i => by have := hi (i + 1); simp at this; rw [this]; congr 1; omega) (by simp at hl; omega) hr2
      refine ⟨s3, h3, ?_, hr3⟩
      unfold forGo
      rw [if_pos (hk _ s h hr), e1]
      rcases e2 with e2 | e2 <;> simp only [e2, out_bind_ok, e3]
  exact key items 0 s h (fun i => by simp) (by simp) hr
theorem enumL_get : ∀ (xs : List AV) (k : Int) (i : Nat), (enumL k xs)[i]? = (xs[i]?).map fun x => .tup [.int (k + i), x]
  | [], _, _ => by simp [enumL]
  | x :: r, k, 0 => by simp [enumL]
  | x :: r, k, i + 1 => by
    simp only [enumL, List.getElem?_cons_succ, enumL_get r]
    have : k + 1 + (i : Int) = k + ((i + 1 : Nat) : Int) := by push_cast; omega
    rw [this]
theorem enumL_len : ∀ (xs : List AV) (k : Int), (enumL k xs).length = xs.length
  | [], _ => rfl
  | x :: r, k => by simp [enumL, enumL_len r]
/-- .. over a list with its places -/
theorem for_en {β : Type} {φ : Fn} {g : TF} {b : SF} {gd : Gd} (f : β → AV) (R : Nat → St → AH → Prop) {xs : List β} {s : St} {h : AH} (hk : ∀ i s h, R i s h → gOk gd h = true)
    (hx : ∀ i x, xs[i]? = some x → ∀ s h, R i s h → ∃ s1 s2 h2, g (.tup [.int i, f x]) s h = some s1 ∧ (b φ s1 h = .ok (.nx s2) h2 ∨ b φ s1 h = .ok (.ct s2) h2) ∧ R (i + 1) s2 h2) (hr : R 0 s h) :
    ∃ s2 h2, forGo φ g b gd (enumL 0 (xs.map f)) s h = .ok (.nx s2) h2 ∧ R xs.length s2 h2 := by
  have := for_ix (φ := φ) (b := b) (g := g) (gd := gd) R (items := enumL 0 (xs.map f)) hk (fun i y e => by
    rw [enumL_get, List.getElem?_map] at e
    cases hxi : xs[i]? with
    | none => rw [hxi] at e; cases e
    | some x =>
      rw [hxi] at e
      cases e
      have := hx i x hxi
      simpa using this) hr
  rw [enumL_len, List.length_map] at this
  exact this
theorem zipL_map {β γ : Type} (f : β → AV) (g : γ → AV) : ∀ (xs : List β) (ys : List γ), zipL (xs.map f) (ys.map g) = (xs.zip ys).map fun p => .tup [f p.1, g p.2]
  | [], ys => by cases ys <;> rfl
  | x :: r, [] => rfl
  | x :: r, y :: u => by
    show AV.tup [f x, g y] :: zipL (r.map f) (u.map g) = _
    rw [zipL_map f g r u]
    rfl
/-- a comprehension over places and items -/
theorem lc_en {β : Type} {φ : Fn} {g : TF} {c e : EF} {s0 : St} {gd : Gd} {h : AH} (f : β → AV) (p : Int × β → Bool) (F : Int × β → AV) {xs : List β} (hk : gOk gd h = true)
    (hx : ∀ y ∈ zi 0 xs, ∃ st, g (.tup [.int y.1, f y.2]) s0 h = some st ∧ c φ st h = .ok (.bl (p y)) h ∧ (p y = true → e φ st h = .ok (F y) h)) :
    lcGo φ g c e s0 gd (enumL 0 (xs.map f)) h = .ok (((zi 0 xs).filter p).map F) h := by
  rw [enum_map]
  exact lc_filter _ p F hk hx
theorem sum_append (a b : List Int) : (a ++ b).sum = a.sum + b.sum := by
  induction a with
  | nil => simp
  | cons x r ih => simp [ih]; omega
@[simp] theorem ne_nil (h : AH) : cmpA .ne (.lst []) (.lst []) h = .ok (.bl false) h := rfl
@[simp] theorem eq_nil (h : AH) : cmpA .eq (.lst []) (.lst []) h = .ok (.bl true) h := rfl
@[simp] theorem mul_one_lst (m : Bool) (x : AV) (h : AH) : binA m .mul (.lst [x]) (.int 1) h = mk m [x] h := rfl
@[simp] theorem mul_zero_lst (m : Bool) (x : AV) (h : AH) : binA m .mul (.lst [x]) (.int 0) h = mk m [] h := rfl
/-! instances -/
theorem ins_of {r c : Nat} {fs : List (Tx × AV)} {h : AH} (e : hget h r = some (.ins c fs)) : insOf (.ref r) h = some (c, fs) := by
  show (match hget h r with | some (.ins c fs) => some (c, fs) | _ => none) = _
  rw [e]
theorem fld_of {r c : Nat} {fs : List (Tx × AV)} {h : AH} (cs : List Nat) (f : Tx) (e : hget h r = some (.ins c fs)) (hc : c ∈ cs) : fldA cs f (.ref r) h = fget f fs := by
  unfold fldA
  rw [ins_of e]
  exact if_pos hc
theorem hget_cons_lt {h : AH} {r : Nat} {o u : AO} (e : hget h r = some o) : hget (u :: h) r = some o := by
  have := hget_lt e
  unfold hget
  rw [if_neg (by omega), e]
theorem app_of {r : Nat} {xs : List AV} {v : AV} {h : AH} (e : hget h r = some (.lst xs)) (hl : xs.length < 16777216) : appA (.ref r) v h = some (hset h r (.lst (xs ++ [v]))) := by
  show (match hget h r with | some (.lst xs) => if xs.length < SZ then some (hset h r (.lst (xs ++ [v]))) else none | _ => none) = _
  rw [e]
  exact if_pos hl
theorem tuple_any (x : AV) (h : AH) : uA .tuple x h = match seqOf x h with | some xs => .ok (.tup xs) h | none => .stuck := rfl
theorem tuple_ref {i : Nat} {h : AH} {xs : List AV} (e : hget h i = some (.lst xs)) : uA .tuple (.ref i) h = .ok (.tup xs) h := by
  rw [tuple_any, seq_ref, e]
theorem list_ref {m : Bool} {i : Nat} {h : AH} {xs : List AV} (e : hget h i = some (.lst xs)) : uA (.list m) (.ref i) h = mk m xs h := by
  show (match seqOf (.ref i) h with | some xs => mk m xs h | none => _) = _
  rw [seq_ref, e]
theorem len_ref {i : Nat} {h : AH} {xs : List AV} (e : hget h i = some (.lst xs)) : uA .len (.ref i) h = .ok (.int xs.length) h := by
  show (match seqOf (.ref i) h with | some xs => Out.ok (AV.int xs.length) h | none => _) = _
  rw [seq_ref, e]
theorem sorted_ref {m : Bool} {i : Nat} {h : AH} {xs : List AV} (e : hget h i = some (.lst xs)) : uA (.sorted m) (.ref i) h = uL (.sorted m) xs h := by
  show (match lstOf (.ref i) h with | some xs => uL (.sorted m) xs h | none => _) = _
  rw [lst_ref, e]
end TL
namespace TL
open TX
/-- a comprehension that rolls for each item, and keeps the item -/
theorem lc_rollk {β γ : Type} {φ : Fn} {g : TF} {c e : EF} {s0 : St} {os : AH} (f : γ → AV) (F : β → AV) (k : β → γ) (Q : β → Prop) : ∀ {xs : List γ} {d : D3},
    (∀ x ∈ xs, ∃ st, (∀ h, g (f x) s0 h = some st) ∧ (∀ h, c φ st h = .ok (.bl true) h) ∧ ∀ d, ∃ v d', e φ st (hd os d) = .ok (F v) (hd os d') ∧ k v = x ∧ Q v) →
    ∃ (vs : List β) (d' : D3), lcGo φ g c e s0 [] (xs.map f) (hd os d) = .ok (vs.map F) (hd os d') ∧ vs.map k = xs ∧ ∀ v ∈ vs, Q v
  | [], d, _ => ⟨[], d, by show lcGo φ g c e s0 [] [] _ = _; unfold lcGo; rfl, rfl, fun v hv => nomatch hv⟩
  | x :: r, d, hx => by
    obtain ⟨st, h1, h2, h3⟩ := hx x List.mem_cons_self
    obtain ⟨v, d1, h4, h5, h5'⟩ := h3 d
    obtain ⟨vs, d2, h6, h7, h8⟩ := lc_rollk f F k Q (xs := r) (d := d1) fun y hy => hx y (List.mem_cons_of_mem _ hy)
    refine ⟨v :: vs, d2, ?_, by simp [h7, h5], fun w hw => ?_⟩
    · show lcGo φ g c e s0 [] (f x :: r.map f) _ = _
      unfold lcGo
      simp [h1, h2, h4, h6]
    · rcases List.mem_cons.mp hw with rfl | hw
      · exact h5'
      · exact h8 w hw
/-- whole numbers in order -/
theorem ins_sorted (x : Int) : ∀ {xs : List Int}, xs.Pairwise (· ≤ ·) → (ins ilt x xs).Pairwise (· ≤ ·)
  | [], _ => by simp [ins]
  | y :: r, h => by
    have h1 : ∀ z ∈ r, y ≤ z := fun z hz => List.rel_of_pairwise_cons h hz
    have h2 := List.Pairwise.of_cons h
    unfold ins
    by_cases c : y < x
    · rw [if_pos (by simp [ilt, c])]
      refine List.Pairwise.cons (fun z hz => ?_) (ins_sorted x h2)
      have := (ins_perm ilt x r).mem_iff.mp hz
      rcases List.mem_cons.mp this with rfl | hz
      · omega
      · exact h1 z hz
    · rw [if_neg (by simp [ilt, c])]
      refine List.Pairwise.cons (fun z hz => ?_) h
      rcases List.mem_cons.mp hz with rfl | hz
      · omega
      · have := h1 z hz; omega
theorem isort_sorted : ∀ xs : List Int, (isort ilt xs).Pairwise (· ≤ ·)
  | [] => by simp [isort]
  | x :: r => ins_sorted x (isort_sorted r)
theorem isort_strict {xs : List Int} (h : xs.Nodup) : (isort ilt xs).Pairwise (· < ·) := by
  have h1 := isort_sorted xs
  have h2 : (isort ilt xs).Pairwise (· ≠ ·) := (isort_perm ilt xs).nodup_iff.mpr h
  exact (h1.and h2).imp fun ⟨a, b⟩ => by omega
/-- keys that are put one after another, all with one value -/
theorem put_keys {w : AV} : ∀ (xs ks : List Int), ks.Nodup → ∃ ks2 : List Int, putAll (ks.map fun k => (AV.int k, w)) (xs.map fun x => .tup [.int x, w]) = some (ks2.map fun k => (AV.int k, w)) ∧ ks2.Nodup ∧ (∀ k ∈ ks2, k ∈ ks ∨ k ∈ xs) ∧ ks2.length ≤ ks.length + xs.length
  | [], ks, h => ⟨ks, rfl, h, fun k hk => .inl hk, by simp⟩
  | x :: r, ks, h => by
    have e : putAll (ks.map fun k => (AV.int k, w)) ((x :: r).map fun x => .tup [.int x, w]) = putAll (putK (.int x) w (ks.map fun k => (AV.int k, w))) (r.map fun x => .tup [.int x, w]) := rfl
    by_cases hx : x ∈ ks
    · have e2 : putK (.int x) w (ks.map fun k => (AV.int k, w)) = ks.map fun k => (AV.int k, w) := by
        unfold putK hasK
        rw [if_pos (by simp; exact hx), List.map_map]
        refine List.map_congr_left fun k hk => ?_
        show (if AV.int k = AV.int x then (AV.int k, w) else (AV.int k, w)) = _
        split <;> rfl
      obtain ⟨ks2, h1, h2, h3, h4⟩ := put_keys r ks h
      exact ⟨ks2, by rw [e, e2, h1], h2, fun k hk => (h3 k hk).imp id (List.mem_cons_of_mem _), by simp; omega⟩
    · have e2 : putK (.int x) w (ks.map fun k => (AV.int k, w)) = (ks ++ [x]).map fun k => (AV.int k, w) := by
        unfold putK hasK
        rw [if_neg (by simp; exact hx)]
        simp
      obtain ⟨ks2, h1, h2, h3, h4⟩ := put_keys r (ks ++ [x]) (by
        rw [List.nodup_append]
        refine ⟨h, by simp, fun a ha b hb => ?_⟩
        simp at hb
        subst hb
        rintro rfl
        exact hx ha)
      refine ⟨ks2, by rw [e, e2, h1], h2, fun k hk => ?_, by simp at h4 ⊢; omega⟩
      rcases h3 k hk with h5 | h5
      · rcases List.mem_append.mp h5 with h6 | h6
        · exact .inl h6
        · simp at h6; subst h6; exact .inr List.mem_cons_self
      · exact .inr (List.mem_cons_of_mem _ h5)
end TL
namespace TL
open TX
/-- a piece of text that is gone through; k slots -/
def Thru (k : Nat) (o : Out Fl) : Prop := ∃ s2 os2 d2, o = .ok (.nx s2) (hd os2 d2) ∧ s2.length = k
@[simp] theorem thru_nx (k : Nat) (s : St) (os : AH) (d : D3) : Thru k (.ok (.nx s) (hd os d)) ↔ s.length = k := by
  constructor
  · rintro ⟨s2, os2, d2, e, h⟩
    have e1 : Fl.nx s = Fl.nx s2 := congrArg (fun o => match o with | Out.ok a _ => a | _ => Fl.nx s) e
    injection e1 with e1
    rw [e1]
    exact h
  · exact fun h => ⟨s, os, d, rfl, h⟩
end TL

/-! LawG: how simp walks through the pieces of TxA2 -/
set_option Elab.async false
set_option linter.all false
set_option autoImplicit false
set_option maxRecDepth 100000
namespace TL
open TX
@[simp ↓] theorem ap_eDct (m : Bool) (ps : List (EF × EF)) (φ : Fn) (s : St) (h : AH) : eDct m ps φ s h = if ps.length ≤ 15 then (dpGo φ s ps h).bind fun kvs h1 => mkD m (putsL [] kvs) h1 else .stuck := rfl
@[simp ↓] theorem dpGo_nil (φ : Fn) (s : St) (h : AH) : dpGo φ s [] h = .ok [] h := rfl
@[simp ↓] theorem dpGo_cons (φ : Fn) (s : St) (k v : EF) (r : List (EF × EF)) (h : AH) : dpGo φ s ((k, v) :: r) h = (k φ s h).bind fun x h1 => (v φ s h1).bind fun y h2 => if isKey x then (dpGo φ s r h2).bind fun ps h3 => .ok ((x, y) :: ps) h3 else .stuck := rfl
@[simp] theorem isKey_str (t : Tx) : isKey (.str t) = true := rfl
@[simp] theorem isKey_int (i : Int) : isKey (.int i) = true := rfl
@[simp ↓] theorem ap_eMin7 (a : AF) (φ : Fn) (s : St) (h : AH) : eMin7 a φ s h = (a φ s h).bind fun xs h1 => match intsO xs with
  | some (i :: ns) => if ns.length = 6 then .ok (.int (minOf ilt i ns)) h1 else .stuck
  | _ => .stuck := rfl
@[simp ↓] theorem ap_eTRg (a b : EF) (φ : Fn) (s : St) (h : AH) : eTRg a b φ s h = (a φ s h).bind fun x h1 => (b φ s h1).bind fun y h2 => match x, y with
  | .int i, .int j => if rngOk i && rngOk j && decide ((j - i).toNat ≤ SZ) then .ok (.tup (rng i (j - i).toNat)) h2 else .stuck
  | _, _ => .stuck := rfl
@[simp ↓] theorem ap_eCount (o e : EF) (φ : Fn) (s : St) (h : AH) : eCount o e φ s h = (o φ s h).bind fun x h1 => match lstOf x h1 with
  | some _ => (e φ s h1).bind fun y h2 => match cntA x y h2 with
    | some v => .ok v h2
    | none => .stuck
  | none => .stuck := rfl
@[simp] theorem tuple_lst (xs : List AV) (h : AH) : uA .tuple (.lst xs) h = .ok (.tup xs) h := rfl
@[simp] theorem tuple_tup (xs : List AV) (h : AH) : uA .tuple (.tup xs) h = .ok (.tup xs) h := rfl
theorem cnt_ints (xs : List Int) (k : Int) (h : AH) : cntA (.lst (xs.map .int)) (.int k) h = some (.int (xs.count k)) := by
  show (intsO (xs.map .int)).map (fun ns => AV.int (ns.count k)) = _
  rw [ints_of]
  rfl
theorem minOf_nn : ∀ (l : List Int) (a : Int), 0 ≤ a → (∀ x ∈ l, 0 ≤ x) → 0 ≤ minOf ilt a l
  | [], a, h, _ => h
  | b :: r, a, h, hl => by
    show 0 ≤ minOf ilt (if ilt b a then b else a) r
    refine minOf_nn r _ ?_ fun x hx => hl x (List.mem_cons_of_mem _ hx)
    split
    · exact hl b List.mem_cons_self
    · exact h
theorem min_prs (t : Int × Int) (ts : List (Int × Int)) (h : AH) : uA .min (.lst ((t :: ts).map prA)) h = .ok (prA (minOf plt t ts)) h := by
  show (match minA ((t :: ts).map prA) with | some v => Out.ok v h | none => .stuck) = _
  unfold minA
  rw [intsO_prs (t :: ts) (by simp), prs_of]
theorem in_ints (x : Int) (ys : List Int) (h : AH) : cmpA .inn (.int x) (.lst (ys.map .int)) h = .ok (.bl (decide (x ∈ ys))) h := by
  show someB (inA (.int x) (.lst (ys.map .int)) h) h = _
  have e : inA (.int x) (.lst (ys.map .int)) h = if (AV.int x).flat && (ys.map AV.int).all AV.flat then some ((ys.map AV.int).any fun z => decide (z = .int x)) else none := rfl
  rw [e, if_pos (by simp)]
  show Out.ok (AV.bl _) h = _
  congr 2
  rw [Bool.eq_iff_iff]
  simp
theorem mul_one (m : Bool) (x : AV) (k : Int) (h : AH) (h0 : 0 ≤ k) (h1 : k ≤ 1000000) : binA m .mul (.lst [x]) (.int k) h = mk m (List.replicate k.toNat x) h := by
  have e : binA m .mul (.lst [x]) (.int k) h = if -(2 ^ 63) ≤ k ∧ k < 2 ^ 63 ∧ [x].length * k.toNat ≤ SZ then mkLst m (List.replicate k.toNat [x]).flatten h else .stuck := rfl
  rw [e, if_pos ⟨by omega, by omega, by simp [SZ]; omega⟩]
  have e2 : (List.replicate k.toNat [x]).flatten = List.replicate k.toNat x := by
    generalize k.toNat = n
    induction n with
    | zero => rfl
    | succ n ih => rw [List.replicate_succ, List.flatten_cons, ih]; rfl
  rw [e2]
  unfold mkLst
  rw [if_pos (by simp [SZ]; omega)]
end TL

/-! LawH: objects that change: what stands where; the pieces of TxA3 -/
set_option Elab.async false
set_option linter.all false
set_option autoImplicit false
set_option maxRecDepth 100000
set_option maxHeartbeats 2000000
namespace TL
open TX
theorem hget_cons (o : AO) (h : AH) (j : Nat) : hget (o :: h) j = if j = h.length then some o else hget h j := rfl
theorem hget_set_ne {u : AO} : ∀ {h : AH} {i j : Nat}, j ≠ i → hget (hset h i u) j = hget h j
  | [], _, _, _ => rfl
  | o :: h, i, j, hj => by
    unfold hset
    split
    · rename_i e
      subst e
      rw [hget_cons, hget_cons, if_neg hj, if_neg hj]
    · show hget (o :: hset h i u) j = _
      rw [hget_cons, hget_cons, hset_length, hget_set_ne hj]
theorem hget_set_eq {h : AH} {i : Nat} {u : AO} (hi : i < h.length) : hget (hset h i u) i = some u := hget_same hi
theorem hset_comm {u w : AO} : ∀ {h : AH} {i j : Nat}, i ≠ j → hset (hset h i u) j w = hset (hset h j w) i u
  | [], _, _, _ => rfl
  | o :: h, i, j, hij => by
    by_cases e1 : i = h.length <;> by_cases e2 : j = h.length
    · omega
    · simp [hset, e1, e2]
    · simp [hset, e1, e2]
    · simp [hset, e1, e2, hset_comm (h := h) hij]
theorem hset_cons_lt {o u : AO} {h : AH} {i : Nat} (hi : i < h.length) : hset (o :: h) i u = o :: hset h i u := by
  show (if i = h.length then u :: h else o :: hset h i u) = _
  rw [if_neg (by omega)]
theorem hget_drop' : ∀ {k : Nat} {h : AH} {i : Nat}, i < (h.drop k).length → hget (h.drop k) i = hget h i
  | 0, h, i, _ => rfl
  | k + 1, [], i, _ => rfl
  | k + 1, o :: h, i, hi => by
    have hi2 : i < (h.drop k).length := hi
    show hget (h.drop k) i = hget (o :: h) i
    rw [hget_drop' hi2, hget_cons, if_neg]
    rw [List.length_drop] at hi2
    omega
/-- behind a call: the old places are as they were left -/
theorem gcRet_any {h h' : AH} (v : AV) (hl : h.length ≤ h'.length) : ∃ h2, gcRet h v h' = .ok v h2 ∧ h.length ≤ h2.length ∧ ∀ i, i < h.length → hget h2 i = hget h' i := by
  unfold gcRet
  have e : (h'.drop (h'.length - h.length)).length = h.length := by rw [List.length_drop]; omega
  split
  · exact ⟨_, rfl, by omega, fun i hi => hget_drop' (by omega)⟩
  · exact ⟨h', rfl, hl, fun i hi => rfl⟩
theorem gcExc_any {h h' : AH} (c : Nat) (hl : h.length ≤ h'.length) : ∃ h2, gcExc h c h' = .exc c h2 ∧ h.length ≤ h2.length ∧ ∀ i, i < h.length → hget h2 i = hget h' i := by
  unfold gcExc
  have e : (h'.drop (h'.length - h.length)).length = h.length := by rw [List.length_drop]; omega
  split
  · exact ⟨_, rfl, by omega, fun i hi => hget_drop' (by omega)⟩
  · exact ⟨h', rfl, hl, fun i hi => rfl⟩
theorem gcOk_len' {n : Nat} : ∀ {a b : AH}, gcOk n a b = true → a.length = b.length
  | [], [], _ => rfl
  | [], _ :: _, h => by simp [gcOk] at h
  | _ :: _, [], h => by simp [gcOk] at h
  | o :: a, w :: b, h => by
    simp only [gcOk, Bool.and_eq_true] at h
    simp [gcOk_len' h.2]
theorem gcOk_get {n : Nat} : ∀ {a b : AH} {i : Nat} {u : AO}, gcOk n a b = true → hget b i = some u → hget a i = some u ∨ u.under n = true
  | [], [], i, u, _, h => by cases h
  | [], _ :: _, _, _, h, _ => by simp [gcOk] at h
  | _ :: _, [], _, _, h, _ => by simp [gcOk] at h
  | o :: a, w :: b, i, u, h, e => by
    simp only [gcOk, Bool.and_eq_true, Bool.or_eq_true, decide_eq_true_eq] at h
    have hl : a.length = b.length := gcOk_len' h.2
    rw [hget_cons] at e ⊢
    by_cases q : i = b.length
    · rw [if_pos q] at e
      rw [if_pos (by omega)]
      cases e
      rcases h.1 with h1 | h1
      · exact .inr h1
      · exact .inl (by rw [h1])
    · rw [if_neg q] at e
      rw [if_neg (by omega)]
      exact gcOk_get h.2 e
/-- what has come is named by an old object: nothing is let go -/
theorem gcRet_keep {h h' : AH} (v : AV) {i : Nat} {u : AO} (hl : h.length ≤ h'.length) (hi : i < h.length) (hu : hget h' i = some u) (hn : u.under h.length = false) (ho : hget h i ≠ some u) : gcRet h v h' = .ok v h' := by
  unfold gcRet
  rw [if_neg]
  simp only [Bool.and_eq_true, not_and]
  intro _ hg
  have e : (h'.drop (h'.length - h.length)).length = h.length := by rw [List.length_drop]; omega
  rcases gcOk_get hg (i := i) (by rw [hget_drop' (by rw [e]; exact hi)]; exact hu) with h1 | h1
  · exact ho h1
  · rw [hn] at h1; cases h1
/-! the dice at the bottom -/
theorem dice_split : ∀ {h : AH} {o : AO}, hget h 0 = some o → ∃ os, h = os ++ [o]
  | [], _, e => by cases e
  | [x], o, e => by
    have : some x = some o := e
    cases this
    exact ⟨[], rfl⟩
  | x :: y :: h, o, e => by
    rw [hget_cons, if_neg (by simp)] at e
    obtain ⟨os, h1⟩ := dice_split e
    exact ⟨x :: os, by rw [h1]; rfl⟩
theorem hd_of {h : AH} {d : D3} (e : hget h 0 = some (dO d)) : ∃ os, h = hd os d := dice_split e
theorem hd_other {os : AH} {d d' : D3} {i : Nat} (hi : i ≠ 0) : hget (hd os d') i = hget (hd os d) i := by
  rw [← hset_dice os d d', hget_set_ne hi]
/-! the pieces of TxA3 -/
@[simp ↓] theorem ap_eLItems (e : EF) (φ : Fn) (s : St) (h : AH) : eLItems e φ s h = (e φ s h).bind fun x h1 => match itemsA x h1 with
  | some xs => .ok (.lst xs) h1
  | none => .stuck := rfl
@[simp ↓] theorem ap_eTItems (e : EF) (φ : Fn) (s : St) (h : AH) : eTItems e φ s h = (e φ s h).bind fun x h1 => match itemsA x h1 with
  | some xs => .ok (.tup xs) h1
  | none => .stuck := rfl
@[simp ↓] theorem ap_hN (i : Nat) (φ : Fn) (v : AV) (s : St) (h : AH) : hN i φ v s h = .ok (s.set i (some v)) h := rfl
@[simp ↓] theorem ap_hF (cs : List Nat) (f : Tx) (o : EF) (φ : Fn) (v : AV) (s : St) (h : AH) : hF cs f o φ v s h = (o φ s h).bind fun x h1 => match setF cs f x v h1 with
  | some h2 => .ok s h2
  | none => .stuck := rfl
@[simp ↓] theorem ap_hS (o i : EF) (φ : Fn) (v : AV) (s : St) (h : AH) : hS o i φ v s h = (o φ s h).bind fun x h1 => (i φ s h1).bind fun k h2 => match setA x k v h2 with
  | some h3 => .ok s h3
  | none => .stuck := rfl
@[simp ↓] theorem ap_hNil (φ : Fn) (s : St) (h : AH) : hNil φ [] s h = .ok s h := rfl
@[simp ↓] theorem ap_hCons (g : GE) (gs : GEs) (φ : Fn) (v : AV) (r : List AV) (s : St) (h : AH) : hCons g gs φ (v :: r) s h = (g φ v s h).bind fun s1 h1 => gs φ r s1 h1 := rfl
@[simp ↓] theorem ap_sMul (n : Nat) (gs : GEs) (a : AF) (φ : Fn) (s : St) (h : AH) : sMul n gs a φ s h = (a φ s h).bind fun vs h1 => if vs.length = n ∧ n ≤ 1000 then (gs φ vs s h1).bind fun s1 h2 => .ok (.nx s1) h2 else .stuck := rfl
@[simp ↓] theorem ap_eSl3 (m : Bool) (a : EF) (lo hi st : OF) (φ : Fn) (s : St) (h : AH) : eSl3 m a lo hi st φ s h = (a φ s h).bind fun x h1 => (lo φ s h1).bind fun i h2 => (hi φ s h2).bind fun j h3 => (st φ s h3).bind fun k h4 => match lstOf x h4 with
  | some xs => match pick3 xs i j k with
    | some ys => mk m ys h4
    | none => .stuck
  | none => .stuck := rfl
@[simp ↓] theorem ap_eEqD (ne : Bool) (a b : EF) (φ : Fn) (s : St) (h : AH) : eEqD ne a b φ s h = (a φ s h).bind fun x h1 => (b φ s h1).bind fun y h2 => match eqDp x y h2 with
  | some c => .ok (.bl (if ne then !c else c)) h2
  | none => .stuck := rfl
@[simp ↓] theorem ap_eSort3 (m : Bool) (a : EF) (φ : Fn) (s : St) (h : AH) : eSort3 m a φ s h = (a φ s h).bind fun x h1 => match lstOf x h1 with
  | some xs => match trsO xs with
    | some ts => if ts.length < 64 ∧ ts.all nn3 = true then mk m ((isort tlt ts).map t3A) h1 else .stuck
    | none => .stuck
  | none => .stuck := rfl
@[simp ↓] theorem ap_sAugL (i : Nat) (e : EF) (φ : Fn) (s : St) (h : AH) : sAugL i e φ s h = match s[i]? with
  | some (some (.ref r)) => (e φ s h).bind fun y h1 => match hget h1 r, lstOf y h1 with
    | some (.lst xs), some ys => if xs.length + ys.length ≤ SZ then .ok (.nx s) (hset h1 r (.lst (xs ++ ys))) else .stuck
    | _, _ => .stuck
  | _ => .stuck := rfl
@[simp ↓] theorem ap_sFldMod (cs : List Nat) (f : Tx) (o e : EF) (φ : Fn) (s : St) (h : AH) : sFldMod cs f o e φ s h = (o φ s h).bind fun x h1 => match insOf x h1 with
  | some (c, fs) => if c ∈ cs then (match fget f fs with
    | some (.int a) => (e φ s h1).bind fun y h2 => match y with
      | .int b => if 0 < b then (match setF [c] f x (.int (a % b)) h2 with
        | some h3 => .ok (.nx s) h3
        | none => .stuck) else .stuck
      | _ => .stuck
    | _ => .stuck) else .stuck
  | none => .stuck := rfl
theorem setF_of {cs : List Nat} {f : Tx} {r c : Nat} {v : AV} {fs : List (Tx × AV)} {h : AH} (e : hget h r = some (.ins c fs)) (hc : c ∈ cs) (hl : fs.length < 1000) : setF cs f (.ref r) v h = some (hset h r (.ins c (fput f v fs))) := by
  show (match hget h r with | some (.ins c fs) => if c ∈ cs ∧ fs.length < 1000 then some (hset h r (.ins c (fput f v fs))) else none | _ => none) = _
  rw [e]
  exact if_pos ⟨hc, hl⟩
theorem setA_dct {r : Nat} {k v : AV} {kvs : List (AV × AV)} {h : AH} (e : hget h r = some (.dct kvs)) (hk : isKey k = true) (hl : kvs.length < 16777216) : setA (.ref r) k v h = some (hset h r (.dct (putK k v kvs))) := by
  show (match hget h r with
    | some (.lst xs) => (match k with
      | .int k => (ixN xs.length k).map fun j => hset h r (.lst (xs.set j v))
      | _ => none)
    | some (.dct kvs) => if isKey k && decide (kvs.length < SZ) then some (hset h r (.dct (putK k v kvs))) else none
    | _ => none) = _
  rw [e]
  simp [hk, hl]
theorem setA_lst {r : Nat} {k : Nat} {v : AV} {xs : List AV} {h : AH} (e : hget h r = some (.lst xs)) (hk : k < xs.length) : setA (.ref r) (.int k) v h = some (hset h r (.lst (xs.set k v))) := by
  show (match hget h r with
    | some (.lst xs) => (match AV.int k with
      | .int k => (ixN xs.length k).map fun j => hset h r (.lst (xs.set j v))
      | _ => none)
    | some (.dct kvs) => _
    | _ => none) = _
  rw [e]
  simp [ixN, hk]
theorem idx_dct {r : Nat} {h : AH} {kvs : List (AV × AV)} (e : hget h r = some (.dct kvs)) (k : Tx) : idxA (.ref r) (.str k) h = getK (.str k) kvs := by
  show (match dctOf (.ref r) h with | some kvs => getK (.str k) kvs | none => none) = _
  show (match (match hget h r with | some (.dct kvs) => some kvs | _ => none) with | some kvs => getK (.str k) kvs | none => none) = _
  rw [e]
theorem dct_ref {r : Nat} {h : AH} {kvs : List (AV × AV)} (e : hget h r = some (.dct kvs)) : dctOf (.ref r) h = some kvs := by
  show (match hget h r with | some (.dct kvs) => some kvs | _ => none) = _
  rw [e]
theorem lst_of {r : Nat} {h : AH} {xs : List AV} (e : hget h r = some (.lst xs)) : lstOf (.ref r) h = some xs := by
  show (match hget h r with | some (.lst xs) => some xs | _ => none) = _
  rw [e]
theorem seq_of {r : Nat} {h : AH} {xs : List AV} (e : hget h r = some (.lst xs)) : seqOf (.ref r) h = some xs := by
  show (match hget h r with | some (.lst xs) => some xs | _ => none) = _
  rw [e]
theorem gd_of {r : Nat} {h : AH} {o : AO} (e : hget h r = some o) : gdOf (.ref r) h = [(r, o)] := by
  show (match hget h r with | some o => [(r, o)] | none => []) = _
  rw [e]
theorem gOk_one {r : Nat} {h : AH} {o : AO} (e : hget h r = some o) : gOk [(r, o)] h = true := by
  simp [gOk, e]
end TL

set_option Elab.async false
set_option linter.all false
set_option maxRecDepth 100000
set_option maxHeartbeats 0
set_option autoImplicit false
namespace K08
open TX
def f_rounded_1 : SF := (sSeq (sRet (eIf (eCmp .gt (eV 0) (eC (.int 0))) (eBin false .add (eV 3) (eC (.int 1))) (eV 3))) sNil)
def f_rounded_2 : SF := (sSeq (sIf (eCmp .eq (eV 2) (eC (.str [101, 118, 101, 110]))) (sSeq (sRet (eIf (eCmp .eq (eBin false .mod (eV 3) (eC (.int 2))) (eC (.int 0))) (eV 3) (eBin false .add (eV 3) (eC (.int 1))))) sNil) sNil) f_rounded_1)
def f_rounded_3 : SF := (sSeq (sIf (eCmp .lt (eBin false .mul (eC (.int 2)) (eV 4)) (eV 1)) (sSeq (sRet (eV 3)) sNil) sNil) f_rounded_2)
def f_rounded_4 : SF := (sSeq (sIf (eOr (eCmp .eq (eV 2) (eC (.str [117, 112]))) (eB (eCmp .gt (eBin false .mul (eC (.int 2)) (eV 4)) (eV 1)))) (sSeq (sRet (eBin false .add (eV 3) (eC (.int 1)))) sNil) sNil) f_rounded_3)
def f_rounded_5 : SF := (sSeq (sIf (eOr (eCmp .eq (eV 4) (eC (.int 0))) (eB (eCmp .eq (eV 2) (eC (.str [100, 111, 119, 110]))))) (sSeq (sRet (eV 3)) sNil) sNil) f_rounded_4)
def f_rounded_6 : SF := (sSeq (sSet (gT (gsCons (gN 3) (gsCons (gN 4) gsNil))) (eTup (aCons (eBin false .div (eV 0) (eV 1)) (aCons (eBin false .mod (eV 0) (eV 1)) aNil)))) f_rounded_5)
def f_rounded : SF := (sSeq (sIf (eOr (eCmp .lt (eV 1) (eC (.int 1))) (eB (eCmp .notIn (eV 2) (eC (.tup [.str [100, 111, 119, 110], .str [117, 112], .str [110, 101, 97, 114], .str [101, 118, 101, 110]]))))) (sSeq (sRaise 1) sNil) sNil) f_rounded_6)
def f_Ledger___init___1 : SF := (sSeq (sFld [3] [114, 101, 115, 116] (eV 0) (eC (.int 0))) sNil)
def f_Ledger___init___2 : SF := (sSeq (sFld [3] [100, 97, 121] (eV 0) (eC (.int 0))) f_Ledger___init___1)
def f_Ledger___init___3 : SF := (sSeq (sFld [3] [105, 110, 116, 101, 114, 101, 115, 116] (eV 0) (eC (.int 0))) f_Ledger___init___2)
def f_Ledger___init___4 : SF := (sSeq (sFld [3] [99, 114, 101, 100, 105, 116] (eV 0) (eC (.int 0))) f_Ledger___init___3)
def f_Ledger___init___5 : SF := (sSeq (sFld [3] [112, 97, 121, 109, 101, 110, 116, 115] (eV 0) (eLst true aNil)) f_Ledger___init___4)
def f_Ledger___init___6 : SF := (sSeq (sFld [3] [100, 101, 98, 116, 115] (eV 0) (eLst true aNil)) f_Ledger___init___5)
def f_Ledger___init___7 : SF := (sSeq (sFld [3] [114, 97, 116, 101] (eV 0) (eV 1)) f_Ledger___init___6)
def f_Ledger___init__ : SF := (sSeq (sIf (eNot (eChain .le .le (eC (.int 0)) (eV 1) (eC (.int 10000)))) (sSeq (sRaise 2) sNil) sNil) f_Ledger___init___7)
def f_Ledger_check : SF := (sSeq (sIf (eOr (eCmp .lt (eV 1) (eFld [3] [100, 97, 121] (eV 0))) (eOr (eCmp .lt (eV 2) (eC (.int 1))) (eB (eCmp .ge (eBin false .add (eU .len (eFld [3] [100, 101, 98, 116, 115] (eV 0))) (eU .len (eFld [3] [112, 97, 121, 109, 101, 110, 116, 115] (eV 0)))) (eC (.int 300)))))) (sSeq (sRaise 2) sNil) sNil) sNil)
def f_Ledger_owe_1 : SF := (sSeq (sFldA [3] [99, 114, 101, 100, 105, 116] (eV 0) .sub (eV 4)) sNil)
def f_Ledger_owe_2 : SF := (sSeq (sAugI (eIdx (eFld [3] [100, 101, 98, 116, 115] (eV 0)) (eNeg (eC (.int 1)))) (eC (.int 2)) .sub (eV 4)) f_Ledger_owe_1)
def f_Ledger_owe_3 : SF := (sSeq (sIf (eCmp .gt (eFld [3] [99, 114, 101, 100, 105, 116] (eV 0)) (eC (.int 0))) (sSeq (sSet (gN 4) (eMM false (eFld [3] [99, 114, 101, 100, 105, 116] (eV 0)) (eV 2))) f_Ledger_owe_2) sNil) sNil)
def f_Ledger_owe_4 : SF := (sSeq (sExp (eApp (eFld [3] [100, 101, 98, 116, 115] (eV 0)) (eLst true (aCons (eV 3) (aCons (eV 2) (aCons (eV 2) aNil)))))) f_Ledger_owe_3)
def f_Ledger_owe_5 : SF := (sSeq (sExp (eMeth 3 [103, 111, 95, 116, 111] 4 (eV 0) (aCons (eV 1) aNil))) f_Ledger_owe_4)
def f_Ledger_owe_6 : SF := (sSeq (sIf (eCmp .lt (eV 3) (eV 1)) (sSeq (sRaise 2) sNil) sNil) f_Ledger_owe_5)
def f_Ledger_owe : SF := (sSeq (sExp (eMeth 3 [99, 104, 101, 99, 107] 2 (eV 0) (aCons (eV 1) (aCons (eV 2) aNil)))) f_Ledger_owe_6)
def f_Ledger_go_to_1 : SF := (sSeq (sFldMod [3] [114, 101, 115, 116] (eV 0) (eC (.int 3650000))) sNil)
def f_Ledger_go_to_2 : SF := (sSeq (sFldA [3] [105, 110, 116, 101, 114, 101, 115, 116] (eV 0) .add (eBin false .div (eFld [3] [114, 101, 115, 116] (eV 0)) (eC (.int 3650000)))) f_Ledger_go_to_1)
def f_Ledger_go_to_3 : SF := (sSeq (sFldA [3] [114, 101, 115, 116] (eV 0) .add (eBin false .mul (eGen .sum [2, 3, 4] (iSeq (eFld [3] [100, 101, 98, 116, 115] (eV 0))) (gT (gsCons (gN 2) (gsCons (gN 3) (gsCons (gN 4) gsNil)))) (eCmp .lt (eV 2) (eFld [3] [100, 97, 121] (eV 0))) (eV 4)) (eFld [3] [114, 97, 116, 101] (eV 0)))) f_Ledger_go_to_2)
def f_Ledger_go_to_4 : SF := (sSeq (sFldA [3] [100, 97, 121] (eV 0) .add (eC (.int 1))) f_Ledger_go_to_3)
def f_Ledger_go_to_5 : SF := (sSeq (sWhile (eCmp .lt (eFld [3] [100, 97, 121] (eV 0)) (eV 1)) f_Ledger_go_to_4) sNil)
def f_Ledger_go_to : SF := (sSeq (sIf (eCmp .lt (eV 1) (eFld [3] [100, 97, 121] (eV 0))) (sSeq (sRaise 2) sNil) sNil) f_Ledger_go_to_5)
def f_Ledger_pay_1 : SF := (sSeq (sExp (eApp (eV 5) (eTup (aCons (eV 7) (aCons (eV 8) aNil))))) sNil)
def f_Ledger_pay_2 : SF := (sSeq (sAug 4 .sub (eV 8)) f_Ledger_pay_1)
def f_Ledger_pay_3 : SF := (sSeq (sIf (eCmp .gt (eV 8) (eC (.int 0))) (sSeq (sAugI (eIdx (eFld [3] [100, 101, 98, 116, 115] (eV 0)) (eV 7)) (eC (.int 2)) .sub (eV 8)) f_Ledger_pay_2) sNil) sNil)
def f_Ledger_pay_4 : SF := (sSeq (sSet (gN 8) (eMM false (eV 4) (eIdx (eIdx (eFld [3] [100, 101, 98, 116, 115] (eV 0)) (eV 7)) (eC (.int 2))))) f_Ledger_pay_3)
def f_Ledger_pay_5 : SF := (sSeq (sRet (eTup (aCons (eV 3) (aCons (eU .tuple (eV 5)) (aCons (eV 4) aNil))))) sNil)
def f_Ledger_pay_6 : SF := (sSeq (sFldA [3] [99, 114, 101, 100, 105, 116] (eV 0) .add (eV 4)) f_Ledger_pay_5)
def f_Ledger_pay_7 : SF := (sSeq (sFor (iSeq (eGen (.sorted false) [7, 9] (iEnum (eFld [3] [100, 101, 98, 116, 115] (eV 0))) (gT (gsCons (gN 7) (gsCons (gN 9) gsNil))) eYes (eTup (aCons (eIdx (eV 9) (eC (.int 0))) (aCons (eV 7) aNil))))) (gT (gsCons (gN 6) (gsCons (gN 7) gsNil))) f_Ledger_pay_4) f_Ledger_pay_6)
def f_Ledger_pay_8 : SF := (sSeq (sSet (gT (gsCons (gN 4) (gsCons (gN 5) gsNil))) (eTup (aCons (eBin false .sub (eV 2) (eV 3)) (aCons (eLst true aNil) aNil)))) f_Ledger_pay_7)
def f_Ledger_pay_9 : SF := (sSeq (sFldA [3] [105, 110, 116, 101, 114, 101, 115, 116] (eV 0) .sub (eV 3)) f_Ledger_pay_8)
def f_Ledger_pay_10 : SF := (sSeq (sSet (gN 3) (eMM false (eV 2) (eFld [3] [105, 110, 116, 101, 114, 101, 115, 116] (eV 0)))) f_Ledger_pay_9)
def f_Ledger_pay_11 : SF := (sSeq (sExp (eApp (eFld [3] [112, 97, 121, 109, 101, 110, 116, 115] (eV 0)) (eTup (aCons (eV 1) (aCons (eV 2) aNil))))) f_Ledger_pay_10)
def f_Ledger_pay_12 : SF := (sSeq (sExp (eMeth 3 [103, 111, 95, 116, 111] 4 (eV 0) (aCons (eV 1) aNil))) f_Ledger_pay_11)
def f_Ledger_pay : SF := (sSeq (sExp (eMeth 3 [99, 104, 101, 99, 107] 2 (eV 0) (aCons (eV 1) (aCons (eV 2) aNil)))) f_Ledger_pay_12)
def f_Ledger_balance : SF := (sSeq (sRet (eBin false .sub (eBin false .add (eGen .sum [1, 2, 3] (iSeq (eFld [3] [100, 101, 98, 116, 115] (eV 0))) (gT (gsCons (gN 1) (gsCons (gN 2) (gsCons (gN 3) gsNil)))) eYes (eV 3)) (eFld [3] [105, 110, 116, 101, 114, 101, 115, 116] (eV 0))) (eFld [3] [99, 114, 101, 100, 105, 116] (eV 0)))) sNil)
def f_Ledger_overdue_1 : SF := (sSeq (sRet (eGen .tuple [4, 3, 6] (iSeq (eSort3 false (eV 2))) (gT (gsCons (gN 4) (gsCons (gN 3) (gsCons (gN 6) gsNil)))) eYes (eTup (aCons (eV 3) (aCons (eBin false .sub (eV 1) (eV 4)) (aCons (eV 6) aNil)))))) sNil)
def f_Ledger_overdue : SF := (sSeq (sSet (gN 2) (eLc false [3, 4, 5, 6] (iEnum (eFld [3] [100, 101, 98, 116, 115] (eV 0))) (gT (gsCons (gN 3) (gsCons (gT (gsCons (gN 4) (gsCons (gN 5) (gsCons (gN 6) gsNil)))) gsNil))) (eAnd (eCmp .lt (eV 4) (eV 1)) (eB (eCmp .gt (eV 6) (eC (.int 0))))) (eTup (aCons (eV 4) (aCons (eV 3) (aCons (eV 6) aNil)))))) f_Ledger_overdue_1)
def f_Ledger_plan_1 : SF := (sSeq (sRet (eIf (eCmp .eq (eV 2) (eC (.str [102, 105, 114, 115, 116]))) (eU .tuple (eV 6)) (eU .tuple (eSl3 false (eV 6) oNone oNone (oSome (eNeg (eC (.int 1)))))))) sNil)
def f_Ledger_plan_2 : SF := (sSeq (sSet (gN 6) (eBin false .add (eBin false .mul (eLst false (aCons (eBin false .add (eV 4) (eC (.int 1))) aNil)) (eV 5)) (eBin false .mul (eLst false (aCons (eV 4) aNil)) (eBin false .sub (eV 1) (eV 5))))) f_Ledger_plan_1)
def f_Ledger_plan_3 : SF := (sSeq (sSet (gT (gsCons (gN 4) (gsCons (gN 5) gsNil))) (eTup (aCons (eBin false .div (eV 3) (eV 1)) (aCons (eBin false .mod (eV 3) (eV 1)) aNil)))) f_Ledger_plan_2)
def f_Ledger_plan_4 : SF := (sSeq (sIf (eOr (eNot (eChain .le .le (eC (.int 1)) (eV 1) (eC (.int 120)))) (eOr (eCmp .notIn (eV 2) (eTup (aCons (eC (.str [102, 105, 114, 115, 116])) (aCons (eC (.str [108, 97, 115, 116])) aNil)))) (eB (eCmp .lt (eV 3) (eC (.int 1)))))) (sSeq (sRaise 2) sNil) sNil) f_Ledger_plan_3)
def f_Ledger_plan : SF := (sSeq (sSet (gN 3) (eMeth 3 [98, 97, 108, 97, 110, 99, 101] 6 (eV 0) aNil)) f_Ledger_plan_4)
def f_Ledger_refund_1 : SF := (sSeq (sRet (eV 2)) sNil)
def f_Ledger_refund_2 : SF := (sSeq (sMul 2 (hCons (hN 2) (hCons (hF [3] [99, 114, 101, 100, 105, 116] (eV 0)) hNil)) (aCons (eFld [3] [99, 114, 101, 100, 105, 116] (eV 0)) (aCons (eC (.int 0)) aNil))) f_Ledger_refund_1)
def f_Ledger_refund_3 : SF := (sSeq (sExp (eMeth 3 [103, 111, 95, 116, 111] 4 (eV 0) (aCons (eV 1) aNil))) f_Ledger_refund_2)
def f_Ledger_refund : SF := (sSeq (sIf (eOr (eCmp .lt (eV 1) (eFld [3] [100, 97, 121] (eV 0))) (eB (eCmp .lt (eFld [3] [99, 114, 101, 100, 105, 116] (eV 0)) (eC (.int 1))))) (sSeq (sRaise 2) sNil) sNil) f_Ledger_refund_3)
def f_Ledger_statement_1 : SF := (sSeq (sRet (eU .tuple (eBin false .add (eV 1) (eLst false (aCons (eFs [(eC (.str [105, 110, 116, 101, 114, 101, 115, 116, 32])), (eFld [3] [105, 110, 116, 101, 114, 101, 115, 116] (eV 0))]) (aCons (eFs [(eC (.str [99, 114, 101, 100, 105, 116, 32])), (eFld [3] [99, 114, 101, 100, 105, 116] (eV 0))]) (aCons (eFs [(eC (.str [98, 97, 108, 97, 110, 99, 101, 32])), (eMeth 3 [98, 97, 108, 97, 110, 99, 101] 6 (eV 0) aNil)]) aNil))))))) sNil)
def f_Ledger_statement_2 : SF := (sSeq (sAugL 1 (eLc false [6, 4] (iSeq (eFld [3] [112, 97, 121, 109, 101, 110, 116, 115] (eV 0))) (gT (gsCons (gN 6) (gsCons (gN 4) gsNil))) eYes (eFs [(eC (.str [112, 97, 105, 100, 32])), (eV 6), (eC (.str [32])), (eV 4)]))) f_Ledger_statement_1)
def f_Ledger_statement : SF := (sSeq (sSet (gN 1) (eLc true [2, 3, 4, 5] (iEnum (eFld [3] [100, 101, 98, 116, 115] (eV 0))) (gT (gsCons (gN 2) (gsCons (gT (gsCons (gN 3) (gsCons (gN 4) (gsCons (gN 5) gsNil)))) gsNil))) eYes (eFs [(eC (.str [100, 101, 98, 116, 32])), (eV 2), (eC (.str [32])), (eV 3), (eC (.str [32])), (eV 4), (eC (.str [32])), (eV 5)]))) f_Ledger_statement_2)
def f_compound_1 : SF := (sSeq (sAug 3 .add (eCall 0 (aCons (eBin false .mul (eV 3) (eV 1)) (aCons (eC (.int 10000)) (aCons (eC (.str [110, 101, 97, 114])) aNil))))) sNil)
def f_compound_2 : SF := (sSeq (sRet (eV 3)) sNil)
def f_compound_3 : SF := (sSeq (sFor (iRng1 (eV 2)) (gN 4) f_compound_1) f_compound_2)
def f_compound_4 : SF := (sSeq (sSet (gN 3) (eV 0)) f_compound_3)
def f_compound : SF := (sSeq (sIf (eOr (eCmp .lt (eV 0) (eC (.int 0))) (eOr (eCmp .lt (eV 1) (eC (.int 0))) (eB (eNot (eChain .le .le (eC (.int 0)) (eV 2) (eC (.int 100))))))) (sSeq (sRaise 2) sNil) sNil) f_compound_4)
def f__law_dice_1 : SF := (sSeq (sRet (eLst true (aCons (eV 0) (aCons (eBin false .add (eC (.int 1)) (eBin false .mod (eU .int (eV 0)) (eC (.int 1009)))) (aCons (eU .int (eCmp .ge (eV 0) (eBin false .pow (eC (.int 10)) (eC (.int 18))))) aNil))))) sNil)
def f__law_dice : SF := (sSeq (sIf (eChain .lt .lt (eBin false .sub (eC (.int 0)) (eC (.int 10))) (eV 0) (eC (.int 10))) (sSeq (sRet (eLst true (aCons (eU .abs (eV 0)) (aCons (eC (.int 0)) (aCons (eC (.int 2)) aNil))))) sNil) sNil) f__law_dice_1)
def f__law_roll_1 : SF := (sSeq (sRet (eV 2)) sNil)
def f__law_roll_2 : SF := (sSeq (sPut (eV 0) (eC (.int 0)) (eBin false .div (eIdx (eV 0) (eC (.int 0))) (eV 1))) f__law_roll_1)
def f__law_roll_3 : SF := (sSeq (sRet (eBin false .mod (eU .int (eBin false .div (eIdx (eV 0) (eC (.int 0))) (eC (.int 7)))) (eV 1))) sNil)
def f__law_roll_4 : SF := (sSeq (sPut (eV 0) (eC (.int 1)) (eBin false .add (eIdx (eV 0) (eC (.int 1))) (eC (.int 1)))) f__law_roll_3)
def f__law_roll_5 : SF := (sSeq (sPut (eV 0) (eC (.int 0)) (eBin false .mod (eU .int (eBin false .add (eBin false .add (eBin false .mul (eIdx (eV 0) (eC (.int 0))) (eC (.int 48271))) (eBin false .mul (eIdx (eV 0) (eC (.int 1))) (eC (.int 69621)))) (eC (.int 11)))) (eC (.int 2147483647)))) f__law_roll_4)
def f__law_roll_6 : SF := (sSeq (sIf (eCmp .gt (eV 1) (eC (.int 100000000))) (sSeq (sRet (eBin false .mod (eU .int (eBin false .add (eBin false .mul (eCall 13 (aCons (eV 0) (aCons (eBin false .add (eBin false .div (eV 1) (eC (.int 100000000))) (eC (.int 1))) aNil))) (eC (.int 100000000))) (eCall 13 (aCons (eV 0) (aCons (eC (.int 100000000)) aNil))))) (eV 1))) sNil) sNil) f__law_roll_5)
def f__law_roll_7 : SF := (sSeq (sPut (eV 0) (eC (.int 2)) (eC (.int 0))) f__law_roll_6)
def f__law_roll : SF := (sSeq (sIf (eOr (eCmp .eq (eIdx (eV 0) (eC (.int 2))) (eC (.int 2))) (eB (eAnd (eCmp .eq (eIdx (eV 0) (eC (.int 2))) (eC (.int 1))) (eB (eCmp .gt (eIdx (eV 0) (eC (.int 0))) (eC (.int 0))))))) (sSeq (sSet (gN 2) (eBin false .mod (eU .int (eIdx (eV 0) (eC (.int 0)))) (eV 1))) f__law_roll_2) sNil) f__law_roll_7)
def f__law_rounds_1 : SF := (sSeq (sRet (eLc false [3] (iSeq (eV 2)) (gN 3) eYes (eCall 12 (aCons (eV 3) aNil)))) sNil)
def f__law_rounds_2 : SF := (sSeq (sIf (eCmp .eq (eV 2) (eLst false aNil)) (sSeq (sSet (gN 2) (eLst false (aCons (eC (.int 0)) aNil))) sNil) sNil) f__law_rounds_1)
def f__law_rounds : SF := (sSeq (sSet (gN 2) (eSlc false (eV 0) oNone (oSome (eV 1)))) f__law_rounds_2)
def f__law_go_1 : SF := (sSeq (sPut (eV 0) (eC (.str [116, 111, 112])) (eBin false .mod (eIdx (eV 0) (eC (.str [116, 111, 112]))) (eC (.int 3650000)))) sNil)
def f__law_go_2 : SF := (sSeq (sPut (eV 0) (eC (.str [105, 110, 116, 101, 114, 101, 115, 116])) (eBin false .add (eIdx (eV 0) (eC (.str [105, 110, 116, 101, 114, 101, 115, 116]))) (eBin false .div (eIdx (eV 0) (eC (.str [116, 111, 112]))) (eC (.int 3650000))))) f__law_go_1)
def f__law_go_3 : SF := (sSeq (sPut (eV 0) (eC (.str [116, 111, 112])) (eBin false .add (eIdx (eV 0) (eC (.str [116, 111, 112]))) (eBin false .mul (eU .sum (eLc false [3, 4, 5] (iSeq (eIdx (eV 0) (eC (.str [100, 101, 98, 116, 115])))) (gT (gsCons (gN 3) (gsCons (gN 4) (gsCons (gN 5) gsNil)))) (eCmp .lt (eV 3) (eIdx (eV 0) (eC (.str [100, 97, 121])))) (eV 5))) (eIdx (eV 0) (eC (.str [114, 97, 116, 101])))))) f__law_go_2)
def f__law_go_4 : SF := (sSeq (sPut (eV 0) (eC (.str [100, 97, 121])) (eBin false .add (eIdx (eV 0) (eC (.str [100, 97, 121]))) (eC (.int 1)))) f__law_go_3)
def f__law_go : SF := (sSeq (sFor (iRng1 (eBin false .sub (eV 1) (eIdx (eV 0) (eC (.str [100, 97, 121]))))) (gN 2) f__law_go_4) sNil)
def f__law_pay_1 : SF := (sSeq (sSet (gN 4) (eBin false .sub (eV 4) (eV 7))) sNil)
def f__law_pay_2 : SF := (sSeq (sPut (eIdx (eV 0) (eC (.str [100, 101, 98, 116, 115]))) (eV 6) (eLst false (aCons (eV 5) (aCons (eIdx (eIdx (eIdx (eV 0) (eC (.str [100, 101, 98, 116, 115]))) (eV 6)) (eC (.int 1))) (aCons (eBin false .sub (eIdx (eIdx (eIdx (eV 0) (eC (.str [100, 101, 98, 116, 115]))) (eV 6)) (eC (.int 2))) (eV 7)) aNil))))) f__law_pay_1)
def f__law_pay_3 : SF := (sSeq (sSet (gN 2) (eU (.dict false) (eBin false .add (eLItems (eV 2)) (eBin false .mul (eLst false (aCons (eTup (aCons (eV 6) (aCons (eV 7) aNil))) aNil)) (eU .int (eCmp .gt (eV 7) (eC (.int 0)))))))) f__law_pay_2)
def f__law_pay_4 : SF := (sSeq (sSet (gN 7) (eMM false (eV 4) (eIdx (eIdx (eIdx (eV 0) (eC (.str [100, 101, 98, 116, 115]))) (eV 6)) (eC (.int 2))))) f__law_pay_3)
def f__law_pay_5 : SF := (sSeq (sRet (eTup (aCons (eV 3) (aCons (eTItems (eV 2)) (aCons (eV 4) aNil))))) sNil)
def f__law_pay_6 : SF := (sSeq (sPut (eV 0) (eC (.str [99, 114, 101, 100, 105, 116])) (eBin false .add (eIdx (eV 0) (eC (.str [99, 114, 101, 100, 105, 116]))) (eV 4))) f__law_pay_5)
def f__law_pay_7 : SF := (sSeq (sFor (iSeq (eU (.sorted false) (eLc false [6, 8] (iEnum (eIdx (eV 0) (eC (.str [100, 101, 98, 116, 115])))) (gT (gsCons (gN 6) (gsCons (gN 8) gsNil))) eYes (eTup (aCons (eIdx (eV 8) (eC (.int 0))) (aCons (eV 6) aNil)))))) (gT (gsCons (gN 5) (gsCons (gN 6) gsNil))) f__law_pay_4) f__law_pay_6)
def f__law_pay_8 : SF := (sSeq (sMul 2 (hCons (hS (eV 0) (eC (.str [105, 110, 116, 101, 114, 101, 115, 116]))) (hCons (hN 4) hNil)) (aCons (eBin false .sub (eIdx (eV 0) (eC (.str [105, 110, 116, 101, 114, 101, 115, 116]))) (eV 3)) (aCons (eBin false .sub (eV 1) (eV 3)) aNil))) f__law_pay_7)
def f__law_pay_9 : SF := (sSeq (sSet (gN 3) (eMM false (eV 1) (eIdx (eV 0) (eC (.str [105, 110, 116, 101, 114, 101, 115, 116]))))) f__law_pay_8)
def f__law_pay : SF := (sSeq (sSet (gN 2) (eDct false [])) f__law_pay_9)
def f__law_plain_1 : SF := (sSeq (sExp (eMeth 3 [111, 119, 101] 3 (eV 1) (aCons (eV 2) (aCons (eC (.int 1)) (aCons (eV 2) aNil))))) sNil)
def f__law_plain_2 : SF := (sSeq (sRet (eCmp .eq (eMeth 3 [111, 118, 101, 114, 100, 117, 101] 7 (eV 0) (aCons (eC (.int 20)) aNil)) (eTup (aCons (eTup (aCons (eC (.int 0)) (aCons (eC (.int 10)) (aCons (eC (.int 51000)) aNil)))) aNil)))) sNil)
def f__law_plain_3 : SF := (sSeq (sIf (eNot (eAnd (eCmp .isN (eMeth 3 [99, 104, 101, 99, 107] 2 (eV 0) (aCons (eC (.int 20)) (aCons (eC (.int 1)) aNil))) (eC .non)) (eAnd (eCmp .eq (eCall 11 (aCons (eC (.int 100)) (aCons (eC (.int 500)) (aCons (eC (.int 2)) aNil)))) (eC (.int 110))) (eB (eCmp .eq (eMeth 3 [98, 97, 108, 97, 110, 99, 101] 6 (eV 1) aNil) (eC (.int 300))))))) (sSeq (sRet (eC (.bl false))) sNil) sNil) f__law_plain_2)
def f__law_plain_4 : SF := (sSeq (sIf (eCmp .ne (eIdx (eMeth 3 [112, 108, 97, 110] 8 (eV 0) (aCons (eC (.int 7)) (aCons (eC (.str [108, 97, 115, 116])) aNil))) (eC (.int 0))) (eC (.int 7285))) (sSeq (sRet (eC (.bl false))) sNil) sNil) f__law_plain_3)
def f__law_plain_5 : SF := (sSeq (sIf (eOr (eCmp .ne (eV 4) (eC (.int 0))) (eOr (eCmp .ne (eMeth 3 [112, 97, 121] 5 (eV 0) (aCons (eC (.int 20)) (aCons (eC (.int 50000)) aNil))) (eTup (aCons (eC (.int 1000)) (aCons (eTup (aCons (eTup (aCons (eC (.int 0)) (aCons (eC (.int 49000)) aNil))) aNil)) (aCons (eC (.int 0)) aNil))))) (eB (eCmp .ne (eMeth 3 [98, 97, 108, 97, 110, 99, 101] 6 (eV 0) aNil) (eC (.int 51000)))))) (sSeq (sRet (eC (.bl false))) sNil) sNil) f__law_plain_4)
def f__law_plain_6 : SF := (sSeq (sSet (gN 4) (eFld [3] [105, 110, 116, 101, 114, 101, 115, 116] (eV 0))) f__law_plain_5)
def f__law_plain_7 : SF := (sSeq (sExp (eMeth 3 [103, 111, 95, 116, 111] 4 (eV 0) (aCons (eC (.int 10)) aNil))) f__law_plain_6)
def f__law_plain_8 : SF := (sSeq (sExp (eMeth 3 [111, 119, 101] 3 (eV 0) (aCons (eC (.int 0)) (aCons (eC (.int 100000)) (aCons (eC (.int 10)) aNil))))) f__law_plain_7)
def f__law_plain_9 : SF := (sBad 3 [(eMake 3 1 [] (aCons (eNeg (eC (.int 1))) aNil)), (eMake 3 1 [] (aCons (eC (.int 10001)) aNil)), (eMeth 3 [111, 119, 101] 3 (eV 0) (aCons (eNeg (eC (.int 1))) (aCons (eC (.int 5)) (aCons (eC (.int 5)) aNil)))), (eMeth 3 [111, 119, 101] 3 (eV 0) (aCons (eC (.int 5)) (aCons (eC (.int 0)) (aCons (eC (.int 5)) aNil)))), (eMeth 3 [111, 119, 101] 3 (eV 0) (aCons (eC (.int 5)) (aCons (eC (.int 5)) (aCons (eC (.int 4)) aNil)))), (eMeth 3 [112, 97, 121] 5 (eV 0) (aCons (eC (.int 5)) (aCons (eC (.int 0)) aNil))), (eMeth 3 [103, 111, 95, 116, 111] 4 (eV 0) (aCons (eNeg (eC (.int 1))) aNil)), (eMeth 3 [114, 101, 102, 117, 110, 100] 9 (eV 0) (aCons (eC (.int 5)) aNil)), (eMeth 3 [112, 108, 97, 110] 8 (eV 0) (aCons (eC (.int 5)) (aCons (eC (.str [102, 105, 114, 115, 116])) aNil))), (eMeth 3 [111, 119, 101] 3 (eV 1) (aCons (eC (.int 400)) (aCons (eC (.int 1)) (aCons (eC (.int 400)) aNil)))), (eMeth 3 [112, 97, 121] 5 (eV 1) (aCons (eC (.int 400)) (aCons (eC (.int 1)) aNil))), (eMeth 3 [112, 108, 97, 110] 8 (eV 1) (aCons (eC (.int 0)) (aCons (eC (.str [102, 105, 114, 115, 116])) aNil))), (eMeth 3 [112, 108, 97, 110] 8 (eV 1) (aCons (eC (.int 121)) (aCons (eC (.str [102, 105, 114, 115, 116])) aNil))), (eMeth 3 [112, 108, 97, 110] 8 (eV 1) (aCons (eC (.int 5)) (aCons (eC (.str [109, 105, 100, 100, 108, 101])) aNil))), (eCall 11 (aCons (eNeg (eC (.int 1))) (aCons (eC (.int 1)) (aCons (eC (.int 1)) aNil)))), (eCall 11 (aCons (eC (.int 1)) (aCons (eNeg (eC (.int 1))) (aCons (eC (.int 1)) aNil)))), (eCall 11 (aCons (eC (.int 1)) (aCons (eC (.int 1)) (aCons (eC (.int 101)) aNil))))] (ctOf [2]) [76, 101, 100, 103, 101, 114, 69, 114, 114, 111, 114] (sSeq (sIf (eOr (eCmp .ne (eC (.int 300)) (eC (.int 300))) (eB (eCmp .ne (eFld [3] [100, 101, 98, 116, 115] (eV 0)) (eLst false aNil)))) (sSeq (sRet (eC (.bl false))) sNil) sNil) f__law_plain_8))
def f__law_plain_10 : SF := (sSeq (sFor (iRng1 (eC (.int 300))) (gN 2) f__law_plain_1) f__law_plain_9)
def f__law_plain : SF := (sSeq (sSet (gT (gsCons (gN 0) (gsCons (gN 1) gsNil))) (eTup (aCons (eMake 3 1 [] (aCons (eC (.int 3650)) aNil)) (aCons (eMake 3 1 [] (aCons (eC (.int 0)) aNil)) aNil)))) f__law_plain_10)
def f__law_tells_1 : SF := (sSeq (sSet (gN 12) (eBin false .add (eV 12) (eBin false .div (eBin false .add (eBin false .mul (eV 12) (eV 10)) (eC (.int 5000))) (eC (.int 10000))))) sNil)
def f__law_tells_2 : SF := (sSeq (sRet (eC (.bl true))) sNil)
def f__law_tells_3 : SF := (sSeq (sIf (eCmp .ne (eCall 11 (aCons (eV 9) (aCons (eV 10) (aCons (eV 11) aNil)))) (eV 12)) (sSeq (sRet (eC (.bl false))) sNil) sNil) f__law_tells_2)
def f__law_tells_4 : SF := (sSeq (sFor (iRng1 (eV 11)) (gN 13) f__law_tells_1) f__law_tells_3)
def f__law_tells_5 : SF := (sSeq (sSet (gN 12) (eV 9)) f__law_tells_4)
def f__law_tells_6 : SF := (sSeq (sSet (gT (gsCons (gN 9) (gsCons (gN 10) (gsCons (gN 11) (gsCons (gN 12) gsNil))))) (eTup (aCons (eCall 13 (aCons (eV 0) (aCons (eC (.int 9000)) aNil))) (aCons (eCall 13 (aCons (eV 0) (aCons (eC (.int 2000)) aNil))) (aCons (eCall 13 (aCons (eV 0) (aCons (eC (.int 9)) aNil))) (aCons (eC (.int 0)) aNil)))))) f__law_tells_5)
def f__law_tells_7 : SF := (sSeq (sIf (eCmp .ne (eTold (ctOf [2]) [76, 101, 100, 103, 101, 114, 69, 114, 114, 111, 114] (eMeth 3 [112, 108, 97, 110] 8 (eV 1) (aCons (eV 6) (aCons (eV 7) aNil)))) (eIf (eCmp .gt (eMeth 3 [98, 97, 108, 97, 110, 99, 101] 6 (eV 1) aNil) (eC (.int 0))) (eIf (eCmp .eq (eV 7) (eC (.str [102, 105, 114, 115, 116]))) (eU .tuple (eV 8)) (eU .tuple (eSl3 false (eV 8) oNone oNone (oSome (eNeg (eC (.int 1))))))) (eC (.str [76, 101, 100, 103, 101, 114, 69, 114, 114, 111, 114])))) (sSeq (sRet (eC (.bl false))) sNil) sNil) f__law_tells_6)
def f__law_tells_8 : SF := (sSeq (sSet (gN 8) (eLc false [19] (iRng1 (eV 6)) (gN 19) eYes (eBin false .add (eBin false .div (eMeth 3 [98, 97, 108, 97, 110, 99, 101] 6 (eV 1) aNil) (eV 6)) (eU .int (eCmp .lt (eV 19) (eBin false .mod (eMeth 3 [98, 97, 108, 97, 110, 99, 101] 6 (eV 1) aNil) (eV 6))))))) f__law_tells_7)
def f__law_tells_9 : SF := (sSeq (sSet (gT (gsCons (gN 6) (gsCons (gN 7) gsNil))) (eTup (aCons (eBin false .add (eC (.int 1)) (eCall 13 (aCons (eV 0) (aCons (eC (.int 14)) aNil)))) (aCons (eIdx (eLst false (aCons (eC (.str [102, 105, 114, 115, 116])) (aCons (eC (.str [108, 97, 115, 116])) aNil))) (eCall 13 (aCons (eV 0) (aCons (eC (.int 2)) aNil)))) aNil)))) f__law_tells_8)
def f__law_tells_10 : SF := (sSeq (sIf (eCmp .ne (eU (.list false) (eMeth 3 [115, 116, 97, 116, 101, 109, 101, 110, 116] 10 (eV 1) aNil)) (eBin false .add (eV 5) (eLst false (aCons (eBin false .add (eC (.str [105, 110, 116, 101, 114, 101, 115, 116, 32])) (eU .str (eIdx (eV 2) (eC (.str [105, 110, 116, 101, 114, 101, 115, 116]))))) (aCons (eBin false .add (eC (.str [99, 114, 101, 100, 105, 116, 32])) (eU .str (eIdx (eV 2) (eC (.str [99, 114, 101, 100, 105, 116]))))) (aCons (eBin false .add (eC (.str [98, 97, 108, 97, 110, 99, 101, 32])) (eU .str (eMeth 3 [98, 97, 108, 97, 110, 99, 101] 6 (eV 1) aNil))) aNil)))))) (sSeq (sRet (eC (.bl false))) sNil) sNil) f__law_tells_9)
def f__law_tells_11 : SF := (sSeq (sSet (gN 5) (eBin false .add (eLc false [14, 15, 16, 17] (iEnum (eIdx (eV 2) (eC (.str [100, 101, 98, 116, 115])))) (gT (gsCons (gN 14) (gsCons (gT (gsCons (gN 15) (gsCons (gN 16) (gsCons (gN 17) gsNil)))) gsNil))) eYes (eJoin [32] (eLst false (aCons (eC (.str [100, 101, 98, 116])) (aCons (eU .str (eV 14)) (aCons (eU .str (eV 15)) (aCons (eU .str (eV 16)) (aCons (eU .str (eV 17)) aNil)))))))) (eLc false [18, 16] (iSeq (eIdx (eV 2) (eC (.str [112, 97, 105, 100])))) (gT (gsCons (gN 18) (gsCons (gN 16) gsNil))) eYes (eBin false .add (eBin false .add (eBin false .add (eC (.str [112, 97, 105, 100, 32])) (eU .str (eV 18))) (eC (.str [32]))) (eU .str (eV 16)))))) f__law_tells_10)
def f__law_tells_12 : SF := (sSeq (sIf (eCmp .ne (eU (.list false) (eMeth 3 [111, 118, 101, 114, 100, 117, 101] 7 (eV 1) (aCons (eV 3) aNil))) (eLc false [15, 14, 17] (iSeq (eV 4)) (gT (gsCons (gN 15) (gsCons (gN 14) (gsCons (gN 17) gsNil)))) eYes (eTup (aCons (eV 14) (aCons (eBin false .sub (eV 3) (eV 15)) (aCons (eV 17) aNil)))))) (sSeq (sRet (eC (.bl false))) sNil) sNil) f__law_tells_11)
def f__law_tells_13 : SF := (sSeq (sSet (gN 4) (eSort3 false (eLc false [14, 15, 16, 17] (iEnum (eIdx (eV 2) (eC (.str [100, 101, 98, 116, 115])))) (gT (gsCons (gN 14) (gsCons (gT (gsCons (gN 15) (gsCons (gN 16) (gsCons (gN 17) gsNil)))) gsNil))) (eAnd (eCmp .lt (eV 15) (eV 3)) (eB (eCmp .gt (eV 17) (eC (.int 0))))) (eTup (aCons (eV 15) (aCons (eV 14) (aCons (eV 17) aNil))))))) f__law_tells_12)
def f__law_tells : SF := (sSeq (sSet (gN 3) (eBin false .add (eIdx (eV 2) (eC (.str [100, 97, 121]))) (eCall 13 (aCons (eV 0) (aCons (eC (.int 30)) aNil))))) f__law_tells_13)
def f_law_1 : SF := (sSeq (sMul 3 (hCons (hS (eV 2) (eC (.str [100, 101, 98, 116, 115]))) (hCons (hS (eV 2) (eC (.str [99, 114, 101, 100, 105, 116]))) (hCons (hN 4) hNil))) (aCons (eBin true .add (eIdx (eV 2) (eC (.str [100, 101, 98, 116, 115]))) (eLst false (aCons (eLst false (aCons (eV 10) (aCons (eV 8) (aCons (eBin false .sub (eV 8) (eV 11)) aNil)))) aNil))) (aCons (eBin true .sub (eIdx (eV 2) (eC (.str [99, 114, 101, 100, 105, 116]))) (eV 11)) (aCons (eBin false .add (eV 4) (eV 8)) aNil)))) sNil)
def f_law_2 : SF := (sSeq (sSet (gN 11) (eMM false (eIdx (eV 2) (eC (.str [99, 114, 101, 100, 105, 116]))) (eV 8))) f_law_1)
def f_law_3 : SF := (sSeq (sIf (eV 9) (sSeq (sExp (eCall 15 (aCons (eV 2) (aCons (eV 7) aNil)))) f_law_2) sNil) sNil)
def f_law_4 : SF := (sSeq (sIf (eCmp .eq (eCmp .eq (eTold (ctOf [2]) [76, 101, 100, 103, 101, 114, 69, 114, 114, 111, 114] (eMeth 3 [111, 119, 101] 3 (eV 3) (aCons (eV 7) (aCons (eV 8) (aCons (eV 10) aNil))))) (eC (.str [76, 101, 100, 103, 101, 114, 69, 114, 114, 111, 114]))) (eV 9)) (sSeq (sRet (eC (.bl false))) sNil) sNil) f_law_3)
def f_law_5 : SF := (sSeq (sSet (gN 9) (eAnd (eV 9) (eAnd (eCmp .gt (eV 8) (eC (.int 0))) (eB (eCmp .ge (eV 10) (eV 7)))))) f_law_4)
def f_law_6 : SF := (sSeq (sIf (eCmp .ne (eV 12) (eCall 16 (aCons (eV 2) (aCons (eV 8) aNil)))) (sSeq (sRet (eC (.bl false))) sNil) sNil) sNil)
def f_law_7 : SF := (sSeq (sMul 2 (hCons (hS (eV 2) (eC (.str [112, 97, 105, 100]))) (hCons (hN 4) hNil)) (aCons (eBin true .add (eIdx (eV 2) (eC (.str [112, 97, 105, 100]))) (eLst false (aCons (eTup (aCons (eV 7) (aCons (eV 8) aNil))) aNil))) (aCons (eBin false .sub (eV 4) (eV 8)) aNil))) f_law_6)
def f_law_8 : SF := (sSeq (sIf (eV 9) (sSeq (sExp (eCall 15 (aCons (eV 2) (aCons (eV 7) aNil)))) f_law_7) sNil) sNil)
def f_law_9 : SF := (sSeq (sIf (eCmp .eq (eCmp .eq (eV 12) (eC (.str [76, 101, 100, 103, 101, 114, 69, 114, 114, 111, 114]))) (eV 9)) (sSeq (sRet (eC (.bl false))) sNil) sNil) f_law_8)
def f_law_10 : SF := (sSeq (sSet (gN 12) (eTold (ctOf [2]) [76, 101, 100, 103, 101, 114, 69, 114, 114, 111, 114] (eMeth 3 [112, 97, 121] 5 (eV 3) (aCons (eV 7) (aCons (eV 8) aNil))))) f_law_9)
def f_law_11 : SF := (sSeq (sIf (eV 9) (sSeq (sExp (eCall 15 (aCons (eV 2) (aCons (eV 7) aNil)))) sNil) sNil) sNil)
def f_law_12 : SF := (sSeq (sMul 2 (hCons (hS (eV 2) (eC (.str [99, 114, 101, 100, 105, 116]))) (hCons (hN 4) hNil)) (aCons (eC (.int 0)) (aCons (eBin false .add (eV 4) (eIdx (eV 2) (eC (.str [99, 114, 101, 100, 105, 116])))) aNil))) sNil)
def f_law_13 : SF := (sSeq (sIf (eV 9) (sSeq (sExp (eCall 15 (aCons (eV 2) (aCons (eV 7) aNil)))) f_law_12) sNil) sNil)
def f_law_14 : SF := (sSeq (sIf (eCmp .ne (eTold (ctOf [2]) [76, 101, 100, 103, 101, 114, 69, 114, 114, 111, 114] (eMeth 3 [114, 101, 102, 117, 110, 100] 9 (eV 3) (aCons (eV 7) aNil))) (eIf (eV 9) (eIdx (eV 2) (eC (.str [99, 114, 101, 100, 105, 116]))) (eC (.str [76, 101, 100, 103, 101, 114, 69, 114, 114, 111, 114])))) (sSeq (sRet (eC (.bl false))) sNil) sNil) f_law_13)
def f_law_15 : SF := (sSeq (sIf (eCmp .ne (eMeth 3 [98, 97, 108, 97, 110, 99, 101] 6 (eV 3) aNil) (eBin false .sub (eBin false .add (eU .sum (eLc false [10, 13, 14] (iSeq (eIdx (eV 2) (eC (.str [100, 101, 98, 116, 115])))) (gT (gsCons (gN 10) (gsCons (gN 13) (gsCons (gN 14) gsNil)))) eYes (eV 14))) (eIdx (eV 2) (eC (.str [105, 110, 116, 101, 114, 101, 115, 116])))) (eIdx (eV 2) (eC (.str [99, 114, 101, 100, 105, 116]))))) (sSeq (sRet (eC (.bl false))) sNil) sNil) sNil)
def f_law_16 : SF := (sSeq (sIf (eOr (eEqD true (eFld [3] [100, 101, 98, 116, 115] (eV 3)) (eIdx (eV 2) (eC (.str [100, 101, 98, 116, 115])))) (eOr (eCmp .ne (eFld [3] [112, 97, 121, 109, 101, 110, 116, 115] (eV 3)) (eIdx (eV 2) (eC (.str [112, 97, 105, 100])))) (eB (eCmp .ne (eLst false (aCons (eFld [3] [99, 114, 101, 100, 105, 116] (eV 3)) (aCons (eFld [3] [105, 110, 116, 101, 114, 101, 115, 116] (eV 3)) (aCons (eFld [3] [100, 97, 121] (eV 3)) (aCons (eFld [3] [114, 101, 115, 116] (eV 3)) aNil))))) (eLst false (aCons (eIdx (eV 2) (eC (.str [99, 114, 101, 100, 105, 116]))) (aCons (eIdx (eV 2) (eC (.str [105, 110, 116, 101, 114, 101, 115, 116]))) (aCons (eIdx (eV 2) (eC (.str [100, 97, 121]))) (aCons (eIdx (eV 2) (eC (.str [116, 111, 112]))) aNil))))))))) (sSeq (sRet (eC (.bl false))) sNil) sNil) f_law_15)
def f_law_17 : SF := (sSeq (sIf (eCmp .lt (eV 6) (eC (.int 3))) (sSeq (sSet (gN 10) (eBin false .sub (eBin false .add (eV 7) (eCall 13 (aCons (eV 1) (aCons (eC (.int 40)) aNil)))) (eBin false .mul (eU .int (eCmp .eq (eCall 13 (aCons (eV 1) (aCons (eC (.int 9)) aNil))) (eC (.int 0)))) (eC (.int 41))))) f_law_5) (sSeq (sIf (eCmp .lt (eV 6) (eC (.int 6))) (sSeq (sSet (gN 9) (eAnd (eV 9) (eB (eCmp .gt (eV 8) (eC (.int 0)))))) f_law_10) (sSeq (sIf (eCmp .eq (eV 6) (eC (.int 6))) (sSeq (sIf (eCmp .eq (eCmp .eq (eTold (ctOf [2]) [76, 101, 100, 103, 101, 114, 69, 114, 114, 111, 114] (eMeth 3 [103, 111, 95, 116, 111] 4 (eV 3) (aCons (eV 7) aNil))) (eC (.str [76, 101, 100, 103, 101, 114, 69, 114, 114, 111, 114]))) (eV 9)) (sSeq (sRet (eC (.bl false))) sNil) sNil) f_law_11) (sSeq (sSet (gN 9) (eAnd (eV 9) (eB (eCmp .gt (eIdx (eV 2) (eC (.str [99, 114, 101, 100, 105, 116]))) (eC (.int 0)))))) f_law_14)) sNil)) sNil)) f_law_16)
def f_law_18 : SF := (sSeq (sSet (gN 9) (eCmp .ge (eV 7) (eIdx (eV 2) (eC (.str [100, 97, 121]))))) f_law_17)
def f_law_19 : SF := (sSeq (sSet (gT (gsCons (gN 6) (gsCons (gN 7) (gsCons (gN 8) gsNil)))) (eTup (aCons (eCall 13 (aCons (eV 1) (aCons (eC (.int 8)) aNil))) (aCons (eBin false .sub (eBin false .add (eIdx (eV 2) (eC (.str [100, 97, 121]))) (eCall 13 (aCons (eV 1) (aCons (eC (.int 60)) aNil)))) (eBin false .mul (eU .int (eCmp .eq (eCall 13 (aCons (eV 1) (aCons (eC (.int 9)) aNil))) (eC (.int 0)))) (eC (.int 70)))) (aCons (eBin false .sub (eCall 13 (aCons (eV 1) (aCons (eC (.int 90000)) aNil))) (eBin false .mul (eU .int (eCmp .eq (eCall 13 (aCons (eV 1) (aCons (eC (.int 12)) aNil))) (eC (.int 0)))) (eC (.int 90000)))) aNil))))) f_law_18)
def f_law_20 : SF := (sSeq (sIf (eNot (eCall 18 (aCons (eV 1) (aCons (eV 3) (aCons (eV 2) aNil))))) (sSeq (sRet (eC (.bl false))) sNil) sNil) sNil)
def f_law_21 : SF := (sSeq (sFor (iRng1 (eCall 13 (aCons (eV 1) (aCons (eC (.int 21)) aNil)))) (gN 5) f_law_19) f_law_20)
def f_law_22 : SF := (sSeq (sSet (gT (gsCons (gN 3) (gsCons (gN 4) gsNil))) (eTup (aCons (eMake 3 1 [] (aCons (eIdx (eV 2) (eC (.str [114, 97, 116, 101]))) aNil)) (aCons (eC (.int 0)) aNil)))) f_law_21)
def f_law_23 : SF := (sSeq (sSet (gN 2) (eDct true [((eC (.str [114, 97, 116, 101])), (eCall 13 (aCons (eV 1) (aCons (eC (.int 10001)) aNil)))), ((eC (.str [100, 101, 98, 116, 115])), (eLst true aNil)), ((eC (.str [112, 97, 105, 100])), (eLst true aNil)), ((eC (.str [99, 114, 101, 100, 105, 116])), (eC (.int 0))), ((eC (.str [105, 110, 116, 101, 114, 101, 115, 116])), (eC (.int 0))), ((eC (.str [100, 97, 121])), (eC (.int 0))), ((eC (.str [116, 111, 112])), (eC (.int 0)))])) f_law_22)
def f_law_24 : SF := (sSeq (sRet (eCall 17 aNil)) sNil)
def f_law : SF := (sSeq (sFor (iSeq (eCall 14 (aCons (eV 0) (aCons (eC (.int 1)) aNil)))) (gN 1) f_law_23) (sCl f_law_24))
def PL : List Def := [⟨5, 3, f_rounded⟩, ⟨2, 2, f_Ledger___init__⟩, ⟨3, 3, f_Ledger_check⟩, ⟨5, 4, f_Ledger_owe⟩, ⟨5, 2, f_Ledger_go_to⟩, ⟨10, 3, f_Ledger_pay⟩, ⟨4, 1, f_Ledger_balance⟩, ⟨7, 2, f_Ledger_overdue⟩, ⟨7, 3, f_Ledger_plan⟩, ⟨3, 2, f_Ledger_refund⟩, ⟨7, 1, f_Ledger_statement⟩, ⟨5, 3, f_compound⟩, ⟨1, 1, f__law_dice⟩, ⟨3, 2, f__law_roll⟩, ⟨4, 2, f__law_rounds⟩, ⟨6, 2, f__law_go⟩, ⟨9, 2, f__law_pay⟩, ⟨6, 0, f__law_plain⟩, ⟨20, 3, f__law_tells⟩, ⟨15, 1, f_law⟩]
def P : Prog := fun i => PL[i]?
theorem p_rounded : P 0 = some ⟨5, 3, f_rounded⟩ := rfl
theorem p_Ledger___init__ : P 1 = some ⟨2, 2, f_Ledger___init__⟩ := rfl
theorem p_Ledger_check : P 2 = some ⟨3, 3, f_Ledger_check⟩ := rfl
theorem p_Ledger_owe : P 3 = some ⟨5, 4, f_Ledger_owe⟩ := rfl
theorem p_Ledger_go_to : P 4 = some ⟨5, 2, f_Ledger_go_to⟩ := rfl
theorem p_Ledger_pay : P 5 = some ⟨10, 3, f_Ledger_pay⟩ := rfl
theorem p_Ledger_balance : P 6 = some ⟨4, 1, f_Ledger_balance⟩ := rfl
theorem p_Ledger_overdue : P 7 = some ⟨7, 2, f_Ledger_overdue⟩ := rfl
theorem p_Ledger_plan : P 8 = some ⟨7, 3, f_Ledger_plan⟩ := rfl
theorem p_Ledger_refund : P 9 = some ⟨3, 2, f_Ledger_refund⟩ := rfl
theorem p_Ledger_statement : P 10 = some ⟨7, 1, f_Ledger_statement⟩ := rfl
theorem p_compound : P 11 = some ⟨5, 3, f_compound⟩ := rfl
theorem p__law_dice : P 12 = some ⟨1, 1, f__law_dice⟩ := rfl
theorem p__law_roll : P 13 = some ⟨3, 2, f__law_roll⟩ := rfl
theorem p__law_rounds : P 14 = some ⟨4, 2, f__law_rounds⟩ := rfl
theorem p__law_go : P 15 = some ⟨6, 2, f__law_go⟩ := rfl
theorem p__law_pay : P 16 = some ⟨9, 2, f__law_pay⟩ := rfl
theorem p__law_plain : P 17 = some ⟨6, 0, f__law_plain⟩ := rfl
theorem p__law_tells : P 18 = some ⟨20, 3, f__law_tells⟩ := rfl
theorem p_law : P 19 = some ⟨15, 1, f_law⟩ := rfl
end K08

set_option Elab.async false
set_option linter.all false
set_option autoImplicit false
set_option maxRecDepth 100000
set_option maxHeartbeats 2000000
namespace K08
open TX TL
abbrev Dt := Int × Int × Int
structure Lg where
  rate : Int
  debts : List Dt
  pays : List (Int × Int)
  credit : Int
  interest : Int
  day : Int
  rest : Int
def cell (d : Dt) : AO := .lst [.int d.1, .int d.2.1, .int d.2.2]
def leO (D Pm : Nat) (g : Lg) : AO := .ins 3 [([114, 97, 116, 101], .int g.rate), ([100, 101, 98, 116, 115], .ref D), ([112, 97, 121, 109, 101, 110, 116, 115], .ref Pm), ([99, 114, 101, 100, 105, 116], .int g.credit), ([105, 110, 116, 101, 114, 101, 115, 116], .int g.interest), ([100, 97, 121], .int g.day), ([114, 101, 115, 116], .int g.rest)]
/-- the ledger stands at L; its debts, with their places, are ds -/
structure Led (h : AH) (L D Pm : Nat) (ds : List (Nat × Dt)) (g : Lg) : Prop where
  l : hget h L = some (leO D Pm g)
  d : hget h D = some (.lst (ds.map fun p => .ref p.1))
  p : hget h Pm = some (.lst (g.pays.map prA))
  e : g.debts = ds.map (·.2)
  i : ∀ p ∈ ds, hget h p.1 = some (cell p.2)
  nd : (L :: D :: Pm :: ds.map (·.1)).Nodup
section
variable {h : AH} {L D Pm : Nat} {ds : List (Nat × Dt)} {g : Lg}
theorem Led.LD (a : Led h L D Pm ds g) : D ≠ L ∧ Pm ≠ L ∧ D ≠ Pm ∧ (∀ p ∈ ds, p.1 ≠ L ∧ p.1 ≠ D ∧ p.1 ≠ Pm) := by
  have n := a.nd
  simp only [List.nodup_cons, List.mem_cons, not_or] at n
  obtain ⟨⟨n1, n2, n3⟩, ⟨n4, n5⟩, n6, n7⟩ := n
  have m : ∀ p ∈ ds, p.1 ∈ ds.map (·.1) := fun p hp => List.mem_map.mpr ⟨p, hp, rfl⟩
  exact ⟨fun e => n1 e.symm, fun e => n2 e.symm, n4, fun p hp => ⟨fun e => n3 (e ▸ m p hp), fun e => n5 (e ▸ m p hp), fun e => n6 (e ▸ m p hp)⟩⟩
/-- all at its places -/
def foot (L D Pm : Nat) (ds : List (Nat × Dt)) : List Nat := L :: D :: Pm :: ds.map (·.1)
theorem Led.frame {h' : AH} (a : Led h L D Pm ds g) (k : ∀ j ∈ foot L D Pm ds, hget h' j = hget h j) : Led h' L D Pm ds g := by
  refine ⟨?_, ?_, ?_, a.e, fun p hp => ?_, a.nd⟩
  · rw [k L (by simp [foot]), a.l]
  · rw [k D (by simp [foot]), a.d]
  · rw [k Pm (by simp [foot]), a.p]
  · rw [k p.1 (by simp only [foot, List.mem_cons]; exact .inr (.inr (.inr (List.mem_map.mpr ⟨p, hp, rfl⟩)))), a.i p hp]
/-- numbers changed in the ledger itself -/
theorem Led.num {g' : Lg} (a : Led h L D Pm ds g) (e1 : g'.debts = g.debts) (e2 : g'.pays = g.pays) : Led (hset h L (leO D Pm g')) L D Pm ds g' := by
  obtain ⟨n1, n2, n3, n4⟩ := a.LD
  refine ⟨hget_set_eq (hget_lt a.l), ?_, ?_, by rw [e1, a.e], fun p hp => ?_, a.nd⟩
  · rw [hget_set_ne n1, a.d]
  · rw [hget_set_ne n2, a.p, e2]
  · rw [hget_set_ne (n4 p hp).1, a.i p hp]
end
theorem hset_self {o : AO} : ∀ {h : AH} {i : Nat}, hget h i = some o → hset h i o = h
  | [], _, e => by cases e
  | x :: h, i, e => by
    rw [hget_cons] at e
    unfold hset
    by_cases q : i = h.length
    · rw [if_pos q] at e ⊢; cases e; rfl
    · rw [if_neg q] at e ⊢; rw [hset_self e]
/-- what the debts that are due ahead of a day come to -/
def dueS (ds : List Dt) (day : Int) : Int := ((ds.filter fun d => decide (d.1 < day)).map (·.2.2)).sum
def day1 (g : Lg) : Lg := { g with day := g.day + 1, interest := g.interest + (g.rest + dueS g.debts (g.day + 1) * g.rate) / 3650000, rest := (g.rest + dueS g.debts (g.day + 1) * g.rate) % 3650000 }
def days (g : Lg) : Nat → Lg
  | 0 => g
  | n + 1 => day1 (days g n)
theorem days_day (g : Lg) : ∀ n : Nat, (days g n).day = g.day + n
  | 0 => by simp [days]
  | n + 1 => by
    show (days g n).day + 1 = _
    rw [days_day g n]
    push_cast
    omega
theorem days_same (g : Lg) : ∀ n : Nat, (days g n).debts = g.debts ∧ (days g n).pays = g.pays ∧ (days g n).rate = g.rate ∧ (days g n).credit = g.credit
  | 0 => ⟨rfl, rfl, rfl, rfl⟩
  | n + 1 => days_same g n
/-- the day comes -/
def goN (g : Lg) (day : Int) : Lg := days g (day - g.day).toNat
theorem dK (n : Nat) (t : Int) : t.fdiv 3650000 = t / 3650000 := Int.fdiv_eq_ediv_of_nonneg _ (by decide)
theorem dKd (t : Int) : t.fdiv 3650000 = t / 3650000 := Int.fdiv_eq_ediv_of_nonneg _ (by decide)
theorem dKm (t : Int) : t.fmod 3650000 = t % 3650000 := Int.fmod_eq_emod_of_nonneg _ (by decide)
section
variable {h : AH} {L D Pm : Nat} {ds : List (Nat × Dt)} {g : Lg} {n : Nat}
theorem lst3 (p : Nat × Dt) {h : AH} (e : hget h p.1 = some (cell p.2)) (s : St) (i j k : Nat) : gT (gsCons (gN i) (gsCons (gN j) (gsCons (gN k) gsNil))) (.ref p.1) s h = some (((s.set i (some (.int p.2.1))).set j (some (.int p.2.2.1))).set k (some (.int p.2.2.2))) := by
  unfold gT
  simp only [lst_of e]
  rfl
theorem due_lc {φ : Fn} {h : AH} {gd : Gd} (hg : gOk gd h = true) (hi : ∀ p ∈ ds, hget h p.1 = some (cell p.2)) (hl : hget h L = some (leO D Pm g)) {day : AV} :
    lcGo φ (gT (gsCons (gN 2) (gsCons (gN 3) (gsCons (gN 4) gsNil)))) (eCmp .lt (eV 2) (eFld [3] [100, 97, 121] (eV 0))) (eV 4) [some (.ref L), some day, none, none, none] gd (ds.map fun p => .ref p.1) h =
    .ok (((ds.filter fun p => decide (p.2.1 < g.day)).map fun p => p.2.2.2).map .int) h := by
  rw [List.map_map]
  have fd : fldA [3] [100, 97, 121] (.ref L) h = some (.int g.day) := by rw [fld_of [3] _ hl (by simp)]; rfl
  refine lc_filter (fun p : Nat × Dt => .ref p.1) (fun p => decide (p.2.1 < g.day)) _ hg fun p hp => ⟨_, lst3 p (hi p hp) _ 2 3 4, ?_, fun _ => rfl⟩
  simp -implicitDefEqProofs [fd]
theorem go_step {φ : Fn} (hl : hget h L = some (leO D Pm g)) (hd : hget h D = some (.lst (ds.map fun p => .ref p.1))) (hi : ∀ p ∈ ds, hget h p.1 = some (cell p.2)) (he : g.debts = ds.map (·.2)) (nDL : D ≠ L) (nL : ∀ p ∈ ds, p.1 ≠ L) (hr : 0 ≤ g.rate ∧ g.rate ≤ 10000) (hz : ds.length ≤ 1000) {day : AV} :
    f_Ledger_go_to_4 φ [some (.ref L), some day, none, none, none] h = .ok (.nx [some (.ref L), some day, none, none, none]) (hset h L (leO D Pm (day1 g))) := by
  have hlt := hget_lt hl
  have sr : small g.rate = true := small_of (by omega) (by omega)
  have hL : ∀ u, hget (hset h L u) L = some u := fun u => hget_set_eq hlt
  have hD : ∀ u, hget (hset h L u) D = some (.lst (ds.map fun p => .ref p.1)) := fun u => by rw [hget_set_ne nDL, hd]
  have hI : ∀ u, ∀ p ∈ ds, hget (hset h L u) p.1 = some (cell p.2) := fun u p hp => by rw [hget_set_ne (nL p hp), hi p hp]
  have i0 := ins_of hl
  have e1 : setF [3] [100, 97, 121] (.ref L) (.int (g.day + 1)) h = some (hset h L (leO D Pm { g with day := g.day + 1 })) := setF_of hl (by simp) (by simp)
  have l1 := hL (leO D Pm { g with day := g.day + 1 })
  have i1 := ins_of l1
  have q0 : insOf (.ref L) h = some (3, [([114, 97, 116, 101], .int g.rate), ([100, 101, 98, 116, 115], .ref D), ([112, 97, 121, 109, 101, 110, 116, 115], .ref Pm), ([99, 114, 101, 100, 105, 116], .int g.credit), ([105, 110, 116, 101, 114, 101, 115, 116], .int g.interest), ([100, 97, 121], .int g.day), ([114, 101, 115, 116], .int g.rest)]) := i0
  have f1 : fldA [3] [100, 101, 98, 116, 115] (.ref L) (hset h L (leO D Pm { g with day := g.day + 1 })) = some (.ref D) := by rw [fld_of [3] _ l1 (by simp)]; rfl
  have f2 : fldA [3] [114, 97, 116, 101] (.ref L) (hset h L (leO D Pm { g with day := g.day + 1 })) = some (.int g.rate) := by rw [fld_of [3] _ l1 (by simp)]; rfl
  have lc := due_lc (φ := φ) (ds := ds) (h := hset h L (leO D Pm { g with day := g.day + 1 })) (gd := [(D, .lst (ds.map fun p => .ref p.1))]) (gOk_one (hD _)) (hI _) l1 (day := day)
  have sd := seq_of (hD (leO D Pm { g with day := g.day + 1 }))
  have gd := gd_of (hD (leO D Pm { g with day := g.day + 1 }))
  have es : ((ds.filter fun p => decide (p.2.1 < g.day + 1)).map fun p => p.2.2.2).sum = dueS g.debts (g.day + 1) := by
    unfold dueS
    rw [he, List.filter_map, List.map_map]
    rfl
  have su : ∀ h, uL .sum (List.map (AV.int ∘ fun p => p.2.2.2) (ds.filter fun p => decide (p.2.1 < g.day + 1))) h = .ok (.int (dueS g.debts (g.day + 1))) h := fun h => by
    rw [← List.map_map]
    show (match intsO _ with | some is => Out.ok (AV.int is.sum) h | none => .stuck) = _
    rw [ints_of]
    show Out.ok (AV.int _) h = _
    rw [es]
  generalize hT : dueS g.debts (g.day + 1) = T at *
  have hq1 : insOf (.ref L) (hset h L (leO D Pm { g with day := g.day + 1 })) = some (3, [([114, 97, 116, 101], .int g.rate), ([100, 101, 98, 116, 115], .ref D), ([112, 97, 121, 109, 101, 110, 116, 115], .ref Pm), ([99, 114, 101, 100, 105, 116], .int g.credit), ([105, 110, 116, 101, 114, 101, 115, 116], .int g.interest), ([100, 97, 121], .int (g.day + 1)), ([114, 101, 115, 116], .int g.rest)]) := i1
  have e2 : setF [3] [114, 101, 115, 116] (.ref L) (.int (g.rest + T * g.rate)) (hset h L (leO D Pm { g with day := g.day + 1 })) = some (hset h L (leO D Pm { g with day := g.day + 1, rest := g.rest + T * g.rate })) := by
    rw [setF_of l1 (by simp) (by simp), hset_hset]
    rfl
  have l2 := hL (leO D Pm { g with day := g.day + 1, rest := g.rest + T * g.rate })
  have i2 := ins_of l2
  have hq2 : insOf (.ref L) (hset h L (leO D Pm { g with day := g.day + 1, rest := g.rest + T * g.rate })) = some (3, [([114, 97, 116, 101], .int g.rate), ([100, 101, 98, 116, 115], .ref D), ([112, 97, 121, 109, 101, 110, 116, 115], .ref Pm), ([99, 114, 101, 100, 105, 116], .int g.credit), ([105, 110, 116, 101, 114, 101, 115, 116], .int g.interest), ([100, 97, 121], .int (g.day + 1)), ([114, 101, 115, 116], .int (g.rest + T * g.rate))]) := i2
  have f3 : fldA [3] [114, 101, 115, 116] (.ref L) (hset h L (leO D Pm { g with day := g.day + 1, rest := g.rest + T * g.rate })) = some (.int (g.rest + T * g.rate)) := by rw [fld_of [3] _ l2 (by simp)]; rfl
  have e3 : setF [3] [105, 110, 116, 101, 114, 101, 115, 116] (.ref L) (.int (g.interest + (g.rest + T * g.rate) / 3650000)) (hset h L (leO D Pm { g with day := g.day + 1, rest := g.rest + T * g.rate })) = some (hset h L (leO D Pm { g with day := g.day + 1, rest := g.rest + T * g.rate, interest := g.interest + (g.rest + T * g.rate) / 3650000 })) := by
    rw [setF_of l2 (by simp) (by simp), hset_hset]
    rfl
  have l3 := hL (leO D Pm { g with day := g.day + 1, rest := g.rest + T * g.rate, interest := g.interest + (g.rest + T * g.rate) / 3650000 })
  have i3 := ins_of l3
  have hq3 : insOf (.ref L) (hset h L (leO D Pm { g with day := g.day + 1, rest := g.rest + T * g.rate, interest := g.interest + (g.rest + T * g.rate) / 3650000 })) = some (3, [([114, 97, 116, 101], .int g.rate), ([100, 101, 98, 116, 115], .ref D), ([112, 97, 121, 109, 101, 110, 116, 115], .ref Pm), ([99, 114, 101, 100, 105, 116], .int g.credit), ([105, 110, 116, 101, 114, 101, 115, 116], .int (g.interest + (g.rest + T * g.rate) / 3650000)), ([100, 97, 121], .int (g.day + 1)), ([114, 101, 115, 116], .int (g.rest + T * g.rate))]) := i3
  have e4 : setF [3] [114, 101, 115, 116] (.ref L) (.int ((g.rest + T * g.rate) % 3650000)) (hset h L (leO D Pm { g with day := g.day + 1, rest := g.rest + T * g.rate, interest := g.interest + (g.rest + T * g.rate) / 3650000 })) = some (hset h L (leO D Pm (day1 g))) := by
    rw [setF_of l3 (by simp) (by simp), hset_hset]
    unfold day1
    rw [hT]
    rfl
  simp -implicitDefEqProofs [f_Ledger_go_to_4, q0, fget, intOp, e1]
  simp -implicitDefEqProofs [f_Ledger_go_to_3, hq1, fget, f1, f2, sd, gd, wipe, lc, su, sr, intOp, e2, show ds.length < 16777216 by omega]
  simp -implicitDefEqProofs [f_Ledger_go_to_2, hq2, fget, f3, dKd, intOp, e3]
  simp -implicitDefEqProofs [f_Ledger_go_to_1, hq3, fget, e4]
end
end K08

set_option Elab.async false
set_option linter.all false
set_option autoImplicit false
set_option maxRecDepth 100000
set_option maxHeartbeats 2000000
namespace K08
open TX TL
def fsO (D Pm : Nat) (g : Lg) : List (Tx × AV) := [([114, 97, 116, 101], .int g.rate), ([100, 101, 98, 116, 115], .ref D), ([112, 97, 121, 109, 101, 110, 116, 115], .ref Pm), ([99, 114, 101, 100, 105, 116], .int g.credit), ([105, 110, 116, 101, 114, 101, 115, 116], .int g.interest), ([100, 97, 121], .int g.day), ([114, 101, 115, 116], .int g.rest)]
theorem leO_eq (D Pm : Nat) (g : Lg) : leO D Pm g = .ins 3 (fsO D Pm g) := rfl
theorem fldL {h : AH} {L D Pm : Nat} {g : Lg} (e : hget h L = some (leO D Pm g)) (f : Tx) : fldA [3] f (.ref L) h = fget f (fsO D Pm g) := fld_of [3] f e (by simp)
theorem setL {h : AH} {L D Pm : Nat} {g : Lg} (e : hget h L = some (leO D Pm g)) (f : Tx) (v : AV) : setF [3] f (.ref L) v h = some (hset h L (.ins 3 (fput f v (fsO D Pm g)))) := setF_of (fs := fsO D Pm g) e (by simp) (by simp [fsO])
theorem insL {h : AH} {L D Pm : Nat} {g : Lg} (e : hget h L = some (leO D Pm g)) : insOf (.ref L) h = some (3, fsO D Pm g) := ins_of e
section
variable {h : AH} {L D Pm : Nat} {ds : List (Nat × Dt)} {g : Lg} {n : Nat}
theorem goN_day {day : Int} (hd : g.day ≤ day) : (goN g day).day = day := by
  unfold goN
  rw [days_day]
  omega
theorem goN_same (g : Lg) (day : Int) : (goN g day).debts = g.debts ∧ (goN g day).pays = g.pays ∧ (goN g day).rate = g.rate ∧ (goN g day).credit = g.credit := days_same g _
theorem go_bad (a : Led h L D Pm ds g) {day : Int} (hd : day < g.day) : pg P (n + 1) 0 4 [.ref L, .int day] h = .exc 2 h := by
  have q0 : insOf (.ref L) h = some (3, fsO D Pm g) := ins_of a.l
  have f1 : fldA [3] [100, 97, 121] (.ref L) h = some (.int g.day) := by rw [fld_of [3] _ a.l (by simp)]; rfl
  rw [ap_runDef p_Ledger_go_to rfl]
  simp -implicitDefEqProofs [TX.start, f_Ledger_go_to, f1, show day < g.day from hd]
theorem go_ok (a : Led h L D Pm ds g) {day : Int} (hd : g.day ≤ day) (hn : day - g.day < 1000000) (hr : 0 ≤ g.rate ∧ g.rate ≤ 10000) (hz : ds.length ≤ 1000) :
    pg P (n + 1) 0 4 [.ref L, .int day] h = .ok .non (hset h L (leO D Pm (goN g day))) := by
  have f1 : fldA [3] [100, 97, 121] (.ref L) h = some (.int g.day) := by rw [fld_of [3] _ a.l (by simp)]; rfl
  obtain ⟨n1, n2, n3, n4⟩ := a.LD
  rw [ap_runDef p_Ledger_go_to rfl]
  generalize pg P n = φ at *
  have w := wh_run (φ := φ) (cnd := eCmp .lt (eFld [3] [100, 97, 121] (eV 0)) (eV 1)) (b := f_Ledger_go_to_4)
    (fun (k : Nat) s h' => g.day + k ≤ day ∧ s = [some (.ref L), some (.int day), none, none, none] ∧ h' = hset h L (leO D Pm (days g k))) (fun k => decide (g.day + k < day)) (· + 1) (fun k => (day - g.day).toNat - k)
    (fun k s h' ⟨hk, es, eh⟩ => by
      subst es eh
      have ak : Led (hset h L (leO D Pm (days g k))) L D Pm ds (days g k) := a.num (days_same g k).1 (days_same g k).2.1
      have fk : fldA [3] [100, 97, 121] (.ref L) (hset h L (leO D Pm (days g k))) = some (.int (g.day + k)) := by rw [fld_of [3] _ ak.l (by simp)]; rw [← days_day g k]; rfl
      refine ⟨?_, fun c => ?_⟩
      · by_cases q : g.day + k < day
        · simp -implicitDefEqProofs [fk, q]
        · simp -implicitDefEqProofs [fk, q]
      · have st := go_step (φ := φ) ak.l ak.d ak.i ak.e n1 (fun p hp => (n4 p hp).1) (by rw [(days_same g k).2.2.1]; exact hr) hz (day := .int day)
        simp only [decide_eq_true_eq] at c
        rw [hset_hset] at st
        exact ⟨_, _, .inl st, ⟨by push_cast; omega, rfl, rfl⟩, by omega⟩)
    (n := WF) (c := 0) (s := [some (.ref L), some (.int day), none, none, none]) (h := h) ⟨by omega, rfl, by show h = hset h L (leO D Pm g); rw [hset_self a.l]⟩ (by unfold WF; omega)
  obtain ⟨k, s', h', e, ⟨hk, es, eh⟩, hc⟩ := w
  subst es eh
  simp only [decide_eq_false_iff_not] at hc
  have ek : k = (day - g.day).toNat := by omega
  have gc : gcRet h .non (hset h L (leO D Pm (days g k))) = .ok .non (hset h L (leO D Pm (days g k))) := gcRet_len _ (by simp)
  simp -implicitDefEqProofs [TX.start, f_Ledger_go_to, f1, show ¬ day < g.day by omega]
  simp -implicitDefEqProofs [f_Ledger_go_to_5, e, gc]
  rw [ek]
  rfl
def ckB (g : Lg) (day am : Int) : Bool := decide (day < g.day) || decide (am < 1) || decide (300 ≤ (g.debts.length : Int) + g.pays.length)
theorem check_ok (a : Led h L D Pm ds g) {day am : Int} : pg P (n + 1) 0 2 [.ref L, .int day, .int am] h = if ckB g day am then .exc 2 h else .ok .non h := by
  have f1 : fldA [3] [100, 97, 121] (.ref L) h = some (.int g.day) := by rw [fld_of [3] _ a.l (by simp)]; rfl
  have f2 : fldA [3] [100, 101, 98, 116, 115] (.ref L) h = some (.ref D) := by rw [fld_of [3] _ a.l (by simp)]; rfl
  have f3 : fldA [3] [112, 97, 121, 109, 101, 110, 116, 115] (.ref L) h = some (.ref Pm) := by rw [fld_of [3] _ a.l (by simp)]; rfl
  have l1 := len_ref a.d
  have l2 := len_ref a.p
  rw [List.length_map] at l1 l2
  have e : ds.length = g.debts.length := by rw [a.e, List.length_map]
  rw [e] at l1
  rw [ap_runDef p_Ledger_check rfl]
  unfold ckB
  by_cases q1 : day < g.day
  · simp -implicitDefEqProofs [TX.start, f_Ledger_check, f1, q1]
  · by_cases q2 : am < 1
    · simp -implicitDefEqProofs [TX.start, f_Ledger_check, f1, q1, q2]
    · by_cases q3 : (300 : Int) ≤ (g.debts.length : Int) + g.pays.length
      · simp -implicitDefEqProofs [TX.start, f_Ledger_check, f1, f2, f3, l1, l2, q1, q2, q3, intOp]
      · simp -implicitDefEqProofs [TX.start, f_Ledger_check, f1, f2, f3, l1, l2, q1, q2, q3, intOp]
end
end K08

set_option Elab.async false
set_option linter.all false
set_option autoImplicit false
set_option maxRecDepth 100000
set_option maxHeartbeats 2000000
namespace K08
open TX TL
theorem underL_ref (n : Nat) : ∀ xs : List AV, AV.underL n (xs ++ [.ref n]) = false
  | [] => by simp [AV.underL, AV.under]
  | x :: r => by simp [AV.underL, underL_ref n r]
theorem idx_ref {r : Nat} {h : AH} {xs : List AV} (e : hget h r = some (.lst xs)) (i : Int) : idxA (.ref r) (.int i) h = atI xs i := by
  have : seqOf (.ref r) h = some xs := seq_of e
  simp [idxA, this]
theorem atI_nat {α : Type} (xs : List α) (k : Nat) : atI xs (k : Int) = xs[k]? := by
  unfold atI ixN
  by_cases q : k < xs.length
  · simp [q]
  · simp [q]
theorem atI_last {α : Type} (xs : List α) (x : α) : atI (xs ++ [x]) (-1) = some x := by
  unfold atI ixN
  rw [if_neg (by decide), if_pos (by simp; omega)]
  simp only [List.length_append, List.length_singleton, Option.bind_some]
  rw [show (-1 + ((xs.length + 1 : Nat) : Int)).toNat = xs.length by omega]
  simp
theorem min_mm (a b : Int) : (if b < a then b else a) = min a b := by
  split <;> omega
section
variable {h : AH} {L D Pm : Nat} {ds : List (Nat × Dt)} {g : Lg} {n : Nat}
theorem owe_bad (a : Led h L D Pm ds g) {day am due : Int} (hb : (ckB g day am || decide (due < day)) = true) : pg P (n + 2) 0 3 [.ref L, .int day, .int am, .int due] h = .exc 2 h := by
  have ck := check_ok (n := n) a (day := day) (am := am)
  have q0 : insOf (.ref L) h = some (3, fsO D Pm g) := ins_of a.l
  rw [ap_runDef p_Ledger_owe rfl]
  generalize pg P (n + 1) = φ at *
  by_cases q : ckB g day am
  · rw [q] at ck
    simp -implicitDefEqProofs [TX.start, f_Ledger_owe, q0, fsO, fget, ck]
  · simp only [Bool.not_eq_true] at q
    rw [q] at ck hb
    simp only [Bool.false_or, decide_eq_true_eq] at hb
    simp -implicitDefEqProofs [TX.start, f_Ledger_owe, q0, fsO, fget, ck, f_Ledger_owe_6, hb]
/-- a debt more -/
def oweN (g : Lg) (day am due : Int) : Lg := { goN g day with debts := g.debts ++ [(due, am, am - min g.credit am)], credit := g.credit - min g.credit am }
def oweH (h : AH) (L D Pm : Nat) (ds : List (Nat × Dt)) (g : Lg) (day am due : Int) : AH :=
  cell (due, am, am - min g.credit am) :: hset (hset h D (.lst ((ds.map fun p => .ref p.1) ++ [.ref h.length]))) L (leO D Pm (oweN g day am due))
theorem owe_ok (a : Led h L D Pm ds g) {day am due : Int} (hb : (ckB g day am || decide (due < day)) = false) (hc : 0 ≤ g.credit) (hn : day - g.day < 1000000) (hr : 0 ≤ g.rate ∧ g.rate ≤ 10000) (hz : ds.length ≤ 1000) :
    pg P (n + 2) 0 3 [.ref L, .int day, .int am, .int due] h = .ok .non (oweH h L D Pm ds g day am due) := by
  have hb2 := hb
  simp only [ckB, Bool.or_eq_false_iff, decide_eq_false_iff_not] at hb2
  obtain ⟨⟨⟨b1, b2⟩, b3⟩, b4⟩ := hb2
  have ck := check_ok (n := n) a (day := day) (am := am)
  rw [(Bool.or_eq_false_iff.mp hb).1, if_neg (by simp)] at ck
  have go := go_ok (n := n) a (day := day) (by omega) hn hr hz
  obtain ⟨n1, n2, n3, n4⟩ := a.LD
  have q0 : insOf (.ref L) h = some (3, fsO D Pm g) := ins_of a.l
  have hL := hget_lt a.l
  have hD := hget_lt a.d
  rw [ap_runDef p_Ledger_owe rfl]
  generalize pg P (n + 1) = φ at *
  have G := goN_same g day
  generalize hg1 : goN g day = g1 at *
  have a1 : Led (hset h L (leO D Pm g1)) L D Pm ds g1 := a.num G.1 G.2.1
  -- the debt
  have d1 : hget (hset h L (leO D Pm g1)) D = some (.lst (ds.map fun p => .ref p.1)) := a1.d
  have f1 : ∀ o, fldA [3] [100, 101, 98, 116, 115] (.ref L) (o :: hset h L (leO D Pm g1)) = some (.ref D) := fun o => by rw [fld_of [3] _ (hget_cons_lt a1.l) (by simp)]; rfl
  have f1' : fldA [3] [100, 101, 98, 116, 115] (.ref L) (hset h L (leO D Pm g1)) = some (.ref D) := by rw [fld_of [3] _ a1.l (by simp)]; rfl
  have ls : lstOf (.ref D) (hset h L (leO D Pm g1)) = some (ds.map fun p => .ref p.1) := lst_of d1
  have ap : ∀ o, appA (.ref D) (.ref h.length) (o :: hset h L (leO D Pm g1)) = some (o :: hset (hset h L (leO D Pm g1)) D (.lst ((ds.map fun p => .ref p.1) ++ [.ref h.length]))) := fun o => by
    rw [app_of (hget_cons_lt d1) (by simp; omega), hset_cons_lt (by simpa using hD)]
  have eh : hset (hset h L (leO D Pm g1)) D (.lst ((ds.map fun p => .ref p.1) ++ [.ref h.length])) = hset (hset h D (.lst ((ds.map fun p => .ref p.1) ++ [.ref h.length]))) L (leO D Pm g1) := (hset_comm n1.symm)
  rw [eh] at ap
  generalize hh2 : hset h D (.lst ((ds.map fun p => .ref p.1) ++ [.ref h.length])) = h2 at *
  have l2 : h2.length = h.length := by rw [← hh2]; simp
  have hl2 : ∀ u, hget (hset h2 L u) L = some u := fun u => hget_set_eq (by omega)
  have hd2 : ∀ u, hget (hset h2 L u) D = some (.lst ((ds.map fun p => .ref p.1) ++ [.ref h.length])) := fun u => by rw [hget_set_ne n1, ← hh2, hget_set_eq hD]
  have q1 : ∀ o, insOf (.ref L) (o :: hset h2 L (leO D Pm g1)) = some (3, fsO D Pm g1) := fun o => ins_of (hget_cons_lt (hl2 _))
  have f2 : ∀ o, fldA [3] [99, 114, 101, 100, 105, 116] (.ref L) (o :: hset h2 L (leO D Pm g1)) = some (.int g.credit) := fun o => by rw [fldL (hget_cons_lt (hl2 _)), ← G.2.2.2]; rfl
  have f3 : ∀ o, fldA [3] [100, 101, 98, 116, 115] (.ref L) (o :: hset h2 L (leO D Pm g1)) = some (.ref D) := fun o => by rw [fldL (hget_cons_lt (hl2 _))]; rfl
  have uf : AO.under h.length (.lst ((ds.map fun p => AV.ref p.1) ++ [.ref h.length])) = false := by
    unfold AO.under
    exact underL_ref _ _
  have keep : ∀ (o : AO) u, gcRet h .non (o :: hset h2 L u) = .ok .non (o :: hset h2 L u) := fun o u =>
    gcRet_keep .non (i := D) (u := .lst ((ds.map fun p => .ref p.1) ++ [.ref h.length])) (by simp; omega) hD (hget_cons_lt (hd2 u)) uf (by
      rw [a.d]
      intro k
      have := congrArg (fun o => match o with | some (AO.lst xs) => xs.length | _ => 0) k
      simp at this)
  have ir : ∀ o, idxA (.ref D) (.int (-1)) (o :: hset h2 L (leO D Pm g1)) = some (.ref h.length) := fun o => by
    rw [idx_ref (hget_cons_lt (hd2 _)), atI_last]
  have lz : (hset h2 L (leO D Pm g1)).length = h.length := by simp [l2]
  have ic : ∀ o, hget (o :: hset h2 L (leO D Pm g1)) h.length = some o := fun o => by rw [hget_cons, if_pos lz.symm]
  have ix : idxA (.ref h.length) (.int 2) (cell (due, am, am) :: hset h2 L (leO D Pm g1)) = some (.int am) := (idx_ref (xs := [.int due, .int am, .int am]) (ic (cell (due, am, am))) 2).trans rfl
  have se : setA (.ref h.length) (.int 2) (.int (am - min g.credit am)) (cell (due, am, am) :: hset h2 L (leO D Pm g1)) = some (cell (due, am, am - min g.credit am) :: hset h2 L (leO D Pm g1)) := by
    have := setA_lst (r := h.length) (k := 2) (v := .int (am - min g.credit am)) (ic (cell (due, am, am))) (by simp)
    refine this.trans ?_
    show some (if h.length = _ then _ else _) = _
    rw [if_pos lz.symm]
    rfl
  have e9 : oweN g day am due = { g1 with debts := g.debts ++ [(due, am, am - min g.credit am)], credit := g.credit - min g.credit am } := by unfold oweN; rw [hg1]
  have f8 : ∀ o v, setF [3] [99, 114, 101, 100, 105, 116] (.ref L) (.int v) (o :: hset h2 L (leO D Pm g1)) = some (o :: hset h2 L (leO D Pm { g1 with credit := v })) := fun o v => by
    rw [setL (hget_cons_lt (hl2 _)), hset_cons_lt (by simp; omega), hset_hset]
    rfl
  simp -implicitDefEqProofs [TX.start, f_Ledger_owe, q0, fsO, fget, ck, f_Ledger_owe_6, show ¬ due < day from b4, f_Ledger_owe_5, go, f_Ledger_owe_4, f1', ls, mkLst, mk]
  rw [show AO.lst [.int due, .int am, .int am] = cell (due, am, am) from rfl]
  rw [ap]
  by_cases q : 0 < g.credit
  · simp -implicitDefEqProofs [f_Ledger_owe_3, f2, q, mmA, min_mm, gN, f3, ir, ix, f_Ledger_owe_2, intOp, se, f_Ledger_owe_1, q1, fsO, fget, f8, keep]
    unfold oweH
    rw [hh2, e9, G.2.2.2]
    rfl
  · have e0 : g.credit = 0 := by omega
    simp -implicitDefEqProofs [f_Ledger_owe_3, f2, q, keep]
    unfold oweH
    rw [hh2, e9]
    have ea : min g.credit am = 0 := by omega
    have eg : leO D Pm { g1 with debts := g.debts ++ [(due, am, am - min g.credit am)], credit := g.credit - min g.credit am } = leO D Pm g1 := by
      rw [ea, e0]
      have := G.2.2.2
      simp [leO, this, e0]
    rw [eg, ea]
    simp
theorem owe_led (a : Led h L D Pm ds g) {day am due : Int} : Led (oweH h L D Pm ds g day am due) L D Pm (ds ++ [(h.length, (due, am, am - min g.credit am))]) (oweN g day am due) := by
  obtain ⟨n1, n2, n3, n4⟩ := a.LD
  have hL := hget_lt a.l
  have hD := hget_lt a.d
  have hP := hget_lt a.p
  have G := goN_same g day
  unfold oweH
  generalize hh2 : hset h D (.lst ((ds.map fun p => .ref p.1) ++ [.ref h.length])) = h2 at *
  have l2 : h2.length = h.length := by rw [← hh2]; simp
  have o2 : ∀ {j : Nat} {o : AO}, j ≠ D → hget h j = some o → hget h2 j = some o := fun hj e => by rw [← hh2, hget_set_ne hj, e]
  refine ⟨hget_cons_lt (hget_set_eq (by omega)), hget_cons_lt ?_, hget_cons_lt ?_, ?_, fun p hp => ?_, ?_⟩
  · rw [hget_set_ne n1, ← hh2, hget_set_eq hD]
    simp
  · rw [hget_set_ne n2, o2 n3.symm a.p]
    unfold oweN
    rw [← G.2.1]
  · unfold oweN
    rw [a.e]
    simp
  · rw [List.mem_append, List.mem_singleton] at hp
    rcases hp with hp | rfl
    · obtain ⟨m1, m2, m3⟩ := n4 p hp
      exact hget_cons_lt (by rw [hget_set_ne m1, o2 m2 (a.i p hp)])
    · rw [hget_cons, if_pos (by simp [l2])]
  · have n := a.nd
    have nL : ∀ j ∈ L :: D :: Pm :: ds.map (·.1), j ≠ h.length := fun j hj => by
      simp only [List.mem_cons, List.mem_map] at hj
      rcases hj with rfl | rfl | rfl | ⟨p, hp, rfl⟩
      · omega
      · omega
      · omega
      · have := hget_lt (a.i p hp)
        omega
    rw [List.map_append, ← List.cons_append, ← List.cons_append, ← List.cons_append, List.nodup_append]
    refine ⟨n, by simp, fun x hx y hy => ?_⟩
    simp only [List.map_cons, List.map_nil, List.mem_singleton] at hy
    subst hy
    exact nL x hx
theorem owe_len {day am due : Int} : (oweH h L D Pm ds g day am due).length = h.length + 1 := by simp [oweH]
theorem owe_frame {day am due : Int} {j : Nat} (h1 : j < h.length) (h2 : j ≠ L) (h3 : j ≠ D) : hget (oweH h L D Pm ds g day am due) j = hget h j := by
  unfold oweH
  rw [hget_cons, if_neg (by simp; omega), hget_set_ne h2, hget_set_ne h3]
end
end K08

set_option Elab.async false
set_option linter.all false
set_option autoImplicit false
set_option maxRecDepth 100000
set_option maxHeartbeats 2000000
namespace K08
open TX TL
theorem zi_get {β : Type} : ∀ (xs : List β) (k : Int) (y : Int × β), y ∈ zi k xs → ∃ i : Nat, y.1 = k + i ∧ xs[i]? = some y.2
  | [], k, y, h => by cases h
  | x :: r, k, y, h => by
    rcases List.mem_cons.mp h with rfl | h
    · exact ⟨0, by simp, rfl⟩
    · obtain ⟨i, e1, e2⟩ := zi_get r (k + 1) y h
      exact ⟨i + 1, by rw [e1]; push_cast; omega, by simpa using e2⟩
theorem zi_fst {β : Type} : ∀ (xs : List β) (k : Int), ((zi k xs).map (·.1)).Nodup ∧ ∀ y ∈ zi k xs, k ≤ y.1
  | [], k => ⟨by simp [zi], fun y h => by cases h⟩
  | x :: r, k => by
    obtain ⟨h1, h2⟩ := zi_fst r (k + 1)
    refine ⟨?_, fun y h => ?_⟩
    · show ((k :: (zi (k + 1) r).map (·.1)).Nodup)
      rw [List.nodup_cons]
      refine ⟨fun h => ?_, h1⟩
      obtain ⟨y, hy, e⟩ := List.mem_map.mp h
      have := h2 y hy
      omega
    · rcases List.mem_cons.mp h with rfl | h
      · exact Int.le_refl _
      · have := h2 y h
        omega
/-- the debts by their days -/
def ord (debts : List Dt) : List (Int × Int) := isort plt ((zi 0 debts).map fun y => (y.2.1, y.1))
theorem ord_mem {debts : List Dt} {p : Int × Int} (h : p ∈ ord debts) : ∃ (k : Nat) (d : Dt), p.2 = k ∧ debts[k]? = some d ∧ p.1 = d.1 := by
  have h1 := (isort_perm plt _).mem_iff.mp h
  obtain ⟨y, hy, e⟩ := List.mem_map.mp h1
  obtain ⟨i, e1, e2⟩ := zi_get debts 0 y hy
  subst e
  exact ⟨i, y.2, by simpa using e1, e2, rfl⟩
theorem ord_nodup (debts : List Dt) : ((ord debts).map (·.2)).Nodup := by
  have h1 := ((isort_perm plt ((zi 0 debts).map fun y => (y.2.1, y.1))).map (·.2)).nodup_iff
  unfold ord
  rw [h1, List.map_map]
  exact (zi_fst debts 0).1
def pS (st : List Dt × Int × List (Int × Int)) (p : Int × Int) : List Dt × Int × List (Int × Int) :=
  match st.1[p.2.toNat]? with
  | some d => if 0 < min st.2.1 d.2.2 then (st.1.set p.2.toNat (d.1, d.2.1, d.2.2 - min st.2.1 d.2.2), st.2.1 - min st.2.1 d.2.2, st.2.2 ++ [(p.2, min st.2.1 d.2.2)]) else st
  | none => st
def pF (debts : List Dt) (left : Int) (ps : List (Int × Int)) : List Dt × Int × List (Int × Int) := ps.foldl pS (debts, left, [])
theorem pF_snoc (debts : List Dt) (left : Int) (ps : List (Int × Int)) (p : Int × Int) : pF debts left (ps ++ [p]) = pS (pF debts left ps) p := by
  unfold pF
  rw [List.foldl_append]
  rfl
theorem pS_len (st : List Dt × Int × List (Int × Int)) (p : Int × Int) : (pS st p).1.length = st.1.length ∧ (pS st p).2.2.length ≤ st.2.2.length + 1 := by
  unfold pS
  split
  · split
    · simp
    · simp
  · simp
theorem pF_len (debts : List Dt) (left : Int) (ps : List (Int × Int)) : (pF debts left ps).1.length = debts.length ∧ (pF debts left ps).2.2.length ≤ ps.length := by
  have key : ∀ (ps : List (Int × Int)) st, (ps.foldl pS st).1.length = st.1.length ∧ (ps.foldl pS st).2.2.length ≤ st.2.2.length + ps.length := by
    intro ps
    induction ps with
    | nil => intro st; simp
    | cons p r ih =>
      intro st
      obtain ⟨h1, h2⟩ := ih (pS st p)
      obtain ⟨h3, h4⟩ := pS_len st p
      simp only [List.foldl_cons, List.length_cons]
      omega
  have := key ps (debts, left, [])
  simpa [pF] using this
section
variable {h : AH} {L D Pm : Nat} {ds : List (Nat × Dt)} {g : Lg} {n : Nat}
/-- a debt is changed -/
theorem Led.setD (a : Led h L D Pm ds g) {k : Nat} {q : Nat × Dt} (hk : ds[k]? = some q) (d : Dt) : Led (hset h q.1 (cell d)) L D Pm (ds.set k (q.1, d)) { g with debts := g.debts.set k d } := by
  obtain ⟨n1, n2, n3, n4⟩ := a.LD
  have mq : q ∈ ds := List.mem_of_getElem? hk
  obtain ⟨m1, m2, m3⟩ := n4 q mq
  have lk : k < ds.length := (List.getElem?_eq_some_iff.mp hk).1
  have ek : ds[k] = q := (List.getElem?_eq_some_iff.mp hk).2
  have em : (ds.set k (q.1, d)).map (·.1) = ds.map (·.1) := by
    rw [List.map_set]
    show (ds.map (·.1)).set k q.1 = _
    rw [← ek, show (ds[k]).1 = (ds.map (·.1))[k]'(by simpa using lk) by simp, List.set_getElem_self]
  have er : (ds.set k (q.1, d)).map (fun p => AV.ref p.1) = ds.map fun p => AV.ref p.1 := by
    have := congrArg (List.map AV.ref) em
    rw [List.map_map, List.map_map] at this
    exact this
  refine ⟨by rw [hget_set_ne m1.symm, a.l]; rfl, by rw [hget_set_ne m2.symm, a.d, er], by rw [hget_set_ne m3.symm, a.p], by rw [a.e, List.map_set], fun p hp => ?_, by rw [em]; exact a.nd⟩
  obtain ⟨j, hj, e⟩ := List.mem_iff_getElem.mp hp
  rw [List.length_set] at hj
  by_cases ej : j = k
  · subst ej
    rw [List.getElem_set_self] at e
    subst e
    exact hget_set_eq (hget_lt (a.i q mq))
  · rw [List.getElem_set_ne (by omega)] at e
    subst e
    have nn : (ds[j]).1 ≠ q.1 := by
      have nd : (ds.map (·.1)).Nodup := by
        have := a.nd
        rw [List.nodup_cons, List.nodup_cons, List.nodup_cons] at this
        exact this.2.2.2
      intro e
      rw [← ek] at e
      have pw := List.pairwise_iff_getElem.mp nd
      rcases Nat.lt_or_gt_of_ne ej with c | c
      · exact pw j k (by simpa using hj) (by simpa using lk) c (by simpa using e)
      · exact pw k j (by simpa using lk) (by simpa using hj) c (by simpa using e.symm)
    rw [hget_set_ne nn]
    exact a.i _ (List.getElem_mem hj)
/-- what a payment leaves -/
def payN (g : Lg) (day am : Int) : Lg :=
  { goN g day with
    debts := (pF g.debts (am - min am (goN g day).interest) (ord g.debts)).1
    pays := g.pays ++ [(day, am)]
    credit := g.credit + (pF g.debts (am - min am (goN g day).interest) (ord g.debts)).2.1
    interest := (goN g day).interest - min am (goN g day).interest }
def payV (g : Lg) (day am : Int) : AV := .tup [.int (min am (goN g day).interest), .tup ((pF g.debts (am - min am (goN g day).interest) (ord g.debts)).2.2.map prA), .int (pF g.debts (am - min am (goN g day).interest) (ord g.debts)).2.1]
theorem pay_bad (a : Led h L D Pm ds g) {day am : Int} (hb : ckB g day am = true) : pg P (n + 2) 0 5 [.ref L, .int day, .int am] h = .exc 2 h := by
  have ck := check_ok (n := n) a (day := day) (am := am)
  have q0 := insL a.l
  rw [ap_runDef p_Ledger_pay rfl]
  generalize pg P (n + 1) = φ at *
  rw [hb] at ck
  simp -implicitDefEqProofs [TX.start, f_Ledger_pay, q0, fsO, fget, ck]
theorem ord_len (debts : List Dt) : (ord debts).length = debts.length := by
  have e := (isort_perm plt ((zi 0 debts).map fun y => (y.2.1, y.1))).length_eq
  unfold ord
  rw [e, List.length_map, ← List.length_map (f := (·.1)), ]
  have : ∀ (xs : List Dt) (k : Int), ((zi k xs).map (·.1)).length = xs.length := by
    intro xs
    induction xs with
    | nil => intro k; rfl
    | cons x r ih => intro k; show _ + 1 = _; rw [ih (k + 1)]; rfl
  exact this _ _
/-- frames -/
def Fr (h h' : AH) (F : List Nat) : Prop := h.length ≤ h'.length ∧ ∀ j, j < h.length → j ∉ F → hget h' j = hget h j
theorem pay_ok (a : Led h L D Pm ds g) {day am : Int} (hb : ckB g day am = false) (hn : day - g.day < 1000000) (hr : 0 ≤ g.rate ∧ g.rate ≤ 10000) (hz : ds.length ≤ 1000) (hz2 : g.pays.length ≤ 1000) :
    ∃ (h2 : AH) (ds2 : List (Nat × Dt)), pg P (n + 2) 0 5 [.ref L, .int day, .int am] h = .ok (payV g day am) h2 ∧ Led h2 L D Pm ds2 (payN g day am) ∧ ds2.map (·.1) = ds.map (·.1) ∧ Fr h h2 (foot L D Pm ds) := by
  have hb2 := hb
  simp only [ckB, Bool.or_eq_false_iff, decide_eq_false_iff_not] at hb2
  obtain ⟨⟨b1, b2⟩, b3⟩ := hb2
  have ck := check_ok (n := n) a (day := day) (am := am)
  rw [hb, if_neg (by simp)] at ck
  have go := go_ok (n := n) a (day := day) (by omega) hn hr hz
  obtain ⟨n1, n2, n3, n4⟩ := a.LD
  have q0 := insL a.l
  have hL := hget_lt a.l
  have hD := hget_lt a.d
  have hP := hget_lt a.p
  rw [ap_runDef p_Ledger_pay rfl]
  generalize pg P (n + 1) = φ at *
  have G := goN_same g day
  unfold payN payV
  generalize hg1 : goN g day = g1 at *
  have a1 : Led (hset h L (leO D Pm g1)) L D Pm ds g1 := a.num G.1 G.2.1
  -- the payment is noted, the interest is paid
  have fP : fldA [3] [112, 97, 121, 109, 101, 110, 116, 115] (.ref L) (hset h L (leO D Pm g1)) = some (.ref Pm) := by rw [fldL a1.l]; rfl
  have ls := lst_of a1.p
  have ap : appA (.ref Pm) (.tup [.int day, .int am]) (hset h L (leO D Pm g1)) = some (hset (hset h L (leO D Pm g1)) Pm (.lst ((g1.pays ++ [(day, am)]).map prA))) := by
    rw [app_of a1.p (by rw [List.length_map, G.2.1]; omega)]
    simp [prA]
  have eh : hset (hset h L (leO D Pm g1)) Pm (.lst ((g1.pays ++ [(day, am)]).map prA)) = hset (hset h Pm (.lst ((g1.pays ++ [(day, am)]).map prA))) L (leO D Pm g1) := hset_comm n2.symm
  rw [eh] at ap
  generalize hh2 : hset h Pm (.lst ((g1.pays ++ [(day, am)]).map prA)) = h2 at *
  have l2 : h2.length = h.length := by rw [← hh2]; simp
  have hl2 : ∀ u, hget (hset h2 L u) L = some u := fun u => hget_set_eq (by omega)
  have fI : fldA [3] [105, 110, 116, 101, 114, 101, 115, 116] (.ref L) (hset h2 L (leO D Pm g1)) = some (.int g1.interest) := by rw [fldL (hl2 _)]; rfl
  have q2 := insL (hl2 (leO D Pm g1))
  generalize hpa : min am g1.interest = part at *
  have s2 : setF [3] [105, 110, 116, 101, 114, 101, 115, 116] (.ref L) (.int (g1.interest - part)) (hset h2 L (leO D Pm g1)) = some (hset h2 L (leO D Pm { g1 with pays := g.pays ++ [(day, am)], interest := g1.interest - part })) := by
    rw [setL (hl2 _), hset_hset]
    rfl
  have a3 : Led (hset h2 L (leO D Pm { g1 with pays := g.pays ++ [(day, am)], interest := g1.interest - part })) L D Pm ds { g1 with pays := g.pays ++ [(day, am)], interest := g1.interest - part } := by
    refine ⟨hl2 _, ?_, ?_, ?_, fun p hp => ?_, a.nd⟩
    · rw [hget_set_ne n1, ← hh2, hget_set_ne n3, a.d]
    · rw [hget_set_ne n2, ← hh2, hget_set_eq hP, G.2.1]
    · rw [← a.e, ← G.1]
    · obtain ⟨m1, m2, m3⟩ := n4 p hp
      rw [hget_set_ne m1, ← hh2, hget_set_ne m3, a.i p hp]
  have fr3 : Fr h (hset h2 L (leO D Pm { g1 with pays := g.pays ++ [(day, am)], interest := g1.interest - part })) (foot L D Pm ds) := by
    refine ⟨by simp; omega, fun j _ hf => ?_⟩
    simp only [foot, List.mem_cons, not_or] at hf
    rw [hget_set_ne hf.1, ← hh2, hget_set_ne hf.2.2.1]
  have l3 : (hset h2 L (leO D Pm { g1 with pays := g.pays ++ [(day, am)], interest := g1.interest - part })).length = h.length := by simp [l2]
  generalize hset h2 L (leO D Pm { g1 with pays := g.pays ++ [(day, am)], interest := g1.interest - part }) = h3 at *
  -- by their days
  have a4 : Led (.lst [] :: h3) L D Pm ds { g1 with pays := g.pays ++ [(day, am)], interest := g1.interest - part } := a3.frame fun j hj => by
    have : j < h.length := by
      simp only [foot, List.mem_cons, List.mem_map] at hj
      rcases hj with rfl | rfl | rfl | ⟨p, hp, rfl⟩
      · omega
      · omega
      · omega
      · exact hget_lt (a.i p hp)
    rw [hget_cons, if_neg (by omega)]
  have fD : fldA [3] [100, 101, 98, 116, 115] (.ref L) (.lst [] :: h3) = some (.ref D) := by rw [fldL a4.l]; rfl
  have sD := seq_of a4.d
  have gD := gd_of a4.d
  have lo : ∀ s0 : St, s0.length = 10 → lcGo φ (gT (gsCons (gN 7) (gsCons (gN 9) gsNil))) eYes (eTup (aCons (eIdx (eV 9) (eC (AV.int 0))) (aCons (eV 7) aNil))) s0 [(D, .lst (ds.map fun p => .ref p.1))] (enumL 0 (ds.map fun p => .ref p.1)) (.lst [] :: h3) =
      .ok (((zi 0 ds).map fun y => (y.2.2.1, y.1)).map prA) (.lst [] :: h3) := fun s0 hs => by
    have := lc_en (φ := φ) (g := gT (gsCons (gN 7) (gsCons (gN 9) gsNil))) (c := eYes) (e := eTup (aCons (eIdx (eV 9) (eC (AV.int 0))) (aCons (eV 7) aNil))) (s0 := s0) (gd := [(D, .lst (ds.map fun p => .ref p.1))]) (h := .lst [] :: h3) (fun p : Nat × Dt => .ref p.1) (fun _ => true) (fun y => prA (y.2.2.1, y.1)) (xs := ds) (gOk_one a4.d)
      (fun y hy => ⟨(s0.set 7 (some (.int y.1))).set 9 (some (.ref y.2.1)), rfl, rfl, fun _ => by
        obtain ⟨i, _, e2⟩ := zi_get ds 0 y hy
        have mi := a4.i y.2 (List.mem_of_getElem? e2)
        have e7 : ((s0.set 7 (some (.int y.1))).set 9 (some (.ref y.2.1)))[7]? = some (some (.int y.1)) := by rw [List.getElem?_set_ne (by omega), List.getElem?_set_self (by omega)]
        have e9 : ((s0.set 7 (some (.int y.1))).set 9 (some (.ref y.2.1)))[9]? = some (some (.ref y.2.1)) := List.getElem?_set_self (by simp; omega)
        have ix := (idx_ref (xs := [.int y.2.2.1, .int y.2.2.2.1, .int y.2.2.2.2]) mi 0).trans rfl
        generalize ((s0.set 7 (some (.int y.1))).set 9 (some (.ref y.2.1))) = s at *
        simp -implicitDefEqProofs [e7, e9, ix, prA]⟩)
    rw [this, List.map_map]
    rw [List.filter_eq_self.mpr (fun _ _ => rfl)]
    rfl
  have eo : isort plt ((zi 0 ds).map fun y => (y.2.2.1, y.1)) = ord g.debts := by
    unfold ord
    rw [a.e]
    congr 1
    have : ∀ (xs : List (Nat × Dt)) (k : Int), (zi k xs).map (fun y => (y.2.2.1, y.1)) = (zi k (xs.map (·.2))).map fun y => (y.2.1, y.1) := by
      intro xs
      induction xs with
      | nil => intro k; rfl
      | cons x r ih => intro k; simp only [zi, List.map_cons, ih (k + 1)]
    exact this ds 0
  have so := sort_prs false ((zi 0 ds).map fun y => (y.2.2.1, y.1)) (.lst [] :: h3)
  rw [eo] at so
  generalize (zi 0 ds).map (fun y => (y.2.2.1, y.1)) = un at *
  simp -implicitDefEqProofs [TX.start, f_Ledger_pay, q0, fsO, fget, ck, f_Ledger_pay_12, go, f_Ledger_pay_11, fP, ls, ap, f_Ledger_pay_10, fI, mmA, min_mm, hpa, gN, f_Ledger_pay_9, q2, intOp, s2, f_Ledger_pay_8, mkLst, mk]
  simp -implicitDefEqProofs [gsCons, gsNil, gN, f_Ledger_pay_7, fD, sD, gD, wipe, enumL_len, show ds.length < 16777216 by omega, lo, so, mk, quiet]
  rw [l3]
  have nlt : ∀ j ∈ foot L D Pm ds, j < h.length := fun j hj => by
    simp only [foot, List.mem_cons, List.mem_map] at hj
    rcases hj with rfl | rfl | rfl | ⟨p, hp, rfl⟩
    · omega
    · omega
    · omega
    · exact hget_lt (a.i p hp)
  have ol := ord_len g.debts
  have gl : g.debts.length = ds.length := by rw [a.e, List.length_map]
  have a4' : Led (.lst [] :: h3) L D Pm ds { g1 with debts := (pF g.debts (am - part) []).1, pays := g.pays ++ [(day, am)], interest := g1.interest - part } := by
    have := a4
    rw [G.1] at this
    exact this
  obtain ⟨s9, h9, fe, x6, x7, x8, ds9, es, a9, m9, r9, l9, f9⟩ := for_pre (φ := φ) (g := gT (gsCons (gN 6) (gsCons (gN 7) gsNil))) (b := f_Ledger_pay_4) (gd := []) prA
    (fun dn s h' => ∃ (x6 x7 x8 : Option AV) (ds' : List (Nat × Dt)), s = [some (.ref L), some (.int day), some (.int am), some (.int part), some (.int (pF g.debts (am - part) dn).2.1), some (.ref h.length), x6, x7, x8, none] ∧
      Led h' L D Pm ds' { g1 with debts := (pF g.debts (am - part) dn).1, pays := g.pays ++ [(day, am)], interest := g1.interest - part } ∧ ds'.map (·.1) = ds.map (·.1) ∧
      hget h' h.length = some (.lst ((pF g.debts (am - part) dn).2.2.map prA)) ∧ h'.length = h.length + 1 ∧ ∀ j, j < h.length → j ∉ foot L D Pm ds → hget h' j = hget h j)
    (todo := ord g.debts) (done := []) (s := [some (.ref L), some (.int day), some (.int am), some (.int part), some (.int (am - part)), some (.ref h.length), none, none, none, none]) (h := .lst [] :: h3) (fun _ _ _ _ => rfl)
    (fun dn p rest hd s h' ⟨x6, x7, x8, ds', es, al, em, er, hl, fr⟩ => by
      subst es
      have mem : p ∈ ord g.debts := by
        have : p ∈ dn ++ p :: rest := by simp
        rw [← hd] at this
        simpa using this
      obtain ⟨k, d0, ek, ed, _⟩ := ord_mem mem
      have ld : dn.length ≤ ds.length := by
        have := congrArg List.length hd
        simp at this
        omega
      obtain ⟨pl1, pl2⟩ := pF_len g.debts (am - part) dn
      have ft : foot L D Pm ds' = foot L D Pm ds := by unfold foot; rw [em]
      have kl : k < ds'.length := by
        have := congrArg List.length em
        simp at this
        have := (List.getElem?_eq_some_iff.mp ed).1
        omega
      obtain ⟨q, hq⟩ : ∃ q, ds'[k]? = some q := ⟨ds'[k], List.getElem?_eq_getElem kl⟩
      have cq := al.i q (List.mem_of_getElem? hq)
      have eq2 : (pF g.debts (am - part) dn).1[k]? = some q.2 := by
        have := al.e
        simp only at this
        rw [this, List.getElem?_map, hq]
        rfl
      have qf : q.1 ∈ foot L D Pm ds := by
        rw [← ft]
        simp only [foot, List.mem_cons]
        exact .inr (.inr (.inr (List.mem_map.mpr ⟨q, List.mem_of_getElem? hq, rfl⟩)))
      have ql := nlt _ qf
      have fD : fldA [3] [100, 101, 98, 116, 115] (.ref L) h' = some (.ref D) := by rw [fldL al.l]; rfl
      have i1 : idxA (.ref D) (.int k) h' = some (.ref q.1) := by rw [idx_ref al.d, atI_nat, List.getElem?_map, hq]; rfl
      have i2 : idxA (.ref q.1) (.int 2) h' = some (.int q.2.2.2) := (idx_ref (xs := [.int q.2.1, .int q.2.2.1, .int q.2.2.2]) cq 2).trans rfl
      have i3 : ∀ v, setA (.ref q.1) (.int 2) (.int v) h' = some (hset h' q.1 (cell (q.2.1, q.2.2.1, v))) := fun v => (setA_lst (k := 2) (xs := [.int q.2.1, .int q.2.2.1, .int q.2.2.2]) cq (by simp)).trans rfl
      have er2 : ∀ u, hget (hset h' q.1 u) h.length = some (.lst ((pF g.debts (am - part) dn).2.2.map prA)) := fun u => by rw [hget_set_ne (by omega), er]
      rw [pF_snoc]
      unfold pS
      rw [ek, Int.toNat_natCast, eq2]
      have e4 : gT (gsCons (gN 6) (gsCons (gN 7) gsNil)) (prA p) [some (.ref L), some (.int day), some (.int am), some (.int part), some (.int (pF g.debts (am - part) dn).2.1), some (.ref h.length), x6, x7, x8, none] h' =
        some [some (.ref L), some (.int day), some (.int am), some (.int part), some (.int (pF g.debts (am - part) dn).2.1), some (.ref h.length), some (.int p.1), some (.int k), x8, none] := by rw [← ek]; rfl
      generalize hst : pF g.debts (am - part) dn = st at *
      dsimp only
      by_cases c : 0 < min st.2.1 q.2.2.2
      · have aD := al.setD hq (q.2.1, q.2.2.1, q.2.2.2 - min st.2.1 q.2.2.2)
        have lR := lst_of (er2 (cell (q.2.1, q.2.2.1, q.2.2.2 - min st.2.1 q.2.2.2)))
        have aR := app_of (v := .tup [.int (k : Int), .int (min st.2.1 q.2.2.2)]) (er2 (cell (q.2.1, q.2.2.1, q.2.2.2 - min st.2.1 q.2.2.2))) (by simp; omega)
        rw [if_pos c]
        refine ⟨_, [some (.ref L), some (.int day), some (.int am), some (.int part), some (.int (st.2.1 - min st.2.1 q.2.2.2)), some (.ref h.length), some (.int p.1), some (.int k), some (.int (min st.2.1 q.2.2.2)), none], _, e4, .inl ?_, _, _, _, _, rfl, aD.frame (h' := hset (hset h' q.1 (cell (q.2.1, q.2.2.1, q.2.2.2 - min st.2.1 q.2.2.2))) h.length (.lst ((st.2.2 ++ [((k : Int), min st.2.1 q.2.2.2)]).map prA))) ?_, ?_, ?_, ?_, ?_⟩
        · simp -implicitDefEqProofs [f_Ledger_pay_4, fD, i1, i2, mmA, min_mm, gN, f_Ledger_pay_3, c, f_Ledger_pay_2, intOp, i3, f_Ledger_pay_1, lR, aR, prA]
        · intro j hj
          have : j ∈ foot L D Pm ds := by
            simp only [foot] at hj ⊢
            rw [List.map_set] at hj
            have e5 : (ds'.map (·.1)).set k q.1 = ds'.map (·.1) := by
              have e6 : (ds'.map (·.1))[k]? = some q.1 := by rw [List.getElem?_map, hq]; rfl
              obtain ⟨w1, w2⟩ := List.getElem?_eq_some_iff.mp e6
              rw [← w2, List.set_getElem_self]
            rw [e5, em] at hj
            exact hj
          rw [hget_set_ne (by have := nlt j this; omega)]
        · rw [List.map_set, em]
          have e6 : (ds.map (·.1))[k]? = some q.1 := by rw [← em, List.getElem?_map, hq]; rfl
          obtain ⟨w1, w2⟩ := List.getElem?_eq_some_iff.mp e6
          show (ds.map (·.1)).set k q.1 = _
          rw [← w2, List.set_getElem_self]
        · rw [hget_set_eq (by simp; omega)]
        · simp [hl]
        · intro j hj hf
          rw [hget_set_ne (by omega), hget_set_ne (show j ≠ q.1 from fun e => hf (by rw [e]; exact qf)), fr j hj hf]
      · rw [if_neg c]
        refine ⟨_, [some (.ref L), some (.int day), some (.int am), some (.int part), some (.int st.2.1), some (.ref h.length), some (.int p.1), some (.int k), some (.int (min st.2.1 q.2.2.2)), none], h', e4, .inl ?_, _, _, _, ds', rfl, al, em, er, hl, fr⟩
        simp -implicitDefEqProofs [f_Ledger_pay_4, fD, i1, i2, mmA, min_mm, gN, f_Ledger_pay_3, c])
    ⟨none, none, none, ds, rfl, a4', rfl, by rw [hget_cons, if_pos l3.symm]; rfl, by simp [l3], fun j hj hf => by rw [hget_cons, if_neg (by omega)]; exact fr3.2 j hj hf⟩
  subst es
  rw [List.nil_append] at a9 r9
  rw [List.nil_append] at fe
  obtain ⟨pl1, pl2⟩ := pF_len g.debts (am - part) (ord g.debts)
  generalize hst : pF g.debts (am - part) (ord g.debts) = st at *
  have q9 := insL a9.l
  have s9 : setF [3] [99, 114, 101, 100, 105, 116] (.ref L) (.int (g.credit + st.2.1)) h9 = some (hset h9 L (leO D Pm { g1 with debts := st.1, pays := g.pays ++ [(day, am)], credit := g.credit + st.2.1, interest := g1.interest - part })) := by
    rw [setL a9.l]
    rfl
  have aE : Led (hset h9 L (leO D Pm { g1 with debts := st.1, pays := g.pays ++ [(day, am)], credit := g.credit + st.2.1, interest := g1.interest - part })) L D Pm ds9 { g1 with debts := st.1, pays := g.pays ++ [(day, am)], credit := g.credit + st.2.1, interest := g1.interest - part } := a9.num rfl rfl
  have tr := tuple_ref (h := hset h9 L (leO D Pm { g1 with debts := st.1, pays := g.pays ++ [(day, am)], credit := g.credit + st.2.1, interest := g1.interest - part })) (i := h.length) (xs := st.2.2.map prA) (by rw [hget_set_ne (by omega), r9])
  obtain ⟨hF, ge, gl, gf⟩ := gcRet_any (h := h) (h' := hset h9 L (leO D Pm { g1 with debts := st.1, pays := g.pays ++ [(day, am)], credit := g.credit + st.2.1, interest := g1.interest - part })) (.tup [.int part, .tup (st.2.2.map prA), .int st.2.1]) (by simp; omega)
  refine ⟨hF, ?_, ds9, aE.frame fun j hj => gf j ?_, m9, gl, fun j hj hf => ?_⟩
  · rw [fe]
    simp -implicitDefEqProofs [f_Ledger_pay_6, q9, fsO, fget, intOp, G.2.2.2, s9, f_Ledger_pay_5, tr, ge]
  · have ft : foot L D Pm ds9 = foot L D Pm ds := by unfold foot; rw [m9]
    rw [ft] at hj
    exact nlt j hj
  · rw [gf j hj, hget_set_ne (fun e => hf (by rw [e]; simp [foot])), f9 j hj hf]
end
end K08

set_option Elab.async false
set_option linter.all false
set_option autoImplicit false
set_option maxRecDepth 100000
set_option maxHeartbeats 2000000
namespace K08
open TX TL
section
variable {h : AH} {L D Pm : Nat} {ds : List (Nat × Dt)} {g : Lg} {n : Nat}
def balN (g : Lg) : Int := (g.debts.map (·.2.2)).sum + g.interest - g.credit
theorem bal_ok (a : Led h L D Pm ds g) (hz : ds.length ≤ 1000) : pg P (n + 1) 0 6 [.ref L] h = .ok (.int (balN g)) h := by
  have f1 : fldA [3] [100, 101, 98, 116, 115] (.ref L) h = some (.ref D) := by rw [fldL a.l]; rfl
  have f2 : fldA [3] [105, 110, 116, 101, 114, 101, 115, 116] (.ref L) h = some (.int g.interest) := by rw [fldL a.l]; rfl
  have f3 : fldA [3] [99, 114, 101, 100, 105, 116] (.ref L) h = some (.int g.credit) := by rw [fldL a.l]; rfl
  have sD := seq_of a.d
  have gD := gd_of a.d
  rw [ap_runDef p_Ledger_balance rfl]
  generalize pg P n = φ at *
  have lc : lcGo φ (gT (gsCons (gN 1) (gsCons (gN 2) (gsCons (gN 3) gsNil)))) eYes (eV 3) [some (.ref L), none, none, none] [(D, .lst (ds.map fun p => .ref p.1))] (ds.map fun p => .ref p.1) h = .ok (ds.map fun p => .int p.2.2.2) h := by
    have := lc_filter (φ := φ) (g := gT (gsCons (gN 1) (gsCons (gN 2) (gsCons (gN 3) gsNil)))) (c := eYes) (e := eV 3) (s0 := [some (.ref L), none, none, none]) (gd := [(D, .lst (ds.map fun p => .ref p.1))]) (h := h) (fun p : Nat × Dt => AV.ref p.1) (fun _ => true) (fun p => AV.int p.2.2.2) (xs := ds) (gOk_one a.d) (fun p hp => ⟨_, lst3 p (a.i p hp) _ 1 2 3, rfl, fun _ => rfl⟩)
    rw [this, List.filter_eq_self.mpr (fun _ _ => rfl)]
  have su : uL .sum (ds.map fun p => AV.int p.2.2.2) h = .ok (.int (g.debts.map (·.2.2)).sum) h := by
    rw [show (ds.map fun p => AV.int p.2.2.2) = (g.debts.map (·.2.2)).map .int by rw [a.e, List.map_map, List.map_map]; rfl]
    show (match intsO _ with | some is => Out.ok (AV.int is.sum) h | none => .stuck) = _
    rw [ints_of]
  simp -implicitDefEqProofs [TX.start, f_Ledger_balance, f1, f2, f3, sD, gD, wipe, lc, su, quiet, intOp, show ds.length < 16777216 by omega, balN]
theorem refund_bad (a : Led h L D Pm ds g) {day : Int} (hb : (decide (day < g.day) || decide (g.credit < 1)) = true) : pg P (n + 2) 0 9 [.ref L, .int day] h = .exc 2 h := by
  have f1 : fldA [3] [100, 97, 121] (.ref L) h = some (.int g.day) := by rw [fldL a.l]; rfl
  have f3 : fldA [3] [99, 114, 101, 100, 105, 116] (.ref L) h = some (.int g.credit) := by rw [fldL a.l]; rfl
  rw [ap_runDef p_Ledger_refund rfl]
  generalize pg P (n + 1) = φ at *
  by_cases q : day < g.day
  · simp -implicitDefEqProofs [TX.start, f_Ledger_refund, f1, q]
  · simp only [q, decide_false, Bool.false_or, decide_eq_true_eq] at hb
    simp -implicitDefEqProofs [TX.start, f_Ledger_refund, f1, f3, q, hb]
def refN (g : Lg) (day : Int) : Lg := { goN g day with credit := 0 }
theorem refund_ok (a : Led h L D Pm ds g) {day : Int} (hb : (decide (day < g.day) || decide (g.credit < 1)) = false) (hn : day - g.day < 1000000) (hr : 0 ≤ g.rate ∧ g.rate ≤ 10000) (hz : ds.length ≤ 1000) :
    pg P (n + 2) 0 9 [.ref L, .int day] h = .ok (.int g.credit) (hset h L (leO D Pm (refN g day))) := by
  simp only [Bool.or_eq_false_iff, decide_eq_false_iff_not] at hb
  have f1 : fldA [3] [100, 97, 121] (.ref L) h = some (.int g.day) := by rw [fldL a.l]; rfl
  have f3 : fldA [3] [99, 114, 101, 100, 105, 116] (.ref L) h = some (.int g.credit) := by rw [fldL a.l]; rfl
  have go := go_ok (n := n) a (day := day) (by omega) hn hr hz
  have q0 := insL a.l
  have hL := hget_lt a.l
  rw [ap_runDef p_Ledger_refund rfl]
  generalize pg P (n + 1) = φ at *
  have G := goN_same g day
  unfold refN
  generalize hg1 : goN g day = g1 at *
  have l1 : hget (hset h L (leO D Pm g1)) L = some (leO D Pm g1) := hget_set_eq hL
  have f4 : fldA [3] [99, 114, 101, 100, 105, 116] (.ref L) (hset h L (leO D Pm g1)) = some (.int g.credit) := by rw [fldL l1, ← G.2.2.2]; rfl
  have s4 : setF [3] [99, 114, 101, 100, 105, 116] (.ref L) (.int 0) (hset h L (leO D Pm g1)) = some (hset h L (leO D Pm { g1 with credit := 0 })) := by
    rw [setL l1, hset_hset]
    rfl
  have gc : gcRet h (.int g.credit) (hset h L (leO D Pm { g1 with credit := 0 })) = .ok (.int g.credit) (hset h L (leO D Pm { g1 with credit := 0 })) := gcRet_len _ (by simp)
  simp -implicitDefEqProofs [TX.start, f_Ledger_refund, f1, f3, hb.1, hb.2, f_Ledger_refund_3, q0, fsO, fget, go, f_Ledger_refund_2, f4, s4, f_Ledger_refund_1, gc]
def dueL (debts : List Dt) (day : Int) : List T3 := ((zi 0 debts).filter fun y => decide (y.2.1 < day) && decide (0 < y.2.2.2)).map fun y => (y.2.1, y.1, y.2.2.2)
def overL (debts : List Dt) (day : Int) : List AV := (isort tlt (dueL debts day)).map fun t => t3A (t.2.1, day - t.1, t.2.2)
theorem zi_map {β γ : Type} (f : β → γ) : ∀ (xs : List β) (k : Int), zi k (xs.map f) = (zi k xs).map fun y => (y.1, f y.2)
  | [], _ => rfl
  | x :: r, k => by
    show (k, f x) :: zi (k + 1) (r.map f) = _
    rw [zi_map f r (k + 1)]
    rfl
theorem zi_len {β : Type} : ∀ (xs : List β) (k : Int), (zi k xs).length = xs.length
  | [], _ => rfl
  | x :: r, k => by
    show (zi (k + 1) r).length + 1 = _
    rw [zi_len r (k + 1)]
    rfl
theorem trs_of : ∀ ts : List T3, trsO (ts.map t3A) = some ts
  | [] => rfl
  | t :: r => by
    show (trsO (r.map t3A)).map ((t.1, t.2.1, t.2.2) :: ·) = _
    rw [trs_of r]
    rfl
theorem due_len (debts : List Dt) (day : Int) : (dueL debts day).length ≤ debts.length := by
  unfold dueL
  rw [List.length_map]
  exact Nat.le_trans (List.length_filter_le _ _) (by rw [zi_len]; exact Nat.le_refl _)
theorem due_nn {debts : List Dt} {day : Int} (hd : ∀ d ∈ debts, 0 ≤ d.1) : (dueL debts day).all nn3 = true := by
  rw [List.all_eq_true]
  intro t ht
  unfold dueL at ht
  obtain ⟨y, hy, rfl⟩ := List.mem_map.mp ht
  obtain ⟨hy1, hy2⟩ := List.mem_filter.mp hy
  obtain ⟨i, e1, e2⟩ := zi_get debts 0 y hy1
  have := hd y.2 (List.mem_of_getElem? e2)
  simp only [Bool.and_eq_true, decide_eq_true_eq] at hy2
  simp only [nn3, Bool.and_eq_true, decide_eq_true_eq]
  omega
/-- a list with refs as items, taken apart within an enumeration -/
theorem lst3e (y : Int × Nat × Dt) {h : AH} (e : hget h y.2.1 = some (cell y.2.2)) (s : St) (w i j k : Nat) : gT (gsCons (gN w) (gsCons (gT (gsCons (gN i) (gsCons (gN j) (gsCons (gN k) gsNil)))) gsNil)) (.tup [.int y.1, .ref y.2.1]) s h = some ((((s.set w (some (.int y.1))).set i (some (.int y.2.2.1))).set j (some (.int y.2.2.2.1))).set k (some (.int y.2.2.2.2))) := by
  have e3 : hget h y.2.1 = some (.lst [.int y.2.2.1, .int y.2.2.2.1, .int y.2.2.2.2]) := e
  simp only [gT, gsCons, gsNil, gN, lst_of e3]
  rfl
theorem over_ok (a : Led h L D Pm ds g) {day : Int} (hz : ds.length < 64) (hd : ∀ d ∈ g.debts, 0 ≤ d.1) : pg P (n + 1) 0 7 [.ref L, .int day] h = .ok (.tup (overL g.debts day)) h := by
  have f1 : fldA [3] [100, 101, 98, 116, 115] (.ref L) h = some (.ref D) := by rw [fldL a.l]; rfl
  have sD := seq_of a.d
  have gD := gd_of a.d
  rw [ap_runDef p_Ledger_overdue rfl]
  generalize pg P n = φ at *
  have eD : ((zi 0 ds).filter fun y => decide (y.2.2.1 < day) && decide (0 < y.2.2.2.2)).map (fun y => t3A (y.2.2.1, y.1, y.2.2.2.2)) = (dueL g.debts day).map t3A := by
    unfold dueL
    rw [a.e, zi_map, List.filter_map, List.map_map, List.map_map]
    rfl
  have lc : lcGo φ (gT (gsCons (gN 3) (gsCons (gT (gsCons (gN 4) (gsCons (gN 5) (gsCons (gN 6) gsNil)))) gsNil))) (eAnd (eCmp .lt (eV 4) (eV 1)) (eB (eCmp .gt (eV 6) (eC (.int 0))))) (eTup (aCons (eV 4) (aCons (eV 3) (aCons (eV 6) aNil)))) [some (.ref L), some (.int day), none, none, none, none, none] [(D, .lst (ds.map fun p => .ref p.1))] (enumL 0 (ds.map fun p => .ref p.1)) h = .ok ((dueL g.debts day).map t3A) h := by
    rw [← eD]
    refine lc_en (fun p : Nat × Dt => AV.ref p.1) _ (fun y => t3A (y.2.2.1, y.1, y.2.2.2.2)) (xs := ds) (gOk_one a.d) (fun y hy => ?_)
    obtain ⟨i, _, e2⟩ := zi_get ds 0 y hy
    refine ⟨_, lst3e y (a.i y.2 (List.mem_of_getElem? e2)) _ 3 4 5 6, ?_, fun _ => ?_⟩
    · by_cases q : y.2.2.1 < day <;> by_cases q2 : 0 < y.2.2.2.2 <;> simp -implicitDefEqProofs [q, q2]
    · rfl
  have tl := trs_of (dueL g.debts day)
  have dl := due_len g.debts day
  have dn := due_nn (day := day) hd
  have gl : g.debts.length = ds.length := by rw [a.e, List.length_map]
  have lo : ∀ ts : List T3, lcGo φ (gT (gsCons (gN 4) (gsCons (gN 3) (gsCons (gN 6) gsNil)))) eYes (eTup (aCons (eV 3) (aCons (eBin false .sub (eV 1) (eV 4)) (aCons (eV 6) aNil)))) [some (.ref L), some (.int day), some (.lst ((dueL g.debts day).map t3A)), none, none, none, none] [] (ts.map t3A) h = .ok (ts.map fun t => t3A (t.2.1, day - t.1, t.2.2)) h := fun ts => by
    have := lc_filter (φ := φ) (g := gT (gsCons (gN 4) (gsCons (gN 3) (gsCons (gN 6) gsNil)))) (c := eYes) (e := eTup (aCons (eV 3) (aCons (eBin false .sub (eV 1) (eV 4)) (aCons (eV 6) aNil)))) (s0 := [some (.ref L), some (.int day), some (.lst ((dueL g.debts day).map t3A)), none, none, none, none]) (gd := []) (h := h) t3A (fun _ => true) (fun t => t3A (t.2.1, day - t.1, t.2.2)) (xs := ts) rfl (fun t _ => ⟨_, rfl, rfl, fun _ => rfl⟩)
    rw [this, List.filter_eq_self.mpr (fun _ _ => rfl)]
  have lo := lo (isort tlt (dueL g.debts day))
  have il := (isort_perm tlt (dueL g.debts day)).length_eq
  have dn2 : ∀ x ∈ dueL g.debts day, nn3 x = true := List.all_eq_true.mp dn
  unfold overL
  generalize dueL g.debts day = du at *
  simp -implicitDefEqProofs [TX.start, f_Ledger_overdue, f1, sD, gD, wipe, enumL_len, show ds.length < 16777216 by omega, lc, quiet, mkLst, mk, gN, show du.length ≤ 16777216 by omega, f_Ledger_overdue_1, tl, show du.length < 64 by omega, dn, lo, il, show du.length < 16777216 by omega, uL]
end
end K08

set_option Elab.async false
set_option linter.all false
set_option autoImplicit false
set_option maxRecDepth 100000
set_option maxHeartbeats 2000000
namespace K08
open TX TL
def near : Tx := [110, 101, 97, 114]
def first : Tx := [102, 105, 114, 115, 116]
def last : Tx := [108, 97, 115, 116]
theorem fdl (t : Int) : t.fdiv 10000 = t / 10000 := Int.fdiv_eq_ediv_of_nonneg _ (by decide)
theorem fml (t : Int) : t.fmod 10000 = t % 10000 := Int.fmod_eq_emod_of_nonneg _ (by decide)
section
variable {h : AH} {L D Pm : Nat} {ds : List (Nat × Dt)} {g : Lg} {n : Nat}
theorem rounded_ok {t : Int} (ht : 0 ≤ t) : pg P (n + 1) 0 0 [.int t, .int 10000, .str [110, 101, 97, 114]] h = .ok (.int ((t + 5000) / 10000)) h := by
  rw [ap_runDef p_rounded rfl]
  obtain ⟨q, hq⟩ : ∃ q, t / 10000 = q := ⟨_, rfl⟩
  obtain ⟨m, hm⟩ : ∃ m, t % 10000 = m := ⟨_, rfl⟩
  have m1 : 0 ≤ m ∧ m < 10000 := by omega
  have tq : t = 10000 * q + m := by omega
  simp [TX.start, f_rounded, f_rounded_1, f_rounded_2, f_rounded_3, f_rounded_4, f_rounded_5, f_rounded_6, f_rounded, gT, gsCons, gsNil, gN, fdl, fml, hq, hm, ap_sRaise] <;>
    (repeat' split) <;> (try simp) <;> omega
def comp (rate : Int) (now : Int) : Nat → Int
  | 0 => now
  | k + 1 => comp rate now k + (comp rate now k * rate + 5000) / 10000
theorem comp_nn {rate now : Int} (h1 : 0 ≤ rate) (h2 : 0 ≤ now) : ∀ k, 0 ≤ comp rate now k
  | 0 => h2
  | k + 1 => by
    have := comp_nn h1 h2 k
    have m := Int.mul_nonneg this h1
    show 0 ≤ comp rate now k + (comp rate now k * rate + 5000) / 10000
    omega
theorem comp_bad {am rate ys : Int} (hb : am < 0 ∨ rate < 0 ∨ ys < 0 ∨ 100 < ys) : pg P (n + 1) 0 11 [.int am, .int rate, .int ys] h = .exc 2 h := by
  rw [ap_runDef p_compound rfl]
  generalize pg P n = φ at *
  by_cases q1 : am < 0
  · simp -implicitDefEqProofs [TX.start, f_compound, q1]
  · by_cases q2 : rate < 0
    · simp -implicitDefEqProofs [TX.start, f_compound, q1, q2]
    · by_cases q3 : 0 ≤ ys
      · simp -implicitDefEqProofs [TX.start, f_compound, q1, q2, q3, show ¬ ys ≤ 100 by omega]
      · simp -implicitDefEqProofs [TX.start, f_compound, q1, q2, q3]
theorem comp_ok {am rate ys : Int} (h0 : 0 ≤ am) (h1 : 0 ≤ rate) (h3 : rate ≤ 10000) (h2 : 0 ≤ ys ∧ ys ≤ 100) : pg P (n + 2) 0 11 [.int am, .int rate, .int ys] h = .ok (.int (comp rate am ys.toNat)) h := by
  have ro := fun t ht => rounded_ok (n := n) (t := t) (h := h) ht
  rw [ap_runDef p_compound rfl]
  generalize pg P (n + 1) = φ at *
  have sr : small rate = true := small_of (by omega) (by omega)
  obtain ⟨s2, h2', e, x, es, eh⟩ := for_rng (φ := φ) (g := gN 4) (b := f_compound_1) (lo := 0)
    (fun k s h' => ∃ x, s = [some (.int am), some (.int rate), some (.int ys), some (.int (comp rate am k)), x] ∧ h' = h) (k := ys.toNat) (s := [some (.int am), some (.int rate), some (.int ys), some (.int am), none]) (h := h)
    (fun i hi s h' ⟨x, es, eh⟩ => by
      subst es eh
      have nn := comp_nn h1 h0 i
      have nm := Int.mul_nonneg nn h1
      have r := ro (comp rate am i * rate) nm
      refine ⟨[some (.int am), some (.int rate), some (.int ys), some (.int (comp rate am i)), some (.int (0 + (i : Int)))], [some (.int am), some (.int rate), some (.int ys), some (.int (comp rate am (i + 1))), some (.int (0 + (i : Int)))], h', rfl, .inl ?_, _, rfl, rfl⟩
      show _ = Out.ok (Fl.nx [some (.int am), some (.int rate), some (.int ys), some (.int (comp rate am i + (comp rate am i * rate + 5000) / 10000)), some (.int (0 + (i : Int)))]) _
      generalize comp rate am i = c at *
      simp -implicitDefEqProofs [f_compound_1, sr, intOp, r]) ⟨none, rfl, rfl⟩
  subst es eh
  have k1 := rngOk_of (i := ys) (by omega) (by omega)
  simp -implicitDefEqProofs [TX.start, f_compound, show ¬ am < 0 by omega, show ¬ rate < 0 by omega, h2.1, h2.2, f_compound_4, gN, f_compound_3, k1, e, f_compound_2]
def planL (bal m : Int) : List Int := List.replicate (bal % m).toNat (bal / m + 1) ++ List.replicate (m - bal % m).toNat (bal / m)
theorem plan_bad (a : Led h L D Pm ds g) (hz : ds.length ≤ 1000) {m : Int} {how : Tx} (hb : m < 1 ∨ 120 < m ∨ (how ≠ first ∧ how ≠ last) ∨ balN g < 1) : pg P (n + 2) 0 8 [.ref L, .int m, .str how] h = .exc 2 h := by
  have bo := bal_ok (n := n) a hz
  have q0 := insL a.l
  rw [ap_runDef p_Ledger_plan rfl]
  generalize pg P (n + 1) = φ at *
  by_cases q1 : 1 ≤ m
  · by_cases q2 : m ≤ 120
    · by_cases q3 : how = first
      · have q5 : balN g < 1 := by rcases hb with hb | hb | hb | hb <;> first | omega | exact absurd q3 hb.1
        simp -implicitDefEqProofs [TX.start, f_Ledger_plan, q0, fsO, fget, bo, gN, f_Ledger_plan_4, q1, q2, q3, first, q5]
      · by_cases q4 : how = last
        · have q5 : balN g < 1 := by rcases hb with hb | hb | hb | hb <;> first | omega | exact absurd q4 hb.2
          simp -implicitDefEqProofs [TX.start, f_Ledger_plan, q0, fsO, fget, bo, gN, f_Ledger_plan_4, q1, q2, q4, last, q5]
        · simp only [first] at q3
          simp only [last] at q4
          simp -implicitDefEqProofs [TX.start, f_Ledger_plan, q0, fsO, fget, bo, gN, f_Ledger_plan_4, q1, q2, show ¬ ([102, 105, 114, 115, 116] : Tx) = how from fun e => q3 e.symm, show ¬ ([108, 97, 115, 116] : Tx) = how from fun e => q4 e.symm]
    · simp -implicitDefEqProofs [TX.start, f_Ledger_plan, q0, fsO, fget, bo, gN, f_Ledger_plan_4, q1, q2]
  · simp -implicitDefEqProofs [TX.start, f_Ledger_plan, q0, fsO, fget, bo, gN, f_Ledger_plan_4, q1]
theorem plan_ok (a : Led h L D Pm ds g) (hz : ds.length ≤ 1000) {m : Int} (b : Bool) (hm : 1 ≤ m ∧ m ≤ 120) (hb : 1 ≤ balN g) : pg P (n + 2) 0 8 [.ref L, .int m, .str (if b then first else last)] h = .ok (.tup ((if b then planL (balN g) m else (planL (balN g) m).reverse).map .int)) h := by
  have bo := bal_ok (n := n) a hz
  have q0 := insL a.l
  rw [ap_runDef p_Ledger_plan rfl]
  generalize pg P (n + 1) = φ at *
  have fd : (balN g).fdiv m = balN g / m := Int.fdiv_eq_ediv_of_nonneg _ (by omega)
  have fm : (balN g).fmod m = balN g % m := Int.fmod_eq_emod_of_nonneg _ (by omega)
  have m0 : m ≠ 0 := by omega
  have sm : small m = true := small_of (by omega) (by omega)
  have r1 := Int.emod_nonneg (balN g) m0
  have r2 := Int.emod_lt_of_pos (balN g) (show 0 < m by omega)
  have u1 := mul_one false (.int (balN g / m + 1)) (balN g % m) h r1 (by omega)
  have u2 := mul_one false (.int (balN g / m)) (m - balN g % m) h (by omega) (by omega)
  have kk : (balN g % m).toNat + (m - balN g % m).toNat ≤ 16777216 := by omega
  cases b with
  | true =>
    simp -implicitDefEqProofs [TX.start, f_Ledger_plan, q0, fsO, fget, bo, gN, f_Ledger_plan_4, hm.1, hm.2, show m.natAbs < 1073741824 by omega, show ¬ balN g < 1 by omega, f_Ledger_plan_3, intOp, fd, fm, m0, sm, gT, gsCons, gsNil, gN, f_Ledger_plan_2, mkLst, mk, u1, u2, first, kk, f_Ledger_plan_1, planL]
  | false =>
    simp -implicitDefEqProofs [TX.start, f_Ledger_plan, q0, fsO, fget, bo, gN, f_Ledger_plan_4, hm.1, hm.2, show m.natAbs < 1073741824 by omega, show ¬ balN g < 1 by omega, f_Ledger_plan_3, intOp, fd, fm, m0, sm, gT, gsCons, gsNil, gN, f_Ledger_plan_2, mkLst, mk, u1, u2, last, kk, f_Ledger_plan_1, planL, pick3]
end
end K08

set_option Elab.async false
set_option linter.all false
set_option autoImplicit false
set_option maxRecDepth 100000
set_option maxHeartbeats 2000000
namespace K08
open TX TL
abbrev sm18 (i : Int) : Prop := i.natAbs < 1000000000000000000
structure Bd (g : Lg) : Prop where
  d : ∀ d ∈ g.debts, sm18 d.1 ∧ sm18 d.2.1 ∧ sm18 d.2.2
  p : ∀ p ∈ g.pays, sm18 p.1 ∧ sm18 p.2
  i : sm18 g.interest
  c : sm18 g.credit
  b : sm18 (balN g)
def debtT (y : Int × Dt) : Tx := [100, 101, 98, 116, 32] ++ intTx y.1 ++ [32] ++ intTx y.2.1 ++ [32] ++ intTx y.2.2.1 ++ [32] ++ intTx y.2.2.2
def paidT (p : Int × Int) : Tx := [112, 97, 105, 100, 32] ++ intTx p.1 ++ [32] ++ intTx p.2
def stmtL (g : Lg) : List Tx := (zi 0 g.debts).map debtT ++ g.pays.map paidT ++ [[105, 110, 116, 101, 114, 101, 115, 116, 32] ++ intTx g.interest, [99, 114, 101, 100, 105, 116, 32] ++ intTx g.credit, [98, 97, 108, 97, 110, 99, 101, 32] ++ intTx (balN g)]
section
variable {h : AH} {L D Pm : Nat} {ds : List (Nat × Dt)} {g : Lg} {n : Nat}
theorem stmt_ok (a : Led h L D Pm ds g) (hz : ds.length ≤ 1000) (hz2 : g.pays.length ≤ 1000) (b : Bd g) : pg P (n + 2) 0 10 [.ref L] h = .ok (.tup ((stmtL g).map .str)) h := by
  have f1 : fldA [3] [100, 101, 98, 116, 115] (.ref L) h = some (.ref D) := by rw [fldL a.l]; rfl
  have sD := seq_of a.d
  have gD := gd_of a.d
  have f2 : ∀ o, fldA [3] [112, 97, 121, 109, 101, 110, 116, 115] (.ref L) (o :: h) = some (.ref Pm) := fun o => by rw [fldL (hget_cons_lt a.l)]; rfl
  have f3 : ∀ o, fldA [3] [105, 110, 116, 101, 114, 101, 115, 116] (.ref L) (o :: h) = some (.int g.interest) := fun o => by rw [fldL (hget_cons_lt a.l)]; rfl
  have f4 : ∀ o, fldA [3] [99, 114, 101, 100, 105, 116] (.ref L) (o :: h) = some (.int g.credit) := fun o => by rw [fldL (hget_cons_lt a.l)]; rfl
  have q0 : ∀ o, insOf (.ref L) (o :: h) = some (3, fsO D Pm g) := fun o => insL (hget_cons_lt a.l)
  have nlt : ∀ j ∈ foot L D Pm ds, j < h.length := fun j hj => by
    simp only [foot, List.mem_cons, List.mem_map] at hj
    rcases hj with rfl | rfl | rfl | ⟨p, hp, rfl⟩
    · exact hget_lt a.l
    · exact hget_lt a.d
    · exact hget_lt a.p
    · exact hget_lt (a.i p hp)
  have bo : ∀ o, pg P (n + 1) 0 6 [.ref L] (o :: h) = .ok (.int (balN g)) (o :: h) := fun o => bal_ok (a.frame fun j hj => by rw [hget_cons, if_neg (by have := nlt j hj; omega)]) hz
  rw [ap_runDef p_Ledger_statement rfl]
  generalize pg P (n + 1) = φ at *
  have gl : g.debts.length = ds.length := by rw [a.e, List.length_map]
  have l1 : lcGo φ (gT (gsCons (gN 2) (gsCons (gT (gsCons (gN 3) (gsCons (gN 4) (gsCons (gN 5) gsNil)))) gsNil))) eYes (eFs [(eC (.str [100, 101, 98, 116, 32])), (eV 2), (eC (.str [32])), (eV 3), (eC (.str [32])), (eV 4), (eC (.str [32])), (eV 5)]) [some (.ref L), none, none, none, none, none, none] [(D, .lst (ds.map fun p => .ref p.1))] (enumL 0 (ds.map fun p => .ref p.1)) h =
      .ok (((zi 0 g.debts).map debtT).map .str) h := by
    have := lc_en (φ := φ) (g := gT (gsCons (gN 2) (gsCons (gT (gsCons (gN 3) (gsCons (gN 4) (gsCons (gN 5) gsNil)))) gsNil))) (c := eYes) (e := eFs [(eC (.str [100, 101, 98, 116, 32])), (eV 2), (eC (.str [32])), (eV 3), (eC (.str [32])), (eV 4), (eC (.str [32])), (eV 5)]) (s0 := [some (.ref L), none, none, none, none, none, none]) (gd := [(D, .lst (ds.map fun p => .ref p.1))]) (h := h) (fun p : Nat × Dt => AV.ref p.1) (fun _ => true) (fun y => .str (debtT (y.1, y.2.2))) (xs := ds) (gOk_one a.d)
      (fun y hy => by
        obtain ⟨i, e1, e2⟩ := zi_get ds 0 y hy
        have my := List.mem_of_getElem? e2
        obtain ⟨b1, b2, b3⟩ := b.d y.2.2 (by rw [a.e]; exact List.mem_map.mpr ⟨_, my, rfl⟩)
        have b0 : sm18 y.1 := by
          have := (List.getElem?_eq_some_iff.mp e2).1
          unfold sm18
          omega
        refine ⟨_, lst3e y (a.i y.2 my) _ 2 3 4 5, rfl, fun _ => ?_⟩
        have k0 := fsPart_int b0
        have k1 := fsPart_int b1
        have k2 := fsPart_int b2
        have k3 := fsPart_int b3
        have t1 := fsPart_str (a := [100, 101, 98, 116, 32]) (by decide)
        have t2 := fsPart_str (a := [32]) (by decide)
        simp -implicitDefEqProofs [fsGo, k0, k1, k2, k3, t1, t2, debtT])
    rw [this, List.filter_eq_self.mpr (fun _ _ => rfl), a.e, zi_map, List.map_map, List.map_map]
    rfl
  have sP : ∀ o, seqOf (.ref Pm) (o :: h) = some (g.pays.map prA) := fun o => seq_of (hget_cons_lt a.p)
  have gP : ∀ o, gdOf (.ref Pm) (o :: h) = [(Pm, .lst (g.pays.map prA))] := fun o => gd_of (hget_cons_lt a.p)
  have l2 : ∀ o, lcGo φ (gT (gsCons (gN 6) (gsCons (gN 4) gsNil))) eYes (eFs [(eC (.str [112, 97, 105, 100, 32])), (eV 6), (eC (.str [32])), (eV 4)]) [some (.ref L), some (.ref h.length), none, none, none, none, none] [(Pm, .lst (g.pays.map prA))] (g.pays.map prA) (o :: h) =
      .ok ((g.pays.map paidT).map .str) (o :: h) := fun o => by
    have := lc_filter (φ := φ) (g := gT (gsCons (gN 6) (gsCons (gN 4) gsNil))) (c := eYes) (e := eFs [(eC (.str [112, 97, 105, 100, 32])), (eV 6), (eC (.str [32])), (eV 4)]) (s0 := [some (.ref L), some (.ref h.length), none, none, none, none, none]) (gd := [(Pm, .lst (g.pays.map prA))]) (h := o :: h) prA (fun _ => true) (fun p => .str (paidT p)) (xs := g.pays) (gOk_one (hget_cons_lt a.p))
      (fun p hp => by
        obtain ⟨b1, b2⟩ := b.p p hp
        refine ⟨_, rfl, rfl, fun _ => ?_⟩
        have k1 := fsPart_int b1
        have k2 := fsPart_int b2
        have t1 := fsPart_str (a := [112, 97, 105, 100, 32]) (by decide)
        have t2 := fsPart_str (a := [32]) (by decide)
        simp -implicitDefEqProofs [fsGo, k1, k2, t1, t2, paidT, gN])
    rw [this, List.filter_eq_self.mpr (fun _ _ => rfl), List.map_map]
    rfl
  have k1 := fsPart_int b.i
  have k2 := fsPart_int b.c
  have k3 := fsPart_int b.b
  have t1 := fsPart_str (a := [105, 110, 116, 101, 114, 101, 115, 116, 32]) (by decide)
  have t2 := fsPart_str (a := [99, 114, 101, 100, 105, 116, 32]) (by decide)
  have t3 := fsPart_str (a := [98, 97, 108, 97, 110, 99, 101, 32]) (by decide)
  have zl := zi_len g.debts 0
  unfold stmtL
  have lA : ((zi 0 g.debts).map debtT).length ≤ 1000 := by rw [List.length_map]; omega
  have lB : (g.pays.map paidT).length ≤ 1000 := by rw [List.length_map]; omega
  generalize (zi 0 g.debts).map debtT = A at *
  generalize g.pays.map paidT = B at *
  have hs : ∀ o u, hset (o :: h) h.length u = u :: h := fun o u => by show (if h.length = h.length then _ else _) = _; rw [if_pos rfl]
  have ht : ∀ o, hget (o :: h) h.length = some o := fun o => by rw [hget_cons, if_pos rfl]
  have lo : ∀ xs, lstOf (.ref h.length) (.lst xs :: h) = some xs := fun xs => lst_of (ht _)
  have tu : ∀ ts : List Tx, AV.under h.length (.tup (ts.map .str)) = true := fun ts => by
    show AV.underL h.length (ts.map .str) = true
    induction ts with
    | nil => rfl
    | cons t r ih => show (true && AV.underL h.length (r.map .str)) = true; rw [ih]; rfl
  have gc : ∀ o (ts : List Tx), gcRet h (.tup (ts.map .str)) (o :: h) = .ok (.tup (ts.map .str)) h := fun o ts => gcRet_drop [o] (tu ts)
  have gc := fun o => gc o (A ++ B ++ [[105, 110, 116, 101, 114, 101, 115, 116, 32] ++ intTx g.interest, [99, 114, 101, 100, 105, 116, 32] ++ intTx g.credit, [98, 97, 108, 97, 110, 99, 101, 32] ++ intTx (balN g)])
  simp -implicitDefEqProofs [TX.start, f_Ledger_statement, f1, sD, gD, wipe, enumL_len, show ds.length < 16777216 by omega, l1, quiet, mkLst, mk, gN, show A.length ≤ 16777216 by omega]
  simp -implicitDefEqProofs [f_Ledger_statement_2, f2, sP, gP, wipe, l2, quiet, mkLst, mk, show g.pays.length < 16777216 by omega, show B.length ≤ 16777216 by omega, show A.length + B.length ≤ 16777216 by omega, hs, ht]
  simp -implicitDefEqProofs [f_Ledger_statement_1, f3, f4, q0, fsO, fget, bo, fsGo, k1, k2, k3, t1, t2, t3, mkLst, mk, binA, lo, show A.length + B.length ≤ 16777213 by omega]
  have := gc (AO.lst (List.map AV.str A ++ List.map AV.str B))
  simp -implicitDefEqProofs [] at this
  exact this
end
end K08

set_option Elab.async false
set_option linter.all false
set_option autoImplicit false
set_option maxRecDepth 100000
set_option maxHeartbeats 2000000
namespace K08
open TX TL
def dA (d : Dt) : AV := .lst [.int d.1, .int d.2.1, .int d.2.2]
def kvO (d p : Nat) (g : Lg) : List (AV × AV) := [(.str [114, 97, 116, 101], .int g.rate), (.str [100, 101, 98, 116, 115], .ref d), (.str [112, 97, 105, 100], .ref p), (.str [99, 114, 101, 100, 105, 116], .int g.credit), (.str [105, 110, 116, 101, 114, 101, 115, 116], .int g.interest), (.str [100, 97, 121], .int g.day), (.str [116, 111, 112], .int g.rest)]
def ownO (d p : Nat) (g : Lg) : AO := .dct (kvO d p g)
structure Own (h : AH) (O d p : Nat) (g : Lg) : Prop where
  eo : hget h O = some (ownO d p g)
  ed : hget h d = some (.lst (g.debts.map dA))
  ep : hget h p = some (.lst (g.pays.map prA))
  nd : O ≠ d ∧ O ≠ p ∧ d ≠ p
section
variable {h : AH} {O d p : Nat} {g : Lg} {n : Nat}
theorem getO {h : AH} {O d p : Nat} {g : Lg} (e : hget h O = some (ownO d p g)) (k : Tx) : idxA (.ref O) (.str k) h = getK (.str k) (kvO d p g) := idx_dct e k
theorem setO {h : AH} {O d p : Nat} {g : Lg} (e : hget h O = some (ownO d p g)) (k : Tx) (v : AV) : setA (.ref O) (.str k) v h = some (hset h O (.dct (putK (.str k) v (kvO d p g)))) := setA_dct (kvs := kvO d p g) e rfl (by simp [kvO])
theorem Own.frame {h' : AH} (a : Own h O d p g) (k : ∀ j, j = O ∨ j = d ∨ j = p → hget h' j = hget h j) : Own h' O d p g :=
  ⟨by rw [k O (.inl rfl), a.eo], by rw [k d (.inr (.inl rfl)), a.ed], by rw [k p (.inr (.inr rfl)), a.ep], a.nd⟩
theorem Own.num {g' : Lg} (a : Own h O d p g) (e1 : g'.debts = g.debts) (e2 : g'.pays = g.pays) : Own (hset h O (ownO d p g')) O d p g' := by
  obtain ⟨n1, n2, n3⟩ := a.nd
  exact ⟨hget_set_eq (hget_lt a.eo), by rw [hget_set_ne n1.symm, a.ed, e1], by rw [hget_set_ne n2.symm, a.ep, e2], a.nd⟩
theorem lgo_step {φ : Fn} (a : Own h O d p g) (hr : 0 ≤ g.rate ∧ g.rate ≤ 10000) (hz : g.debts.length ≤ 1000) {day st : AV} :
    f__law_go_4 φ [some (.ref O), some day, some st, none, none, none] h = .ok (.nx [some (.ref O), some day, some st, none, none, none]) (hset h O (ownO d p (day1 g))) := by
  have hlt := hget_lt a.eo
  obtain ⟨n1, n2, n3⟩ := a.nd
  have sr : small g.rate = true := small_of (by omega) (by omega)
  have hO : ∀ u, hget (hset h O u) O = some u := fun u => hget_set_eq hlt
  have g0 := getO a.eo [100, 97, 121]
  have g0 : idxA (.ref O) (.str [100, 97, 121]) h = some (.int g.day) := getO a.eo _
  have s0 : setA (.ref O) (.str [100, 97, 121]) (.int (g.day + 1)) h = some (hset h O (ownO d p { g with day := g.day + 1 })) := setO a.eo _ _
  have a1 : Own (hset h O (ownO d p { g with day := g.day + 1 })) O d p { g with day := g.day + 1 } := a.num rfl rfl
  generalize hh1 : hset h O (ownO d p { g with day := g.day + 1 }) = h1 at *
  have g1 : idxA (.ref O) (.str [100, 101, 98, 116, 115]) h1 = some (.ref d) := getO a1.eo _
  have g2 : idxA (.ref O) (.str [100, 97, 121]) h1 = some (.int (g.day + 1)) := getO a1.eo _
  have g3 : idxA (.ref O) (.str [116, 111, 112]) h1 = some (.int g.rest) := getO a1.eo _
  have g4 : idxA (.ref O) (.str [114, 97, 116, 101]) h1 = some (.int g.rate) := getO a1.eo _
  have sd := seq_of a1.ed
  have gd := gd_of a1.ed
  have lc : lcGo φ (gT (gsCons (gN 3) (gsCons (gN 4) (gsCons (gN 5) gsNil)))) (eCmp .lt (eV 3) (eIdx (eV 0) (eC (.str [100, 97, 121])))) (eV 5) [some (.ref O), some day, some st, none, none, none] [(d, .lst (g.debts.map dA))] (g.debts.map dA) h1 =
      .ok (((g.debts.filter fun d => decide (d.1 < g.day + 1)).map (·.2.2)).map .int) h1 := by
    rw [List.map_map]
    refine lc_filter dA (fun d => decide (d.1 < g.day + 1)) _ (gOk_one a1.ed) fun p hp => ⟨_, rfl, ?_, fun _ => rfl⟩
    simp -implicitDefEqProofs [gN, g2]
  have su : ∀ h, uA .sum (.lst (((g.debts.filter fun d => decide (d.1 < g.day + 1)).map (·.2.2)).map .int)) h = .ok (.int (dueS g.debts (g.day + 1))) h := fun h => by
    show (match intsO _ with | some is => Out.ok (AV.int is.sum) h | none => .stuck) = _
    rw [ints_of]
    rfl
  have ll : ((g.debts.filter fun d => decide (d.1 < g.day + 1)).map (·.2.2)).length ≤ 1000 := by
    rw [List.length_map]
    exact Nat.le_trans (List.length_filter_le _ _) hz
  generalize (g.debts.filter fun d => decide (d.1 < g.day + 1)).map (·.2.2) = zs at *
  generalize hT : dueS g.debts (g.day + 1) = T at *
  have s1 : setA (.ref O) (.str [116, 111, 112]) (.int (g.rest + T * g.rate)) h1 = some (hset h O (ownO d p { g with day := g.day + 1, rest := g.rest + T * g.rate })) := by
    rw [setO a1.eo, ← hh1, hset_hset]
    rfl
  have a2 : hget (hset h O (ownO d p { g with day := g.day + 1, rest := g.rest + T * g.rate })) O = some (ownO d p { g with day := g.day + 1, rest := g.rest + T * g.rate }) := hO _
  generalize hh2 : hset h O (ownO d p { g with day := g.day + 1, rest := g.rest + T * g.rate }) = h2 at *
  have g5 : idxA (.ref O) (.str [105, 110, 116, 101, 114, 101, 115, 116]) h2 = some (.int g.interest) := getO a2 _
  have g6 : idxA (.ref O) (.str [116, 111, 112]) h2 = some (.int (g.rest + T * g.rate)) := getO a2 _
  have s2 : setA (.ref O) (.str [105, 110, 116, 101, 114, 101, 115, 116]) (.int (g.interest + (g.rest + T * g.rate) / 3650000)) h2 = some (hset h O (ownO d p { g with day := g.day + 1, rest := g.rest + T * g.rate, interest := g.interest + (g.rest + T * g.rate) / 3650000 })) := by
    rw [setO a2, ← hh2, hset_hset]
    rfl
  have a3 : hget (hset h O (ownO d p { g with day := g.day + 1, rest := g.rest + T * g.rate, interest := g.interest + (g.rest + T * g.rate) / 3650000 })) O = some (ownO d p { g with day := g.day + 1, rest := g.rest + T * g.rate, interest := g.interest + (g.rest + T * g.rate) / 3650000 }) := hO _
  generalize hh3 : hset h O (ownO d p { g with day := g.day + 1, rest := g.rest + T * g.rate, interest := g.interest + (g.rest + T * g.rate) / 3650000 }) = h3 at *
  have g7 : idxA (.ref O) (.str [116, 111, 112]) h3 = some (.int (g.rest + T * g.rate)) := getO a3 _
  have s3 : setA (.ref O) (.str [116, 111, 112]) (.int ((g.rest + T * g.rate) % 3650000)) h3 = some (hset h O (ownO d p (day1 g))) := by
    rw [setO a3, ← hh3, hset_hset]
    unfold day1
    rw [hT]
    rfl
  simp -implicitDefEqProofs [f__law_go_4, g0, intOp, s0]
  simp -implicitDefEqProofs [f__law_go_3, g1, g3, g4, sd, gd, wipe, lc, quiet, mkLst, mk, show g.debts.length < 16777216 by omega, show zs.length ≤ 16777216 by omega, su, intOp, sr, s1]
  simp -implicitDefEqProofs [f__law_go_2, g5, g6, dKd, intOp, s2]
  simp -implicitDefEqProofs [f__law_go_1, g7, dKm, intOp, s3]
theorem lgo_ok (a : Own h O d p g) {day : Int} (hd : g.day ≤ day) (hn : day - g.day < 1000000) (hr : 0 ≤ g.rate ∧ g.rate ≤ 10000) (hz : g.debts.length ≤ 1000) :
    pg P (n + 1) 0 15 [.ref O, .int day] h = .ok .non (hset h O (ownO d p (goN g day))) := by
  rw [ap_runDef p__law_go rfl]
  generalize pg P n = φ at *
  obtain ⟨s2, h2, e, x, es, eh⟩ := for_rng (φ := φ) (g := gN 2) (b := f__law_go_4) (lo := 0)
    (fun k s h' => ∃ x, s = [some (.ref O), some (.int day), x, none, none, none] ∧ h' = hset h O (ownO d p (days g k))) (k := (day - g.day).toNat) (s := [some (.ref O), some (.int day), none, none, none, none]) (h := h)
    (fun i hi s h' ⟨x, es, eh⟩ => by
      subst es eh
      have ak : Own (hset h O (ownO d p (days g i))) O d p (days g i) := a.num (days_same g i).1 (days_same g i).2.1
      have st := lgo_step (φ := φ) ak (by rw [(days_same g i).2.2.1]; exact hr) (by rw [(days_same g i).1]; exact hz) (day := .int day) (st := .int (0 + (i : Int)))
      rw [hset_hset] at st
      exact ⟨_, _, _, rfl, .inl st, _, rfl, rfl⟩) ⟨none, rfl, by show h = hset h O (ownO d p g); rw [hset_self a.eo]⟩
  subst es eh
  have g0 : idxA (.ref O) (.str [100, 97, 121]) h = some (.int g.day) := getO a.eo _
  have k1 := rngOk_of (i := day - g.day) (by omega) (by omega)
  have gc : gcRet h .non (hset h O (ownO d p (days g (day - g.day).toNat))) = .ok .non (hset h O (ownO d p (days g (day - g.day).toNat))) := gcRet_len _ (by simp)
  simp -implicitDefEqProofs [TX.start, f__law_go, g0, intOp, k1, gN, e, gc]
  rfl
end
end K08

set_option Elab.async false
set_option linter.all false
set_option autoImplicit false
set_option maxRecDepth 100000
set_option maxHeartbeats 2000000
namespace K08
open TX TL
def kvA (r : Int × Int) : AV × AV := (.int r.1, .int r.2)
theorem put_new : ∀ (xs acc : List (Int × Int)), ((acc ++ xs).map (·.1)).Nodup → putAll (acc.map kvA) (xs.map prA) = some ((acc ++ xs).map kvA)
  | [], acc, _ => by rw [List.append_nil]; rfl
  | x :: r, acc, h => by
    have e : putAll (acc.map kvA) ((x :: r).map prA) = putAll (putK (.int x.1) (.int x.2) (acc.map kvA)) (r.map prA) := rfl
    have nk : hasK (.int x.1) (acc.map kvA) = false := by
      unfold hasK
      rw [List.any_eq_false]
      intro q hq
      obtain ⟨y, hy, rfl⟩ := List.mem_map.mp hq
      simp only [kvA, AV.int.injEq, decide_eq_true_eq]
      intro e
      rw [List.map_append, List.nodup_append] at h
      exact h.2.2 y.1 (List.mem_map.mpr ⟨y, hy, rfl⟩) x.1 (by simp) e
    have e2 : putK (.int x.1) (.int x.2) (acc.map kvA) = (acc ++ [x]).map kvA := by
      unfold putK
      rw [nk, if_neg (by simp)]
      simp [kvA]
    rw [e, e2, put_new r (acc ++ [x]) (by rw [List.append_assoc]; exact h), List.append_assoc]
    rfl
structure PI (debts : List Dt) (st : List Dt × Int × List (Int × Int)) : Prop where
  l : 0 ≤ st.2.1
  d : ∀ d ∈ st.1, 0 ≤ d.2.2
  s : st.1.map (·.1) = debts.map (·.1)
theorem pS_inv {debts : List Dt} {st : List Dt × Int × List (Int × Int)} {p : Int × Int} (i : PI debts st) : PI debts (pS st p) ∧ ((pS st p).2.2.map (·.1)).Sublist (st.2.2.map (·.1) ++ [p.2]) := by
  unfold pS
  split
  · rename_i q hq
    split
    · have hd := i.d q (List.mem_of_getElem? hq)
      have hl := i.l
      refine ⟨⟨by simp only; omega, fun d h => ?_, ?_⟩, by simp⟩
      · rcases List.mem_or_eq_of_mem_set h with h | h
        · exact i.d d h
        · subst h
          simp only
          omega
      · rw [← i.s, List.map_set]
        obtain ⟨w1, w2⟩ := List.getElem?_eq_some_iff.mp (show (st.1.map (·.1))[p.2.toNat]? = some q.1 by rw [List.getElem?_map, hq]; rfl)
        show (st.1.map (·.1)).set p.2.toNat q.1 = _
        rw [← w2, List.set_getElem_self]
    · exact ⟨i, List.sublist_append_left _ _⟩
  · exact ⟨i, List.sublist_append_left _ _⟩
theorem pF_inv {debts : List Dt} {left : Int} (h1 : 0 ≤ left) (h2 : ∀ d ∈ debts, 0 ≤ d.2.2) (ps : List (Int × Int)) : PI debts (pF debts left ps) ∧ ((pF debts left ps).2.2.map (·.1)).Sublist (ps.map (·.2)) := by
  have key : ∀ (ps : List (Int × Int)) st, PI debts st → PI debts (ps.foldl pS st) ∧ ((ps.foldl pS st).2.2.map (·.1)).Sublist (st.2.2.map (·.1) ++ ps.map (·.2)) := by
    intro ps
    induction ps with
    | nil => intro st i; exact ⟨i, by simp⟩
    | cons p r ih =>
      intro st i
      obtain ⟨i1, s1⟩ := pS_inv (p := p) i
      obtain ⟨i2, s2⟩ := ih (pS st p) i1
      refine ⟨i2, s2.trans ?_⟩
      rw [List.map_cons, ← List.singleton_append (l := List.map _ r), ← List.append_assoc]
      exact List.Sublist.append_right s1 _
  have := key ps (debts, left, []) ⟨h1, h2, rfl⟩
  simpa [pF] using this
def lpN (g : Lg) (am : Int) : Lg :=
  { g with
    debts := (pF g.debts (am - min am g.interest) (ord g.debts)).1
    credit := g.credit + (pF g.debts (am - min am g.interest) (ord g.debts)).2.1
    interest := g.interest - min am g.interest }
def lpV (g : Lg) (am : Int) : AV := .tup [.int (min am g.interest), .tup ((pF g.debts (am - min am g.interest) (ord g.debts)).2.2.map prA), .int (pF g.debts (am - min am g.interest) (ord g.debts)).2.1]
section
variable {h : AH} {O d p : Nat} {g : Lg} {n : Nat}
theorem lpay_ok (a : Own h O d p g) {am : Int} (ha : 0 ≤ am) (hi : 0 ≤ g.interest) (hd : ∀ d ∈ g.debts, 0 ≤ d.2.2) (hz : g.debts.length ≤ 1000) :
    ∃ h2, pg P (n + 1) 0 16 [.ref O, .int am] h = .ok (lpV g am) h2 ∧ Own h2 O d p (lpN g am) ∧ h2.length = h.length ∧ ∀ j, j ≠ O → j ≠ d → hget h2 j = hget h j := by
  obtain ⟨n1, n2, n3⟩ := a.nd
  rw [ap_runDef p__law_pay rfl]
  generalize pg P n = φ at *
  unfold lpN lpV
  have g0 : idxA (.ref O) (.str [105, 110, 116, 101, 114, 101, 115, 116]) h = some (.int g.interest) := getO a.eo _
  have hl : 0 ≤ am - min am g.interest := by omega
  generalize hpa : min am g.interest = part at *
  have s0 : setA (.ref O) (.str [105, 110, 116, 101, 114, 101, 115, 116]) (.int (g.interest - part)) h = some (hset h O (ownO d p { g with interest := g.interest - part })) := setO a.eo _ _
  have a1 : Own (hset h O (ownO d p { g with interest := g.interest - part })) O d p { g with interest := g.interest - part } := a.num rfl rfl
  have f1 : ∀ j, j ≠ O → hget (hset h O (ownO d p { g with interest := g.interest - part })) j = hget h j := fun j hj => hget_set_ne hj
  have l1 : (hset h O (ownO d p { g with interest := g.interest - part })).length = h.length := by simp
  generalize hset h O (ownO d p { g with interest := g.interest - part }) = h1 at *
  have g1 : idxA (.ref O) (.str [100, 101, 98, 116, 115]) h1 = some (.ref d) := getO a1.eo _
  have sd := seq_of a1.ed
  have gd := gd_of a1.ed
  have lo : ∀ s0 : St, s0.length = 9 → lcGo φ (gT (gsCons (gN 6) (gsCons (gN 8) gsNil))) eYes (eTup (aCons (eIdx (eV 8) (eC (.int 0))) (aCons (eV 6) aNil))) s0 [(d, .lst (g.debts.map dA))] (enumL 0 (g.debts.map dA)) h1 =
      .ok (((zi 0 g.debts).map fun y => (y.2.1, y.1)).map prA) h1 := fun s0 hs => by
    have := lc_en (φ := φ) (g := gT (gsCons (gN 6) (gsCons (gN 8) gsNil))) (c := eYes) (e := eTup (aCons (eIdx (eV 8) (eC (.int 0))) (aCons (eV 6) aNil))) (s0 := s0) (gd := [(d, .lst (g.debts.map dA))]) (h := h1) dA (fun _ => true) (fun y => prA (y.2.1, y.1)) (xs := g.debts) (gOk_one a1.ed)
      (fun y hy => ⟨(s0.set 6 (some (.int y.1))).set 8 (some (dA y.2)), rfl, rfl, fun _ => by
        have e7 : ((s0.set 6 (some (.int y.1))).set 8 (some (dA y.2)))[6]? = some (some (.int y.1)) := by rw [List.getElem?_set_ne (by omega), List.getElem?_set_self (by omega)]
        have e9 : ((s0.set 6 (some (.int y.1))).set 8 (some (dA y.2)))[8]? = some (some (dA y.2)) := List.getElem?_set_self (by simp; omega)
        have ix : idxA (dA y.2) (.int 0) h1 = some (.int y.2.1) := rfl
        generalize ((s0.set 6 (some (.int y.1))).set 8 (some (dA y.2))) = s at *
        simp -implicitDefEqProofs [e7, e9, ix, prA]⟩)
    rw [this, List.filter_eq_self.mpr (fun _ _ => rfl), List.map_map]
    rfl
  have so := sort_prs false ((zi 0 g.debts).map fun y => (y.2.1, y.1)) h1
  rw [show isort plt ((zi 0 g.debts).map fun y => (y.2.1, y.1)) = ord g.debts from rfl] at so
  have ul : ((zi 0 g.debts).map fun y => (y.2.1, y.1)).length = g.debts.length := by rw [List.length_map, zi_len]
  have su : uA (.sorted false) (.lst (((zi 0 g.debts).map fun y => (y.2.1, y.1)).map prA)) h1 = .ok (.lst ((ord g.debts).map prA)) h1 := so
  generalize (zi 0 g.debts).map (fun y => (y.2.1, y.1)) = un at *
  have ol := ord_len g.debts
  have hw : ∀ u, hget (hset h1 d u) d = some u := fun u => hget_set_eq (hget_lt a1.ed)
  have ho : ∀ u, hget (hset h1 d u) O = some (ownO d p { g with interest := g.interest - part }) := fun u => by rw [hget_set_ne n1, a1.eo]
  obtain ⟨s9, h9, fe, x5, x6, x7, es, eh⟩ := for_pre (φ := φ) (g := gT (gsCons (gN 5) (gsCons (gN 6) gsNil))) (b := f__law_pay_4) (gd := []) prA
    (fun dn s h' => ∃ (x5 x6 x7 : Option AV), s = [some (.ref O), some (.int am), some (.dct ((pF g.debts (am - part) dn).2.2.map kvA)), some (.int part), some (.int (pF g.debts (am - part) dn).2.1), x5, x6, x7, none] ∧
      h' = hset h1 d (.lst ((pF g.debts (am - part) dn).1.map dA)))
    (todo := ord g.debts) (done := []) (s := [some (.ref O), some (.int am), some (.dct []), some (.int part), some (.int (am - part)), none, none, none, none]) (h := h1) (fun _ _ _ _ => rfl)
    (fun dn pp rest hdn s h' ⟨x5, x6, x7, es, eh⟩ => by
      subst es eh
      have mem : pp ∈ ord g.debts := by
        have : pp ∈ dn ++ pp :: rest := by simp
        rw [← hdn] at this
        simpa using this
      have nd : ((dn ++ [pp]).map (·.2)).Nodup := by
        have := ord_nodup g.debts
        rw [List.nil_append] at hdn
        rw [hdn, show dn ++ pp :: rest = (dn ++ [pp]) ++ rest by simp, List.map_append, List.nodup_append] at this
        exact this.1
      obtain ⟨k, d0, ek, edk, e1⟩ := ord_mem mem
      obtain ⟨iv, sb⟩ := pF_inv hl hd dn
      obtain ⟨iv2, sb2⟩ := pF_inv hl hd (dn ++ [pp])
      have ld : dn.length ≤ g.debts.length := by
        have := congrArg List.length hdn
        simp at this
        omega
      obtain ⟨pl1, pl2⟩ := pF_len g.debts (am - part) dn
      have nd2 : (((pF g.debts (am - part) (dn ++ [pp])).2.2).map (·.1)).Nodup := sb2.nodup nd
      have kl := (List.getElem?_eq_some_iff.mp edk).1
      obtain ⟨q, hq⟩ : ∃ q, (pF g.debts (am - part) dn).1[k]? = some q := ⟨_, List.getElem?_eq_getElem (by omega)⟩
      have qd : q.1 = pp.1 := by
        have := congrArg (fun l => l[k]?) iv.s
        simp only [List.getElem?_map, hq, edk, Option.map_some, Option.some.injEq] at this
        rw [this, e1]
      have hqn := iv.d q (List.mem_of_getElem? hq)
      have hln := iv.l
      have g2 : idxA (.ref O) (.str [100, 101, 98, 116, 115]) (hset h1 d (.lst ((pF g.debts (am - part) dn).1.map dA))) = some (.ref d) := getO (ho _) _
      have i1 : idxA (.ref d) (.int k) (hset h1 d (.lst ((pF g.debts (am - part) dn).1.map dA))) = some (dA q) := by rw [idx_ref (hw _), atI_nat, List.getElem?_map, hq]; rfl
      have i2 : ∀ h, idxA (dA q) (.int 2) h = some (.int q.2.2) := fun h => rfl
      have i3 : ∀ h, idxA (dA q) (.int 1) h = some (.int q.2.1) := fun h => rfl
      have i4 : ∀ v, setA (.ref d) (.int k) v (hset h1 d (.lst ((pF g.debts (am - part) dn).1.map dA))) = some (hset h1 d (.lst (((pF g.debts (am - part) dn).1.map dA).set k v))) := fun v => by rw [setA_lst (hw _) (by simp; omega), hset_hset]
      have e4 : gT (gsCons (gN 5) (gsCons (gN 6) gsNil)) (prA pp) [some (.ref O), some (.int am), some (.dct ((pF g.debts (am - part) dn).2.2.map kvA)), some (.int part), some (.int (pF g.debts (am - part) dn).2.1), x5, x6, x7, none] (hset h1 d (.lst ((pF g.debts (am - part) dn).1.map dA))) =
        some [some (.ref O), some (.int am), some (.dct ((pF g.debts (am - part) dn).2.2.map kvA)), some (.int part), some (.int (pF g.debts (am - part) dn).2.1), some (.int q.1), some (.int k), x7, none] := by rw [← ek, qd]; rfl
      rw [pF_snoc] at nd2 ⊢
      unfold pS at nd2 ⊢
      rw [ek, Int.toNat_natCast, hq] at nd2 ⊢
      generalize hst : pF g.debts (am - part) dn = st at *
      dsimp only at nd2 ⊢
      have it : ∀ h, itemsA (.dct (st.2.2.map kvA)) h = some (st.2.2.map prA) := fun h => by
        show some (List.map _ (List.map kvA _)) = _
        rw [List.map_map]
        rfl
      have mo := mul_one false (.tup [.int (k : Int), .int (min st.2.1 q.2.2)]) (if 0 < min st.2.1 q.2.2 then 1 else 0) (hset h1 d (.lst (st.1.map dA))) (by split <;> omega) (by split <;> omega)
      by_cases c : 0 < min st.2.1 q.2.2
      · rw [if_pos c] at nd2 mo ⊢
        have pn := put_new (st.2.2 ++ [((k : Int), min st.2.1 q.2.2)]) [] (by simpa using nd2)
        rw [List.nil_append] at pn
        have dd : ∀ h, uA (.dict false) (.lst (st.2.2.map prA ++ [.tup [.int (k : Int), .int (min st.2.1 q.2.2)]])) h = .ok (.dct (st.2.2.map kvA ++ [kvA ((k : Int), min st.2.1 q.2.2)])) h := fun h => by
          rw [List.map_append, List.map_append] at pn
          show (match putAll [] (st.2.2.map prA ++ [.tup [.int (k : Int), .int (min st.2.1 q.2.2)]]) with | some kvs => mkD false kvs h | none => .stuck) = _
          rw [show putAll [] (st.2.2.map prA ++ [.tup [.int (k : Int), .int (min st.2.1 q.2.2)]]) = some (st.2.2.map kvA ++ [kvA ((k : Int), min st.2.1 q.2.2)]) from pn]
          rfl
        have i5 := i4 (.lst [.int q.1, .int q.2.1, .int (q.2.2 - min st.2.1 q.2.2)])
        refine ⟨_, [some (.ref O), some (.int am), some (.dct ((st.2.2 ++ [((k : Int), min st.2.1 q.2.2)]).map kvA)), some (.int part), some (.int (st.2.1 - min st.2.1 q.2.2)), some (.int q.1), some (.int k), some (.int (min st.2.1 q.2.2)), none], _, e4, .inl ?_, _, _, _, rfl, rfl⟩
        rw [List.map_set]
        simp -implicitDefEqProofs [f__law_pay_4, g2, i1, i2, mmA, min_mm, gN, f__law_pay_3, it, mkLst, mk, c, dd, show st.2.2.length ≤ 16777215 by omega]
        simp -implicitDefEqProofs [f__law_pay_2, g2, i1, i2, i3, intOp, mkLst, mk, i5, f__law_pay_1, gN]
        rfl
      · rw [if_neg c] at nd2 mo ⊢
        have m0 : min st.2.1 q.2.2 = 0 := by omega
        have pn := put_new st.2.2 [] (by simpa using nd2)
        rw [List.nil_append] at pn
        have dd : ∀ h, uA (.dict false) (.lst (st.2.2.map prA)) h = .ok (.dct (st.2.2.map kvA)) h := fun h => by
          show (match putAll [] (st.2.2.map prA) with | some kvs => mkD false kvs h | none => .stuck) = _
          rw [show putAll [] (st.2.2.map prA) = some (st.2.2.map kvA) from pn]
          rfl
        have i5 := i4 (.lst [.int q.1, .int q.2.1, .int q.2.2])
        have e6 : (st.1.map dA).set k (.lst [.int q.1, .int q.2.1, .int q.2.2]) = st.1.map dA := by
          obtain ⟨w1, w2⟩ := List.getElem?_eq_some_iff.mp (show (st.1.map dA)[k]? = some (.lst [.int q.1, .int q.2.1, .int q.2.2]) by rw [List.getElem?_map, hq]; rfl)
          rw [← w2, List.set_getElem_self]
        rw [e6] at i5
        refine ⟨_, [some (.ref O), some (.int am), some (.dct (st.2.2.map kvA)), some (.int part), some (.int st.2.1), some (.int q.1), some (.int k), some (.int 0), none], _, e4, .inl ?_, _, _, _, rfl, rfl⟩
        simp -implicitDefEqProofs [f__law_pay_4, g2, i1, i2, mmA, min_mm, gN, f__law_pay_3, it, mkLst, mk, m0, dd, show st.2.2.length ≤ 16777216 by omega]
        simp -implicitDefEqProofs [f__law_pay_2, g2, i1, i2, i3, intOp, mkLst, mk, i5, f__law_pay_1, gN])
    ⟨none, none, none, rfl, by show h1 = hset h1 d (.lst (g.debts.map dA)); rw [hset_self a1.ed]⟩
  subst es eh
  rw [List.nil_append] at fe
  obtain ⟨pl1, pl2⟩ := pF_len g.debts (am - part) (ord g.debts)
  generalize hst : pF g.debts (am - part) (ord g.debts) = st at *
  have ho1 := ho (.lst (st.1.map dA))
  have g5 : idxA (.ref O) (.str [99, 114, 101, 100, 105, 116]) (hset h1 d (.lst (st.1.map dA))) = some (.int g.credit) := getO ho1 _
  have s5 : setA (.ref O) (.str [99, 114, 101, 100, 105, 116]) (.int (g.credit + st.2.1)) (hset h1 d (.lst (st.1.map dA))) = some (hset (hset h1 d (.lst (st.1.map dA))) O (ownO d p { g with debts := st.1, credit := g.credit + st.2.1, interest := g.interest - part })) := setO ho1 _ _
  have it : ∀ h, itemsA (.dct (st.2.2.map kvA)) h = some (st.2.2.map prA) := fun h => by
    show some (List.map _ (List.map kvA _)) = _
    rw [List.map_map]
    rfl
  have gc : ∀ v u, gcRet h v (hset (hset h1 d (.lst (st.1.map dA))) O u) = .ok v (hset (hset h1 d (.lst (st.1.map dA))) O u) := fun v u => gcRet_len _ (by simp [l1])
  refine ⟨hset (hset h1 d (.lst (st.1.map dA))) O (ownO d p { g with debts := st.1, credit := g.credit + st.2.1, interest := g.interest - part }), ?_, ⟨?_, ?_, ?_, a.nd⟩, by simp [l1], fun j h1 h2 => ?_⟩
  · simp -implicitDefEqProofs [TX.start, f__law_pay, putsL, gN, mkD, f__law_pay_9, g0, mmA, min_mm, hpa, f__law_pay_8, intOp, s0, f__law_pay_7, g1, sd, gd, wipe, enumL_len, show g.debts.length < 16777216 by omega, lo, quiet, mkLst, mk, ul, show g.debts.length ≤ 16777216 by omega, su, fe]
    simp -implicitDefEqProofs [f__law_pay_6, g5, intOp, s5, f__law_pay_5, it, gc]
  · exact hget_set_eq (by simp [l1]; exact hget_lt a.eo)
  · rw [hget_set_ne n1.symm, hw]
  · rw [hget_set_ne n2.symm, hget_set_ne n3.symm, a1.ep]
  · rw [hget_set_ne h1, hget_set_ne h2, f1 j h1]
end
end K08

set_option Elab.async false
set_option linter.all false
set_option autoImplicit false
set_option maxRecDepth 100000
set_option maxHeartbeats 4000000
namespace K08
open TX TL
theorem rr {n : Nat} (d : D3) (m : Int) (hm : 1 ≤ m) (hm2 : m ≤ 100000000) : ∃ v d', (∀ os, pg P (n + 1) 0 13 [.ref 0, .int m] (hd os d) = .ok (.int v) (hd os d')) ∧ 0 ≤ v ∧ v < m := roll_all (q := 13) (n := n) p__law_roll d m hm hm2
structure Sy (h : AH) (L D Pm : Nat) (ds : List (Nat × Dt)) (O e p : Nat) (g : Lg) : Prop where
  a : Led h L D Pm ds g
  b : Own h O e p g
  j : O ∉ foot L D Pm ds ∧ e ∉ foot L D Pm ds ∧ p ∉ foot L D Pm ds
  z : 0 ∉ foot L D Pm ds ∧ O ≠ 0 ∧ e ≠ 0 ∧ p ≠ 0
structure Inv (g : Lg) (k : Nat) : Prop where
  rate : 0 ≤ g.rate ∧ g.rate ≤ 10000
  credit : 0 ≤ g.credit ∧ g.credit ≤ 90000 * k
  day : 0 ≤ g.day ∧ g.day ≤ 60 * k
  interest : 0 ≤ g.interest ∧ g.interest ≤ 10000 * g.day
  rest : 0 ≤ g.rest ∧ g.rest < 3650000
  debts : ∀ d ∈ g.debts, (0 ≤ d.1 ∧ d.1 ≤ 100000) ∧ (0 ≤ d.2.1 ∧ d.2.1 ≤ 90000) ∧ (0 ≤ d.2.2 ∧ d.2.2 ≤ 90000)
  pays : ∀ p ∈ g.pays, (0 ≤ p.1 ∧ p.1 ≤ 100000) ∧ (0 ≤ p.2 ∧ p.2 ≤ 90000)
  len : g.debts.length + g.pays.length ≤ k
  k20 : k ≤ 20
theorem sum_bd {M : Int} : ∀ (xs : List Int), (∀ x ∈ xs, 0 ≤ x ∧ x ≤ M) → 0 ≤ xs.sum ∧ xs.sum ≤ M * xs.length
  | [], _ => by simp
  | x :: r, h => by
    obtain ⟨h1, h2⟩ := sum_bd r fun y hy => h y (List.mem_cons_of_mem _ hy)
    have := h x List.mem_cons_self
    simp only [List.sum_cons, List.length_cons, Int.natCast_add, Int.mul_add]
    omega
theorem Inv.bal {g : Lg} {k : Nat} (i : Inv g k) : -1800000 ≤ balN g ∧ balN g ≤ 100000000 := by
  have h1 := sum_bd (M := 90000) (g.debts.map (·.2.2)) (fun x hx => by
    obtain ⟨d, hd, rfl⟩ := List.mem_map.mp hx
    exact (i.debts d hd).2.2)
  rw [List.length_map] at h1
  have := i.credit
  have := i.day
  have := i.interest
  have := i.len
  have := i.k20
  unfold balN
  omega
theorem Inv.bd {g : Lg} {k : Nat} (i : Inv g k) : Bd g := by
  have h1 := i.bal
  have h2 := i.credit
  have h3 := i.day
  have h4 := i.interest
  have h5 := i.k20
  refine ⟨fun d hd => ?_, fun p hp => ?_, by unfold sm18; omega, by unfold sm18; omega, by unfold sm18; omega⟩
  · have := i.debts d hd
    unfold sm18
    omega
  · have := i.pays p hp
    unfold sm18
    omega
section
variable {os : AH} {d : D3} {L D Pm : Nat} {ds : List (Nat × Dt)} {O e p : Nat} {g : Lg} {n k : Nat}
theorem Sy.dice (s : Sy (hd os d) L D Pm ds O e p g) (d' : D3) : Sy (hd os d') L D Pm ds O e p g :=
  ⟨s.a.frame fun j hj => hd_other (fun e => s.z.1 (e ▸ hj)), s.b.frame fun j hj => hd_other (by rcases hj with rfl | rfl | rfl <;> simp [s.z.2]), s.j, s.z⟩
theorem Sy.nz (s : Sy (hd os d) L D Pm ds O e p g) : L ≠ 0 ∧ D ≠ 0 ∧ Pm ≠ 0 := by
  have := s.z.1
  simp only [foot, List.mem_cons, not_or] at this
  exact ⟨fun e => this.1 e.symm, fun e => this.2.1 e.symm, fun e => this.2.2.1 e.symm⟩
theorem data_t3 (ts : List T3) (f : T3 → T3) : AV.dataL (ts.map fun t => t3A (f t)) = true := dataL_map _ fun _ _ => rfl
theorem dep_t3 (ts : List T3) (f : T3 → T3) : AV.depL (ts.map fun t => t3A (f t)) ≤ 63 := depL_map _ fun _ _ => by
  show max 0 (max 0 (max 0 0)) + 1 ≤ 63
  decide
theorem ne_over (debts : List Dt) (day : Int) (h : AH) : cmpA .ne (.lst (overL debts day)) (.lst (overL debts day)) h = .ok (.bl false) h := by
  unfold overL
  rw [ne_lst h (data_t3 _ fun t => (t.2.1, day - t.1, t.2.2)) (data_t3 _ fun t => (t.2.1, day - t.1, t.2.2)) (dep_t3 _ fun t => (t.2.1, day - t.1, t.2.2)) (dep_t3 _ fun t => (t.2.1, day - t.1, t.2.2))]
  simp
theorem tells_a {φ : Fn} {h : AH} {today : Int} (b : Own h O e p g) (hz : g.debts.length < 64) (hd : ∀ d ∈ g.debts, 0 ≤ d.1)
    (ov : φ 0 7 [.ref L, .int today] h = .ok (.tup (overL g.debts today)) h) (q : insOf (.ref L) h = some (3, fsO D Pm g)) :
    f__law_tells_13 φ [some (.ref 0), some (.ref L), some (.ref O), some (.int today), none, none, none, none, none, none, none, none, none, none, none, none, none, none, none, none] h =
    f__law_tells_11 φ [some (.ref 0), some (.ref L), some (.ref O), some (.int today), some (.lst ((isort tlt (dueL g.debts today)).map t3A)), none, none, none, none, none, none, none, none, none, none, none, none, none, none, none] h := by
  have g1 : idxA (.ref O) (.str [100, 101, 98, 116, 115]) h = some (.ref e) := getO b.eo _
  have sd := seq_of b.ed
  have gd := gd_of b.ed
  have lc : lcGo φ (gT (gsCons (gN 14) (gsCons (gT (gsCons (gN 15) (gsCons (gN 16) (gsCons (gN 17) gsNil)))) gsNil))) (eAnd (eCmp .lt (eV 15) (eV 3)) (eB (eCmp .gt (eV 17) (eC (.int 0))))) (eTup (aCons (eV 15) (aCons (eV 14) (aCons (eV 17) aNil)))) [some (.ref 0), some (.ref L), some (.ref O), some (.int today), none, none, none, none, none, none, none, none, none, none, none, none, none, none, none, none] [(e, .lst (g.debts.map dA))] (enumL 0 (g.debts.map dA)) h = .ok ((dueL g.debts today).map t3A) h := by
    unfold dueL
    rw [List.map_map]
    refine lc_en dA (fun y => decide (y.2.1 < today) && decide (0 < y.2.2.2)) (fun y => t3A (y.2.1, y.1, y.2.2.2)) (xs := g.debts) (gOk_one b.ed) (fun y hy => ⟨_, rfl, ?_, fun _ => rfl⟩)
    by_cases q : y.2.1 < today <;> by_cases q2 : 0 < y.2.2.2 <;> simp -implicitDefEqProofs [q, q2, gN]
  have tl := trs_of (dueL g.debts today)
  have dl := due_len g.debts today
  have dn := due_nn (day := today) hd
  have il := (isort_perm tlt (dueL g.debts today)).length_eq
  have lo : ∀ ts : List T3, lcGo φ (gT (gsCons (gN 15) (gsCons (gN 14) (gsCons (gN 17) gsNil)))) eYes (eTup (aCons (eV 14) (aCons (eBin false .sub (eV 3) (eV 15)) (aCons (eV 17) aNil)))) [some (.ref 0), some (.ref L), some (.ref O), some (.int today), some (.lst ((isort tlt (dueL g.debts today)).map t3A)), none, none, none, none, none, none, none, none, none, none, none, none, none, none, none] [] (ts.map t3A) h = .ok (ts.map fun t => t3A (t.2.1, today - t.1, t.2.2)) h := fun ts => by
    have := lc_filter (φ := φ) (g := gT (gsCons (gN 15) (gsCons (gN 14) (gsCons (gN 17) gsNil)))) (c := eYes) (e := eTup (aCons (eV 14) (aCons (eBin false .sub (eV 3) (eV 15)) (aCons (eV 17) aNil)))) (s0 := [some (.ref 0), some (.ref L), some (.ref O), some (.int today), some (.lst ((isort tlt (dueL g.debts today)).map t3A)), none, none, none, none, none, none, none, none, none, none, none, none, none, none, none]) (gd := []) (h := h) t3A (fun _ => true) (fun t => t3A (t.2.1, today - t.1, t.2.2)) (xs := ts) rfl (fun t _ => ⟨_, rfl, rfl, fun _ => rfl⟩)
    rw [this, List.filter_eq_self.mpr (fun _ _ => rfl)]
  have lo := lo (isort tlt (dueL g.debts today))
  have nv := ne_over g.debts today h
  unfold overL at ov nv
  generalize dueL g.debts today = du at *
  simp -implicitDefEqProofs [f__law_tells_13, g1, sd, gd, wipe, enumL_len, show g.debts.length < 16777216 by omega, lc, quiet, mkLst, mk, gN, show du.length ≤ 16777216 by omega, tl, show du.length < 64 by omega, dn]
  simp -implicitDefEqProofs [f__law_tells_12, q, fsO, fget, ov, uA, seqOf, mk, wipe, il, show du.length < 16777216 by omega, lo, quiet, mkLst, show du.length ≤ 16777216 by omega, nv]

end
end K08

set_option Elab.async false
set_option linter.all false
set_option autoImplicit false
set_option maxRecDepth 100000
set_option maxHeartbeats 4000000
namespace K08
open TX TL
theorem intTx_ok {i : Int} (h : sm18 i) : (intTx i).length ≤ 20 ∧ ∀ c ∈ intTx i, c < 1114112 := by
  have l := natTx_length (n := i.natAbs) (k := 18) (by decide) (by unfold sm18 at h; omega)
  have dg := natTx_digits i.natAbs
  rw [List.all_eq_true] at dg
  have d2 : ∀ c ∈ natTx i.natAbs, c < 1114112 := fun c hc => by
    have := dg c hc
    simp [digit] at this
    omega
  unfold intTx
  split
  · refine ⟨by simp; omega, fun c hc => ?_⟩
    rcases List.mem_cons.mp hc with rfl | hc
    · decide
    · exact d2 c hc
  · exact ⟨by omega, d2⟩
theorem join5 (a b c e : Tx) : joinTx [32] [[100, 101, 98, 116], a, b, c, e] = [100, 101, 98, 116, 32] ++ a ++ [32] ++ b ++ [32] ++ c ++ [32] ++ e := by
  simp [joinTx]
theorem debt_ok {y : Int × Dt} (h0 : sm18 y.1) (h1 : sm18 y.2.1) (h2 : sm18 y.2.2.1) (h3 : sm18 y.2.2.2) : ∀ c ∈ debtT y, c < 1114112 := by
  intro c hc
  unfold debtT at hc
  simp only [List.mem_append] at hc
  rcases hc with ((((((hc | hc) | hc) | hc) | hc) | hc) | hc) | hc
  · revert c; decide
  · exact (intTx_ok h0).2 c hc
  · revert c; decide
  · exact (intTx_ok h1).2 c hc
  · revert c; decide
  · exact (intTx_ok h2).2 c hc
  · revert c; decide
  · exact (intTx_ok h3).2 c hc
theorem paid_ok {p : Int × Int} (h0 : sm18 p.1) (h1 : sm18 p.2) : ∀ c ∈ paidT p, c < 1114112 := by
  intro c hc
  unfold paidT at hc
  simp only [List.mem_append] at hc
  rcases hc with ((hc | hc) | hc) | hc
  · revert c; decide
  · exact (intTx_ok h0).2 c hc
  · revert c; decide
  · exact (intTx_ok h1).2 c hc
theorem stmt_data {g : Lg} (b : Bd g) (hz : g.debts.length ≤ 1000) : AV.dataL ((stmtL g).map .str) = true := by
  refine dataL_map _ fun t ht => data_str ?_
  unfold stmtL at ht
  simp only [List.mem_append, List.mem_map, List.mem_cons, List.not_mem_nil, or_false] at ht
  rcases ht with (⟨y, hy, rfl⟩ | ⟨p, hp, rfl⟩) | rfl | rfl | rfl
  · obtain ⟨i, e1, e2⟩ := zi_get g.debts 0 y hy
    obtain ⟨b1, b2, b3⟩ := b.d y.2 (List.mem_of_getElem? e2)
    have := (List.getElem?_eq_some_iff.mp e2).1
    exact debt_ok (by unfold sm18; omega) b1 b2 b3
  · obtain ⟨b1, b2⟩ := b.p p hp
    exact paid_ok b1 b2
  · intro c hc
    rcases List.mem_append.mp hc with hc | hc
    · exact (show ∀ c ∈ ([105, 110, 116, 101, 114, 101, 115, 116, 32] : Tx), c < 1114112 by decide) c hc
    · exact (intTx_ok b.i).2 c hc
  · intro c hc
    rcases List.mem_append.mp hc with hc | hc
    · exact (show ∀ c ∈ ([99, 114, 101, 100, 105, 116, 32] : Tx), c < 1114112 by decide) c hc
    · exact (intTx_ok b.c).2 c hc
  · intro c hc
    rcases List.mem_append.mp hc with hc | hc
    · exact (show ∀ c ∈ ([98, 97, 108, 97, 110, 99, 101, 32] : Tx), c < 1114112 by decide) c hc
    · exact (intTx_ok b.b).2 c hc
section
variable {os : AH} {d : D3} {L D Pm : Nat} {ds : List (Nat × Dt)} {O e p : Nat} {g : Lg} {n k : Nat}
theorem tells_b {φ : Fn} {h : AH} {x3 x4 : Option AV} (b : Own h O e p g) (bd : Bd g) (hz : g.debts.length ≤ 1000) (hz2 : g.pays.length ≤ 1000)
    (st : φ 0 10 [.ref L] h = .ok (.tup ((stmtL g).map .str)) h) (ba : φ 0 6 [.ref L] h = .ok (.int (balN g)) h) (q : insOf (.ref L) h = some (3, fsO D Pm g)) :
    f__law_tells_11 φ [some (.ref 0), some (.ref L), some (.ref O), x3, x4, none, none, none, none, none, none, none, none, none, none, none, none, none, none, none] h =
    f__law_tells_9 φ [some (.ref 0), some (.ref L), some (.ref O), x3, x4, some (.lst (((zi 0 g.debts).map debtT ++ g.pays.map paidT).map .str)), none, none, none, none, none, none, none, none, none, none, none, none, none, none] h := by
  have g1 : idxA (.ref O) (.str [100, 101, 98, 116, 115]) h = some (.ref e) := getO b.eo _
  have g2 : idxA (.ref O) (.str [112, 97, 105, 100]) h = some (.ref p) := getO b.eo _
  have g3 : idxA (.ref O) (.str [105, 110, 116, 101, 114, 101, 115, 116]) h = some (.int g.interest) := getO b.eo _
  have g4 : idxA (.ref O) (.str [99, 114, 101, 100, 105, 116]) h = some (.int g.credit) := getO b.eo _
  have sd := seq_of b.ed
  have gd := gd_of b.ed
  have sp := seq_of b.ep
  have gp := gd_of b.ep
  have l1 : lcGo φ (gT (gsCons (gN 14) (gsCons (gT (gsCons (gN 15) (gsCons (gN 16) (gsCons (gN 17) gsNil)))) gsNil))) eYes (eJoin [32] (eLst false (aCons (eC (.str [100, 101, 98, 116])) (aCons (eU .str (eV 14)) (aCons (eU .str (eV 15)) (aCons (eU .str (eV 16)) (aCons (eU .str (eV 17)) aNil))))))) [some (.ref 0), some (.ref L), some (.ref O), x3, x4, none, none, none, none, none, none, none, none, none, none, none, none, none, none, none] [(e, .lst (g.debts.map dA))] (enumL 0 (g.debts.map dA)) h = .ok (((zi 0 g.debts).map debtT).map .str) h := by
    have := lc_en (φ := φ) (g := gT (gsCons (gN 14) (gsCons (gT (gsCons (gN 15) (gsCons (gN 16) (gsCons (gN 17) gsNil)))) gsNil))) (c := eYes) (e := eJoin [32] (eLst false (aCons (eC (.str [100, 101, 98, 116])) (aCons (eU .str (eV 14)) (aCons (eU .str (eV 15)) (aCons (eU .str (eV 16)) (aCons (eU .str (eV 17)) aNil))))))) (s0 := [some (.ref 0), some (.ref L), some (.ref O), x3, x4, none, none, none, none, none, none, none, none, none, none, none, none, none, none, none]) (gd := [(e, .lst (g.debts.map dA))]) (h := h) dA (fun _ => true) (fun y => .str (debtT y)) (xs := g.debts) (gOk_one b.ed)
      (fun y hy => by
        obtain ⟨i, e1, e2⟩ := zi_get g.debts 0 y hy
        obtain ⟨b1, b2, b3⟩ := bd.d y.2 (List.mem_of_getElem? e2)
        have b0 : sm18 y.1 := by
          have := (List.getElem?_eq_some_iff.mp e2).1
          unfold sm18
          omega
        refine ⟨_, rfl, rfl, fun _ => ?_⟩
        have k0 := str_int h b0
        have k1 := str_int h b1
        have k2 := str_int h b2
        have k3 := str_int h b3
        have n0 := (intTx_ok b0).1
        have n1 := (intTx_ok b1).1
        have n2 := (intTx_ok b2).1
        have n3 := (intTx_ok b3).1
        unfold debtT
        rw [← join5]
        generalize intTx y.1 = t0 at *
        generalize intTx y.2.1 = t1 at *
        generalize intTx y.2.2.1 = t2 at *
        generalize intTx y.2.2.2 = t3 at *
        simp -implicitDefEqProofs [gN, k0, k1, k2, k3, mkLst, mk, strsO]
        omega)
    rw [this, List.filter_eq_self.mpr (fun _ _ => rfl), List.map_map]
    rfl
  have l2 : lcGo φ (gT (gsCons (gN 18) (gsCons (gN 16) gsNil))) eYes (eBin false .add (eBin false .add (eBin false .add (eC (.str [112, 97, 105, 100, 32])) (eU .str (eV 18))) (eC (.str [32]))) (eU .str (eV 16))) [some (.ref 0), some (.ref L), some (.ref O), x3, x4, none, none, none, none, none, none, none, none, none, none, none, none, none, none, none] [(p, .lst (g.pays.map prA))] (g.pays.map prA) h = .ok ((g.pays.map paidT).map .str) h := by
    have := lc_filter (φ := φ) (g := gT (gsCons (gN 18) (gsCons (gN 16) gsNil))) (c := eYes) (e := eBin false .add (eBin false .add (eBin false .add (eC (.str [112, 97, 105, 100, 32])) (eU .str (eV 18))) (eC (.str [32]))) (eU .str (eV 16))) (s0 := [some (.ref 0), some (.ref L), some (.ref O), x3, x4, none, none, none, none, none, none, none, none, none, none, none, none, none, none, none]) (gd := [(p, .lst (g.pays.map prA))]) (h := h) prA (fun _ => true) (fun p => .str (paidT p)) (xs := g.pays) (gOk_one b.ep)
      (fun y hy => by
        obtain ⟨b1, b2⟩ := bd.p y hy
        refine ⟨_, rfl, rfl, fun _ => ?_⟩
        have k0 := str_int h b1
        have k1 := str_int h b2
        have n0 := (intTx_ok b1).1
        have n1 := (intTx_ok b2).1
        unfold paidT
        generalize intTx y.1 = t0 at *
        generalize intTx y.2 = t1 at *
        simp -implicitDefEqProofs [gN, k0, k1, binA, show 5 + t0.length ≤ 16777216 by omega, show t0.length ≤ 16777210 by omega, show t0.length + 1 + 1 + 1 + 1 + 1 + 1 + t1.length ≤ 16777216 by omega])
    rw [this, List.filter_eq_self.mpr (fun _ _ => rfl), List.map_map]
    rfl
  have la : ((zi 0 g.debts).map debtT).length ≤ 1000 := by rw [List.length_map, zi_len]; exact hz
  have lb : (g.pays.map paidT).length ≤ 1000 := by rw [List.length_map]; exact hz2
  have sdt := stmt_data bd hz
  have k3 := str_int h bd.i
  have k4 := str_int h bd.c
  have k5 := str_int h bd.b
  have n3 := (intTx_ok bd.i).1
  have n4 := (intTx_ok bd.c).1
  have n5 := (intTx_ok bd.b).1
  have ne : cmpA .ne (.lst ((stmtL g).map .str)) (.lst ((stmtL g).map .str)) h = .ok (.bl false) h := by
    rw [ne_lst h sdt sdt (depL_map _ fun _ _ => Nat.zero_le _) (depL_map _ fun _ _ => Nat.zero_le _)]
    simp
  have lt : ∀ xs, uA (.list false) (.tup xs) h = .ok (.lst xs) h := fun xs => rfl
  unfold stmtL at ne st
  generalize (zi 0 g.debts).map debtT = A at *
  generalize g.pays.map paidT = B at *
  have zl : (enumL 0 (g.debts.map dA)).length = g.debts.length := by rw [enumL_len, List.length_map]
  simp -implicitDefEqProofs [f__law_tells_11, g1, g2, sd, gd, sp, gp, wipe, zl, l1, l2, quiet, mkLst, mk, gN, binA, show g.debts.length < 16777216 by omega, show g.pays.length < 16777216 by omega, show A.length ≤ 16777216 by omega, show B.length ≤ 16777216 by omega, show A.length + B.length ≤ 16777216 by omega]
  simp -implicitDefEqProofs [] at ne
  simp -implicitDefEqProofs [f__law_tells_10, g3, g4, q, fsO, fget, st, ba, k3, k4, k5, binA, mkLst, mk, lt, show 9 + (intTx g.interest).length ≤ 16777216 by omega, show 7 + (intTx g.credit).length ≤ 16777216 by omega, show 8 + (intTx (balN g)).length ≤ 16777216 by omega, show A.length + B.length ≤ 16777213 by omega, ne]
end
end K08

set_option Elab.async false
set_option linter.all false
set_option autoImplicit false
set_option maxRecDepth 100000
set_option maxHeartbeats 4000000
namespace K08
open TX TL
def rowsL (bal m : Int) : List Int := (List.range m.toNat).map fun (i : Nat) => bal / m + if (0 + (i : Int)) < bal % m then 1 else 0
theorem rows_plan {bal m : Int} (hm : 1 ≤ m) : rowsL bal m = planL bal m := by
  have r1 := Int.emod_nonneg bal (show m ≠ 0 by omega)
  have r2 := Int.emod_lt_of_pos bal (show 0 < m by omega)
  unfold rowsL planL
  refine List.ext_getElem (by simp; omega) fun i h1 h2 => ?_
  rw [List.getElem_map, List.getElem_range, List.getElem_append]
  by_cases c : (0 + (i : Int)) < bal % m
  · rw [dif_pos (by rw [List.length_replicate]; omega), List.getElem_replicate, if_pos c]
  · rw [dif_neg (by rw [List.length_replicate]; omega), List.getElem_replicate, if_neg c]
    omega
section
variable {os : AH} {d : D3} {L D Pm : Nat} {ds : List (Nat × Dt)} {O e p : Nat} {g : Lg} {n k : Nat}
theorem tells_c {φ : Fn} {h h2 h3 : AH} {x2 x3 x4 x5 : Option AV} {v w : Int} (q : insOf (.ref L) h3 = some (3, fsO D Pm g))
    (ba : φ 0 6 [.ref L] h3 = .ok (.int (balN g)) h3)
    (pb : ∀ m how, balN g < 1 → φ 0 8 [.ref L, .int m, .str how] h3 = .exc 2 h3)
    (pl : ∀ (m : Int) (b : Bool), 1 ≤ m → m ≤ 120 → 1 ≤ balN g → φ 0 8 [.ref L, .int m, .str (if b then first else last)] h3 = .ok (.tup ((if b then planL (balN g) m else (planL (balN g) m).reverse).map .int)) h3)
    (e1 : φ 0 13 [.ref 0, .int 14] h = .ok (.int v) h2) (v0 : 0 ≤ v) (v1 : v < 14) (e2 : φ 0 13 [.ref 0, .int 2] h2 = .ok (.int w) h3) (w0 : 0 ≤ w) (w1 : w < 2) :
    ∃ x6 x7 x8, f__law_tells_9 φ [some (.ref 0), some (.ref L), x2, x3, x4, x5, none, none, none, none, none, none, none, none, none, none, none, none, none, none] h =
    f__law_tells_6 φ [some (.ref 0), some (.ref L), x2, x3, x4, x5, x6, x7, x8, none, none, none, none, none, none, none, none, none, none, none] h3 := by
  have k1 := rngOk_of (i := 1 + v) (by omega) (by omega)
  have fd : (balN g).fdiv (1 + v) = balN g / (1 + v) := Int.fdiv_eq_ediv_of_nonneg _ (by omega)
  have fm : (balN g).fmod (1 + v) = balN g % (1 + v) := Int.fmod_eq_emod_of_nonneg _ (by omega)
  have rp := rows_plan (bal := balN g) (m := 1 + v) (by omega)
  have lc : ∀ x6 x7, lcGo φ (gN 19) eYes (eBin false .add (eBin false .div (eMeth 3 [98, 97, 108, 97, 110, 99, 101] 6 (eV 1) aNil) (eV 6)) (eU .int (eCmp .lt (eV 19) (eBin false .mod (eMeth 3 [98, 97, 108, 97, 110, 99, 101] 6 (eV 1) aNil) (eV 6))))) [some (.ref 0), some (.ref L), x2, x3, x4, x5, some (.int (1 + v)), x7, x6, none, none, none, none, none, none, none, none, none, none, none] [] (rng 0 (1 + v).toNat) h3 = .ok ((rowsL (balN g) (1 + v)).map .int) h3 := fun x6 x7 => by
    have := lc_rngA (φ := φ) (g := gN 19) (c := eYes) (e := eBin false .add (eBin false .div (eMeth 3 [98, 97, 108, 97, 110, 99, 101] 6 (eV 1) aNil) (eV 6)) (eU .int (eCmp .lt (eV 19) (eBin false .mod (eMeth 3 [98, 97, 108, 97, 110, 99, 101] 6 (eV 1) aNil) (eV 6))))) (s0 := [some (.ref 0), some (.ref L), x2, x3, x4, x5, some (.int (1 + v)), x7, x6, none, none, none, none, none, none, none, none, none, none, none]) (h := h3) 0 (1 + v).toNat (fun k => .int (balN g / (1 + v) + if k < balN g % (1 + v) then 1 else 0))
      (fun k _ _ => ⟨_, rfl, rfl, by
        by_cases c : k < balN g % (1 + v)
        · simp -implicitDefEqProofs [gN, q, fsO, fget, ba, intOp, fd, fm, show (1 + v).natAbs < 1073741824 by omega, show 1 + v ≠ 0 by omega, c]
        · simp -implicitDefEqProofs [gN, q, fsO, fget, ba, intOp, fd, fm, show (1 + v).natAbs < 1073741824 by omega, show 1 + v ≠ 0 by omega, c]⟩)
    rw [this]
    unfold rowsL
    rw [List.map_map, List.map_map]
    rfl
  have rl : (rowsL (balN g) (1 + v)).length ≤ 100 := by unfold rowsL; rw [List.length_map, List.length_range]; omega
  have nt : ∀ xs : List Int, cmpA .ne (.tup (xs.map .int)) (.tup (xs.map .int)) h3 = .ok (.bl false) h3 := fun xs => by
    rw [ne_tup h3 (dataL_ints _) (dataL_ints _) (depL_ints _) (depL_ints _)]
    simp
  have lr : ∀ xs : List AV, lstOf (.lst xs) h3 = some xs := fun xs => rfl
  rcases (show w = 0 ∨ w = 1 by omega) with rfl | rfl
  · refine ⟨some (.int (1 + v)), some (.str [102, 105, 114, 115, 116]), some (.lst ((rowsL (balN g) (1 + v)).map .int)), ?_⟩
    have pl := pl (1 + v) true (by omega) (by omega)
    have pb := pb (1 + v) [102, 105, 114, 115, 116]
    have nt := nt (planL (balN g) (1 + v))
    simp -implicitDefEqProofs [f__law_tells_9, e1, e2, intOp, mkLst, mk, gT, gsCons, gsNil, gN, idxA, atI, ixN, seqOf]
    simp -implicitDefEqProofs [f__law_tells_8, wipe, k1, rng_length, show (1 + v).toNat < 16777216 by omega, lc, quiet, mkLst, mk, show (rowsL (balN g) (1 + v)).length ≤ 16777216 by omega, gN]
    rw [rp]
    by_cases c : 0 < balN g
    · have pl := pl c
      simp -implicitDefEqProofs [first] at pl
      simp -implicitDefEqProofs [f__law_tells_7, q, fsO, fget, pl, told, ba, c, nt]
    · have pb := pb (by omega)
      simp -implicitDefEqProofs [f__law_tells_7, q, fsO, fget, pb, told, ctOf, ba, c]
  · refine ⟨some (.int (1 + v)), some (.str [108, 97, 115, 116]), some (.lst ((rowsL (balN g) (1 + v)).map .int)), ?_⟩
    have pl := pl (1 + v) false (by omega) (by omega)
    have pb := pb (1 + v) [108, 97, 115, 116]
    have nt := nt (planL (balN g) (1 + v)).reverse
    simp -implicitDefEqProofs [f__law_tells_9, e1, e2, intOp, mkLst, mk, gT, gsCons, gsNil, gN, idxA, atI, ixN, seqOf]
    simp -implicitDefEqProofs [f__law_tells_8, wipe, k1, rng_length, show (1 + v).toNat < 16777216 by omega, lc, quiet, mkLst, mk, show (rowsL (balN g) (1 + v)).length ≤ 16777216 by omega, gN]
    rw [rp]
    by_cases c : 0 < balN g
    · have pl := pl c
      simp -implicitDefEqProofs [last] at pl
      simp -implicitDefEqProofs [] at nt
      simp -implicitDefEqProofs [f__law_tells_7, q, fsO, fget, pl, told, ba, c, nt, lr, pick3, mk]
    · have pb := pb (by omega)
      simp -implicitDefEqProofs [f__law_tells_7, q, fsO, fget, pb, told, ctOf, ba, c]
theorem tells_d {φ : Fn} {h h2 h3 h4 : AH} {x1 x2 x3 x4 x5 x6 x7 x8 : Option AV} {a r y : Int}
    (e1 : φ 0 13 [.ref 0, .int 9000] h = .ok (.int a) h2) (a0 : 0 ≤ a) (e2 : φ 0 13 [.ref 0, .int 2000] h2 = .ok (.int r) h3) (r0 : 0 ≤ r) (r1 : r < 2000) (e3 : φ 0 13 [.ref 0, .int 9] h3 = .ok (.int y) h4) (y0 : 0 ≤ y) (y1 : y < 9)
    (co : φ 0 11 [.int a, .int r, .int y] h4 = .ok (.int (comp r a y.toNat)) h4) :
    f__law_tells_6 φ [some (.ref 0), x1, x2, x3, x4, x5, x6, x7, x8, none, none, none, none, none, none, none, none, none, none, none] h = .ok (.rt (.bl true)) h4 := by
  have k1 := rngOk_of (i := y) (by omega) (by omega)
  have sr : small r = true := small_of (by omega) (by omega)
  obtain ⟨s2, h5, ef, x13, es, eh⟩ := for_rng (φ := φ) (g := gN 13) (b := f__law_tells_1) (lo := 0)
    (fun k s h' => ∃ x13, s = [some (.ref 0), x1, x2, x3, x4, x5, x6, x7, x8, some (.int a), some (.int r), some (.int y), some (.int (comp r a k)), x13, none, none, none, none, none, none] ∧ h' = h4) (k := y.toNat) (s := [some (.ref 0), x1, x2, x3, x4, x5, x6, x7, x8, some (.int a), some (.int r), some (.int y), some (.int a), none, none, none, none, none, none, none]) (h := h4)
    (fun i hi s h' ⟨x13, es, eh⟩ => by
      subst es eh
      refine ⟨_, [some (.ref 0), x1, x2, x3, x4, x5, x6, x7, x8, some (.int a), some (.int r), some (.int y), some (.int (comp r a (i + 1))), some (.int (0 + (i : Int))), none, none, none, none, none, none], _, rfl, .inl ?_, _, rfl, rfl⟩
      show _ = Out.ok (Fl.nx [some (.ref 0), x1, x2, x3, x4, x5, x6, x7, x8, some (.int a), some (.int r), some (.int y), some (.int (comp r a i + (comp r a i * r + 5000) / 10000)), some (.int (0 + (i : Int))), none, none, none, none, none, none]) _
      generalize comp r a i = c at *
      simp -implicitDefEqProofs [f__law_tells_1, sr, intOp, fdl, gN]) ⟨none, rfl, rfl⟩
  subst es eh
  simp -implicitDefEqProofs [f__law_tells_6, e1, e2, e3, gT, gsCons, gsNil, gN]
  simp -implicitDefEqProofs [f__law_tells_5, gN, f__law_tells_4, k1, ef, f__law_tells_3, co, f__law_tells_2]
end
end K08

set_option Elab.async false
set_option linter.all false
set_option autoImplicit false
set_option maxRecDepth 100000
set_option maxHeartbeats 4000000
namespace K08
open TX TL
section
variable {os : AH} {d : D3} {L D Pm : Nat} {ds : List (Nat × Dt)} {O e p : Nat} {g : Lg} {n k : Nat}
theorem Sy.len (s : Sy (hd os d) L D Pm ds O e p g) (i : Inv g k) : ds.length ≤ 20 ∧ g.pays.length ≤ 20 ∧ g.debts.length ≤ 20 := by
  have h1 := i.len
  have h2 := i.k20
  have h3 : g.debts.length = ds.length := by rw [s.a.e, List.length_map]
  omega
theorem tells_ok (s : Sy (hd os d) L D Pm ds O e p g) (i : Inv g k) : ∃ d', pg P (n + 4) 0 18 [.ref 0, .ref L, .ref O] (hd os d) = .ok (.bl true) (hd os d') := by
  obtain ⟨v1, d1, r1, l1, u1⟩ := rr (n := n + 2) d 30 (by decide) (by decide)
  obtain ⟨v2, d2, r2, l2, u2⟩ := rr (n := n + 2) d1 14 (by decide) (by decide)
  obtain ⟨v3, d3, r3, l3, u3⟩ := rr (n := n + 2) d2 2 (by decide) (by decide)
  obtain ⟨v4, d4, r4, l4, u4⟩ := rr (n := n + 2) d3 9000 (by decide) (by decide)
  obtain ⟨v5, d5, r5, l5, u5⟩ := rr (n := n + 2) d4 2000 (by decide) (by decide)
  obtain ⟨v6, d6, r6, l6, u6⟩ := rr (n := n + 2) d5 9 (by decide) (by decide)
  obtain ⟨z1, z2, z3⟩ := s.len i
  have s1 := s.dice d1
  have s3 := s.dice d3
  have ov := over_ok (n := n + 2) s1.a (day := g.day + v1) (by omega) (fun d hd => (i.debts d hd).1.1)
  have st := stmt_ok (n := n + 1) s1.a (by omega) (by omega) i.bd
  have ba := bal_ok (n := n + 2) s1.a (by omega)
  have ba3 := bal_ok (n := n + 2) s3.a (by omega)
  have pb : ∀ m how, balN g < 1 → pg P (n + 3) 0 8 [.ref L, .int m, .str how] (hd os d3) = .exc 2 (hd os d3) := fun m how hb => plan_bad (n := n + 1) s3.a (by omega) (.inr (.inr (.inr hb)))
  have pl : ∀ (m : Int) (b : Bool), 1 ≤ m → m ≤ 120 → 1 ≤ balN g → pg P (n + 3) 0 8 [.ref L, .int m, .str (if b then first else last)] (hd os d3) = .ok (.tup ((if b then planL (balN g) m else (planL (balN g) m).reverse).map .int)) (hd os d3) := fun m b h1 h2 h3 => plan_ok (n := n + 1) s3.a (by omega) b ⟨h1, h2⟩ h3
  have co := comp_ok (n := n + 1) (am := v4) (rate := v5) (ys := v6) (h := hd os d6) l4 l5 (by omega) ⟨l6, by omega⟩
  have ta := tells_a (φ := pg P (n + 3)) (today := g.day + v1) s1.b (by omega) (fun d hd => (i.debts d hd).1.1) ov (insL s1.a.l)
  have tb := tells_b (φ := pg P (n + 3)) (x3 := some (.int (g.day + v1))) (x4 := some (.lst ((isort tlt (dueL g.debts (g.day + v1))).map t3A))) s1.b i.bd (by omega) (by omega) st ba (insL s1.a.l)
  obtain ⟨x6, x7, x8, tc⟩ := tells_c (φ := pg P (n + 3)) (x2 := some (.ref O)) (x3 := some (.int (g.day + v1))) (x4 := some (.lst ((isort tlt (dueL g.debts (g.day + v1))).map t3A))) (x5 := some (.lst (((zi 0 g.debts).map debtT ++ g.pays.map paidT).map .str))) (insL s3.a.l) ba3 pb pl (r2 os) l2 u2 (r3 os) l3 u3
  have td := tells_d (φ := pg P (n + 3)) (x1 := some (.ref L)) (x2 := some (.ref O)) (x3 := some (.int (g.day + v1))) (x4 := some (.lst ((isort tlt (dueL g.debts (g.day + v1))).map t3A))) (x5 := some (.lst (((zi 0 g.debts).map debtT ++ g.pays.map paidT).map .str))) (x6 := x6) (x7 := x7) (x8 := x8) (r4 os) l4 (r5 os) l5 u5 (r6 os) l6 u6 co
  have g0 : idxA (.ref O) (.str [100, 97, 121]) (hd os d) = some (.int g.day) := getO s.b.eo _
  refine ⟨d6, ?_⟩
  have r1 := r1 os
  rw [ap_runDef p__law_tells rfl]
  generalize pg P (n + 3) = φ at *
  simp -implicitDefEqProofs [TX.start, f__law_tells, g0, r1, intOp, gN]
  rw [ta, tb, tc, td]
  simp
theorem allO_map {β : Type} (f : AV → Option AV) (a : β → AV) (b : β → AV) : ∀ {xs : List β}, (∀ x ∈ xs, f (a x) = some (b x)) → allO f (xs.map a) = some (xs.map b)
  | [], _ => rfl
  | x :: r, h => by
    show (match f (a x), allO f (r.map a) with | some y, some ys => some (y :: ys) | _, _ => none) = _
    rw [h x List.mem_cons_self, allO_map f a b fun y hy => h y (List.mem_cons_of_mem _ hy)]
    rfl
theorem eq_debts {h : AH} (a : Led h L D Pm ds g) (b : Own h O e p g) : eqDp (.ref D) (.ref e) h = some true := by
  have d1 : deepA h 8 (.ref D) = some (.lst (g.debts.map dA)) := by
    show (match hget h D with | some (.lst xs) => (allO (deepA h 7) xs).map AV.lst | _ => none) = _
    rw [a.d]
    show (allO (deepA h 7) (ds.map fun p => .ref p.1)).map AV.lst = _
    rw [allO_map _ _ (fun p : Nat × Dt => dA p.2) (fun x hx => by
      show (match hget h x.1 with | some (.lst xs) => (allO (deepA h 6) xs).map AV.lst | _ => none) = _
      rw [a.i x hx]
      rfl), a.e, List.map_map]
    rfl
  have d2 : deepA h 8 (.ref e) = some (.lst (g.debts.map dA)) := by
    show (match hget h e with | some (.lst xs) => (allO (deepA h 7) xs).map AV.lst | _ => none) = _
    rw [b.ed]
    show (allO (deepA h 7) (g.debts.map dA)).map AV.lst = _
    rw [allO_map (deepA h 7) dA dA (fun x hx => rfl)]
    rfl
  have dt : (AV.lst (g.debts.map dA)).data = true := dataL_map (fun d : Dt => dA d) fun _ _ => rfl
  have dp : (AV.lst (g.debts.map dA)).dep ≤ 64 := by
    have : AV.depL (g.debts.map dA) ≤ 63 := depL_map (fun d : Dt => dA d) fun _ _ => by
      show max 0 (max 0 (max 0 0)) + 1 ≤ 63
      decide
    show AV.depL (g.debts.map dA) + 1 ≤ 64
    omega
  unfold eqDp
  rw [d1, d2]
  show (if _ then _ else _) = _
  rw [if_pos (by rw [dt]; simp [dp])]
  simp
theorem ne_pays {h : AH} (a : Led h L D Pm ds g) (b : Own h O e p g) : cmpA .ne (.ref Pm) (.ref p) h = .ok (.bl false) h := by
  have s1 : still (.ref Pm) h = some (.lst (g.pays.map prA)) := by
    show (match hget h Pm with | some (.lst xs) => some (AV.lst xs) | _ => none) = _
    rw [a.p]
  have s2 : still (.ref p) h = some (.lst (g.pays.map prA)) := by
    show (match hget h p with | some (.lst xs) => some (AV.lst xs) | _ => none) = _
    rw [b.ep]
  have dt : AV.dataL (g.pays.map prA) = true := dataL_map prA fun _ _ => rfl
  have dp : AV.depL (g.pays.map prA) ≤ 63 := depL_map prA fun _ _ => by
    show max 0 (max 0 0) + 1 ≤ 63
    decide
  show (match still (.ref Pm) h, still (.ref p) h with | some a, some b => someB (notO (eqA a b)) h | _, _ => .stuck) = _
  rw [s1, s2]
  show someB (notO (eqA _ _)) h = _
  rw [eqA_lst dt dt dp dp]
  simp [notO, someB]
theorem step_end {φ : Fn} {h : AH} (s : Sy h L D Pm ds O e p g) (hz : g.debts.length ≤ 20) (ba : φ 0 6 [.ref L] h = .ok (.int (balN g)) h) (x0 x1 x4 x5 x6 x7 x8 x9 x10 x11 x12 : Option AV) :
    f_law_16 φ [x0, x1, some (.ref O), some (.ref L), x4, x5, x6, x7, x8, x9, x10, x11, x12, none, none] h = .ok (.nx [x0, x1, some (.ref O), some (.ref L), x4, x5, x6, x7, x8, x9, x10, x11, x12, none, none]) h := by
  have f1 : fldA [3] [100, 101, 98, 116, 115] (.ref L) h = some (.ref D) := by rw [fldL s.a.l]; rfl
  have f2 : fldA [3] [112, 97, 121, 109, 101, 110, 116, 115] (.ref L) h = some (.ref Pm) := by rw [fldL s.a.l]; rfl
  have f3 : fldA [3] [105, 110, 116, 101, 114, 101, 115, 116] (.ref L) h = some (.int g.interest) := by rw [fldL s.a.l]; rfl
  have f4 : fldA [3] [99, 114, 101, 100, 105, 116] (.ref L) h = some (.int g.credit) := by rw [fldL s.a.l]; rfl
  have f5 : fldA [3] [100, 97, 121] (.ref L) h = some (.int g.day) := by rw [fldL s.a.l]; rfl
  have f6 : fldA [3] [114, 101, 115, 116] (.ref L) h = some (.int g.rest) := by rw [fldL s.a.l]; rfl
  have g1 : idxA (.ref O) (.str [100, 101, 98, 116, 115]) h = some (.ref e) := getO s.b.eo _
  have g2 : idxA (.ref O) (.str [112, 97, 105, 100]) h = some (.ref p) := getO s.b.eo _
  have g3 : idxA (.ref O) (.str [105, 110, 116, 101, 114, 101, 115, 116]) h = some (.int g.interest) := getO s.b.eo _
  have g4 : idxA (.ref O) (.str [99, 114, 101, 100, 105, 116]) h = some (.int g.credit) := getO s.b.eo _
  have g5 : idxA (.ref O) (.str [100, 97, 121]) h = some (.int g.day) := getO s.b.eo _
  have g6 : idxA (.ref O) (.str [116, 111, 112]) h = some (.int g.rest) := getO s.b.eo _
  have q := insL s.a.l
  have ed := eq_debts s.a s.b
  have np := ne_pays s.a s.b
  have sd := seq_of s.b.ed
  have gd := gd_of s.b.ed
  have ni := ne_ints [g.credit, g.interest, g.day, g.rest] [g.credit, g.interest, g.day, g.rest] h
  have lc : lcGo φ (gT (gsCons (gN 10) (gsCons (gN 13) (gsCons (gN 14) gsNil)))) eYes (eV 14) [x0, x1, some (.ref O), some (.ref L), x4, x5, x6, x7, x8, x9, none, x11, x12, none, none] [(e, .lst (g.debts.map dA))] (g.debts.map dA) h = .ok ((g.debts.map (·.2.2)).map .int) h := by
    have := lc_filter (φ := φ) (g := gT (gsCons (gN 10) (gsCons (gN 13) (gsCons (gN 14) gsNil)))) (c := eYes) (e := eV 14) (s0 := [x0, x1, some (.ref O), some (.ref L), x4, x5, x6, x7, x8, x9, none, x11, x12, none, none]) (gd := [(e, .lst (g.debts.map dA))]) (h := h) dA (fun _ => true) (fun d => .int d.2.2) (xs := g.debts) (gOk_one s.b.ed) (fun d _ => ⟨_, rfl, rfl, fun _ => rfl⟩)
    rw [this, List.filter_eq_self.mpr (fun _ _ => rfl), List.map_map]
    rfl
  have su : uA .sum (.lst ((g.debts.map (·.2.2)).map .int)) h = .ok (.int (g.debts.map (·.2.2)).sum) h := by
    show (match intsO _ with | some is => Out.ok (AV.int is.sum) h | none => .stuck) = _
    rw [ints_of]
  have zl : (g.debts.map (·.2.2)).length ≤ 20 := by rw [List.length_map]; exact hz
  unfold balN at ba
  generalize g.debts.map (·.2.2) = zs at *
  simp -implicitDefEqProofs [] at ni
  simp -implicitDefEqProofs [f_law_16, f1, f2, f3, f4, f5, f6, g1, g2, g3, g4, g5, g6, ed, np, mkLst, mk, ni]
  simp -implicitDefEqProofs [f_law_15, q, fsO, fget, ba, g1, g3, g4, sd, gd, wipe, lc, quiet, mkLst, mk, su, intOp, show g.debts.length < 16777216 by omega, show zs.length ≤ 16777216 by omega]
end
end K08

set_option Elab.async false
set_option linter.all false
set_option autoImplicit false
set_option maxRecDepth 100000
set_option maxHeartbeats 4000000
namespace K08
open TX TL
theorem dueS_bd {g : Lg} {k : Nat} (i : Inv g k) (day : Int) : 0 ≤ dueS g.debts day ∧ dueS g.debts day ≤ 1800000 := by
  have h1 := sum_bd (M := 90000) ((g.debts.filter fun d => decide (d.1 < day)).map (·.2.2)) (fun x hx => by
    obtain ⟨d, hd, rfl⟩ := List.mem_map.mp hx
    exact (i.debts d (List.mem_filter.mp hd).1).2.2)
  rw [List.length_map] at h1
  have h2 := List.length_filter_le (fun d : Dt => decide (d.1 < day)) g.debts
  have := i.len
  have := i.k20
  unfold dueS
  omega
structure Nm (g : Lg) : Prop where
  interest : 0 ≤ g.interest ∧ g.interest ≤ 10000 * g.day
  rest : 0 ≤ g.rest ∧ g.rest < 3650000
theorem day1_nm {g : Lg} (b : ∀ day, 0 ≤ dueS g.debts day ∧ dueS g.debts day ≤ 1800000) (hr : 0 ≤ g.rate ∧ g.rate ≤ 10000) (n : Nm g) : Nm (day1 g) := by
  obtain ⟨b1, b2⟩ := b (g.day + 1)
  obtain ⟨⟨i1, i2⟩, ⟨r1, r2⟩⟩ := n
  unfold day1
  generalize dueS g.debts (g.day + 1) = T at *
  have m1 := Int.mul_nonneg b1 hr.1
  have m2 : T * g.rate ≤ 1800000 * 10000 := Int.mul_le_mul b2 hr.2 hr.1 (by decide)
  generalize T * g.rate = z at *
  refine ⟨⟨?_, ?_⟩, ?_, ?_⟩
  · show 0 ≤ g.interest + (g.rest + z) / 3650000; omega
  · show g.interest + (g.rest + z) / 3650000 ≤ 10000 * (g.day + 1); omega
  · show 0 ≤ (g.rest + z) % 3650000; omega
  · show (g.rest + z) % 3650000 < 3650000; omega
theorem days_nm {g : Lg} (b : ∀ day, 0 ≤ dueS g.debts day ∧ dueS g.debts day ≤ 1800000) (hr : 0 ≤ g.rate ∧ g.rate ≤ 10000) (n : Nm g) : ∀ k, Nm (days g k)
  | 0 => n
  | k + 1 => day1_nm (by rw [(days_same g k).1]; exact b) (by rw [(days_same g k).2.2.1]; exact hr) (days_nm b hr n k)
theorem Inv.go {g : Lg} {k : Nat} (i : Inv g k) (hk : k < 20) {day : Int} (h1 : g.day ≤ day) (h2 : day ≤ g.day + 60) : Inv (goN g day) (k + 1) := by
  obtain ⟨g1, g2, g3, g4⟩ := goN_same g day
  have nm : Nm (goN g day) := days_nm (dueS_bd i) i.rate ⟨i.interest, i.rest⟩ _
  have dd := goN_day h1
  have c := i.credit
  have d := i.day
  have l := i.len
  exact ⟨by rw [g3]; exact i.rate, by rw [g4]; push_cast; omega, by rw [dd]; push_cast; omega, nm.interest, nm.rest, by rw [g1]; exact i.debts, by rw [g2]; exact i.pays, by rw [g1, g2]; omega, by omega⟩
theorem Inv.owe {g : Lg} {k : Nat} (i : Inv g k) (hk : k < 20) {day am due : Int} (h1 : g.day ≤ day) (h2 : day ≤ g.day + 60) (a1 : 0 < am) (a2 : am ≤ 90000) (d1 : day ≤ due) (d2 : due ≤ day + 60) : Inv (oweN g day am due) (k + 1) := by
  have j := i.go hk h1 h2
  obtain ⟨g1, g2, g3, g4⟩ := goN_same g day
  have c := i.credit
  have dy := i.day
  have l := i.len
  refine ⟨j.rate, ?_, j.day, j.interest, j.rest, fun d hd => ?_, j.pays, ?_, j.k20⟩
  · show 0 ≤ g.credit - min g.credit am ∧ g.credit - min g.credit am ≤ 90000 * ((k + 1 : Nat) : Int)
    push_cast
    omega
  · rcases List.mem_append.mp hd with hd | hd
    · exact i.debts d hd
    · simp only [List.mem_singleton] at hd
      subst hd
      simp only
      omega
  · show (g.debts ++ [(due, am, am - min g.credit am)]).length + (goN g day).pays.length ≤ k + 1
    rw [g2, List.length_append, List.length_singleton]
    omega
def DB (d : Dt) : Prop := (0 ≤ d.1 ∧ d.1 ≤ 100000) ∧ (0 ≤ d.2.1 ∧ d.2.1 ≤ 90000) ∧ (0 ≤ d.2.2 ∧ d.2.2 ≤ 90000)
theorem pF_bd {debts : List Dt} {left M : Int} (hd : ∀ d ∈ debts, DB d) (h1 : 0 ≤ left) (h2 : left ≤ M) (ps : List (Int × Int)) : (∀ d ∈ (pF debts left ps).1, DB d) ∧ 0 ≤ (pF debts left ps).2.1 ∧ (pF debts left ps).2.1 ≤ M := by
  have key : ∀ (ps : List (Int × Int)) (st : List Dt × Int × List (Int × Int)), (∀ d ∈ st.1, DB d) → 0 ≤ st.2.1 → st.2.1 ≤ M → (∀ d ∈ (ps.foldl pS st).1, DB d) ∧ 0 ≤ (ps.foldl pS st).2.1 ∧ (ps.foldl pS st).2.1 ≤ M := by
    intro ps
    induction ps with
    | nil => intro st a b c; exact ⟨a, b, c⟩
    | cons p r ih =>
      intro st a b c
      have : (∀ d ∈ (pS st p).1, DB d) ∧ 0 ≤ (pS st p).2.1 ∧ (pS st p).2.1 ≤ M := by
        unfold pS
        split
        · rename_i q hq
          split
          · have dq := a q (List.mem_of_getElem? hq)
            refine ⟨fun d h => ?_, by simp only; omega, by simp only; omega⟩
            rcases List.mem_or_eq_of_mem_set h with h | h
            · exact a d h
            · subst h
              unfold DB at dq ⊢
              simp only
              omega
          · exact ⟨a, b, c⟩
        · exact ⟨a, b, c⟩
      exact ih _ this.1 this.2.1 this.2.2
  exact key ps _ hd h1 h2
theorem Inv.pay {g : Lg} {k : Nat} (i : Inv g k) (hk : k < 20) {day am : Int} (h1 : g.day ≤ day) (h2 : day ≤ g.day + 60) (a1 : 0 < am) (a2 : am ≤ 90000) : Inv (payN g day am) (k + 1) := by
  have j := i.go hk h1 h2
  obtain ⟨g1, g2, g3, g4⟩ := goN_same g day
  have c := i.credit
  have dy := i.day
  have l := i.len
  have it := j.interest
  obtain ⟨b1, b2, b3⟩ := pF_bd (M := 90000) i.debts (show 0 ≤ am - min am (goN g day).interest by omega) (by omega) (ord g.debts)
  obtain ⟨l1, _⟩ := pF_len g.debts (am - min am (goN g day).interest) (ord g.debts)
  refine ⟨j.rate, ?_, j.day, ?_, j.rest, b1, fun p hp => ?_, ?_, j.k20⟩
  · show 0 ≤ g.credit + (pF g.debts (am - min am (goN g day).interest) (ord g.debts)).2.1 ∧ g.credit + (pF g.debts (am - min am (goN g day).interest) (ord g.debts)).2.1 ≤ 90000 * ((k + 1 : Nat) : Int)
    push_cast
    omega
  · show 0 ≤ (goN g day).interest - min am (goN g day).interest ∧ (goN g day).interest - min am (goN g day).interest ≤ 10000 * (goN g day).day
    omega
  · rcases List.mem_append.mp hp with hp | hp
    · exact i.pays p hp
    · simp only [List.mem_singleton] at hp
      subst hp
      simp only
      have := j.day
      omega
  · show (pF g.debts (am - min am (goN g day).interest) (ord g.debts)).1.length + (g.pays ++ [(day, am)]).length ≤ k + 1
    rw [l1, List.length_append, List.length_singleton]
    omega
theorem Inv.refund {g : Lg} {k : Nat} (i : Inv g k) (hk : k < 20) {day : Int} (h1 : g.day ≤ day) (h2 : day ≤ g.day + 60) : Inv (refN g day) (k + 1) := by
  have j := i.go hk h1 h2
  exact ⟨j.rate, by show (0 : Int) ≤ 0 ∧ (0 : Int) ≤ 90000 * ((k + 1 : Nat) : Int); omega, j.day, j.interest, j.rest, j.debts, j.pays, j.len, j.k20⟩
theorem Inv.up {g : Lg} {k : Nat} (i : Inv g k) (hk : k < 20) : Inv g (k + 1) := by
  have c := i.credit
  have dy := i.day
  have l := i.len
  exact ⟨i.rate, by push_cast; omega, by push_cast; omega, i.interest, i.rest, i.debts, i.pays, by omega, by omega⟩
theorem pay_lp (g : Lg) (day am : Int) : payN g day am = lpN { goN g day with pays := g.pays ++ [(day, am)] } am ∧ payV g day am = lpV { goN g day with pays := g.pays ++ [(day, am)] } am := by
  obtain ⟨g1, g2, g3, g4⟩ := goN_same g day
  unfold payN payV lpN lpV
  rw [g1, g4]
  exact ⟨rfl, rfl⟩
end K08

set_option Elab.async false
set_option linter.all false
set_option autoImplicit false
set_option maxRecDepth 100000
set_option maxHeartbeats 4000000
namespace K08
open TX TL
theorem eq_non_str (t : Tx) (h : AH) : cmpA .eq .non (.str t) h = .ok (.bl false) h := rfl
theorem eq_bl (a b : Bool) (h : AH) : cmpA .eq (.bl a) (.bl b) h = .ok (.bl (a == b)) h := rfl
theorem add_ref {h : AH} {e : Nat} {xs ys : List AV} (he : hget h e = some (.lst xs)) (hl : xs.length + ys.length ≤ 1000) : binA true .add (.ref e) (.lst ys) h = .ok (.ref h.length) (.lst (xs ++ ys) :: h) := by
  show (match lstOf (.ref e) h, lstOf (.lst ys) h with | some a, some b => if a.length + b.length ≤ SZ then mkLst true (a ++ b) h else .stuck | _, _ => .stuck) = _
  rw [lst_of he]
  show (if xs.length + ys.length ≤ SZ then mkLst true (xs ++ ys) h else .stuck) = _
  rw [if_pos (by unfold SZ; omega)]
  unfold mkLst
  rw [if_pos (by rw [List.length_append]; unfold SZ; omega)]
  rfl
section
variable {h : AH} {d : D3} {L D Pm : Nat} {ds : List (Nat × Dt)} {O e p : Nat} {g g' : Lg} {n k : Nat}
theorem Led.lt (a : Led h L D Pm ds g) : ∀ j ∈ foot L D Pm ds, j < h.length := fun j hj => by
  simp only [foot, List.mem_cons, List.mem_map] at hj
  rcases hj with rfl | rfl | rfl | ⟨p, hp, rfl⟩
  · exact hget_lt a.l
  · exact hget_lt a.d
  · exact hget_lt a.p
  · exact hget_lt (a.i p hp)
theorem Own.lt (b : Own h O e p g) : O < h.length ∧ e < h.length ∧ p < h.length := ⟨hget_lt b.eo, hget_lt b.ed, hget_lt b.ep⟩
theorem Own.newD (a : Own h O e p g) (e2 : g'.pays = g.pays) : Own (hset (.lst (g'.debts.map dA) :: h) O (ownO h.length p g')) O h.length p g' := by
  obtain ⟨l1, l2, l3⟩ := a.lt
  refine ⟨hget_set_eq (by simp; omega), ?_, ?_, by omega, a.nd.2.1, by omega⟩
  · rw [hget_set_ne (by omega), hget_cons, if_pos rfl]
  · rw [hget_set_ne a.nd.2.1.symm, hget_cons, if_neg (by omega), a.ep, e2]
theorem Own.newP (a : Own h O e p g) (e1 : g'.debts = g.debts) : Own (hset (.lst (g'.pays.map prA) :: h) O (ownO e h.length g')) O e h.length g' := by
  obtain ⟨l1, l2, l3⟩ := a.lt
  refine ⟨hget_set_eq (by simp; omega), ?_, ?_, a.nd.1, by omega, by omega⟩
  · rw [hget_set_ne a.nd.1.symm, hget_cons, if_neg (by omega), a.ed, e1]
  · rw [hget_set_ne (by omega), hget_cons, if_pos rfl]
/-- a step's end -/
def Nxt (x0 x1 x5 : Option AV) (L D Pm O k : Nat) (h : AH) (o : Out Fl) : Prop := ∃ (w : Int) (x6 x7 x8 x9 x10 x11 x12 : Option AV) (h' : AH) (ds : List (Nat × Dt)) (e p : Nat) (g : Lg),
  o = .ok (.nx [x0, x1, some (.ref O), some (.ref L), some (.int w), x5, x6, x7, x8, x9, x10, x11, x12, none, none]) h' ∧ hget h' 0 = hget h 0 ∧ Sy h' L D Pm ds O e p g ∧ Inv g k
theorem owe_step (s : Sy h L D Pm ds O e p g) (i : Inv g k) (hk : k < 20) {x0 x1 x5 x6 x11 x12 : Option AV} {w day am due : Int} (hd : g.day ≤ day → day ≤ g.day + 60) (ha : am ≤ 90000) (hu : due ≤ day + 60) :
    Nxt x0 x1 x5 L D Pm O (k + 1) h (f_law_5 (pg P (n + 3)) [x0, x1, some (.ref O), some (.ref L), some (.int w), x5, x6, some (.int day), some (.int am), some (.bl (decide (g.day ≤ day))), some (.int due), x11, x12, none, none] h) := by
  have hz : ds.length ≤ 20 ∧ g.debts.length ≤ 20 := by
    have h1 := i.len
    have h2 := i.k20
    have h3 : g.debts.length = ds.length := by rw [s.a.e, List.length_map]
    omega
  have hl := i.len
  have q := insL s.a.l
  by_cases good : g.day ≤ day ∧ 0 < am ∧ day ≤ due
  · obtain ⟨c1, c2, c3⟩ := good
    have hd := hd c1
    have hb : (ckB g day am || decide (due < day)) = false := by
      simp only [ckB, Bool.or_eq_false_iff, decide_eq_false_iff_not]
      omega
    have ow := owe_ok (n := n + 1) s.a hb i.credit.1 (by omega) i.rate (by omega)
    have a1 := owe_led s.a (day := day) (am := am) (due := due)
    have fr := fun j (h1 : j < h.length) h2 h3 => owe_frame (L := L) (D := D) (Pm := Pm) (ds := ds) (g := g) (day := day) (am := am) (due := due) (j := j) h1 h2 h3
    have ln := owe_len (h := h) (L := L) (D := D) (Pm := Pm) (ds := ds) (g := g) (day := day) (am := am) (due := due)
    obtain ⟨jO, je, jp⟩ := s.j
    obtain ⟨zf, zO, ze, zp⟩ := s.z
    obtain ⟨oO, oe, op⟩ := s.b.lt
    have nf : ∀ x, x ∉ foot L D Pm ds → x ≠ L ∧ x ≠ D := fun x hx => by
      simp only [foot, List.mem_cons, not_or] at hx
      exact ⟨hx.1, hx.2.1⟩
    have b1 : Own (oweH h L D Pm ds g day am due) O e p g := s.b.frame fun j hj => by
      have hx : j ∉ foot L D Pm ds ∧ j < h.length := by rcases hj with rfl | rfl | rfl <;> simp [*]
      exact fr j hx.2 (nf j hx.1).1 (nf j hx.1).2
    have z1 : hget (oweH h L D Pm ds g day am due) 0 = hget h 0 := fr 0 (by omega) (nf 0 zf).1 (nf 0 zf).2
    generalize oweH h L D Pm ds g day am due = h1 at *
    have lg := lgo_ok (n := n + 2) b1 c1 (by omega) i.rate (by omega)
    have b2 : Own (hset h1 O (ownO e p (goN g day))) O e p (goN g day) := b1.num (goN_same g day).1 (goN_same g day).2.1
    have z2 : hget (hset h1 O (ownO e p (goN g day))) 0 = hget h 0 := by rw [hget_set_ne zO.symm, z1]
    have f2 : ∀ j ∈ foot L D Pm (ds ++ [(h.length, (due, am, am - min g.credit am))]), hget (hset h1 O (ownO e p (goN g day))) j = hget h1 j := fun j hj => by
      rw [hget_set_ne]
      rintro rfl
      simp only [foot, List.map_append, List.map_cons, List.map_nil, List.mem_cons, List.mem_append, List.not_mem_nil, or_false] at hj
      simp only [foot, List.mem_cons, not_or] at jO
      rcases hj with hj | hj | hj | hj | hj
      · exact jO.1 hj
      · exact jO.2.1 hj
      · exact jO.2.2.1 hj
      · exact jO.2.2.2 hj
      · omega
    have a2 := a1.frame f2
    have l2 : (hset h1 O (ownO e p (goN g day))).length = h.length + 1 := by rw [← ln]; simp
    generalize hset h1 O (ownO e p (goN g day)) = h2 at *
    have g4 : idxA (.ref O) (.str [99, 114, 101, 100, 105, 116]) h2 = some (.int g.credit) := by rw [getO b2.eo, ← (goN_same g day).2.2.2]; rfl
    have g5 : idxA (.ref O) (.str [100, 101, 98, 116, 115]) h2 = some (.ref e) := getO b2.eo _
    have ls := add_ref (ys := [.lst [.int due, .int am, .int (am - min g.credit am)]]) b2.ed (by rw [List.length_map, (goN_same g day).1, List.length_singleton]; omega)
    rw [(goN_same g day).1, l2] at ls
    have b3 := Own.newD (g' := oweN g day am due) b2 (rfl)
    have en : (oweN g day am due).debts.map dA = g.debts.map dA ++ [.lst [.int due, .int am, .int (am - min g.credit am)]] := by
      show (g.debts ++ [(due, am, am - min g.credit am)]).map dA = _
      simp [dA]
    rw [en, l2] at b3
    have g6 : ∀ o, idxA (.ref O) (.str [99, 114, 101, 100, 105, 116]) (o :: h2) = some (.int g.credit) := fun o => by rw [getO (hget_cons_lt b2.eo), ← (goN_same g day).2.2.2]; rfl
    have s3 : ∀ o, setA (.ref O) (.str [100, 101, 98, 116, 115]) (.ref (h.length + 1)) (o :: h2) = some (hset (o :: h2) O (ownO (h.length + 1) p (goN g day))) := fun o => setO (hget_cons_lt b2.eo) _ _
    have s4 : ∀ o, setA (.ref O) (.str [99, 114, 101, 100, 105, 116]) (.int (g.credit - min g.credit am)) (hset (o :: h2) O (ownO (h.length + 1) p (goN g day))) = some (hset (o :: h2) O (ownO (h.length + 1) p (oweN g day am due))) := fun o => by
      rw [setO (hget_set_eq (by simp [l2]; omega)), hset_hset]
      rfl
    refine ⟨w + am, x6, some (.int day), some (.int am), some (.bl true), some (.int due), some (.int (min g.credit am)), x12, hset (.lst (g.debts.map dA ++ [.lst [.int due, .int am, .int (am - min g.credit am)]]) :: h2) O (ownO (h.length + 1) p (oweN g day am due)), ds ++ [(h.length, (due, am, am - min g.credit am))], h.length + 1, p, oweN g day am due, ?_, ?_, ⟨a2.frame fun j hj => ?_, b3, ?_, ?_⟩, i.owe hk c1 hd c2 ha c3 hu⟩
    · generalize pg P (n + 3) = φ at *
      simp -implicitDefEqProofs [f_law_5, c1, c2, c3, gN, f_law_4, q, fsO, fget, ow, told, eq_non_str, eq_bl]
      simp -implicitDefEqProofs [f_law_3, lg, f_law_2, g4, mmA, min_mm, gN, f_law_1, g5, ls, mkLst, mk, intOp, g6, s3, s4]
    · rw [hget_set_ne zO.symm, hget_cons, if_neg (by omega), z2]
    · have := a2.lt j hj
      rw [hget_set_ne, hget_cons, if_neg (by omega)]
      rintro rfl
      have hj2 := hj
      simp only [foot, List.map_append, List.map_cons, List.map_nil, List.mem_cons, List.mem_append, List.not_mem_nil, or_false] at hj2
      simp only [foot, List.mem_cons, not_or] at jO
      rcases hj2 with hj | hj | hj | hj | hj
      · exact jO.1 hj
      · exact jO.2.1 hj
      · exact jO.2.2.1 hj
      · exact jO.2.2.2 hj
      · omega
    · have ff : ∀ x, x ∉ foot L D Pm ds → x ≠ h.length → x ∉ foot L D Pm (ds ++ [(h.length, (due, am, am - min g.credit am))]) := fun x h1 h2 h3 => by
        simp only [foot, List.map_append, List.map_cons, List.map_nil, List.mem_cons, List.mem_append, List.not_mem_nil, or_false] at h3
        simp only [foot, List.mem_cons, not_or] at h1
        rcases h3 with hj | hj | hj | hj | hj
        · exact h1.1 hj
        · exact h1.2.1 hj
        · exact h1.2.2.1 hj
        · exact h1.2.2.2 hj
        · exact h2 hj
      refine ⟨ff O jO (by omega), ff _ (fun hh => ?_) (by omega), ff p jp (by omega)⟩
      have := s.a.lt _ hh
      omega
    · have ff : ∀ x, x ∉ foot L D Pm ds → x ≠ h.length → x ∉ foot L D Pm (ds ++ [(h.length, (due, am, am - min g.credit am))]) := fun x h1 h2 h3 => by
        simp only [foot, List.map_append, List.map_cons, List.map_nil, List.mem_cons, List.mem_append, List.not_mem_nil, or_false] at h3
        simp only [foot, List.mem_cons, not_or] at h1
        rcases h3 with hj | hj | hj | hj | hj
        · exact h1.1 hj
        · exact h1.2.1 hj
        · exact h1.2.2.1 hj
        · exact h1.2.2.2 hj
        · exact h2 hj
      exact ⟨ff 0 zf (by omega), zO, by omega, zp⟩
  · have hb : (ckB g day am || decide (due < day)) = true := by
      simp only [ckB, Bool.or_eq_true, decide_eq_true_eq]
      omega
    have ow := owe_bad (n := n + 1) s.a hb
    refine ⟨w, x6, some (.int day), some (.int am), some (.bl false), some (.int due), x11, x12, h, ds, e, p, g, ?_, rfl, s, i.up hk⟩
    generalize pg P (n + 3) = φ at *
    by_cases c1 : g.day ≤ day
    · by_cases c2 : 0 < am
      · have c3 : ¬ day ≤ due := fun c3 => good ⟨c1, c2, c3⟩
        simp -implicitDefEqProofs [f_law_5, c1, c2, c3, gN, f_law_4, q, fsO, fget, ow, told, ctOf, eq_bl, f_law_3]
      · simp -implicitDefEqProofs [f_law_5, c1, c2, gN, f_law_4, q, fsO, fget, ow, told, ctOf, eq_bl, f_law_3]
    · simp -implicitDefEqProofs [f_law_5, c1, gN, f_law_4, q, fsO, fget, ow, told, ctOf, eq_bl, f_law_3]
end
end K08

set_option Elab.async false
set_option linter.all false
set_option autoImplicit false
set_option maxRecDepth 100000
set_option maxHeartbeats 4000000
namespace K08
open TX TL
def ltx : Tx := [76, 101, 100, 103, 101, 114, 69, 114, 114, 111, 114]
theorem eq_tup_ltx {xs : List AV} (h : AH) (h1 : AV.dataL xs = true) (h3 : AV.depL xs ≤ 63) : cmpA .eq (.tup xs) (.str [76, 101, 100, 103, 101, 114, 69, 114, 114, 111, 114]) h = .ok (.bl false) h := by
  have e : eqA (.tup xs) (.str ltx) = if ((AV.tup xs).flat && (AV.str ltx).flat) || ((AV.tup xs).data && (AV.str ltx).data && decide ((AV.tup xs).dep ≤ 64) && decide ((AV.str ltx).dep ≤ 64)) then some (decide (AV.tup xs = AV.str ltx)) else none := rfl
  have d1 : (AV.tup xs).data = true := h1
  have d2 : (AV.str ltx).data = true := by decide
  have p1 : (AV.tup xs).dep ≤ 64 := by show AV.depL xs + 1 ≤ 64; omega
  have p2 : (AV.str ltx).dep ≤ 64 := Nat.zero_le _
  have : eqA (.tup xs) (.str ltx) = some false := by
    rw [e, d1, d2]
    simp [p1, p2]
  show someB (eqA (.tup xs) (.str ltx)) h = _
  rw [this]
  rfl
theorem payV_data (g : Lg) (day am : Int) : ∃ xs, payV g day am = .tup xs ∧ AV.dataL xs = true ∧ AV.depL xs ≤ 63 := by
  refine ⟨_, rfl, ?_, ?_⟩
  · show (true && (AV.dataL (List.map prA _) && (true && true))) = true
    rw [dataL_map prA fun _ _ => rfl]
    rfl
  · show max 0 (max (AV.depL (List.map prA _) + 1) (max 0 0)) ≤ 63
    have := depL_map prA (n := 1) (xs := (pF g.debts (am - min am (goN g day).interest) (ord g.debts)).2.2) fun _ _ => by
      show max 0 (max 0 0) + 1 ≤ 1
      decide
    omega
section
variable {h : AH} {d : D3} {L D Pm : Nat} {ds : List (Nat × Dt)} {O e p : Nat} {g g' : Lg} {n k : Nat}
theorem pay_step (s : Sy h L D Pm ds O e p g) (i : Inv g k) (hk : k < 20) {x0 x1 x5 x6 x10 x11 x12 : Option AV} {w day am : Int} (hd : g.day ≤ day → day ≤ g.day + 60) (ha : am ≤ 90000) :
    Nxt x0 x1 x5 L D Pm O (k + 1) h (f_law_10 (pg P (n + 3)) [x0, x1, some (.ref O), some (.ref L), some (.int w), x5, x6, some (.int day), some (.int am), some (.bl (decide (g.day ≤ day) && decide (0 < am))), x10, x11, x12, none, none] h) := by
  have hz : ds.length ≤ 20 ∧ g.debts.length ≤ 20 := by
    have h1 := i.len
    have h2 := i.k20
    have h3 : g.debts.length = ds.length := by rw [s.a.e, List.length_map]
    omega
  have hl := i.len
  have q := insL s.a.l
  by_cases good : g.day ≤ day ∧ 0 < am
  · obtain ⟨c1, c2⟩ := good
    have hd := hd c1
    have hb : ckB g day am = false := by
      simp only [ckB, Bool.or_eq_false_iff, decide_eq_false_iff_not]
      omega
    obtain ⟨h1, ds1, py, a1, em, fr1, fr2⟩ := pay_ok (n := n + 1) s.a hb (by omega) i.rate (by omega) (by omega)
    have fe : foot L D Pm ds1 = foot L D Pm ds := by unfold foot; rw [em]
    obtain ⟨jO, je, jp⟩ := s.j
    obtain ⟨zf, zO, ze, zp⟩ := s.z
    obtain ⟨oO, oe, op⟩ := s.b.lt
    have b1 : Own h1 O e p g := s.b.frame fun j hj => by
      have hx : j ∉ foot L D Pm ds ∧ j < h.length := by rcases hj with rfl | rfl | rfl <;> simp [*]
      exact fr2 j hx.2 hx.1
    have z1 : hget h1 0 = hget h 0 := fr2 0 (by omega) zf
    have lg := lgo_ok (n := n + 2) b1 c1 (by omega) i.rate (by omega)
    have b2 : Own (hset h1 O (ownO e p (goN g day))) O e p (goN g day) := b1.num (goN_same g day).1 (goN_same g day).2.1
    have z2 : hget (hset h1 O (ownO e p (goN g day))) 0 = hget h 0 := by rw [hget_set_ne zO.symm, z1]
    have a2 : Led (hset h1 O (ownO e p (goN g day))) L D Pm ds1 (payN g day am) := a1.frame fun j hj => by
      rw [hget_set_ne]
      rintro rfl
      rw [fe] at hj
      exact jO hj
    have l2 : (hset h1 O (ownO e p (goN g day))).length = h1.length := by simp
    generalize hset h1 O (ownO e p (goN g day)) = h2 at *
    have g5 : idxA (.ref O) (.str [112, 97, 105, 100]) h2 = some (.ref p) := getO b2.eo _
    have ls := add_ref (ys := [.tup [.int day, .int am]]) b2.ep (by rw [List.length_map, (goN_same g day).2.1, List.length_singleton]; omega)
    rw [(goN_same g day).2.1, l2] at ls
    have b3 := Own.newP (g' := { goN g day with pays := g.pays ++ [(day, am)] }) b2 rfl
    have en : (g.pays ++ [(day, am)]).map prA = g.pays.map prA ++ [.tup [.int day, .int am]] := by simp [prA]
    simp only at b3
    rw [en, l2] at b3
    have s3 : ∀ o, setA (.ref O) (.str [112, 97, 105, 100]) (.ref h1.length) (o :: h2) = some (hset (o :: h2) O (ownO e h1.length { goN g day with pays := g.pays ++ [(day, am)] })) := fun o => setO (hget_cons_lt b2.eo) _ _
    have a3 : ∀ o u, Led (hset (o :: h2) O u) L D Pm ds1 (payN g day am) := fun o u => a2.frame fun j hj => by
      have := a2.lt j hj
      rw [hget_set_ne, hget_cons, if_neg (by omega)]
      rintro rfl
      rw [fe] at hj
      exact jO hj
    have z3 : ∀ o u, hget (hset (o :: h2) O u) 0 = hget h 0 := fun o u => by rw [hget_set_ne zO.symm, hget_cons, if_neg (by omega), z2]
    have a3 := a3 (.lst (g.pays.map prA ++ [.tup [.int day, .int am]])) (ownO e h1.length { goN g day with pays := g.pays ++ [(day, am)] })
    have z3 := z3 (.lst (g.pays.map prA ++ [.tup [.int day, .int am]])) (ownO e h1.length { goN g day with pays := g.pays ++ [(day, am)] })
    have s3 := s3 (.lst (g.pays.map prA ++ [.tup [.int day, .int am]]))
    generalize hset (.lst (g.pays.map prA ++ [.tup [.int day, .int am]]) :: h2) O (ownO e h1.length { goN g day with pays := g.pays ++ [(day, am)] }) = h3 at *
    have ig := i.go hk c1 hd
    obtain ⟨h4, lp, b4, l4, f4⟩ := lpay_ok (n := n + 2) b3 (am := am) (by omega) ig.interest.1 (fun d hd => (ig.debts d hd).2.2.1) (by
      show (goN g day).debts.length ≤ 1000
      rw [(goN_same g day).1]
      omega)
    obtain ⟨e1, e2⟩ := pay_lp g day am
    rw [← e1] at b4
    rw [← e2] at lp
    obtain ⟨xs, ev, dv, pv⟩ := payV_data g day am
    rw [ev] at lp py
    have et := eq_tup_ltx h1 dv pv
    have nt : cmpA .ne (.tup xs) (.tup xs) h4 = .ok (.bl false) h4 := by
      rw [ne_tup h4 dv dv pv pv]
      simp
    refine ⟨w - am, x6, some (.int day), some (.int am), some (.bl true), x10, x11, some (.tup xs), h4, ds1, e, h1.length, payN g day am, ?_, ?_, ⟨a3.frame fun j hj => ?_, b4, ?_, ?_⟩, i.pay hk c1 hd c2 ha⟩
    · generalize pg P (n + 3) = φ at *
      simp -implicitDefEqProofs [f_law_10, gN, q, fsO, fget, py, told, c1, c2, f_law_9, et, eq_bl]
      simp -implicitDefEqProofs [f_law_8, lg, f_law_7, g5, mkLst, mk, ls, intOp, s3, gN]
      simp -implicitDefEqProofs [f_law_6, lp, nt]
    · rw [f4 0 zO.symm ze.symm, z3]
    · rw [f4 j]
      · rintro rfl
        rw [fe] at hj
        exact jO hj
      · rintro rfl
        rw [fe] at hj
        exact je hj
    · rw [fe]
      exact ⟨jO, je, fun hj => by have := s.a.lt _ hj; omega⟩
    · rw [fe]
      exact ⟨zf, zO, ze, by omega⟩
  · have hb : ckB g day am = true := by
      simp only [ckB, Bool.or_eq_true, decide_eq_true_eq]
      omega
    have py := pay_bad (n := n + 1) s.a hb
    refine ⟨w, x6, some (.int day), some (.int am), some (.bl false), x10, x11, some (.str [76, 101, 100, 103, 101, 114, 69, 114, 114, 111, 114]), h, ds, e, p, g, ?_, rfl, s, i.up hk⟩
    generalize pg P (n + 3) = φ at *
    have gb : (decide (g.day ≤ day) && decide (0 < am)) = false := by
      rw [← Bool.not_eq_true]
      simpa using good
    rw [gb]
    simp -implicitDefEqProofs [f_law_10, gN, q, fsO, fget, py, told, ctOf, f_law_9, eq_bl, f_law_8]
theorem go_step2 (s : Sy h L D Pm ds O e p g) (i : Inv g k) (hk : k < 20) {x0 x1 x5 x6 x8 x10 x11 x12 : Option AV} {w day : Int} (hd : g.day ≤ day → day ≤ g.day + 60) :
    Nxt x0 x1 x5 L D Pm O (k + 1) h ((sSeq (sIf (eCmp .eq (eCmp .eq (eTold (ctOf [2]) [76, 101, 100, 103, 101, 114, 69, 114, 114, 111, 114] (eMeth 3 [103, 111, 95, 116, 111] 4 (eV 3) (aCons (eV 7) aNil))) (eC (.str [76, 101, 100, 103, 101, 114, 69, 114, 114, 111, 114]))) (eV 9)) (sSeq (sRet (eC (.bl false))) sNil) sNil) f_law_11) (pg P (n + 3)) [x0, x1, some (.ref O), some (.ref L), some (.int w), x5, x6, some (.int day), x8, some (.bl (decide (g.day ≤ day))), x10, x11, x12, none, none] h) := by
  have hz : ds.length ≤ 20 ∧ g.debts.length ≤ 20 := by
    have h1 := i.len
    have h2 := i.k20
    have h3 : g.debts.length = ds.length := by rw [s.a.e, List.length_map]
    omega
  have q := insL s.a.l
  by_cases c1 : g.day ≤ day
  · have hd := hd c1
    have go := go_ok (n := n + 2) s.a c1 (by omega) i.rate (by omega)
    obtain ⟨jO, je, jp⟩ := s.j
    obtain ⟨zf, zO, ze, zp⟩ := s.z
    have nf : ∀ x, x ∉ foot L D Pm ds → x ≠ L := fun x hx => by
      simp only [foot, List.mem_cons, not_or] at hx
      exact hx.1
    have G := goN_same g day
    have a1 : Led (hset h L (leO D Pm (goN g day))) L D Pm ds (goN g day) := s.a.num G.1 G.2.1
    have b1 : Own (hset h L (leO D Pm (goN g day))) O e p g := s.b.frame fun j hj => by
      rw [hget_set_ne (nf j (by rcases hj with rfl | rfl | rfl <;> assumption))]
    have z1 : hget (hset h L (leO D Pm (goN g day))) 0 = hget h 0 := hget_set_ne (nf 0 zf)
    generalize hset h L (leO D Pm (goN g day)) = h1 at *
    have lg := lgo_ok (n := n + 2) b1 c1 (by omega) i.rate (by omega)
    refine ⟨w, x6, some (.int day), x8, some (.bl true), x10, x11, x12, hset h1 O (ownO e p (goN g day)), ds, e, p, goN g day, ?_, ?_, ⟨a1.frame fun j hj => ?_, b1.num G.1 G.2.1, s.j, s.z⟩, i.go hk c1 hd⟩
    · generalize pg P (n + 3) = φ at *
      simp -implicitDefEqProofs [q, fsO, fget, go, told, c1, eq_non_str, eq_bl, f_law_11, lg]
    · rw [hget_set_ne zO.symm, z1]
    · rw [hget_set_ne]
      rintro rfl
      exact jO hj
  · have go := go_bad (n := n + 2) s.a (show day < g.day by omega)
    refine ⟨w, x6, some (.int day), x8, some (.bl false), x10, x11, x12, h, ds, e, p, g, ?_, rfl, s, i.up hk⟩
    generalize pg P (n + 3) = φ at *
    simp -implicitDefEqProofs [q, fsO, fget, go, told, ctOf, c1, eq_bl, f_law_11]
theorem ref_step (s : Sy h L D Pm ds O e p g) (i : Inv g k) (hk : k < 20) {x0 x1 x5 x6 x8 x10 x11 x12 : Option AV} {w day : Int} (hd : g.day ≤ day → day ≤ g.day + 60) :
    Nxt x0 x1 x5 L D Pm O (k + 1) h (f_law_14 (pg P (n + 3)) [x0, x1, some (.ref O), some (.ref L), some (.int w), x5, x6, some (.int day), x8, some (.bl (decide (g.day ≤ day) && decide (0 < g.credit))), x10, x11, x12, none, none] h) := by
  have hz : ds.length ≤ 20 ∧ g.debts.length ≤ 20 := by
    have h1 := i.len
    have h2 := i.k20
    have h3 : g.debts.length = ds.length := by rw [s.a.e, List.length_map]
    omega
  have q := insL s.a.l
  by_cases good : g.day ≤ day ∧ 0 < g.credit
  · obtain ⟨c1, c2⟩ := good
    have hd := hd c1
    have rf := refund_ok (n := n + 1) s.a (day := day) (by simp only [Bool.or_eq_false_iff, decide_eq_false_iff_not]; omega) (by omega) i.rate (by omega)
    obtain ⟨jO, je, jp⟩ := s.j
    obtain ⟨zf, zO, ze, zp⟩ := s.z
    have nf : ∀ x, x ∉ foot L D Pm ds → x ≠ L := fun x hx => by
      simp only [foot, List.mem_cons, not_or] at hx
      exact hx.1
    have G := goN_same g day
    have a1 : Led (hset h L (leO D Pm (refN g day))) L D Pm ds (refN g day) := s.a.num G.1 G.2.1
    have b1 : Own (hset h L (leO D Pm (refN g day))) O e p g := s.b.frame fun j hj => by
      rw [hget_set_ne (nf j (by rcases hj with rfl | rfl | rfl <;> assumption))]
    have z1 : hget (hset h L (leO D Pm (refN g day))) 0 = hget h 0 := hget_set_ne (nf 0 zf)
    generalize hset h L (leO D Pm (refN g day)) = h1 at *
    have lg := lgo_ok (n := n + 2) b1 c1 (by omega) i.rate (by omega)
    have g4 : idxA (.ref O) (.str [99, 114, 101, 100, 105, 116]) h1 = some (.int g.credit) := getO b1.eo _
    have o2 : hget (hset h1 O (ownO e p (goN g day))) O = some (ownO e p (goN g day)) := hget_set_eq b1.lt.1
    have g5 : idxA (.ref O) (.str [99, 114, 101, 100, 105, 116]) (hset h1 O (ownO e p (goN g day))) = some (.int g.credit) := by rw [getO o2, ← G.2.2.2]; rfl
    have s5 : setA (.ref O) (.str [99, 114, 101, 100, 105, 116]) (.int 0) (hset h1 O (ownO e p (goN g day))) = some (hset h1 O (ownO e p (refN g day))) := by
      rw [setO o2, hset_hset]
      rfl
    refine ⟨w + g.credit, x6, some (.int day), x8, some (.bl true), x10, x11, x12, hset h1 O (ownO e p (refN g day)), ds, e, p, refN g day, ?_, ?_, ⟨a1.frame fun j hj => ?_, b1.num G.1 G.2.1, s.j, s.z⟩, i.refund hk c1 hd⟩
    · generalize pg P (n + 3) = φ at *
      simp -implicitDefEqProofs [f_law_14, q, fsO, fget, rf, told, c1, c2, g4]
      simp -implicitDefEqProofs [f_law_13, lg, f_law_12, g5, intOp, s5]
    · rw [hget_set_ne zO.symm, z1]
    · rw [hget_set_ne]
      rintro rfl
      exact jO hj
  · have rf := refund_bad (n := n + 1) s.a (day := day) (by simp only [Bool.or_eq_true, decide_eq_true_eq]; omega)
    refine ⟨w, x6, some (.int day), x8, some (.bl false), x10, x11, x12, h, ds, e, p, g, ?_, rfl, s, i.up hk⟩
    generalize pg P (n + 3) = φ at *
    have gb : (decide (g.day ≤ day) && decide (0 < g.credit)) = false := by
      rw [← Bool.not_eq_true]
      simpa using good
    rw [gb]
    simp -implicitDefEqProofs [f_law_14, q, fsO, fget, rf, told, ctOf, f_law_13]
end
end K08

set_option Elab.async false
set_option linter.all false
set_option autoImplicit false
set_option maxRecDepth 100000
set_option maxHeartbeats 4000000
namespace K08
open TX TL
theorem bindNil (φ : Fn) (o : Out Fl) : o.bind (seqK φ sNil) = o := by
  cases o with
  | ok f h => cases f <;> rfl
  | exc c h => rfl
  | stuck => rfl
section
variable {h : AH} {os : AH} {d : D3} {L D Pm : Nat} {ds : List (Nat × Dt)} {O e p : Nat} {g g' : Lg} {n k : Nat}
theorem Nxt.fin {x0 x1 x5 : Option AV} {o : Out Fl} (N : Nxt x0 x1 x5 L D Pm O k h o) : Nxt x0 x1 x5 L D Pm O k h (o.bind (seqK (pg P (n + 3)) f_law_16)) := by
  obtain ⟨w, x6, x7, x8, x9, x10, x11, x12, h', ds, e, p, g, eo, z, s, i⟩ := N
  have hz : ds.length ≤ 20 ∧ g.debts.length ≤ 20 := by
    have h1 := i.len
    have h2 := i.k20
    have h3 : g.debts.length = ds.length := by rw [s.a.e, List.length_map]
    omega
  refine ⟨w, x6, x7, x8, x9, x10, x11, x12, h', ds, e, p, g, ?_, z, s, i⟩
  rw [eo]
  exact step_end s hz.2 (bal_ok (n := n + 2) s.a (by omega)) ..
theorem step_ok (s : Sy (hd os d) L D Pm ds O e p g) (i : Inv g k) (hk : k < 20) {x0 x5 x6 x7 x8 x9 x10 x11 x12 : Option AV} {w : Int} :
    ∃ d', Nxt x0 (some (.ref 0)) x5 L D Pm O (k + 1) (hd os d') (f_law_19 (pg P (n + 3)) [x0, some (.ref 0), some (.ref O), some (.ref L), some (.int w), x5, x6, x7, x8, x9, x10, x11, x12, none, none] (hd os d)) := by
  obtain ⟨v1, d1, r1, l1, u1⟩ := rr (n := n + 2) d 8 (by decide) (by decide)
  obtain ⟨v2, d2, r2, l2, u2⟩ := rr (n := n + 2) d1 60 (by decide) (by decide)
  obtain ⟨v3, d3, r3, l3, u3⟩ := rr (n := n + 2) d2 9 (by decide) (by decide)
  obtain ⟨v4, d4, r4, l4, u4⟩ := rr (n := n + 2) d3 90000 (by decide) (by decide)
  obtain ⟨v5, d5, r5, l5, u5⟩ := rr (n := n + 2) d4 12 (by decide) (by decide)
  obtain ⟨v6, d6, r6, l6, u6⟩ := rr (n := n + 2) d5 40 (by decide) (by decide)
  obtain ⟨v7, d7, r7, l7, u7⟩ := rr (n := n + 2) d6 9 (by decide) (by decide)
  have r1 := r1 os
  have r2 := r2 os
  have r3 := r3 os
  have r4 := r4 os
  have r5 := r5 os
  have r6 := r6 os
  have r7 := r7 os
  have g0 : ∀ d', idxA (.ref O) (.str [100, 97, 121]) (hd os d') = some (.int g.day) := fun d' => getO (s.dice d').b.eo _
  have g1 : ∀ d', idxA (.ref O) (.str [99, 114, 101, 100, 105, 116]) (hd os d') = some (.int g.credit) := fun d' => getO (s.dice d').b.eo _
  obtain ⟨dy, edy, hdy⟩ : ∃ dy : Int, (g.day + v2 - (if v3 = 0 then 1 else 0) * 70) = dy ∧ (g.day ≤ dy → dy ≤ g.day + 60) := ⟨_, rfl, by split <;> omega⟩
  obtain ⟨am, eam, ham⟩ : ∃ am : Int, (v4 - (if v5 = 0 then 1 else 0) * 90000) = am ∧ am ≤ 90000 := ⟨_, rfl, by split <;> omega⟩
  obtain ⟨du, edu, hdu⟩ : ∃ du : Int, (dy + v6 - (if v7 = 0 then 1 else 0) * 41) = du ∧ du ≤ dy + 60 := ⟨_, rfl, by split <;> omega⟩
  have ow := fun (x6 x11 x12 : Option AV) => (owe_step (n := n) (s.dice d7) i hk (x0 := x0) (x1 := some (.ref 0)) (x5 := x5) (x6 := x6) (x11 := x11) (x12 := x12) (w := w) hdy ham hdu).fin (n := n)
  have py := fun (x6 x10 x11 x12 : Option AV) => (pay_step (n := n) (s.dice d5) i hk (x0 := x0) (x1 := some (.ref 0)) (x5 := x5) (x6 := x6) (x10 := x10) (x11 := x11) (x12 := x12) (w := w) hdy ham).fin (n := n)
  have go := fun (x6 x8 x10 x11 x12 : Option AV) => (go_step2 (n := n) (s.dice d5) i hk (x0 := x0) (x1 := some (.ref 0)) (x5 := x5) (x6 := x6) (x8 := x8) (x10 := x10) (x11 := x11) (x12 := x12) (w := w) hdy).fin (n := n)
  have rf := fun (x6 x8 x10 x11 x12 : Option AV) => (ref_step (n := n) (s.dice d5) i hk (x0 := x0) (x1 := some (.ref 0)) (x5 := x5) (x6 := x6) (x8 := x8) (x10 := x10) (x11 := x11) (x12 := x12) (w := w) hdy).fin (n := n)
  generalize pg P (n + 3) = φ at *
  by_cases c1 : v1 < 3
  · refine ⟨d7, ?_⟩
    have ow := ow (some (.int v1)) x11 x12
    simp -implicitDefEqProofs [f_law_19, r1, g0, r2, r3, r4, r5, intOp, gT, gsCons, gsNil, gN]
    rw [edy, eam]
    simp -implicitDefEqProofs [f_law_18, g0, gN]
    simp -implicitDefEqProofs [f_law_17, bindNil, c1, r6, r7, intOp, gN]
    rw [edu]
    exact ow
  · refine ⟨d5, ?_⟩
    by_cases c2 : v1 < 6
    · have py := py (some (.int v1)) x10 x11 x12
      simp -implicitDefEqProofs [f_law_19, r1, g0, r2, r3, r4, r5, intOp, gT, gsCons, gsNil, gN]
      rw [edy, eam]
      simp -implicitDefEqProofs [f_law_18, g0, gN]
      by_cases q : g.day ≤ dy
      · by_cases q2 : 0 < am
        · simp -implicitDefEqProofs [f_law_17, bindNil, c1, c2, q, gN, q2]
          simp -implicitDefEqProofs [q, q2] at py
          exact py
        · simp -implicitDefEqProofs [f_law_17, bindNil, c1, c2, q, gN, q2]
          simp -implicitDefEqProofs [q, q2] at py
          exact py
      · simp -implicitDefEqProofs [f_law_17, bindNil, c1, c2, q, gN]
        simp -implicitDefEqProofs [q] at py
        exact py
    · by_cases c3 : v1 = 6
      · have go := go (some (.int v1)) (some (.int am)) x10 x11 x12
        simp -implicitDefEqProofs [f_law_19, r1, g0, r2, r3, r4, r5, intOp, gT, gsCons, gsNil, gN]
        rw [edy, eam]
        simp -implicitDefEqProofs [f_law_18, g0, gN]
        simp -implicitDefEqProofs [f_law_17, bindNil, c3]
        subst c3
        simp -implicitDefEqProofs [bindNil] at go
        exact go
      · have rf := rf (some (.int v1)) (some (.int am)) x10 x11 x12
        simp -implicitDefEqProofs [f_law_19, r1, g0, r2, r3, r4, r5, intOp, gT, gsCons, gsNil, gN]
        rw [edy, eam]
        simp -implicitDefEqProofs [f_law_18, g0, gN]
        by_cases q : g.day ≤ dy
        · by_cases q2 : 0 < g.credit
          · simp -implicitDefEqProofs [f_law_17, bindNil, c1, c2, c3, q, gN, g1, q2]
            simp -implicitDefEqProofs [q, q2] at rf
            exact rf
          · simp -implicitDefEqProofs [f_law_17, bindNil, c1, c2, c3, q, gN, g1, q2]
            simp -implicitDefEqProofs [q, q2] at rf
            exact rf
        · simp -implicitDefEqProofs [f_law_17, bindNil, c1, c2, c3, q, gN, g1]
          simp -implicitDefEqProofs [q] at rf
          exact rf
end
end K08

set_option Elab.async false
set_option linter.all false
set_option autoImplicit false
set_option maxRecDepth 100000
set_option maxHeartbeats 4000000
namespace K08
open TX TL
section
variable {h : AH} {L D Pm : Nat} {ds : List (Nat × Dt)} {g : Lg} {n k : Nat}
def newG (rate : Int) : Lg := ⟨rate, [], [], 0, 0, 0, 0⟩
theorem make_bad {rate : Int} (hr : rate < 0 ∨ 10000 < rate) : mkIns (pg P (n + 1)) 3 1 [.int rate] h = .exc 2 (.ins 3 [] :: h) := by
  unfold mkIns
  have e : pg P (n + 1) 0 1 [.ref h.length, .int rate] (.ins 3 [] :: h) = .exc 2 (.ins 3 [] :: h) := by
    rw [ap_runDef p_Ledger___init__ rfl]
    generalize pg P n = φ at *
    by_cases q : 0 ≤ rate
    · simp -implicitDefEqProofs [TX.start, f_Ledger___init__, q, show ¬ rate ≤ 10000 by omega]
    · simp -implicitDefEqProofs [TX.start, f_Ledger___init__, q]
  rw [e]
theorem make_ok {rate : Int} (hr : 0 ≤ rate ∧ rate ≤ 10000) : mkIns (pg P (n + 1)) 3 1 [.int rate] h = .ok (.ref h.length) (.lst [] :: .lst [] :: leO (h.length + 1) (h.length + 2) (newG rate) :: h) := by
  unfold mkIns
  have e : pg P (n + 1) 0 1 [.ref h.length, .int rate] (.ins 3 [] :: h) = .ok .non (.lst [] :: .lst [] :: leO (h.length + 1) (h.length + 2) (newG rate) :: h) := by
    rw [ap_runDef p_Ledger___init__ rfl]
    generalize pg P n = φ at *
    have gc : gcRet (.ins 3 [] :: h) .non (.lst [] :: .lst [] :: leO (h.length + 1) (h.length + 2) (newG rate) :: h) = .ok .non (.lst [] :: .lst [] :: leO (h.length + 1) (h.length + 2) (newG rate) :: h) := by
      refine gcRet_keep .non (i := h.length) (u := leO (h.length + 1) (h.length + 2) (newG rate)) (by simp <;> omega) (by simp) ?_ ?_ ?_
      · rw [hget_cons, if_neg (by simp <;> omega), hget_cons, if_neg (by simp), hget_cons, if_pos rfl]
      · simp [leO, AO.under, AV.underF, AV.under]
      · rw [hget_cons, if_pos rfl]
        simp [leO]
    have k1 : ¬ (h.length = h.length + 1) := by omega
    have k2 : ¬ (h.length = h.length + 1 + 1) := by omega
    simp -implicitDefEqProofs [TX.start, f_Ledger___init__, hr.1, hr.2, f_Ledger___init___1, f_Ledger___init___2, f_Ledger___init___3, f_Ledger___init___4, f_Ledger___init___5, f_Ledger___init___6, f_Ledger___init___7, f_Ledger___init__, setF, fput, mkLst, mk, hget_cons, hset, k1, k2]
    exact gc
  rw [e]
theorem make_led {rate : Int} : Led (.lst [] :: .lst [] :: leO (h.length + 1) (h.length + 2) (newG rate) :: h) h.length (h.length + 1) (h.length + 2) [] (newG rate) := by
  refine ⟨?_, ?_, ?_, rfl, fun p hp => by simp at hp, by simp [List.nodup_cons]⟩
  · rw [hget_cons, if_neg (by simp <;> omega), hget_cons, if_neg (by simp), hget_cons, if_pos rfl]
  · rw [hget_cons, if_neg (by simp), hget_cons, if_pos (by simp)]
    rfl
  · rw [hget_cons, if_pos (by simp)]
    rfl
/-- a ledger with no rate -/
structure Fu (g : Lg) (i : Nat) : Prop where
  len : g.debts.length = i
  sum : (g.debts.map (·.2.2)).sum = i
  pays : g.pays = []
  rate : g.rate = 0
  credit : g.credit = 0
  interest : g.interest = 0
  rest : g.rest = 0
  day : 0 ≤ g.day ∧ g.day ≤ i
theorem days_zero {g : Lg} (h1 : g.rate = 0) (h2 : g.interest = 0) (h3 : g.rest = 0) : ∀ k, (days g k).interest = 0 ∧ (days g k).rest = 0
  | 0 => ⟨h2, h3⟩
  | k + 1 => by
    obtain ⟨e1, e2⟩ := days_zero h1 h2 h3 k
    have e3 := (days_same g k).2.2.1
    show (days g k).interest + ((days g k).rest + dueS (days g k).debts ((days g k).day + 1) * (days g k).rate) / 3650000 = 0 ∧ ((days g k).rest + dueS (days g k).debts ((days g k).day + 1) * (days g k).rate) % 3650000 = 0
    rw [e1, e2, e3, h1]
    simp
theorem fu_step {i : Nat} (f : Fu g i) : Fu (oweN g i 1 i) (i + 1) := by
  obtain ⟨g1, g2, g3, g4⟩ := goN_same g (i : Int)
  obtain ⟨z1, z2⟩ := days_zero f.rate f.interest f.rest ((i : Int) - g.day).toNat
  have dd := goN_day f.day.2
  have fl := f.len
  have fs := f.sum
  refine ⟨?_, ?_, ?_, ?_, ?_, z1, z2, ?_⟩
  · show (g.debts ++ [((i : Int), 1, 1 - min g.credit 1)]).length = i + 1
    rw [List.length_append, fl]
    rfl
  · show ((g.debts ++ [((i : Int), (1 : Int), 1 - min g.credit 1)]).map (·.2.2)).sum = ((i + 1 : Nat) : Int)
    rw [List.map_append, sum_append, fs, f.credit]
    simp
    rfl
  · show (goN g i).pays = []
    rw [g2, f.pays]
  · show (goN g i).rate = 0
    rw [g3, f.rate]
  · show g.credit - min g.credit 1 = 0
    rw [f.credit]
    rfl
  · show 0 ≤ (goN g i).day ∧ (goN g i).day ≤ ((i + 1 : Nat) : Int)
    rw [dd]
    push_cast
    omega
theorem full_ok {h2 : AH} (a : Led h2 L D Pm [] (newG 0)) (hl : L < D ∧ L < Pm ∧ L ≤ h2.length) {x0 : Option AV} :
    ∃ x2 h3 ds g, forGo (pg P (n + 3)) (gN 2) f__law_plain_1 [] (rng 0 300) [x0, some (.ref L), none, none, none, none] h2 = .ok (.nx [x0, some (.ref L), x2, none, none, none]) h3 ∧
      Led h3 L D Pm ds g ∧ Fu g 300 ∧ h2.length ≤ h3.length ∧ (∀ j ∈ foot L D Pm ds, L ≤ j) ∧ ∀ j, j < L → hget h3 j = hget h2 j := by
  obtain ⟨s3, h3, e, x2, ds, g, es, al, fu, hle, hf, fr⟩ := for_rng (φ := pg P (n + 3)) (g := gN 2) (b := f__law_plain_1) (lo := 0)
    (fun i s h' => ∃ x2 ds g, s = [x0, some (.ref L), x2, none, none, none] ∧ Led h' L D Pm ds g ∧ Fu g i ∧ h2.length ≤ h'.length ∧ (∀ j ∈ foot L D Pm ds, L ≤ j) ∧ ∀ j, j < L → hget h' j = hget h2 j)
    (k := 300) (s := [x0, some (.ref L), none, none, none, none]) (h := h2)
    (fun i hi s h' ⟨x2, ds, g, es, al, fu, hle, hf, fr⟩ => by
      subst es
      have fl := fu.len
      have dl : ds.length = i := by rw [← fl, al.e, List.length_map]
      have hb : (ckB g i 1 || decide ((i : Int) < i)) = false := by
        have := fu.day
        simp only [ckB, Bool.or_eq_false_iff, decide_eq_false_iff_not]
        rw [fl, fu.pays]
        simp
        omega
      have ow := owe_ok (n := n + 1) al hb (by rw [fu.credit]; exact Int.le_refl _) (by have := fu.day; omega) (by rw [fu.rate]; decide) (by omega)
      have a2 := owe_led al (day := i) (am := 1) (due := i)
      have fr2 := fun j (h1 : j < h'.length) h2 h3 => owe_frame (L := L) (D := D) (Pm := Pm) (ds := ds) (g := g) (day := i) (am := 1) (due := i) (j := j) h1 h2 h3
      have l2 := owe_len (h := h') (L := L) (D := D) (Pm := Pm) (ds := ds) (g := g) (day := i) (am := 1) (due := i)
      generalize oweH h' L D Pm ds g i 1 i = h4 at *
      have q := insL al.l
      refine ⟨_, _, h4, rfl, .inl ?_, some (.int (0 + (i : Int))), _, _, rfl, a2, fu_step fu, by omega, fun j hj => ?_, fun j hj => ?_⟩
      · generalize pg P (n + 3) = φ at *
        simp -implicitDefEqProofs [f__law_plain_1, gN, q, fsO, fget, ow]
      · simp only [foot, List.map_append, List.map_cons, List.map_nil, List.mem_cons, List.mem_append, List.not_mem_nil, or_false] at hj
        rcases hj with hj | hj | hj | hj | hj
        · omega
        · omega
        · omega
        · exact hf j (by simp only [foot, List.mem_cons]; exact .inr (.inr (.inr hj)))
        · omega
      · rw [fr2 j (by omega) (by omega) (by omega), fr j hj])
    ⟨none, [], newG 0, rfl, a, ⟨rfl, rfl, rfl, rfl, rfl, rfl, rfl, by show (0 : Int) ≤ 0 ∧ (0 : Int) ≤ 0; decide⟩, Nat.le_refl _, fun j hj => by
      simp only [foot, List.map_nil, List.mem_cons, List.not_mem_nil, or_false] at hj
      omega, fun _ _ => rfl⟩
  subst es
  exact ⟨x2, h3, ds, g, e, al, fu, hle, hf, fr⟩
end
end K08

set_option Elab.async false
set_option linter.all false
set_option autoImplicit false
set_option maxRecDepth 100000
set_option maxHeartbeats 4000000
namespace K08
open TX TL
def G0 : Lg := newG 3650
def G1 : Lg := oweN G0 0 100000 10
def G2 : Lg := goN G1 10
def G3 : Lg := payN G2 20 50000
theorem cG2 : G2.interest = 0 := by decide +kernel
theorem cV : payV G2 20 50000 = .tup [.int 1000, .tup [.tup [.int 0, .int 49000]], .int 0] := by decide +kernel
theorem cB : balN G3 = 51000 := by decide +kernel
theorem cP : ((planL 51000 7).reverse.map AV.int) = [.int 7285, .int 7285, .int 7286, .int 7286, .int 7286, .int 7286, .int 7286] := by decide +kernel
theorem cC : comp 500 100 2 = 110 := by decide +kernel
theorem cO : overL G3.debts 20 = [.tup [.int 0, .int 10, .int 51000]] := by decide +kernel
theorem ck3 : ckB G3 20 1 = false := by decide +kernel
theorem day3 : ∀ d ∈ G3.debts, 0 ≤ d.1 := by decide +kernel
theorem nt1 (h : AH) : cmpA .ne (.tup [.int 1000, .tup [.tup [.int 0, .int 49000]], .int 0]) (.tup [.int 1000, .tup [.tup [.int 0, .int 49000]], .int 0]) h = .ok (.bl false) h := rfl
theorem nt2 (h : AH) : cmpA .eq (.tup [.tup [.int 0, .int 10, .int 51000]]) (.tup [.tup [.int 0, .int 10, .int 51000]]) h = .ok (.bl true) h := rfl
theorem plain_ok : ∃ h, pg P 8 0 17 [] [] = .ok (.bl true) h := by
  have m1 := make_ok (n := 6) (rate := 3650) (h := []) (by decide)
  have m2 := fun h => make_ok (n := 6) (rate := 0) (h := h) (by decide)
  have al := make_led (rate := 3650) (h := [])
  have af := make_led (rate := 0) (h := .lst [] :: .lst [] :: leO 1 2 (newG 3650) :: [])
  have m2 := m2 (.lst [] :: .lst [] :: leO 1 2 (newG 3650) :: [])
  have al : Led (.lst [] :: .lst [] :: leO 4 5 (newG 0) :: .lst [] :: .lst [] :: leO 1 2 (newG 3650) :: []) 0 1 2 [] (newG 3650) := by
    refine al.frame fun j hj => ?_
    simp [foot] at hj
    rcases hj with rfl | rfl | rfl <;> rfl
  obtain ⟨x2, h3, ds, g, ef, a3, fu, hle, hf, fr⟩ := full_ok (n := 4) af (x0 := some (.ref 0)) (by simp)
  simp only [List.length_cons, List.length_nil] at m1 m2 ef a3 hle hf fr
  have al : Led h3 0 1 2 [] G0 := al.frame fun j hj => fr j (by simp [foot] at hj; omega)
  have dl : ds.length = 300 := by rw [← fu.len, a3.e, List.length_map]
  have b1 := make_bad (n := 6) (rate := -1) (h := h3) (by omega)
  have b2 := make_bad (n := 6) (rate := 10001) (h := .ins 3 [] :: h3) (by omega)
  have al : Led (.ins 3 [] :: .ins 3 [] :: h3) 0 1 2 [] G0 := al.frame fun j hj => by
    have := al.lt j hj
    rw [hget_cons, if_neg (by simp; omega), hget_cons, if_neg (by omega)]
  have af : Led (.ins 3 [] :: .ins 3 [] :: h3) 3 4 5 ds g := a3.frame fun j hj => by
    have := a3.lt j hj
    rw [hget_cons, if_neg (by simp; omega), hget_cons, if_neg (by omega)]
  generalize hh : (AO.ins 3 [] :: .ins 3 [] :: h3) = h4 at *
  have c1 := owe_bad (n := 5) al (day := -1) (am := 5) (due := 5) (by decide)
  have c2 := owe_bad (n := 5) al (day := 5) (am := 0) (due := 5) (by decide)
  have c3 := owe_bad (n := 5) al (day := 5) (am := 5) (due := 4) (by decide)
  have c4 := pay_bad (n := 5) al (day := 5) (am := 0) (by decide)
  have c5 := go_bad (n := 6) al (day := -1) (by decide)
  have c6 := refund_bad (n := 5) al (day := 5) (by decide)
  have c7 := plan_bad (n := 5) al (by decide) (m := 5) (how := [102, 105, 114, 115, 116]) (.inr (.inr (.inr (by decide))))
  have ckf : ckB g 400 1 = true := by
    simp only [ckB, Bool.or_eq_true, decide_eq_true_eq]
    rw [fu.len, fu.pays]
    exact .inr (by decide)
  have c8 := owe_bad (n := 5) af (day := 400) (am := 1) (due := 400) (by rw [ckf]; rfl)
  have c9 := pay_bad (n := 5) af (day := 400) (am := 1) ckf
  have c10 := plan_bad (n := 5) af (by omega) (m := 0) (how := [102, 105, 114, 115, 116]) (.inl (by decide))
  have c11 := plan_bad (n := 5) af (by omega) (m := 121) (how := [102, 105, 114, 115, 116]) (.inr (.inl (by decide)))
  have c12 := plan_bad (n := 5) af (by omega) (m := 5) (how := [109, 105, 100, 100, 108, 101]) (.inr (.inr (.inl (by decide))))
  have c13 := comp_bad (n := 6) (h := h4) (am := -1) (rate := 1) (ys := 1) (by omega)
  have c14 := comp_bad (n := 6) (h := h4) (am := 1) (rate := -1) (ys := 1) (by omega)
  have c15 := comp_bad (n := 6) (h := h4) (am := 1) (rate := 1) (ys := 101) (by omega)
  have q4 := insL al.l
  have qf := insL af.l
  have fd : fldA [3] [100, 101, 98, 116, 115] (.ref 0) h4 = some (.ref 1) := by rw [fldL al.l]; rfl
  have ne0 : cmpA .ne (.ref 1) (.lst []) h4 = .ok (.bl false) h4 := by
    show (match (match hget h4 1 with | some (.lst xs) => some (AV.lst xs) | _ => none), some (AV.lst []) with | some a, some b => someB (notO (eqA a b)) h4 | _, _ => .stuck) = _
    rw [al.d]
    rfl
  -- the small ledger
  have ow := owe_ok (n := 5) al (day := 0) (am := 100000) (due := 10) (by decide) (by decide) (by decide) (by decide) (by decide)
  have a5 := owe_led al (day := 0) (am := 100000) (due := 10)
  have f5 : Led (oweH h4 0 1 2 [] G0 0 100000 10) 3 4 5 ds g := af.frame fun j hj => owe_frame (af.lt j hj) (by have := hf j hj; omega) (by have := hf j hj; omega)
  have l5 := owe_len (h := h4) (L := 0) (D := 1) (Pm := 2) (ds := []) (g := G0) (day := 0) (am := 100000) (due := 10)
  rw [List.nil_append] at a5
  have a5 : Led (oweH h4 0 1 2 [] G0 0 100000 10) 0 1 2 [(h4.length, (10, 100000, 100000 - min G0.credit 100000))] G1 := a5
  generalize oweH h4 0 1 2 [] G0 0 100000 10 = h5 at *
  have go := go_ok (n := 6) a5 (day := 10) (by decide +kernel) (by decide +kernel) (by decide +kernel) (by simp)
  have a6 : Led (hset h5 0 (leO 1 2 G2)) 0 1 2 [(h4.length, (10, 100000, 100000 - min G0.credit 100000))] G2 := a5.num (goN_same G1 10).1 (goN_same G1 10).2.1
  have f6 : Led (hset h5 0 (leO 1 2 G2)) 3 4 5 ds g := f5.frame fun j hj => by rw [hget_set_ne (by have := hf j hj; omega)]
  have l6 : (hset h5 0 (leO 1 2 G2)).length = h5.length := by simp
  have go : pg P 7 0 4 [.ref 0, .int 10] h5 = .ok .non (hset h5 0 (leO 1 2 G2)) := go
  generalize hset h5 0 (leO 1 2 G2) = h6 at *
  have q5 := insL a5.l
  have q6 := insL a6.l
  have fi : fldA [3] [105, 110, 116, 101, 114, 101, 115, 116] (.ref 0) h6 = some (.int 0) := by
    rw [fldL a6.l, ← cG2]
    rfl
  obtain ⟨h7, ds7, py, a7, em, fr1, fr2⟩ := pay_ok (n := 5) a6 (day := 20) (am := 50000) (by decide +kernel) (by decide +kernel) (by decide +kernel) (by simp) (by decide +kernel)
  rw [cV] at py
  have a7 : Led h7 0 1 2 ds7 G3 := a7
  have f7 : Led h7 3 4 5 ds g := f6.frame fun j hj => fr2 j (f6.lt j hj) fun hx => by
    have h1 := hf j hj
    have h2 := af.lt j hj
    simp [foot] at hx
    omega
  have l7 : ds7.length = 1 := by
    have := congrArg List.length em
    simpa using this
  have q7 := insL a7.l
  have qf7 := insL f7.l
  have ba := bal_ok (n := 6) a7 (by omega)
  rw [cB] at ba
  have pl := plan_ok (n := 5) a7 (by omega) (m := 7) false (by decide) (by rw [cB]; decide)
  simp only [cB, last, Bool.false_eq_true, if_false] at pl
  rw [cP] at pl
  have ck := check_ok (n := 6) a7 (day := 20) (am := 1)
  rw [ck3, if_neg (by decide)] at ck
  have co := comp_ok (n := 5) (h := h7) (am := 100) (rate := 500) (ys := 2) (by decide) (by decide) (by decide) (by decide)
  have co : pg P 7 0 11 [.int 100, .int 500, .int 2] h7 = .ok (.int 110) h7 := by rw [co]; rfl
  have bf := bal_ok (n := 6) f7 (by omega)
  have bfv : balN g = 300 := by
    unfold balN
    rw [fu.sum, fu.interest, fu.credit]
    rfl
  rw [bfv] at bf
  have ov := over_ok (n := 6) a7 (day := 20) (by omega) day3
  rw [cO] at ov
  rw [ap_runDef p__law_plain rfl]
  have k1 := rngOk_of (i := 300) (by decide) (by decide)
  have rn : ∀ (o : Out AV), True := fun _ => trivial
  generalize pg P 7 = φ at *
  simp -implicitDefEqProofs [TX.start, f__law_plain, m1, m2, gT, gsCons, gsNil, gN]
  simp -implicitDefEqProofs [f__law_plain_10, k1, gN, ef]
  simp -implicitDefEqProofs [f__law_plain_9, toldAll, told, ctOf, b1, b2, hh, q4, qf, fsO, fget, c1, c2, c3, c4, c5, c6, c7, c8, c9, c10, c11, c12, c13, c14, c15, fd, ne0, mkLst, mk]
  simp -implicitDefEqProofs [f__law_plain_8, q4, fsO, fget, ow, f__law_plain_7, q5, go, f__law_plain_6, fi, gN]
  simp -implicitDefEqProofs [f__law_plain_5, q6, fsO, fget, py, nt1, q7, ba]
  simp -implicitDefEqProofs [f__law_plain_4, q7, fsO, fget, pl, idxA, atI, ixN, seqOf]
  simp -implicitDefEqProofs [f__law_plain_3, q7, fsO, fget, ck, co, qf7, bf]
  simp -implicitDefEqProofs [f__law_plain_2, q7, fsO, fget, ov, nt2]
  skip
end K08

set_option Elab.async false
set_option linter.all false
set_option autoImplicit false
set_option maxRecDepth 100000
set_option maxHeartbeats 4000000
namespace K08
open TX TL
theorem one_round (ns : List Int) : ∃ d : D3, pg P 8 0 14 [.scr (ns.map .int), .int 1] [] = .ok (.lst [.ref 0]) (hd [] d) := rounds_hd (P := P) (q := 14) (qd := 12) (n := 6) p__law_dice p__law_rounds ns
theorem tail' {φ : Fn} {h : AH} (s : St) (e : φ 0 17 [] [] = .ok (.bl true) h) : saysTrue (f_law_24 φ s []) = true := by
  simp -implicitDefEqProofs [f_law_24, e]
  rfl
theorem tail : saysTrue (f_law_24 (pg P 8) (List.replicate 15 none) []) = true := by
  obtain ⟨h, e⟩ := plain_ok
  exact tail' _ e
def os0 (rate : Int) : AH := [.lst [], .lst [], leO 5 6 (newG rate), ownO 1 2 (newG rate), .lst [], .lst []]
theorem init_sy (rate : Int) (d : D3) : Sy (hd (os0 rate) d) 4 5 6 [] 3 1 2 (newG rate) := by
  unfold os0
  refine ⟨⟨?_, ?_, ?_, rfl, fun p hp => by simp at hp, by simp⟩, ⟨?_, ?_, ?_, by decide⟩, by simp [foot], by simp [foot]⟩
  · simp
  · simp
  · simp [newG]
  · simp
  · simp [newG]
  · simp [newG]
theorem init_inv {rate : Int} (l : 0 ≤ rate) (u : rate ≤ 10000) : Inv (newG rate) 0 :=
  ⟨⟨l, u⟩, by show (0 : Int) ≤ 0 ∧ (0 : Int) ≤ 90000 * 0; decide, by show (0 : Int) ≤ 0 ∧ (0 : Int) ≤ 60 * 0; decide, by show (0 : Int) ≤ 0 ∧ (0 : Int) ≤ 10000 * 0; decide, by show (0 : Int) ≤ 0 ∧ (0 : Int) < 3650000; decide, fun d hd => by simp [newG] at hd, fun p hp => by simp [newG] at hp, Nat.le_refl _, by decide⟩
theorem law (ns : List Int) : Yes (pg P 9 0 19 [.scr (ns.map .int)] []) := by
  obtain ⟨d, e0⟩ := one_round ns
  obtain ⟨rate, d1, r1, l1, u1⟩ := rr (n := 7) d 10001 (by decide) (by decide)
  obtain ⟨v, d2, r2, l2, u2⟩ := rr (n := 7) d1 21 (by decide) (by decide)
  have r2 := r2 (os0 rate)
  have md : ∀ h, mkD true (putsL [] [(.str [114, 97, 116, 101], .int rate), (.str [100, 101, 98, 116, 115], .ref 1), (.str [112, 97, 105, 100], .ref 2), (.str [99, 114, 101, 100, 105, 116], .int 0), (.str [105, 110, 116, 101, 114, 101, 115, 116], .int 0), (.str [100, 97, 121], .int 0), (.str [116, 111, 112], .int 0)]) h = .ok (.ref h.length) (ownO 1 2 (newG rate) :: h) := fun h => rfl
  have mk_ := make_ok (n := 7) (rate := rate) (h := hd [ownO 1 2 (newG rate), .lst [], .lst []] d1) ⟨l1, by omega⟩
  have mk_ : mkIns (pg P 8) 3 1 [.int rate] (hd [ownO 1 2 (newG rate), .lst [], .lst []] d1) = .ok (.ref 4) (hd [.lst [], .lst [], leO 5 6 (newG rate), ownO 1 2 (newG rate), .lst [], .lst []] d1) := mk_
  have g0 : idxA (.ref 3) (.str [114, 97, 116, 101]) (hd [ownO 1 2 (newG rate), .lst [], .lst []] d1) = some (.int rate) := getO (O := 3) (d := 1) (p := 2) (g := newG rate) rfl _
  have k1 := rngOk_of (i := v) (by omega) (by omega)
  obtain ⟨s3, h3, e3, w, x5, x6, x7, x8, x9, x10, x11, x12, d3, ds, ee, pp, g, es, ed, sy, iv⟩ := for_rng (φ := pg P 8) (g := gN 5) (b := f_law_19) (lo := 0)
    (fun k s h' => ∃ (w : Int) (x5 x6 x7 x8 x9 x10 x11 x12 : Option AV) (d : D3) (ds : List (Nat × Dt)) (e p : Nat) (g : Lg), s = [some (.scr (ns.map .int)), some (.ref 0), some (.ref 3), some (.ref 4), some (.int w), x5, x6, x7, x8, x9, x10, x11, x12, none, none] ∧ hget h' 0 = some (dO d) ∧ Sy h' 4 5 6 ds 3 e p g ∧ Inv g k)
    (k := v.toNat) (s := [some (.scr (ns.map .int)), some (.ref 0), some (.ref 3), some (.ref 4), some (.int 0), none, none, none, none, none, none, none, none, none, none]) (h := hd (os0 rate) d2)
    (fun i hi s h' ⟨w, x5, x6, x7, x8, x9, x10, x11, x12, d, ds, e, p, g, es, ed, sy, iv⟩ => by
      subst es
      obtain ⟨os, rfl⟩ := hd_of ed
      obtain ⟨d', w2, y6, y7, y8, y9, y10, y11, y12, h2, ds2, e2, p2, g2, eo, z, sy2, iv2⟩ := step_ok (n := 5) sy iv (by omega) (x0 := some (.scr (ns.map .int))) (x5 := some (.int (0 + (i : Int)))) (x6 := x6) (x7 := x7) (x8 := x8) (x9 := x9) (x10 := x10) (x11 := x11) (x12 := x12) (w := w)
      exact ⟨_, _, h2, rfl, .inl eo, w2, _, y6, y7, y8, y9, y10, y11, y12, d', ds2, e2, p2, g2, rfl, by rw [z]; exact hget_dice _ _, sy2, iv2⟩)
    ⟨0, none, none, none, none, none, none, none, none, d2, [], 1, 2, newG rate, rfl, hget_dice _ _, init_sy rate d2, init_inv l1 (by omega)⟩
  subst es
  obtain ⟨os, rfl⟩ := hd_of ed
  obtain ⟨d4, te⟩ := tells_ok (n := 4) sy iv
  have tl_ := tail
  rw [ap_runDef p_law rfl]
  generalize pg P 8 = φ at *
  have tl2 : ∀ (S : St) (h : AH), S.length = 15 → sCl f_law_24 φ S h = .ok (.rt (.bl true)) h := fun S h hS => cl_true h tl_ hS
  have r1a := r1 []
  unfold os0 at r2 e3
  simp -implicitDefEqProofs [TX.start, f_law, e0, forGo, gN]
  simp -implicitDefEqProofs [f_law_23, r1a, mkLst, mk, md, gN, f_law_22, g0, mk_, gT, gsCons, gsNil, f_law_21, r2, k1, e3, f_law_20, te, tl2]
end K08

/-! TxB: how values and abstract heaps stand for the layer's -/
set_option Elab.async false
set_option linter.all false
set_option maxRecDepth 100000
set_option autoImplicit false
namespace TX
open PySem PySem.Spec PyProof.Rows
open L2 (V HO Hp Key upd upd_same upd_ne SqL SqT Rd HOk Cx Inv PE PT PS PSs PG PI PA TE TT TS VK XK WX Takes Ends EP)

def toS (t : Tx) : Str := ⟨t.toArray⟩
theorem toS_list (t : Tx) : (toS t).cps.toList = t := by simp [toS]
theorem toS_len (t : Tx) : (toS t).length = t.length := by simp [toS, Str.length]
theorem toS_inj {a b : Tx} (h : toS a = toS b) : a = b := by
  have := congrArg (fun s : Str => s.cps.toList) h
  simpa [toS] using this
theorem toS_of (s : Str) : toS s.cps.toList = s := by cases s; simp [toS]

/-- what is known of the text: the written part, the classes' places, the fields' names; the tables of code objects (lambdas', generators') -/
structure Cfg where
  K : PySem.W.Frag
  cA : Nat → Addr
  tl : List (Addr × Str)
  tg : List Addr

/-- which object stands where; which objects never change -/
structure Gh where
  n : Nat
  at_ : Nat → Addr
  fx : Hp
  kx : Hp
structure Ext (g g' : Gh) : Prop where
  n : g.n ≤ g'.n
  at_ : ∀ i, i < g.n → g'.at_ i = g.at_ i
  fx : ∀ a o, g.fx a = some o → g'.fx a = some o
  kx : ∀ a o, g.kx a = some o → g'.kx a = some o
theorem Ext.refl (g : Gh) : Ext g g := ⟨Nat.le_refl _, fun _ _ => rfl, fun _ _ h => h, fun _ _ h => h⟩
theorem Ext.trans {g g1 g2 : Gh} (a : Ext g g1) (b : Ext g1 g2) : Ext g g2 :=
  ⟨Nat.le_trans a.n b.n, fun i hi => (b.at_ i (Nat.lt_of_lt_of_le hi a.n)).trans (a.at_ i hi), fun p o h => b.fx p o (a.fx p o h), fun p o h => b.kx p o (a.kx p o h)⟩

def KeyR : AV → Key → Prop
  | .int i, k => k = .inl i
  | .str s, k => k = .inr (toS s)
  | _, _ => False

mutual
def RelA (C : Cfg) (g : Gh) : AV → V → Prop
  | .non, v => v = .non
  | .bl b, v => v = .bl b
  | .int i, v => v = .int i
  | .str s, v => v = .str (toS s)
  | .tup xs, v => ∃ a vs, v = .ref a ∧ SqT C.K g.fx a vs ∧ RelL C g xs vs
  | .lst xs, v => ∃ a vs, v = .ref a ∧ g.fx a = some (.lst vs) ∧ RelL C g xs vs
  | .dct kvs, v => ∃ a us, v = .ref a ∧ g.fx a = some (.dK us) ∧ RelP C g kvs us
  | .ref i, v => i < g.n ∧ v = .ref (g.at_ i)
  | .scr xs, v => ∃ a vs, v = .ref a ∧ SqL C.K g.fx a vs ∧ RelL C g xs vs
def RelL (C : Cfg) (g : Gh) : List AV → List V → Prop
  | [], vs => vs = []
  | x :: xs, vs => ∃ v r, vs = v :: r ∧ RelA C g x v ∧ RelL C g xs r
def RelP (C : Cfg) (g : Gh) : List (AV × AV) → List (Key × V) → Prop
  | [], vs => vs = []
  | (k, x) :: xs, vs => ∃ k' v r, vs = (k', v) :: r ∧ KeyR k k' ∧ RelA C g x v ∧ RelP C g xs r
end
def RelF (C : Cfg) (g : Gh) : List (Tx × AV) → List (Str × V) → Prop
  | [], vs => vs = []
  | (f, x) :: xs, vs => ∃ v r, vs = (toS f, v) :: r ∧ RelA C g x v ∧ RelF C g xs r
def RelO (C : Cfg) (g : Gh) : AO → HO → Prop
  | .lst xs, u => ∃ vs, u = .lst vs ∧ RelL C g xs vs
  | .dct kvs, u => ∃ us, u = .dK us ∧ RelP C g kvs us
  | .ins c fs, u => ∃ dx us, u = .ins (C.cA c) dx us ∧ RelF C g fs us

/-- an object that never changes is a tuple, a list, a dict, or what is known -/
def Fz : HO → Prop
  | .lst _ => True
  | .tup _ => True
  | .dK _ => True
  | .frz _ _ => True
  | _ => False
/-- the tables of code objects -/
def Sys (C : Cfg) (H : Hp) : Prop := LamX.Tabs C.tl H ∧ ∀ P ∈ C.tg, ∃ ps : Array Value, H P = some (.tbl ps) ∧ TriplesOk ps.toList
structure Rep (C : Cfg) (g : Gh) (h : AH) (H : Hp) : Prop where
  n : g.n = h.length
  fx : ∀ a o, g.fx a = some o → H a = some o ∧ Fz o
  inj : ∀ i j, i < g.n → j < g.n → g.at_ i = g.at_ j → i = j
  dis : ∀ i, i < g.n → g.fx (g.at_ i) = none
  obj : ∀ i o, hget h i = some o → ∃ u, H (g.at_ i) = some u ∧ RelO C g o u
  sys : Sys C H
  kx : ∀ a o, g.kx a = some o → H a = some o ∧ g.fx a = none ∧ ((∃ xs, o = .lst xs) ∨ (∃ us, o = .dK us) ∨ (∃ c dx us, o = .ins c dx us) ∨ ∃ c q, o = LamX.CodeO c q)
  kd : ∀ i, i < g.n → g.kx (g.at_ i) = none

theorem hget_new (o : AO) (h : AH) : hget (o :: h) h.length = some o := by simp [hget]
theorem hget_old {o : AO} {h : AH} {i : Nat} (e : i < h.length) : hget (o :: h) i = hget h i := by
  unfold hget
  rw [if_neg (by omega)]
  cases h <;> rfl
theorem hget_drop : ∀ {k : Nat} {h : AH} {i : Nat}, i < (h.drop k).length → hget (h.drop k) i = hget h i
  | 0, _, _, _ => rfl
  | k + 1, [], _, e => by simp at e
  | k + 1, o :: h, i, e => by
    simp only [List.drop_succ_cons] at e ⊢
    rw [hget_drop e]
    have : i < h.length := by simp at e; omega
    rw [hget_old this]

/-! ### what is written of a value stays -/
theorem SqT.mono {K : PySem.W.Frag} {H H' : Hp} {a : Addr} {xs : List V} (k : ∀ b o, H b = some o → H' b = some o) (h : SqT K H a xs) : SqT K H' a xs := by
  rcases h with (h | ⟨o, h⟩) | h
  · exact .inl (.inl (k _ _ h))
  · exact .inl (.inr ⟨o, k _ _ h⟩)
  · exact .inr h
theorem SqL.mono {K : PySem.W.Frag} {H H' : Hp} {a : Addr} {xs : List V} (k : ∀ b o, H b = some o → H' b = some o) (h : SqL K H a xs) : SqL K H' a xs := by
  rcases h with (h | ⟨o, h⟩) | h
  · exact .inl (.inl (k _ _ h))
  · exact .inl (.inr ⟨o, k _ _ h⟩)
  · exact .inr h
section
variable {C : Cfg} {g g' : Gh}
mutual
theorem RelA.mono (e : Ext g g') : ∀ {x : AV} {v : V}, RelA C g x v → RelA C g' x v
  | .non, _, h => h
  | .bl _, _, h => h
  | .int _, _, h => h
  | .str _, _, h => h
  | .tup xs, _, h => by
    simp only [RelA] at h ⊢
    obtain ⟨a, vs, h1, h2, h3⟩ := h
    exact ⟨a, vs, h1, SqT.mono e.fx h2, RelL.mono e h3⟩
  | .lst xs, _, h => by
    simp only [RelA] at h ⊢
    obtain ⟨a, vs, h1, h2, h3⟩ := h
    exact ⟨a, vs, h1, e.fx _ _ h2, RelL.mono e h3⟩
  | .dct kvs, _, h => by
    simp only [RelA] at h ⊢
    obtain ⟨a, vs, h1, h2, h3⟩ := h
    exact ⟨a, vs, h1, e.fx _ _ h2, RelP.mono e h3⟩
  | .ref i, _, h => by
    simp only [RelA] at h ⊢
    exact ⟨Nat.lt_of_lt_of_le h.1 e.n, by rw [e.at_ i h.1]; exact h.2⟩
  | .scr xs, _, h => by
    simp only [RelA] at h ⊢
    obtain ⟨a, vs, h1, h2, h3⟩ := h
    exact ⟨a, vs, h1, SqL.mono e.fx h2, RelL.mono e h3⟩
theorem RelL.mono (e : Ext g g') : ∀ {x : List AV} {v : List V}, RelL C g x v → RelL C g' x v
  | [], _, h => h
  | x :: xs, _, h => by
    simp only [RelL] at h ⊢
    obtain ⟨v, r, h1, h2, h3⟩ := h
    exact ⟨v, r, h1, RelA.mono e h2, RelL.mono e h3⟩
theorem RelP.mono (e : Ext g g') : ∀ {x : List (AV × AV)} {v : List (Key × V)}, RelP C g x v → RelP C g' x v
  | [], _, h => h
  | (k, x) :: xs, _, h => by
    simp only [RelP] at h ⊢
    obtain ⟨k', v, r, h1, h2, h3, h4⟩ := h
    exact ⟨k', v, r, h1, h2, RelA.mono e h3, RelP.mono e h4⟩
end
theorem RelF.mono (e : Ext g g') : ∀ {x : List (Tx × AV)} {v : List (Str × V)}, RelF C g x v → RelF C g' x v
  | [], _, h => h
  | (k, x) :: xs, _, h => by
    simp only [RelF] at h ⊢
    obtain ⟨v, r, h1, h2, h3⟩ := h
    exact ⟨v, r, h1, RelA.mono e h2, RelF.mono e h3⟩
theorem RelO.mono (e : Ext g g') : ∀ {x : AO} {v : HO}, RelO C g x v → RelO C g' x v
  | .lst _, _, ⟨vs, h1, h2⟩ => ⟨vs, h1, h2.mono e⟩
  | .dct _, _, ⟨vs, h1, h2⟩ => ⟨vs, h1, h2.mono e⟩
  | .ins _ _, _, ⟨dx, vs, h1, h2⟩ => ⟨dx, vs, h1, h2.mono e⟩

/-- fewer objects: a value that names none of the others -/
def Gh.cutN (g : Gh) (n : Nat) : Gh := { g with n := n }
mutual
theorem RelA.cutN {n : Nat} : ∀ {x : AV} {v : V}, AV.under n x = true → RelA C g x v → RelA C (g.cutN n) x v
  | .non, _, _, h => h
  | .bl _, _, _, h => h
  | .int _, _, _, h => h
  | .str _, _, _, h => h
  | .tup xs, _, u, h => by
    simp only [AV.under] at u
    simp only [RelA] at h ⊢
    obtain ⟨a, vs, h1, h2, h3⟩ := h
    exact ⟨a, vs, h1, h2, RelL.cutN u h3⟩
  | .lst xs, _, u, h => by
    simp only [AV.under] at u
    simp only [RelA] at h ⊢
    obtain ⟨a, vs, h1, h2, h3⟩ := h
    exact ⟨a, vs, h1, h2, RelL.cutN u h3⟩
  | .dct kvs, _, u, h => by
    simp only [AV.under] at u
    simp only [RelA] at h ⊢
    obtain ⟨a, vs, h1, h2, h3⟩ := h
    exact ⟨a, vs, h1, h2, RelP.cutN u h3⟩
  | .ref i, _, u, h => by
    simp only [AV.under, decide_eq_true_eq] at u
    simp only [RelA] at h ⊢
    exact ⟨u, h.2⟩
  | .scr xs, _, u, h => by
    simp only [AV.under] at u
    simp only [RelA] at h ⊢
    obtain ⟨a, vs, h1, h2, h3⟩ := h
    exact ⟨a, vs, h1, h2, RelL.cutN u h3⟩
theorem RelL.cutN {n : Nat} : ∀ {x : List AV} {v : List V}, AV.underL n x = true → RelL C g x v → RelL C (g.cutN n) x v
  | [], _, _, h => h
  | x :: xs, _, u, h => by
    simp only [AV.underL, Bool.and_eq_true] at u
    simp only [RelL] at h ⊢
    obtain ⟨v, r, h1, h2, h3⟩ := h
    exact ⟨v, r, h1, RelA.cutN u.1 h2, RelL.cutN u.2 h3⟩
theorem RelP.cutN {n : Nat} : ∀ {x : List (AV × AV)} {v : List (Key × V)}, AV.underP n x = true → RelP C g x v → RelP C (g.cutN n) x v
  | [], _, _, h => h
  | (k, x) :: xs, _, u, h => by
    simp only [AV.underP, Bool.and_eq_true] at u
    simp only [RelP] at h ⊢
    obtain ⟨k', v, r, h1, h2, h3, h4⟩ := h
    exact ⟨k', v, r, h1, h2, RelA.cutN u.2.1 h3, RelP.cutN u.2.2 h4⟩
end
theorem RelF.cutN {n : Nat} : ∀ {x : List (Tx × AV)} {v : List (Str × V)}, AV.underF n x = true → RelF C g x v → RelF C (g.cutN n) x v
  | [], _, _, h => h
  | (k, x) :: xs, _, u, h => by
    simp only [AV.underF, Bool.and_eq_true] at u
    simp only [RelF] at h ⊢
    obtain ⟨v, r, h1, h2, h3⟩ := h
    exact ⟨v, r, h1, RelA.cutN u.1 h2, RelF.cutN u.2 h3⟩
theorem RelO.cutN {n : Nat} : ∀ {x : AO} {v : HO}, AO.under n x = true → RelO C g x v → RelO C (g.cutN n) x v
  | .lst _, _, u, ⟨vs, h1, h2⟩ => ⟨vs, h1, h2.cutN u⟩
  | .dct _, _, u, ⟨vs, h1, h2⟩ => ⟨vs, h1, h2.cutN u⟩
  | .ins _ _, _, u, ⟨dx, vs, h1, h2⟩ => ⟨dx, vs, h1, h2.cutN u⟩

theorem RelL.len : ∀ {x : List AV} {v : List V}, RelL C g x v → x.length = v.length
  | [], _, h => by simp only [RelL] at h; subst h; rfl
  | x :: xs, _, h => by
    simp only [RelL] at h
    obtain ⟨v, r, rfl, _, h3⟩ := h
    simp [RelL.len h3]
theorem RelL.get : ∀ {x : List AV} {v : List V} {i : Nat} {y : AV}, RelL C g x v → x[i]? = some y → ∃ u, v[i]? = some u ∧ RelA C g y u
  | [], _, _, _, _, e => by simp at e
  | x :: xs, _, i, y, h, e => by
    simp only [RelL] at h
    obtain ⟨v, r, rfl, h2, h3⟩ := h
    cases i with
    | zero => simp at e; subst e; exact ⟨v, by simp, h2⟩
    | succ i => simp at e; obtain ⟨u, h4, h5⟩ := RelL.get h3 e; exact ⟨u, by simpa using h4, h5⟩
theorem RelL.append : ∀ {x y : List AV} {v u : List V}, RelL C g x v → RelL C g y u → RelL C g (x ++ y) (v ++ u)
  | [], _, _, _, h, h' => by simp only [RelL] at h; subst h; simpa using h'
  | x :: xs, _, _, _, h, h' => by
    simp only [RelL] at h
    obtain ⟨v, r, rfl, h2, h3⟩ := h
    simp only [List.cons_append, RelL]
    exact ⟨v, _, rfl, h2, RelL.append h3 h'⟩
theorem RelL.take : ∀ {x : List AV} {v : List V} (n : Nat), RelL C g x v → RelL C g (x.take n) (v.take n)
  | [], _, n, h => by simp only [RelL] at h; subst h; simp [RelL]
  | x :: xs, _, 0, h => by simp [RelL]
  | x :: xs, _, n + 1, h => by
    simp only [RelL] at h
    obtain ⟨v, r, rfl, h2, h3⟩ := h
    simp only [List.take_succ_cons, RelL]
    exact ⟨v, _, rfl, h2, RelL.take n h3⟩
theorem RelL.drop : ∀ {x : List AV} {v : List V} (n : Nat), RelL C g x v → RelL C g (x.drop n) (v.drop n)
  | [], _, n, h => by simp only [RelL] at h; subst h; simp [RelL]
  | x :: xs, _, 0, h => by simpa using h
  | x :: xs, _, n + 1, h => by
    simp only [RelL] at h
    obtain ⟨v, r, rfl, h2, h3⟩ := h
    simpa using RelL.drop n h3
theorem RelL.set {y : AV} {u : V} (hy : RelA C g y u) : ∀ {x : List AV} {v : List V} (i : Nat), RelL C g x v → RelL C g (x.set i y) (v.set i u)
  | [], _, _, h => by simp only [RelL] at h; subst h; simp [RelL]
  | x :: xs, _, 0, h => by
    simp only [RelL] at h
    obtain ⟨v, r, rfl, h2, h3⟩ := h
    simp only [List.set_cons_zero, RelL]
    exact ⟨u, r, rfl, hy, h3⟩
  | x :: xs, _, i + 1, h => by
    simp only [RelL] at h
    obtain ⟨v, r, rfl, h2, h3⟩ := h
    simp only [List.set_cons_succ, RelL]
    exact ⟨v, _, rfl, h2, RelL.set hy i h3⟩
theorem RelL.rep {x : List AV} {v : List V} (h : RelL C g x v) : ∀ k : Nat, RelL C g (List.replicate k x).flatten (List.replicate k v).flatten
  | 0 => by simp [RelL]
  | k + 1 => by
    simp only [List.replicate_succ, List.flatten_cons]
    exact h.append (RelL.rep h k)
theorem RelL.nil : RelL C g [] [] := by simp [RelL]
theorem RelL.cons {x : AV} {v : V} {xs : List AV} {vs : List V} (h : RelA C g x v) (r : RelL C g xs vs) : RelL C g (x :: xs) (v :: vs) := by
  simp only [RelL]
  exact ⟨v, vs, rfl, h, r⟩
theorem RelL.cons_iff {x : AV} {xs : List AV} {vs : List V} : RelL C g (x :: xs) vs ↔ ∃ v r, vs = v :: r ∧ RelA C g x v ∧ RelL C g xs r := by simp only [RelL]
theorem RelL.nil_iff {vs : List V} : RelL C g [] vs ↔ vs = [] := by simp only [RelL]
end

/-! ### the abstract heap grows, is written -/
section
variable {C : Cfg} {g : Gh} {h : AH} {H : Hp}
/-- the tables stay where no table is written -/
theorem Sys.upd {p : Addr} {o : HO} (s : Sys C H) (hp : ∀ u, H p = some u → (∀ ps, u ≠ .tbl ps) ∧ ∀ φ, u ≠ .ext φ) : Sys C (L2.upd H p o) := by
  have nt : ∀ a ps, H a = some (.tbl ps) → a ≠ p := fun a ps e z => by subst z; exact (hp _ e).1 ps rfl
  have ne : ∀ a φ, H a = some (.ext φ) → a ≠ p := fun a φ e z => by subst z; exact (hp _ e).2 φ rfl
  refine ⟨fun q hq => ?_, fun P hP => ?_⟩
  · obtain ⟨ps, h1, h2, h3⟩ := s.1 q hq
    refine ⟨ps, by rw [upd_ne (nt _ _ h1)]; exact h1, h2, fun pos cv hc => ?_⟩
    obtain ⟨c, e1, e2⟩ := h3 pos cv hc
    exact ⟨c, e1, by rw [upd_ne (ne _ _ e2)]; exact e2⟩
  · obtain ⟨ps, h1, h2⟩ := s.2 P hP
    exact ⟨ps, by rw [upd_ne (nt _ _ h1)]; exact h1, h2⟩
theorem Sys.new {p : Addr} {o : HO} (s : Sys C H) (hp : H p = none) : Sys C (L2.upd H p o) := s.upd fun u e => by rw [hp] at e; cases e

/-- one more thing that never changes -/
def Gh.more (g : Gh) (p : Addr) (o : HO) : Gh := { g with fx := L2.upd g.fx p o }
/-- one more changing object -/
def Gh.obj (g : Gh) (p : Addr) : Gh := { g with n := g.n + 1, at_ := fun i => if i = g.n then p else g.at_ i }
theorem Rep.freeFx (r : Rep C g h H) {p : Addr} (hp : H p = none) : g.fx p = none := by
  cases e : g.fx p with
  | none => rfl
  | some o => rw [(r.fx p o e).1] at hp; cases hp
theorem Rep.at_ne (r : Rep C g h H) {p : Addr} (hp : H p = none) {i : Nat} (hi : i < g.n) : g.at_ i ≠ p := fun z => by
  obtain ⟨o, e⟩ := hget_of_lt (h := h) (i := i) (by rw [← r.n]; exact hi)
  obtain ⟨u, e2, _⟩ := r.obj i o e
  rw [z, hp] at e2
  cases e2
theorem Rep.ext_more (r : Rep C g h H) {p : Addr} (hp : H p = none) (o : HO) : Ext g (g.more p o) :=
  ⟨Nat.le_refl _, fun _ _ => rfl, fun a u e => by
    show L2.upd g.fx p o a = some u
    rw [upd_ne (fun z => by subst z; rw [r.freeFx hp] at e; cases e)]
    exact e, fun _ _ e => e⟩
theorem Rep.kx_ne (r : Rep C g h H) {p : Addr} (hp : H p = none) {a : Addr} {o : HO} (e : g.kx a = some o) : a ≠ p := fun z => by
  subst z
  rw [(r.kx _ _ e).1] at hp
  cases hp
theorem Rep.more (r : Rep C g h H) {p : Addr} (hp : H p = none) {o : HO} (ho : Fz o) : Rep C (g.more p o) h (L2.upd H p o) where
  n := r.n
  fx := fun a u e => by
    by_cases z : a = p
    · subst z
      have e : L2.upd g.fx a o a = some u := e
      rw [upd_same] at e
      cases e
      exact ⟨upd_same, ho⟩
    · have e : L2.upd g.fx p o a = some u := e
      rw [upd_ne z] at e
      obtain ⟨e1, e2⟩ := r.fx a u e
      exact ⟨by rw [upd_ne z]; exact e1, e2⟩
  inj := r.inj
  dis := fun i hi => by
    show L2.upd g.fx p o (g.at_ i) = none
    rw [upd_ne (r.at_ne hp hi)]
    exact r.dis i hi
  obj := fun i u e => by
    obtain ⟨w, e1, e2⟩ := r.obj i u e
    have hi : i < g.n := by rw [r.n]; exact hget_lt e
    refine ⟨w, ?_, e2.mono (r.ext_more hp o)⟩
    show L2.upd H p o (g.at_ i) = some w
    rw [upd_ne (r.at_ne hp hi)]
    exact e1
  sys := r.sys.new hp
  kx := fun a u e => by
    have hn := r.kx_ne hp e
    obtain ⟨e1, e2, e3⟩ := r.kx a u e
    refine ⟨by rw [upd_ne hn]; exact e1, ?_, e3⟩
    show L2.upd g.fx p o a = none
    rw [upd_ne hn]
    exact e2
  kd := r.kd
theorem Rep.ext_obj (r : Rep C g h H) {p : Addr} : Ext g (g.obj p) :=
  ⟨Nat.le_succ _, fun i hi => by
    show (if i = g.n then p else g.at_ i) = g.at_ i
    rw [if_neg (Nat.ne_of_lt hi)], fun _ _ e => e, fun _ _ e => e⟩
theorem Rep.new (r : Rep C g h H) {p : Addr} (hp : H p = none) {o : AO} {u : HO} (ho : RelO C (g.obj p) o u) : Rep C (g.obj p) (o :: h) (L2.upd H p u) where
  n := by
    show g.n + 1 = _
    rw [r.n]; rfl
  fx := fun a w e => by
    obtain ⟨e1, e2⟩ := r.fx a w e
    refine ⟨?_, e2⟩
    rw [upd_ne (fun z => by subst z; rw [hp] at e1; cases e1)]
    exact e1
  inj := fun i j hi hj e => by
    have hi : i < g.n + 1 := hi
    have hj : j < g.n + 1 := hj
    have e : (if i = g.n then p else g.at_ i) = (if j = g.n then p else g.at_ j) := e
    by_cases h1 : i = g.n <;> by_cases h2 : j = g.n
    · omega
    · rw [if_pos h1, if_neg h2] at e
      exact absurd e.symm (r.at_ne hp (by omega))
    · rw [if_neg h1, if_pos h2] at e
      exact absurd e (r.at_ne hp (by omega))
    · rw [if_neg h1, if_neg h2] at e
      exact r.inj i j (by omega) (by omega) e
  dis := fun i hi => by
    have hi : i < g.n + 1 := hi
    show g.fx (if i = g.n then p else g.at_ i) = none
    split
    · exact r.freeFx hp
    · exact r.dis i (by omega)
  obj := fun i w e => by
    show ∃ u', L2.upd H p u (if i = g.n then p else g.at_ i) = some u' ∧ _
    by_cases h1 : i = g.n
    · rw [if_pos h1]
      rw [h1, r.n, hget_new] at e
      cases e
      exact ⟨u, upd_same, ho⟩
    · rw [if_neg h1]
      have hl := hget_lt e
      have hl2 : i < h.length := by rw [r.n] at h1; simp at hl; omega
      rw [hget_old hl2] at e
      obtain ⟨u', e1, e2⟩ := r.obj i w e
      refine ⟨u', ?_, e2.mono r.ext_obj⟩
      rw [upd_ne (r.at_ne hp (by rw [r.n]; exact hl2))]
      exact e1
  sys := r.sys.new hp
  kx := fun a w e => by
    obtain ⟨e1, e2, e3⟩ := r.kx a w e
    exact ⟨by rw [upd_ne (r.kx_ne hp e)]; exact e1, e2, e3⟩
  kd := fun i hi => by
    have hi : i < g.n + 1 := hi
    show g.kx (if i = g.n then p else g.at_ i) = none
    split
    · cases e : g.kx p with
      | none => rfl
      | some o => exact absurd rfl (r.kx_ne hp e)
    · exact r.kd i (by omega)
/-- an object is written -/
theorem Rep.put (r : Rep C g h H) {i : Nat} {o o' : AO} {u' : HO} (hi : hget h i = some o) (ho : RelO C g o' u') : Rep C g (hset h i o') (L2.upd H (g.at_ i) u') := by
  have hl := hget_lt hi
  obtain ⟨u, e1, e2⟩ := r.obj i o hi
  refine ⟨by rw [hset_length]; exact r.n, fun a w e => ?_, r.inj, r.dis, fun j w e => ?_, r.sys.upd fun w e => ?_, fun a w e => ?_, r.kd⟩
  · obtain ⟨e3, e4⟩ := r.fx a w e
    refine ⟨?_, e4⟩
    rw [upd_ne (fun z => by subst z; rw [r.dis i (by rw [r.n]; exact hl)] at e; cases e)]
    exact e3
  · rw [hget_hset hl] at e
    by_cases hj : j = i
    · rw [if_pos hj] at e
      cases e
      subst hj
      exact ⟨u', upd_same, ho⟩
    · rw [if_neg hj] at e
      obtain ⟨w', e3, e4⟩ := r.obj j w e
      refine ⟨w', ?_, e4⟩
      rw [upd_ne (fun z => hj (r.inj j i (by rw [r.n]; exact hget_lt e) (by rw [r.n]; exact hl) z))]
      exact e3
  · rw [e1] at e
    cases e
    cases o with
    | lst xs => obtain ⟨vs, rfl, _⟩ := e2; exact ⟨fun ps z => (nomatch z), fun φ z => (nomatch z)⟩
    | dct xs => obtain ⟨vs, rfl, _⟩ := e2; exact ⟨fun ps z => (nomatch z), fun φ z => (nomatch z)⟩
    | ins c xs => obtain ⟨dx, vs, rfl, _⟩ := e2; exact ⟨fun ps z => (nomatch z), fun φ z => (nomatch z)⟩
  · obtain ⟨e3, e4, e5⟩ := r.kx a w e
    refine ⟨?_, e4, e5⟩
    rw [upd_ne (fun z => by subst z; rw [r.kd i (by rw [r.n]; exact hl)] at e; cases e)]
    exact e3
mutual
theorem RelA.under : ∀ {x : AV} {v : V}, RelA C g x v → AV.under g.n x = true
  | .non, _, _ => rfl
  | .bl _, _, _ => rfl
  | .int _, _, _ => rfl
  | .str _, _, _ => rfl
  | .tup xs, _, h => by
    simp only [RelA] at h
    obtain ⟨a, vs, _, _, h3⟩ := h
    exact RelL.under h3
  | .lst xs, _, h => by
    simp only [RelA] at h
    obtain ⟨a, vs, _, _, h3⟩ := h
    exact RelL.under h3
  | .dct kvs, _, h => by
    simp only [RelA] at h
    obtain ⟨a, vs, _, _, h3⟩ := h
    exact RelP.under h3
  | .ref i, _, h => by
    simp only [RelA] at h
    simp only [AV.under, decide_eq_true_eq]
    exact h.1
  | .scr xs, _, h => by
    simp only [RelA] at h
    obtain ⟨a, vs, _, _, h3⟩ := h
    exact RelL.under h3
theorem RelL.under : ∀ {x : List AV} {v : List V}, RelL C g x v → AV.underL g.n x = true
  | [], _, _ => rfl
  | x :: xs, _, h => by
    simp only [RelL] at h
    obtain ⟨v, r, _, h2, h3⟩ := h
    simp only [AV.underL, Bool.and_eq_true]
    exact ⟨RelA.under h2, RelL.under h3⟩
theorem RelP.under : ∀ {x : List (AV × AV)} {v : List (Key × V)}, RelP C g x v → AV.underP g.n x = true
  | [], _, _ => rfl
  | (k, x) :: xs, _, h => by
    simp only [RelP] at h
    obtain ⟨k', v, r, _, h2, h3, h4⟩ := h
    simp only [AV.underP, Bool.and_eq_true]
    refine ⟨?_, RelA.under h3, RelP.under h4⟩
    cases k <;> first | rfl | exact False.elim h2
end
theorem RelF.under : ∀ {x : List (Tx × AV)} {v : List (Str × V)}, RelF C g x v → AV.underF g.n x = true
  | [], _, _ => rfl
  | (k, x) :: xs, _, h => by
    simp only [RelF] at h
    obtain ⟨v, r, _, h3, h4⟩ := h
    simp only [AV.underF, Bool.and_eq_true]
    exact ⟨RelA.under h3, RelF.under h4⟩
theorem RelO.under : ∀ {x : AO} {v : HO}, RelO C g x v → AO.under g.n x = true
  | .lst _, _, ⟨_, _, h2⟩ => h2.under
  | .dct _, _, ⟨_, _, h2⟩ => h2.under
  | .ins _ _, _, ⟨_, _, _, h2⟩ => h2.under
theorem gcOk_len {n : Nat} : ∀ {a b : AH}, gcOk n a b = true → a.length = b.length
  | [], [], _ => rfl
  | [], _ :: _, e => by simp [gcOk] at e
  | _ :: _, [], e => by simp [gcOk] at e
  | o :: a, u :: b, e => by
    simp only [gcOk, Bool.and_eq_true] at e
    simp [gcOk_len e.2]
theorem gcOk_at {n : Nat} : ∀ {a b : AH} {i : Nat} {u : AO}, gcOk n a b = true → hget b i = some u → hget a i = some u ∨ u.under n = true
  | [], [], _, _, _, e => by simp [hget] at e
  | [], _ :: _, _, _, e, _ => by simp [gcOk] at e
  | _ :: _, [], _, _, e, _ => by simp [gcOk] at e
  | o :: a, w :: b, i, u, e, hi => by
    have hl := gcOk_len e
    simp only [gcOk, Bool.and_eq_true, Bool.or_eq_true, decide_eq_true_eq] at e
    simp only [List.length_cons, Nat.add_right_cancel_iff] at hl
    by_cases h1 : i = b.length
    · subst h1
      rw [hget_new] at hi
      cases hi
      rcases e.1 with z | z
      · exact .inr z
      · left; rw [z, ← hl, hget_new]
    · have h2 := hget_lt hi
      have h3 : i < b.length := by simp at h2; omega
      rw [hget_old h3] at hi
      rw [hget_old (by omega)]
      exact gcOk_at e.2 hi
/-- what was made is let go -/
theorem gc_rep {g' : Gh} {h' : AH} {H' : Hp} (r : Rep C g h H) (e : Ext g g') (r' : Rep C g' h' H') (k : Nat) (hk : gcOk h.length h (h'.drop k) = true) :
    Rep C (g'.cutN h.length) (h'.drop k) H' := by
  have hl := gcOk_len hk
  have hle : h.length ≤ g'.n := by rw [← r.n]; exact e.n
  refine ⟨hl, r'.fx, fun i j hi hj => r'.inj i j (Nat.lt_of_lt_of_le hi hle) (Nat.lt_of_lt_of_le hj hle), fun i hi => r'.dis i (Nat.lt_of_lt_of_le hi hle), fun i o ho => ?_, r'.sys, r'.kx, fun i hi => r'.kd i (Nat.lt_of_lt_of_le hi hle)⟩
  have hi := hget_lt ho
  have ho2 := ho
  rw [hget_drop hi] at ho2
  obtain ⟨u, e1, e2⟩ := r'.obj i o ho2
  refine ⟨u, e1, e2.cutN ?_⟩
  rcases gcOk_at hk ho with z | z
  · obtain ⟨u0, _, e4⟩ := r.obj i o z
    rw [← r.n]
    exact e4.under
  · exact z
theorem gc_ext {g' : Gh} (r : Rep C g h H) (e : Ext g g') : Ext g (g'.cutN h.length) := ⟨Nat.le_of_eq r.n, e.at_, e.fx, e.kx⟩
/-! a value that names no object: alike wherever the same things never change -/
mutual
theorem RelA.ofFx {g3 : Gh} (ef : g3.fx = g.fx) : ∀ {x : AV} {v : V}, AV.under 0 x = true → RelA C g x v → RelA C g3 x v
  | .non, _, _, h => h
  | .bl _, _, _, h => h
  | .int _, _, _, h => h
  | .str _, _, _, h => h
  | .tup xs, _, u, h => by
    simp only [AV.under] at u
    simp only [RelA] at h ⊢
    obtain ⟨a, vs, h1, h2, h3⟩ := h
    exact ⟨a, vs, h1, by rw [ef]; exact h2, RelL.ofFx ef u h3⟩
  | .lst xs, _, u, h => by
    simp only [AV.under] at u
    simp only [RelA] at h ⊢
    obtain ⟨a, vs, h1, h2, h3⟩ := h
    exact ⟨a, vs, h1, by rw [ef]; exact h2, RelL.ofFx ef u h3⟩
  | .dct kvs, _, u, h => by
    simp only [AV.under] at u
    simp only [RelA] at h ⊢
    obtain ⟨a, vs, h1, h2, h3⟩ := h
    exact ⟨a, vs, h1, by rw [ef]; exact h2, RelP.ofFx ef u h3⟩
  | .ref i, _, u, h => by
    simp only [AV.under, decide_eq_true_eq] at u
    simp only [RelA] at h ⊢
    exact absurd u (Nat.not_lt_zero _)
  | .scr xs, _, u, h => by
    simp only [AV.under] at u
    simp only [RelA] at h ⊢
    obtain ⟨a, vs, h1, h2, h3⟩ := h
    exact ⟨a, vs, h1, by rw [ef]; exact h2, RelL.ofFx ef u h3⟩
theorem RelL.ofFx {g3 : Gh} (ef : g3.fx = g.fx) : ∀ {x : List AV} {v : List V}, AV.underL 0 x = true → RelL C g x v → RelL C g3 x v
  | [], _, _, h => h
  | x :: xs, _, u, h => by
    simp only [AV.underL, Bool.and_eq_true] at u
    simp only [RelL] at h ⊢
    obtain ⟨v, r, h1, h2, h3⟩ := h
    exact ⟨v, r, h1, RelA.ofFx ef u.1 h2, RelL.ofFx ef u.2 h3⟩
theorem RelP.ofFx {g3 : Gh} (ef : g3.fx = g.fx) : ∀ {x : List (AV × AV)} {v : List (Key × V)}, AV.underP 0 x = true → RelP C g x v → RelP C g3 x v
  | [], _, _, h => h
  | (k, x) :: xs, _, u, h => by
    simp only [AV.underP, Bool.and_eq_true] at u
    simp only [RelP] at h ⊢
    obtain ⟨k', v, r, h1, h2, h3, h4⟩ := h
    exact ⟨k', v, r, h1, h2, RelA.ofFx ef u.2.1 h3, RelP.ofFx ef u.2.2 h4⟩
end
/-- no objects: those that were are kept aside -/
def Gh.aside (g : Gh) (H : Hp) : Gh where
  n := 0
  at_ := g.at_
  fx := g.fx
  kx := fun a => if (List.range g.n).any (fun i => decide (g.at_ i = a)) = true then H a else g.kx a
theorem aside_at {i : Nat} (hi : i < g.n) : (g.aside H).kx (g.at_ i) = H (g.at_ i) := by
  show (if _ then _ else _) = _
  rw [if_pos (List.any_eq_true.mpr ⟨i, List.mem_range.mpr hi, by simp⟩)]
theorem aside_kx (r : Rep C g h H) {a : Addr} {o : HO} (e : g.kx a = some o) : (g.aside H).kx a = some o := by
  show (if _ then _ else _) = _
  rw [if_neg]
  · exact e
  · intro z
    obtain ⟨i, h1, h2⟩ := List.any_eq_true.mp z
    have h3 := r.kd i (List.mem_range.mp h1)
    simp only [decide_eq_true_eq] at h2
    rw [h2, e] at h3
    cases h3
theorem aside_cases {a : Addr} {o : HO} (e : (g.aside H).kx a = some o) : (∃ i, i < g.n ∧ g.at_ i = a ∧ H a = some o) ∨ g.kx a = some o := by
  have e : (if (List.range g.n).any (fun i => decide (g.at_ i = a)) = true then H a else g.kx a) = some o := e
  split at e
  · rename_i z
    obtain ⟨i, h1, h2⟩ := List.any_eq_true.mp z
    simp only [decide_eq_true_eq] at h2
    exact .inl ⟨i, List.mem_range.mp h1, h2, e⟩
  · exact .inr e
theorem Rep.aside (r : Rep C g h H) : Rep C (g.aside H) [] H := by
  refine ⟨rfl, r.fx, fun i j hi => absurd hi (Nat.not_lt_zero _), fun i hi => absurd hi (Nat.not_lt_zero _), fun i o e => by simp [hget] at e, r.sys, fun a o e => ?_, fun i hi => absurd hi (Nat.not_lt_zero _)⟩
  rcases aside_cases e with ⟨i, hi, rfl, e2⟩ | e2
  · refine ⟨e2, r.dis i hi, ?_⟩
    obtain ⟨o2, ho⟩ := hget_of_lt (h := h) (i := i) (by rw [← r.n]; exact hi)
    obtain ⟨u, e3, e4⟩ := r.obj i o2 ho
    rw [e2] at e3
    cases e3
    cases o2 with
    | lst xs => obtain ⟨vs, z, _⟩ := e4; exact .inl ⟨vs, z⟩
    | dct xs => obtain ⟨vs, z, _⟩ := e4; exact .inr (.inl ⟨vs, z⟩)
    | ins c xs => obtain ⟨dx, vs, z, _⟩ := e4; exact .inr (.inr (.inl ⟨_, dx, vs, z⟩))
  · exact r.kx a o e2
/-- they are looked at again -/
def Gh.back (g g2 : Gh) : Gh := { g with fx := g2.fx }
theorem Rep.back {g2 : Gh} {h2 : AH} {H2 : Hp} (r : Rep C g h H) (e : Ext (g.aside H) g2) (r2 : Rep C g2 h2 H2) : Ext g (g.back g2) ∧ Rep C (g.back g2) h H2 := by
  have x : Ext g (g.back g2) := ⟨Nat.le_refl _, fun _ _ => rfl, fun a o z => e.fx a o z, fun a o z => z⟩
  have at2 : ∀ i, i < g.n → ∀ u, H (g.at_ i) = some u → H2 (g.at_ i) = some u ∧ g2.fx (g.at_ i) = none := fun i hi u hu => by
    have z := e.kx (g.at_ i) u (by rw [aside_at hi]; exact hu)
    obtain ⟨h1, h3, _⟩ := r2.kx _ _ z
    exact ⟨h1, h3⟩
  refine ⟨x, r.n, r2.fx, r.inj, fun i hi => ?_, fun i o ho => ?_, r2.sys, fun a o z => ?_, r.kd⟩
  · obtain ⟨o2, ho⟩ := hget_of_lt (h := h) (i := i) (by rw [← r.n]; exact hi)
    obtain ⟨u, e3, e4⟩ := r.obj i o2 ho
    exact (at2 i hi u e3).2
  · have hi : i < g.n := by rw [r.n]; exact hget_lt ho
    obtain ⟨u, e3, e4⟩ := r.obj i o ho
    exact ⟨u, (at2 i hi u e3).1, e4.mono x⟩
  · exact r2.kx a o (e.kx a o (aside_kx r z))
/-! ### a list that a comprehension fills: known, named by nothing -/
def Gh.keep (g : Gh) (p : Addr) (o : Option HO) : Gh := { g with kx := fun a => if a = p then o else g.kx a }
theorem Gh.keep_same (g : Gh) (p : Addr) (o : Option HO) : (g.keep p o).kx p = o := if_pos rfl
mutual
theorem RelA.keep {p : Addr} {o : Option HO} : ∀ {x : AV} {v : V}, RelA C g x v → RelA C (g.keep p o) x v
  | .non, _, h => h
  | .bl _, _, h => h
  | .int _, _, h => h
  | .str _, _, h => h
  | .tup xs, _, h => by
    simp only [RelA] at h ⊢
    obtain ⟨a, vs, h1, h2, h3⟩ := h
    exact ⟨a, vs, h1, h2, RelL.keep h3⟩
  | .lst xs, _, h => by
    simp only [RelA] at h ⊢
    obtain ⟨a, vs, h1, h2, h3⟩ := h
    exact ⟨a, vs, h1, h2, RelL.keep h3⟩
  | .dct kvs, _, h => by
    simp only [RelA] at h ⊢
    obtain ⟨a, vs, h1, h2, h3⟩ := h
    exact ⟨a, vs, h1, h2, RelP.keep h3⟩
  | .ref i, _, h => by
    simp only [RelA] at h ⊢
    exact h
  | .scr xs, _, h => by
    simp only [RelA] at h ⊢
    obtain ⟨a, vs, h1, h2, h3⟩ := h
    exact ⟨a, vs, h1, h2, RelL.keep h3⟩
theorem RelL.keep {p : Addr} {o : Option HO} : ∀ {x : List AV} {v : List V}, RelL C g x v → RelL C (g.keep p o) x v
  | [], _, h => h
  | x :: xs, _, h => by
    simp only [RelL] at h ⊢
    obtain ⟨v, r, h1, h2, h3⟩ := h
    exact ⟨v, r, h1, RelA.keep h2, RelL.keep h3⟩
theorem RelP.keep {p : Addr} {o : Option HO} : ∀ {x : List (AV × AV)} {v : List (Key × V)}, RelP C g x v → RelP C (g.keep p o) x v
  | [], _, h => h
  | (k, x) :: xs, _, h => by
    simp only [RelP] at h ⊢
    obtain ⟨k', v, r, h1, h2, h3, h4⟩ := h
    exact ⟨k', v, r, h1, h2, RelA.keep h3, RelP.keep h4⟩
end
theorem RelF.keep {p : Addr} {o : Option HO} : ∀ {x : List (Tx × AV)} {v : List (Str × V)}, RelF C g x v → RelF C (g.keep p o) x v
  | [], _, h => h
  | (k, x) :: xs, _, h => by
    simp only [RelF] at h ⊢
    obtain ⟨v, r, h1, h2, h3⟩ := h
    exact ⟨v, r, h1, RelA.keep h2, RelF.keep h3⟩
theorem RelO.keep {p : Addr} {o : Option HO} : ∀ {x : AO} {v : HO}, RelO C g x v → RelO C (g.keep p o) x v
  | .lst _, _, ⟨vs, h1, h2⟩ => ⟨vs, h1, h2.keep⟩
  | .dct _, _, ⟨vs, h1, h2⟩ => ⟨vs, h1, h2.keep⟩
  | .ins _ _, _, ⟨dx, vs, h1, h2⟩ => ⟨dx, vs, h1, h2.keep⟩
theorem Rep.ext_keep {p : Addr} {o : Option HO} (hp : g.kx p = none) : Ext g (g.keep p o) := ⟨Nat.le_refl _, fun _ _ => rfl, fun _ _ e => e, fun a u e => by
  show (if a = p then o else g.kx a) = some u
  rw [if_neg (fun z => by subst z; rw [hp] at e; cases e)]
  exact e⟩
theorem Rep.freeKx (r : Rep C g h H) {p : Addr} (hp : H p = none) : g.kx p = none := by
  cases e : g.kx p with
  | none => rfl
  | some o => exact absurd rfl (r.kx_ne hp e)
/-- it is made -/
theorem Rep.kept (r : Rep C g h H) {p : Addr} (hp : H p = none) (xs : List V) : Rep C (g.keep p (some (.lst xs))) h (L2.upd H p (.lst xs)) := by
  refine ⟨r.n, fun a o e => ?_, r.inj, r.dis, fun i o e => ?_, r.sys.new hp, fun a o e => ?_, fun i hi => ?_⟩
  · obtain ⟨e1, e2⟩ := r.fx a o e
    exact ⟨by rw [upd_ne (fun z => by subst z; rw [hp] at e1; cases e1)]; exact e1, e2⟩
  · obtain ⟨u, e1, e2⟩ := r.obj i o e
    exact ⟨u, by show L2.upd H p _ (g.at_ i) = _; rw [upd_ne (r.at_ne hp (by rw [r.n]; exact hget_lt e))]; exact e1, e2.keep⟩
  · have e : (if a = p then some (HO.lst xs) else g.kx a) = some o := e
    by_cases z : a = p
    · rw [if_pos z] at e
      cases e
      subst z
      exact ⟨upd_same, r.freeFx hp, .inl ⟨xs, rfl⟩⟩
    · rw [if_neg z] at e
      obtain ⟨e1, e2, e3⟩ := r.kx a o e
      exact ⟨by rw [upd_ne z]; exact e1, e2, e3⟩
  · show (if g.at_ i = p then _ else g.kx (g.at_ i)) = none
    rw [if_neg (r.at_ne hp hi)]
    exact r.kd i hi
/-- it is let go: what is left is as if it were not -/
theorem Rep.unkept (r : Rep C g h H) {p : Addr} {xs : List V} (hp : g.kx p = some (.lst xs)) : Rep C (g.keep p none) h (fun a => if a = p then none else H a) := by
  obtain ⟨h1, h2, _⟩ := r.kx p _ hp
  have na : ∀ i, i < g.n → g.at_ i ≠ p := fun i hi z => by
    have := r.kd i hi
    rw [z, hp] at this
    cases this
  have nt : ∀ a u, H a = some u → (∀ xs, u ≠ .lst xs) → a ≠ p := fun a u e n z => by
    subst z
    rw [h1] at e
    cases e
    exact n _ rfl
  refine ⟨r.n, fun a o e => ?_, r.inj, r.dis, fun i o e => ?_, ⟨fun q hq => ?_, fun P hP => ?_⟩, fun a o e => ?_, fun i hi => ?_⟩
  · obtain ⟨e1, e2⟩ := r.fx a o e
    exact ⟨by rw [if_neg (fun z => by subst z; have e : g.fx a = some o := e; rw [h2] at e; cases e)]; exact e1, e2⟩
  · obtain ⟨u, e1, e2⟩ := r.obj i o e
    exact ⟨u, by show (if g.at_ i = p then none else H (g.at_ i)) = _; rw [if_neg (na i (by rw [r.n]; exact hget_lt e))]; exact e1, e2.keep⟩
  · obtain ⟨ps, a1, a2, a3⟩ := r.sys.1 q hq
    refine ⟨ps, (if_neg (nt _ _ a1 fun xs z => nomatch z)).trans a1, a2, fun pos cv hc => ?_⟩
    obtain ⟨c, e1, e2⟩ := a3 pos cv hc
    exact ⟨c, e1, (if_neg (nt _ _ e2 fun xs z => by unfold LamX.CodeO at z; cases z)).trans e2⟩
  · obtain ⟨ps, a1, a2⟩ := r.sys.2 P hP
    exact ⟨ps, (if_neg (nt _ _ a1 fun xs z => nomatch z)).trans a1, a2⟩
  · have e : (if a = p then none else g.kx a) = some o := e
    by_cases z : a = p
    · rw [if_pos z] at e; cases e
    · rw [if_neg z] at e
      obtain ⟨e1, e2, e3⟩ := r.kx a o e
      exact ⟨by rw [if_neg z]; exact e1, e2, e3⟩
  · show (if g.at_ i = p then none else g.kx (g.at_ i)) = none
    rw [if_neg (na i hi)]
    exact r.kd i hi
theorem upd_unkept {p : Addr} {o : HO} (e : H p = some o) : L2.upd (fun a => if a = p then none else H a) p o = H := by
  funext a
  by_cases z : a = p
  · subst z; rw [upd_same, e]
  · rw [upd_ne z, if_neg z]
/-- it is written -/
theorem Rep.rekept (r : Rep C g h H) {p : Addr} {ys : List V} (hp : g.kx p = some (.lst ys)) (xs : List V) : Rep C (g.keep p (some (.lst xs))) h (L2.upd H p (.lst xs)) := by
  have r1 := (r.unkept hp).kept (p := p) (if_pos rfl) xs
  have e1 : L2.upd (fun a => if a = p then none else H a) p (.lst xs) = L2.upd H p (.lst xs) := by
    funext a
    by_cases z : a = p
    · subst z; rw [upd_same, upd_same]
    · rw [upd_ne z, upd_ne z, if_neg z]
  rw [e1] at r1
  have e2 : (g.keep p none).keep p (some (.lst xs)) = g.keep p (some (.lst xs)) := by
    unfold Gh.keep
    congr 1
    funext a
    by_cases z : a = p
    · simp [z]
    · simp [z]
  rw [e2] at r1
  exact r1
/-- a code object is known -/
theorem Rep.code (r : Rep C g h H) {c : Addr} {q : Str} (hc : H c = some (LamX.CodeO c q)) : Rep C (g.keep c (some (LamX.CodeO c q))) h H := by
  have nf : g.fx c = none := by
    cases e : g.fx c with
    | none => rfl
    | some o =>
      obtain ⟨e1, e2⟩ := r.fx c o e
      rw [hc] at e1
      cases e1
      exact e2.elim
  have na : ∀ i, i < g.n → g.at_ i ≠ c := fun i hi z => by
    obtain ⟨o, e⟩ := hget_of_lt (h := h) (i := i) (by rw [← r.n]; exact hi)
    obtain ⟨u, e2, e3⟩ := r.obj i o e
    rw [z, hc] at e2
    cases e2
    cases o with
    | lst xs => obtain ⟨vs, z, _⟩ := e3; unfold LamX.CodeO at z; cases z
    | dct xs => obtain ⟨vs, z, _⟩ := e3; unfold LamX.CodeO at z; cases z
    | ins c xs => obtain ⟨dx, vs, z, _⟩ := e3; unfold LamX.CodeO at z; cases z
  refine ⟨r.n, r.fx, r.inj, r.dis, fun i o e => ?_, r.sys, fun a o e => ?_, fun i hi => ?_⟩
  · obtain ⟨u, e1, e2⟩ := r.obj i o e
    exact ⟨u, e1, e2.keep⟩
  · have e : (if a = c then some (LamX.CodeO c q) else g.kx a) = some o := e
    by_cases z : a = c
    · rw [if_pos z] at e
      cases e
      subst z
      exact ⟨hc, nf, .inr (.inr (.inr ⟨_, _, rfl⟩))⟩
    · rw [if_neg z] at e
      exact r.kx a o e
  · show (if g.at_ i = c then _ else g.kx (g.at_ i)) = none
    rw [if_neg (na i hi)]
    exact r.kd i hi
end
end TX

/-! TxC: expressions -/
set_option Elab.async false
set_option linter.all false
set_option maxRecDepth 100000
set_option maxHeartbeats 1000000
set_option autoImplicit false
namespace TX
open PySem PySem.Spec PyProof.Rows
open L2 (V HO Hp Key upd upd_same upd_ne SqL SqT Rd HOk Cx Inv PE PT PW PS PSs PG PI PA TE TT TA TS VK XK WX Takes Ends EP OpR tOp CallR tCB tCons tNil)

theorem _root_.L2.PE.imp {X : Cx} {e : Expr} {t t' : TE} (h : PE X e t) (k : ∀ σ H Q, t' σ H Q → t σ H Q) : PE X e t' := ⟨fun pins s σ H Q I hw => h.run pins s σ H Q I (k σ H Q hw)⟩
theorem _root_.L2.PT.imp {X : Cx} {e : Expr} {t t' : TT} (h : PT X e t) (k : ∀ σ H Q, t' σ H Q → t σ H Q) : PT X e t' := ⟨fun pins s σ H Q I hw => h.run pins s σ H Q I (k σ H Q hw)⟩
theorem _root_.L2.PW.imp {X : Cx} {e : Expr} {t t' : TT} (h : PW X e t) (k : ∀ σ H Q, t' σ H Q → t σ H Q) : PW X e t' := ⟨fun wh pins s σ H Q I hw => h.run wh pins s σ H Q I (k σ H Q hw)⟩
theorem _root_.L2.PA.imp {X : Cx} {e : List Expr} {t t' : TA} (h : PA X e t) (k : ∀ σ H Q, t' σ H Q → t σ H Q) : PA X e t' := ⟨fun p pins s σ H Q I hw => h.run p pins s σ H Q I (k σ H Q hw)⟩
theorem _root_.L2.PS.imp {X : Cx} {e : Stmt} {t t' : TS} (h : PS X e t) (k : ∀ D σ H, t' D σ H → t D σ H) : PS X e t' := ⟨fun pins s σ H Q I hw => h.run pins s σ H Q I (k Q σ H hw)⟩
theorem _root_.L2.PSs.imp {X : Cx} {e : List Stmt} {t t' : TS} (h : PSs X e t) (k : ∀ D σ H, t' D σ H → t D σ H) : PSs X e t' := ⟨fun pins s σ H Q I hw => h.run pins s σ H Q I (k Q σ H hw)⟩
theorem _root_.L2.PE.or {X : Cx} {e : Expr} {t t' : TE} (h : PE X e t) (h' : PE X e t') : PE X e (fun σ H Q => t σ H Q ∨ t' σ H Q) := ⟨fun pins s σ H Q I hw => hw.elim (h.run pins s σ H Q I) (h'.run pins s σ H Q I)⟩

/-! ### what is wanted behind a piece -/
def okG {α : Type} (C : Cfg) (g : Gh) (o : Out α) (K : α → Gh → AH → Hp → Prop) (N : Nat → Hp → Prop) : Prop :=
  match o with
  | .ok v h => ∀ g' H', Ext g g' → Rep C g' h H' → K v g' h H'
  | .exc c h => ∀ g' H', Ext g g' → Rep C g' h H' → N c H'
  | .stuck => False
theorem okG.ext {α : Type} {C : Cfg} {g g1 : Gh} {o : Out α} {K : α → Gh → AH → Hp → Prop} {N : Nat → Hp → Prop} (h : okG C g o K N) (e : Ext g g1) : okG C g1 o K N := by
  cases o with
  | ok v h' => exact fun g' H' e' r => h g' H' (e.trans e') r
  | exc c h' => exact fun g' H' e' r => h g' H' (e.trans e') r
  | stuck => exact h
def RelS (C : Cfg) (g : Gh) (s : St) (σ : L2.St) : Prop := s.length = σ.length ∧ ∀ (i : Nat) (x : AV), s[i]? = some (some x) → ∃ v : V, σ[i]? = some (some v) ∧ RelA C g x v
theorem RelS.mono {C : Cfg} {g g' : Gh} {s : St} {σ : L2.St} (r : RelS C g s σ) (e : Ext g g') : RelS C g' s σ := ⟨r.1, fun i x h => let ⟨v, a, b⟩ := r.2 i x h; ⟨v, a, b.mono e⟩⟩
theorem RelS.set {C : Cfg} {g : Gh} {s : St} {σ : L2.St} (r : RelS C g s σ) (i : Nat) {x : AV} {v : V} (h : RelA C g x v) : RelS C g (s.set i (some x)) (σ.set i (some v)) := by
  refine ⟨by simp [r.1], fun j y e => ?_⟩
  by_cases hj : i = j
  · subst hj
    have hl : i < s.length := by
      have := (List.getElem?_eq_some_iff.mp e).1
      simpa using this
    rw [List.getElem?_set_self hl] at e
    cases e
    exact ⟨v, List.getElem?_set_self (by rw [← r.1]; exact hl), h⟩
  · rw [List.getElem?_set_ne hj] at e
    obtain ⟨u, h1, h2⟩ := r.2 j y e
    exact ⟨u, by rw [List.getElem?_set_ne hj]; exact h1, h2⟩

/-- the reading of an expression's meaning: N is what is wanted of an error -/
def tE (C : Cfg) (φ : Fn) (f : EF) (N : Nat → Hp → Prop) : TE := fun σ H Q => ∃ g s h, Rep C g h H ∧ RelS C g s σ ∧ okG C g (f φ s h) (fun x g' _ H' => ∀ v, RelA C g' x v → Q v H') N
def tAr (C : Cfg) (φ : Fn) (f : AF) (N : Nat → Hp → Prop) : TA := fun σ H Q => ∃ g s h, Rep C g h H ∧ RelS C g s σ ∧ okG C g (f φ s h) (fun x g' _ H' => ∀ v, RelL C g' x v → Q v H') N
def tB (C : Cfg) (φ : Fn) (f : EF) (N : Nat → Hp → Prop) : TT := fun σ H Q => ∃ g s h, Rep C g h H ∧ RelS C g s σ ∧ okG C g (f φ s h) (fun x g' _ H' => ∃ b, x = .bl b ∧ Q b H') N
/-- an error's wish, as the layer says it -/
def wX (C : Cfg) (N : Nat → Hp → Prop) : WX := fun cls d σ H => ∃ c, cls = .ref (C.cA c) ∧ N c H

/-- what holds where a piece of the text stands -/
structure At (C : Cfg) (X : Cx) : Prop where
  K : X.K = C.K
  calm : X.calm = true
  nd : X.N.Nodup
  hu : X.A.units + 65 < cLine
structure SE (C : Cfg) (φ : Fn) (X : Cx) (e : Expr) (f : EF) : Prop where
  run : ∀ N, Takes X (wX C N) → PE X e (tE C φ f N)
/-- as a test -/
structure SB (C : Cfg) (φ : Fn) (X : Cx) (e : Expr) (f : EF) : Prop where
  run : ∀ N, Takes X (wX C N) → PT X e (tB C φ f N)
structure SA (C : Cfg) (φ : Fn) (X : Cx) (e : List Expr) (f : AF) : Prop where
  run : ∀ N, Takes X (wX C N) → PA X e (tAr C φ f N)

section
variable {C : Cfg} {φ : Fn} {X : Cx}
/-- one piece, and what comes behind it -/
theorem go {α : Type} {g : Gh} {s : St} {h : AH} {σ : L2.St} {H : Hp} {a : EF} {N : Nat → Hp → Prop} {k : AV → AH → Out α} {K : α → Gh → AH → Hp → Prop} {P : V → Hp → Prop} (r : Rep C g h H) (rs : RelS C g s σ)
    (hok : okG C g ((a φ s h).bind k) K N) (hP : ∀ g1 h1 x cx H1, Ext g g1 → Rep C g1 h1 H1 → RelA C g1 x cx → okG C g1 (k x h1) K N → P cx H1) : tE C φ a N σ H P := by
  refine ⟨g, s, h, r, rs, ?_⟩
  cases e : a φ s h with
  | ok x h1 =>
    rw [e] at hok
    exact fun g' H' e1 r1 v rv => hP g' h1 x v H' e1 r1 rv (okG.ext hok e1)
  | exc c h1 => rw [e] at hok; exact hok
  | stuck => rw [e] at hok; exact hok
theorem goA {α : Type} {g : Gh} {s : St} {h : AH} {σ : L2.St} {H : Hp} {a : AF} {N : Nat → Hp → Prop} {k : List AV → AH → Out α} {K : α → Gh → AH → Hp → Prop} {P : List V → Hp → Prop} (r : Rep C g h H) (rs : RelS C g s σ)
    (hok : okG C g ((a φ s h).bind k) K N) (hP : ∀ g1 h1 x cx H1, Ext g g1 → Rep C g1 h1 H1 → RelL C g1 x cx → okG C g1 (k x h1) K N → P cx H1) : tAr C φ a N σ H P := by
  refine ⟨g, s, h, r, rs, ?_⟩
  cases e : a φ s h with
  | ok x h1 =>
    rw [e] at hok
    exact fun g' H' e1 r1 v rv => hP g' h1 x v H' e1 r1 rv (okG.ext hok e1)
  | exc c h1 => rw [e] at hok; exact hok
  | stuck => rw [e] at hok; exact hok
theorem tst_bl2 {α : Type} {x : AV} {a b : Out α} {g : Gh} {K : α → Gh → AH → Hp → Prop} {N : Nat → Hp → Prop} (h : okG C g (tst x a b) K N) : ∃ c, x = .bl c ∧ okG C g (if c = true then a else b) K N := by
  cases x <;> first | exact ⟨_, rfl, by rw [tst_bl] at h; exact h⟩ | exact False.elim h
theorem goB {α : Type} {g : Gh} {s : St} {h : AH} {σ : L2.St} {H : Hp} {a : EF} {N : Nat → Hp → Prop} {ka kb : AH → Out α} {K : α → Gh → AH → Hp → Prop} {P : Bool → Hp → Prop} (r : Rep C g h H) (rs : RelS C g s σ)
    (hok : okG C g ((a φ s h).bind fun x h1 => tst x (ka h1) (kb h1)) K N) (hP : ∀ g1 h1 b H1, Ext g g1 → Rep C g1 h1 H1 → okG C g1 (if b = true then ka h1 else kb h1) K N → P b H1) : tB C φ a N σ H P := by
  refine ⟨g, s, h, r, rs, ?_⟩
  cases e : a φ s h with
  | ok x h1 =>
    rw [e] at hok
    intro g' H' e1 r1
    obtain ⟨c, rfl, hc⟩ := tst_bl2 (okG.ext hok e1)
    exact ⟨c, rfl, hP g' h1 c H' e1 r1 hc⟩
  | exc c h1 => rw [e] at hok; exact hok
  | stuck => rw [e] at hok; exact hok
/-- behind the last piece -/
theorem okG.fin {α : Type} {g : Gh} {h : AH} {H : Hp} {x : α} {K : α → Gh → AH → Hp → Prop} {N : Nat → Hp → Prop} (hok : okG C g (.ok x h) K N) (r : Rep C g h H) : K x g h H := hok g H (Ext.refl g) r

/-! ### names, constants -/
theorem se_const {e : Expr} {x : AV} {v : V} (h : PE X e (L2.tC v)) (hr : ∀ g, RelA C g x v) : SE C φ X e (eC x) := ⟨fun N _ => h.imp fun σ H Q ⟨g, s, hh, r, rs, ok⟩ => ok g H (Ext.refl g) r v (hr g)⟩
theorem se_int {i : Int} {j : Nat} {pos : Pos} : SE C φ X (.Constant (.int i) j pos) (eC (.int i)) := se_const L2.pe_int fun _ => by simp [RelA]
theorem se_bool {b : Bool} {j : Nat} {pos : Pos} : SE C φ X (.Constant (.bool b) j pos) (eC (.bl b)) := se_const L2.pe_bl fun _ => by simp [RelA]
theorem se_none {j : Nat} {pos : Pos} : SE C φ X (.Constant .none j pos) (eC .non) := se_const L2.pe_non fun _ => by simp [RelA]
theorem se_str {x : Str} {t : Tx} {j : Nat} {pos : Pos} (h : x = toS t) : SE C φ X (.Constant (.str x) j pos) (eC (.str t)) := se_const L2.pe_str fun _ => by simp [RelA, h]
theorem se_var {i : Nat} {x : Str} {pos : Pos} (hN : X.N[i]? = some x) (hv : L2.Vis X.env.scope x) (hd : (x == ("__debug__" : Str)) = false) (hcd : (x == ("__classdict__" : Str)) = false) : SE C φ X (.Name x pos) (eV i) := by
  refine ⟨fun N _ => (L2.pe_var hN hv hd hcd).imp fun σ H Q ⟨g, s, hh, r, rs, ok⟩ => ?_⟩
  unfold eV at ok
  cases e : s[i]? with
  | none => rw [e] at ok; exact False.elim ok
  | some o =>
    cases o with
    | none => rw [e] at ok; exact False.elim ok
    | some x =>
      rw [e] at ok
      obtain ⟨v, h1, h2⟩ := rs.2 i x e
      exact ⟨v, h1, ok.fin r v h2⟩

/-! ### operators -/
/-- an operator of two values, by its readings -/
structure BinR (C : Cfg) (r : L2.R2) (f : AV → AV → AH → Out AV) : Prop where
  run : ∀ g h H x y cx cy (Q : VK) (N : Nat → Hp → Prop), Rep C g h H → RelA C g x cx → RelA C g y cy → okG C g (f x y h) (fun x g' _ H' => ∀ v, RelA C g' x v → Q v H') N → r cx cy H Q
theorem se_op2 {a b e : Expr} {fa fb : EF} {r : L2.R2} {f : AV → AV → AH → Out AV} (hp : ∀ {ta tb : TE}, PE X a ta → PE X b tb → PE X e (tOp r ta tb)) (B : BinR C r f) (ha : SE C φ X a fa) (hb : SE C φ X b fb) :
    SE C φ X e (fun φ s h => (fa φ s h).bind fun x h1 => (fb φ s h1).bind fun y h2 => f x y h2) := by
  refine ⟨fun N tk => (hp (ha.run N tk) (hb.run N tk)).imp fun σ H Q ⟨g, s, h, r, rs, ok⟩ => ?_⟩
  exact go r rs ok fun g1 h1 x cx H1 e1 r1 rx ok1 => go r1 (rs.mono e1) ok1 fun g2 h2 y cy H2 e2 r2 ry ok2 => B.run g2 h2 H2 x y cx cy Q N r2 (rx.mono e2) ry ok2
theorem RelA.int {g : Gh} {i : Int} {v : V} (h : RelA C g (.int i) v) : v = .int i := by simpa only [RelA] using h
theorem RelA.str {g : Gh} {i : Tx} {v : V} (h : RelA C g (.str i) v) : v = .str (toS i) := by simpa only [RelA] using h
theorem RelA.bl {g : Gh} {i : Bool} {v : V} (h : RelA C g (.bl i) v) : v = .bl i := by simpa only [RelA] using h
theorem RelA.mkI {g : Gh} {i : Int} : RelA C g (.int i) (.int i) := by simp only [RelA]
theorem RelA.mkB {g : Gh} {i : Bool} : RelA C g (.bl i) (.bl i) := by simp only [RelA]
theorem RelA.mkS {g : Gh} {i : Tx} : RelA C g (.str i) (.str (toS i)) := by simp only [RelA]

/-- a list or tuple, as it is read -/
theorem seq_at {g : Gh} {h : AH} {H : Hp} {x : AV} {cx : V} {xs : List AV} (r : Rep C g h H) (rx : RelA C g x cx) (e : seqOf x h = some xs) :
    ∃ a vs, cx = .ref a ∧ RelL C g xs vs ∧ ((H a = some (.lst vs) ∧ ∀ ys, x ≠ .tup ys) ∨ (SqT C.K H a vs ∧ x = .tup xs)) := by
  cases x with
  | tup ys =>
    simp only [seqOf, Option.some.injEq] at e
    subst e
    simp only [RelA] at rx
    obtain ⟨a, vs, h1, h2, h3⟩ := rx
    exact ⟨a, vs, h1, h3, .inr ⟨SqT.mono (fun b o q => (r.fx b o q).1) h2, rfl⟩⟩
  | lst ys =>
    simp only [seqOf, Option.some.injEq] at e
    subst e
    simp only [RelA] at rx
    obtain ⟨a, vs, h1, h2, h3⟩ := rx
    exact ⟨a, vs, h1, h3, .inl ⟨(r.fx _ _ h2).1, fun _ z => nomatch z⟩⟩
  | ref i =>
    simp only [seqOf] at e
    split at e
    · rename_i ys hg
      simp only [Option.some.injEq] at e
      subst e
      simp only [RelA] at rx
      obtain ⟨u, h1, vs, rfl, h3⟩ := r.obj i _ hg
      exact ⟨_, vs, rx.2, h3, .inl ⟨h1, fun _ z => nomatch z⟩⟩
    · cases e
  | _ => simp [seqOf] at e
theorem lst_at {g : Gh} {h : AH} {H : Hp} {x : AV} {cx : V} {xs : List AV} (r : Rep C g h H) (rx : RelA C g x cx) (e : lstOf x h = some xs) :
    ∃ a vs, cx = .ref a ∧ RelL C g xs vs ∧ H a = some (.lst vs) := by
  cases x with
  | lst ys =>
    simp only [lstOf, Option.some.injEq] at e
    subst e
    simp only [RelA] at rx
    obtain ⟨a, vs, h1, h2, h3⟩ := rx
    exact ⟨a, vs, h1, h3, (r.fx _ _ h2).1⟩
  | ref i =>
    simp only [lstOf] at e
    split at e
    · rename_i ys hg
      simp only [Option.some.injEq] at e
      subst e
      simp only [RelA] at rx
      obtain ⟨u, h1, vs, rfl, h3⟩ := r.obj i _ hg
      exact ⟨_, vs, rx.2, h3, h1⟩
    · cases e
  | _ => simp [lstOf] at e
theorem seq_SqLT {K : PySem.W.Frag} {H : Hp} {a : Addr} {vs : List V} {P Q' : Prop} (h : (H a = some (.lst vs) ∧ P) ∨ (SqT K H a vs ∧ Q')) : SqL K H a vs ∨ SqT K H a vs := h.elim (fun z => .inl (SqL.of z.1)) fun z => .inr z.1
/-- a list made -/
theorem mk_at {g : Gh} {h : AH} {H : Hp} {m : Bool} {xs : List AV} {vs : List V} {Q : VK} {N : Nat → Hp → Prop} (r : Rep C g h H) (rl : RelL C g xs vs) (ok : okG C g (mk m xs h) (fun x g' _ H' => ∀ v, RelA C g' x v → Q v H') N) :
    ∀ p, H p = none → Q (.ref p) (upd H p (.lst vs)) := fun p hp => by
  unfold mk at ok
  cases m with
  | false =>
    have r1 := r.more hp (o := .lst vs) trivial
    refine ok _ _ (r.ext_more hp _) r1 _ ?_
    simp only [RelA]
    exact ⟨p, vs, rfl, upd_same, rl.mono (r.ext_more hp _)⟩
  | true =>
    have r1 := r.new hp (o := .lst xs) (u := .lst vs) ⟨vs, rfl, rl.mono r.ext_obj⟩
    refine ok _ _ r.ext_obj r1 _ ?_
    simp only [RelA]
    refine ⟨?_, ?_⟩
    · show h.length < g.n + 1
      rw [r.n]; exact Nat.lt_succ_self _
    · show V.ref p = V.ref (if h.length = g.n then p else g.at_ h.length)
      rw [if_pos r.n.symm]
theorem mkLst_at {g : Gh} {h : AH} {H : Hp} {m : Bool} {xs : List AV} {vs : List V} {Q : VK} {N : Nat → Hp → Prop} (r : Rep C g h H) (rl : RelL C g xs vs) (ok : okG C g (mkLst m xs h) (fun x g' _ H' => ∀ v, RelA C g' x v → Q v H') N) :
    vs.length ≤ sizeLine ∧ ∀ p, H p = none → Q (.ref p) (upd H p (.lst vs)) := by
  unfold mkLst at ok
  split at ok
  · rename_i hz
    exact ⟨by rw [← rl.len]; exact hz, mk_at r rl ok⟩
  · exact False.elim ok
/-- a tuple made -/
theorem tup_at {g : Gh} {h : AH} {H : Hp} {xs : List AV} {vs : List V} {Q : VK} {N : Nat → Hp → Prop} (r : Rep C g h H) (rl : RelL C g xs vs) (ok : okG C g (.ok (.tup xs) h) (fun x g' _ H' => ∀ v, RelA C g' x v → Q v H') N) :
    ∀ p, H p = none → Q (.ref p) (upd H p (.tup vs)) := fun p hp => by
  refine ok _ _ (r.ext_more hp _) (r.more hp (o := .tup vs) trivial) _ ?_
  simp only [RelA]
  exact ⟨p, vs, rfl, SqT.of upd_same, rl.mono (r.ext_more hp _)⟩
theorem SqT.of' {K : PySem.W.Frag} {H : Hp} {a : Addr} {xs : List V} (h : H a = some (.tup xs)) : SqT K H a xs := .inl (.inl h)

/-! ### + - * // % ** -/
def okP {C : Cfg} {g : Gh} {h : AH} {H : Hp} {v : AV} {cv : V} {Q : VK} {N : Nat → Hp → Prop} (r : Rep C g h H) (ok : okG C g (.ok v h) (fun x g' _ H' => ∀ v, RelA C g' x v → Q v H') N) (rv : RelA C g v cv) : Q cv H := ok.fin r cv rv
theorem int_op {op : BO} {G : Int → Int → Prop} {k : Int → Int → Int} (hk : ∀ i j n, intOp op i j = some n → G i j ∧ n = k i j) :
    ∀ g h H i j cx cy (Q : VK) (N : Nat → Hp → Prop) (_ : Rep C g h H) (_ : RelA C g (.int i) cx) (_ : RelA C g (.int j) cy),
      okG C g (match intOp op i j with | some k => Out.ok (AV.int k) h | none => .stuck) (fun x g' _ H' => ∀ v, RelA C g' x v → Q v H') N → L2.rI G (fun i j => .int (k i j)) cx cy H Q := by
  intro g h H i j cx cy Q N r rx ry ok
  cases e : intOp op i j with
  | none => rw [e] at ok; exact False.elim ok
  | some n =>
    rw [e] at ok
    obtain ⟨h1, rfl⟩ := hk i j n e
    exact ⟨i, j, rx.int, ry.int, h1, okP r ok .mkI⟩
def rAdd (K : PySem.W.Frag) : L2.R2 := fun x y H Q => L2.rI0 (fun i j => .int (i + j)) x y H Q ∨
  (∃ i j, x = .str i ∧ y = .str j ∧ i.length + j.length ≤ sizeLine ∧ Q (.str (i ++ j)) H) ∨ L2.rCat x y H Q ∨ L2.rCatA K x y H Q
theorem op_addA : OpR X (binaryOp .Add) (rAdd X.K) := .or L2.op_add (.or L2.op_add_str (.or L2.op_cat L2.op_catA))

theorem neg_of {P : Prop} (h : False) : P := h.elim
theorem toS_append (a b : Tx) : toS a ++ toS b = toS (a ++ b) := by
  show (⟨a.toArray ++ b.toArray⟩ : Str) = ⟨(a ++ b).toArray⟩
  congr 1
  simp
theorem add_run (hK : X.K = C.K) (m : Bool) : BinR C (rAdd X.K) (binA m .add) := by
  refine ⟨fun g h H x y cx cy Q N r rx ry ok => ?_⟩
  unfold binA at ok
  split at ok
  · exact .inl (let ⟨i, j, a, b, _, c⟩ := int_op (op := .add) (G := fun _ _ => True) (k := fun i j => i + j) (fun i j n e => ⟨trivial, by simpa [intOp] using e.symm⟩) g h H _ _ cx cy Q N r rx ry ok; ⟨i, j, a, b, c⟩)
  · rename_i a b
    simp only at ok
    split at ok
    · rename_i hz
      refine .inr (.inl ⟨toS a, toS b, rx.str, ry.str, by rw [toS_len, toS_len]; exact hz, ?_⟩)
      rw [toS_append]
      exact okP r ok .mkS
    · exact ok.elim
  · rename_i a b
    simp only at ok
    split at ok
    · rename_i hz
      obtain ⟨p, vs, rfl, rl, h1 | h1⟩ := seq_at (xs := a) r rx rfl
      · exact absurd rfl (h1.2 a)
      · obtain ⟨q, us, rfl, rl2, h2 | h2⟩ := seq_at (xs := b) r ry rfl
        · exact absurd rfl (h2.2 b)
        · have T := tup_at r (rl.append rl2) ok
          have l1 := rl.len
          have l2 := rl2.len
          rw [hK]
          refine .inr (.inr (.inr ⟨p, q, vs, us, rfl, rfl, h1.1, h2.1, by rw [← l1, ← l2]; exact hz.2.2, fun e => ?_, fun e1 e2 => ?_, fun _ _ => T⟩))
          · subst e
            have : a = [] := by cases a with | nil => rfl | cons _ _ => simp at l1
            subst this
            exact okP r ok ry
          · subst e2
            have : b = [] := by cases b with | nil => rfl | cons _ _ => simp at l2
            subst this
            exact okP r ok (by rw [List.append_nil]; exact rx)
    · exact ok.elim
  · exact ok.elim
  · simp only at ok
    split at ok
    · rename_i a b e1 e2
      split at ok
      · obtain ⟨p, vs, rfl, rl, h1⟩ := lst_at r rx e1
        obtain ⟨q, us, rfl, rl2, h2⟩ := lst_at r ry e2
        obtain ⟨l, T⟩ := mkLst_at r (rl.append rl2) ok
        exact .inr (.inr (.inl ⟨p, q, vs, us, rfl, rfl, h1, h2, by rw [List.length_append] at l; exact l, T⟩))
      · exact ok.elim
    · exact ok.elim
theorem sub_run (m : Bool) : BinR C (L2.rI0 fun i j => .int (i - j)) (binA m .sub) := by
  refine ⟨fun g h H x y cx cy Q N r rx ry ok => ?_⟩
  unfold binA at ok
  split at ok
  · exact let ⟨i, j, a, b, _, c⟩ := int_op (op := .sub) (G := fun _ _ => True) (k := fun i j => i - j) (fun i j n e => ⟨trivial, by simpa [intOp] using e.symm⟩) g h H _ _ cx cy Q N r rx ry ok; ⟨i, j, a, b, c⟩
  all_goals exact ok.elim
theorem div_run (m : Bool) : BinR C (L2.rI L2.CDivN fun i j => .int (i.fdiv j)) (binA m .div) := by
  refine ⟨fun g h H x y cx cy Q N r rx ry ok => ?_⟩
  unfold binA at ok
  split at ok
  · exact int_op (op := .div) (fun i j n e => by
      unfold intOp at e
      simp only at e
      split at e
      · rename_i hz
        exact ⟨hz, by simpa using e.symm⟩
      · cases e) g h H _ _ cx cy Q N r rx ry ok
  all_goals exact ok.elim
theorem mod_run (m : Bool) : BinR C (L2.rI (fun _ j => j ≠ 0) fun i j => .int (i.fmod j)) (binA m .mod) := by
  refine ⟨fun g h H x y cx cy Q N r rx ry ok => ?_⟩
  unfold binA at ok
  split at ok
  · exact int_op (op := .mod) (fun i j n e => by
      unfold intOp at e
      simp only at e
      split at e
      · rename_i hz
        exact ⟨hz, by simpa using e.symm⟩
      · cases e) g h H _ _ cx cy Q N r rx ry ok
  all_goals exact ok.elim
theorem pow_run (m : Bool) : BinR C (L2.rI L2.CPow fun i j => .int (i ^ j.toNat)) (binA m .pow) := by
  refine ⟨fun g h H x y cx cy Q N r rx ry ok => ?_⟩
  unfold binA at ok
  split at ok
  · exact int_op (op := .pow) (fun i j n e => by
      unfold intOp at e
      simp only at e
      split at e
      · rename_i hz
        exact ⟨hz, by simpa using e.symm⟩
      · cases e) g h H _ _ cx cy Q N r rx ry ok
  all_goals exact ok.elim
theorem mul_run (m : Bool) : BinR C (fun x y H Q => L2.rI L2.CMul (fun i j => .int (i * j)) x y H Q ∨ L2.rRep x y H Q) (binA m .mul) := by
  refine ⟨fun g h H x y cx cy Q N r rx ry ok => ?_⟩
  unfold binA at ok
  split at ok
  · exact .inl (int_op (op := .mul) (fun i j n e => by
      unfold intOp at e
      simp only at e
      split at e
      · rename_i hz
        refine ⟨?_, by simpa using e.symm⟩
        simp only [small, Bool.or_eq_true, decide_eq_true_eq] at hz
        exact hz
      · cases e) g h H _ _ cx cy Q N r rx ry ok)
  · exact ok.elim
  · exact ok.elim
  · skip
    simp only at ok
    split at ok
    · rename_i xs e
      split at ok
      · rename_i hz
        obtain ⟨p, vs, rfl, rl, h1⟩ := lst_at r rx e
        obtain ⟨_, T⟩ := mkLst_at r (rl.rep _) ok
        exact .inr ⟨p, _, vs, rfl, ry.int, h1, hz.1, hz.2.1, by rw [← rl.len]; exact hz.2.2, T⟩
      · exact ok.elim
    · exact ok.elim
  · exact ok.elim

/-! ### comparisons -/
theorem someB_at {g : Gh} {h : AH} {H : Hp} {o : Option Bool} {Q : VK} {N : Nat → Hp → Prop} (r : Rep C g h H) (ok : okG C g (someB o h) (fun x g' _ H' => ∀ v, RelA C g' x v → Q v H') N) : ∃ b, o = some b ∧ Q (.bl b) H := by
  cases o with
  | none => exact ok.elim
  | some b => exact ⟨b, rfl, okP r ok .mkB⟩
theorem RelL.intsOf {g : Gh} : ∀ {xs : List AV} {vs : List V}, RelL C g xs vs → intLL xs = true → ∃ ns : List Int, xs = ns.map AV.int ∧ vs = ns.map V.int
  | [], _, h, _ => by rw [RelL.nil_iff] at h; exact ⟨[], rfl, h⟩
  | x :: xs, _, h, e => by
    cases x <;> simp only [intLL, Bool.false_eq_true] at e
    rw [RelL.cons_iff] at h
    obtain ⟨v, r, rfl, h1, h2⟩ := h
    obtain ⟨ns, rfl, rfl⟩ := RelL.intsOf h2 e
    exact ⟨_ :: ns, rfl, by rw [h1.int]; rfl⟩
theorem ltLL_lex : ∀ ns ms : List Int, ltLL (ns.map .int) (ms.map .int) = HT.lexLt ns ms
  | [], [] => rfl
  | [], _ :: _ => rfl
  | _ :: _, [] => rfl
  | x :: xs, y :: ys => by
    simp only [List.map_cons, ltLL, HT.lexLt]
    rw [ltLL_lex xs ys]
def rLtA (K : PySem.W.Frag) : L2.R2 := fun x y H Q => L2.rI0 (fun i j => .bl (decide (i < j))) x y H Q ∨ (∃ i j, x = .str i ∧ y = .str j ∧ Q (.bl (decide (i.cps.toList < j.cps.toList))) H) ∨ L2.rLtT K x y H Q
theorem op_ltA (hu : X.A.units < cLine) : OpR X (compareOp .Lt) (rLtA X.K) := .or L2.op_lt (.or L2.op_lt_str (L2.op_ltT hu))
theorem lt_run (hK : X.K = C.K) : BinR C (rLtA X.K) (cmpA .lt) := by
  refine ⟨fun g h H x y cx cy Q N r rx ry ok => ?_⟩
  obtain ⟨b, e, q⟩ := someB_at r ok
  unfold ltA at e
  split at e
  · cases e
    exact .inl ⟨_, _, rx.int, ry.int, q⟩
  · cases e
    refine .inr (.inl ⟨_, _, rx.str, ry.str, ?_⟩)
    rw [toS_list, toS_list]
    exact q
  · rename_i a b'
    split at e
    · rename_i hz
      cases e
      simp only [Bool.and_eq_true] at hz
      obtain ⟨p, vs, rfl, rl, h1 | h1⟩ := seq_at (xs := a) r rx rfl
      · exact absurd rfl (h1.2 a)
      · obtain ⟨q', us, rfl, rl2, h2 | h2⟩ := seq_at (xs := b') r ry rfl
        · exact absurd rfl (h2.2 b')
        · obtain ⟨ns, e1, rfl⟩ := rl.intsOf hz.1
          obtain ⟨ms, e2, rfl⟩ := rl2.intsOf hz.2
          rw [e1, e2, ltLL_lex] at q
          rw [hK]
          exact .inr (.inr ⟨p, q', ns, ms, rfl, rfl, h1.1, h2.1, q⟩)
    · cases e
  · cases e
theorem lexAt_shift (e r : Nat → Bool) (z : Bool) : ∀ k i, Ob.lexAt e r z (i + 1) k = Ob.lexAt (fun j => e (j + 1)) (fun j => r (j + 1)) z i k
  | 0, _ => rfl
  | k + 1, i => by
    rw [Ob.lexAt_succ, Ob.lexAt_succ, lexAt_shift e r z k (i + 1)]
theorem lexAt_le : ∀ ns ms : List Int, Ob.lexAt (fun j => decide (ns.getD j 0 = ms.getD j 0)) (fun j => decide (ns.getD j 0 ≤ ms.getD j 0)) (decide (ns.length ≤ ms.length)) 0 (min ns.length ms.length) = !HT.lexLt ms ns
  | [], [] => rfl
  | [], _ :: _ => by simp [Ob.lexAt_zero, HT.lexLt]
  | _ :: _, [] => rfl
  | x :: xs, y :: ys => by
    have e : min (x :: xs).length (y :: ys).length = min xs.length ys.length + 1 := by simp
    rw [e, Ob.lexAt_succ, lexAt_shift]
    have ih := lexAt_le xs ys
    simp only [List.getD_cons_succ, List.getD_cons_zero, List.length_cons, Nat.add_le_add_iff_right, HT.lexLt]
    rw [ih]
    by_cases h : x = y
    · subst h; simp
    · have h' : ¬ y = x := fun z => h z.symm
      simp only [h, h', decide_false, if_false, Bool.false_eq_true]
      by_cases h2 : x ≤ y
      · have : ¬ y < x := by omega
        simp [h2, this]
      · have : y < x := by omega
        simp [h2, this]
def rLeA (K : PySem.W.Frag) : L2.R2 := fun x y H Q => L2.rI0 (fun i j => .bl (decide (i ≤ j))) x y H Q ∨ (∃ i j, x = .str i ∧ y = .str j ∧ Q (.bl (!decide (j.cps.toList < i.cps.toList))) H) ∨ L2.rLeT K x y H Q
theorem op_leA (hu : X.A.units < cLine) : OpR X (compareOp .LtE) (rLeA X.K) := .or L2.op_le (.or L2.op_le_str (L2.op_leT hu))
theorem notO_some {o : Option Bool} {b : Bool} (h : notO o = some b) : ∃ c, o = some c ∧ b = !c := by
  cases o with
  | none => cases h
  | some c => exact ⟨c, rfl, by simpa [notO] using h.symm⟩
theorem dec_le (i j : Int) : (!decide (j < i)) = decide (i ≤ j) := by
  by_cases h : i ≤ j
  · have : ¬ j < i := by omega
    simp [h, this]
  · have : j < i := by omega
    simp [h, this]
theorem le_run (hK : X.K = C.K) : BinR C (rLeA X.K) (cmpA .le) := by
  refine ⟨fun g h H x y cx cy Q N r rx ry ok => ?_⟩
  obtain ⟨b, e, q⟩ := someB_at r ok
  obtain ⟨c, e', hc⟩ := notO_some e
  clear e
  have e := e'
  clear e'
  rw [hc] at q
  clear hc
  unfold ltA at e
  split at e
  · cases e
    rw [dec_le] at q
    exact .inl ⟨_, _, rx.int, ry.int, q⟩
  · cases e
    refine .inr (.inl ⟨_, _, rx.str, ry.str, ?_⟩)
    rw [toS_list, toS_list]
    exact q
  · rename_i a b'
    split at e
    · rename_i hz
      cases e
      simp only [Bool.and_eq_true] at hz
      obtain ⟨p, vs, rfl, rl, h1 | h1⟩ := seq_at (xs := b') r rx rfl
      · exact absurd rfl (h1.2 b')
      · obtain ⟨q', us, rfl, rl2, h2 | h2⟩ := seq_at (xs := a) r ry rfl
        · exact absurd rfl (h2.2 a)
        · obtain ⟨ns, e1, rfl⟩ := rl.intsOf hz.2
          obtain ⟨ms, e2, rfl⟩ := rl2.intsOf hz.1
          rw [e1, e2, ltLL_lex] at q
          rw [hK]
          refine .inr (.inr ⟨p, q', ns, ms, rfl, rfl, h1.1, h2.1, ?_⟩)
          rw [lexAt_le]
          exact q
    · cases e
  · cases e
def rGtA : L2.R2 := fun x y H Q => L2.rI0 (fun i j => .bl (decide (j < i))) x y H Q ∨ (∃ i j, x = .str i ∧ y = .str j ∧ Q (.bl (decide (j.cps.toList < i.cps.toList))) H)
theorem op_gtA : OpR X (compareOp .Gt) rGtA := .or L2.op_gt L2.op_gt_str
theorem gt_run : BinR C rGtA (cmpA .gt) := by
  refine ⟨fun g h H x y cx cy Q N r rx ry ok => ?_⟩
  obtain ⟨b, e, q⟩ := someB_at r ok
  unfold ltS at e
  split at e
  · cases e
    exact .inl ⟨_, _, rx.int, ry.int, q⟩
  · cases e
    refine .inr ⟨_, _, rx.str, ry.str, ?_⟩
    rw [toS_list, toS_list]
    exact q
  · cases e
def rGeA : L2.R2 := fun x y H Q => L2.rI0 (fun i j => .bl (decide (j ≤ i))) x y H Q ∨ (∃ i j, x = .str i ∧ y = .str j ∧ Q (.bl (!decide (i.cps.toList < j.cps.toList))) H)
theorem op_geA : OpR X (compareOp .GtE) rGeA := .or L2.op_ge L2.op_ge_str
theorem ge_run : BinR C rGeA (cmpA .ge) := by
  refine ⟨fun g h H x y cx cy Q N r rx ry ok => ?_⟩
  obtain ⟨b, e, q⟩ := someB_at r ok
  obtain ⟨c, e', hc⟩ := notO_some e
  clear e
  have e := e'
  clear e'
  rw [hc] at q
  clear hc
  unfold ltS at e
  split at e
  · cases e
    rw [dec_le] at q
    exact .inl ⟨_, _, rx.int, ry.int, q⟩
  · cases e
    refine .inr ⟨_, _, rx.str, ry.str, ?_⟩
    rw [toS_list, toS_list]
    exact q
  · cases e

/-! == and != -/
mutual
def toD : AV → PyData
  | .int i => .int i
  | .str s => .str (toS s)
  | .tup xs => .tuple (toDL xs)
  | .lst xs => .list (toDL xs)
  | _ => .none
def toDL : List AV → List PyData
  | [] => []
  | x :: xs => toD x :: toDL xs
end
mutual
theorem toD_lay : ∀ {x : AV}, x.data = true → (toD x).canLay0 = true
  | .non, _ => by simp [toD, PyData.canLay0]
  | .int _, _ => by simp [toD, PyData.canLay0]
  | .str s, h => by
    simp only [AV.data] at h
    simp only [toD, PyData.canLay0, PyData.strOk, toS]
    simpa using h
  | .tup xs, h => by
    simp only [AV.data] at h
    simp only [toD, PyData.canLay0]
    exact toDL_lay h
  | .lst xs, h => by
    simp only [AV.data] at h
    simp only [toD, PyData.canLay0]
    exact toDL_lay h
theorem toDL_lay : ∀ {x : List AV}, AV.dataL x = true → PyData.canLayAll0 (toDL x) = true
  | [], _ => by simp [toDL, PyData.canLayAll0]
  | x :: xs, h => by
    simp only [AV.dataL, Bool.and_eq_true] at h
    simp only [toDL, PyData.canLayAll0, Bool.and_eq_true]
    exact ⟨toD_lay h.1, toDL_lay h.2⟩
end
mutual
theorem toD_dep : ∀ {x : AV}, x.data = true → (toD x).depth = x.dep
  | .non, _ => by simp [toD, PyData.depth, AV.dep]
  | .int _, _ => by simp [toD, PyData.depth, AV.dep]
  | .str s, h => by simp [toD, PyData.depth, AV.dep]
  | .tup xs, h => by
    simp only [AV.data] at h
    simp only [toD, PyData.depth, AV.dep]
    rw [toDL_dep h]
  | .lst xs, h => by
    simp only [AV.data] at h
    simp only [toD, PyData.depth, AV.dep]
    rw [toDL_dep h]
theorem toDL_dep : ∀ {x : List AV}, AV.dataL x = true → PyData.depthAll (toDL x) = AV.depL x
  | [], _ => by simp [toDL, PyData.depthAll, AV.depL]
  | x :: xs, h => by
    simp only [AV.dataL, Bool.and_eq_true] at h
    simp only [toDL, PyData.depthAll, AV.depL]
    rw [toD_dep h.1, toDL_dep h.2]
end
theorem toS_beq (a b : Tx) : (toS a == toS b) = decide (a = b) := by
  by_cases h : a = b
  · subst h; simp
  · have : toS a ≠ toS b := fun z => h (toS_inj z)
    simp [h, this]
mutual
theorem toD_eqv : ∀ {x y : AV}, x.data = true → y.data = true → PyData.eqv (toD x) (toD y) = decide (x = y)
  | .non, y, _, h => by cases y <;> first | (simp [toD, PyData.eqv]; done) | (simp [AV.data] at h; done)
  | .int i, y, _, h => by
    cases y <;> first
      | (simp [toD, PyData.eqv]; done)
      | (simp [AV.data] at h; done)
      | (rename_i j
         simp only [toD, PyData.eqv, AV.int.injEq]
         by_cases e : i = j <;> simp [e])
  | .str s, y, _, h => by
    cases y <;> first
      | (simp [AV.data] at h; done)
      | (simp only [toD, PyData.eqv, AV.str.injEq]; exact toS_beq _ _)
      | (simp [toD, PyData.eqv]; done)
  | .tup xs, y, h0, h => by
    simp only [AV.data] at h0
    cases y <;> first
      | (simp only [AV.data] at h; simp only [toD, PyData.eqv, AV.tup.injEq]; exact toDL_eqv h0 h)
      | (simp [toD, PyData.eqv]; done)
      | (simp [AV.data] at h; done)
  | .lst xs, y, h0, h => by
    simp only [AV.data] at h0
    cases y <;> first
      | (simp only [AV.data] at h; simp only [toD, PyData.eqv, AV.lst.injEq]; exact toDL_eqv h0 h)
      | (simp [toD, PyData.eqv]; done)
      | (simp [AV.data] at h; done)
theorem toDL_eqv : ∀ {x y : List AV}, AV.dataL x = true → AV.dataL y = true → PyData.eqvAll (toDL x) (toDL y) = decide (x = y)
  | [], [], _, _ => by simp [toDL, PyData.eqvAll]
  | [], _ :: _, _, _ => by simp [toDL, PyData.eqvAll]
  | _ :: _, [], _, _ => by simp [toDL, PyData.eqvAll]
  | x :: xs, y :: ys, h, h' => by
    simp only [AV.dataL, Bool.and_eq_true] at h h'
    simp only [toDL, PyData.eqvAll, List.cons.injEq]
    rw [toD_eqv h.1 h'.1, toDL_eqv h.2 h'.2]
    simp
end
mutual
theorem toD_dp {g : Gh} {H : Hp} (k : ∀ a o, g.fx a = some o → H a = some o) : ∀ {x : AV} {v : V}, x.data = true → RelA C g x v → L2.Dp C.K H v (toD x)
  | .non, _, _, h => by simp only [RelA] at h; subst h; exact .non
  | .int _, _, _, h => by simp only [RelA] at h; subst h; exact .int _
  | .str _, _, _, h => by simp only [RelA] at h; subst h; exact .str _
  | .tup xs, _, d, h => by
    simp only [AV.data] at d
    simp only [RelA] at h
    obtain ⟨a, vs, rfl, h2, h3⟩ := h
    exact .tup (SqT.mono k h2) (toDL_dp k d h3)
  | .lst xs, _, d, h => by
    simp only [AV.data] at d
    simp only [RelA] at h
    obtain ⟨a, vs, rfl, h2, h3⟩ := h
    exact .lst (SqL.of (k _ _ h2)) (toDL_dp k d h3)
theorem toDL_dp {g : Gh} {H : Hp} (k : ∀ a o, g.fx a = some o → H a = some o) : ∀ {x : List AV} {v : List V}, AV.dataL x = true → RelL C g x v → L2.DpAll C.K H v (toDL x)
  | [], _, _, h => by rw [RelL.nil_iff] at h; subst h; exact .nil
  | x :: xs, _, d, h => by
    simp only [AV.dataL, Bool.and_eq_true] at d
    rw [RelL.cons_iff] at h
    obtain ⟨v, r, rfl, h1, h2⟩ := h
    exact .cons (toD_dp k d.1 h1) (toDL_dp k d.2 h2)
end
theorem shaped_of {x : AV} (d : x.data = true) (h : x.dep ≤ 64) : SeqAt.shaped (toD x) = true := by
  unfold SeqAt.shaped
  rw [toD_lay d, toD_dep d]
  simpa using h
theorem still_dp {g : Gh} {h : AH} {H : Hp} {x a : AV} {cx : V} (r : Rep C g h H) (rx : RelA C g x cx) (e : still x h = some a) (d : a.data = true) : L2.Dp C.K H cx (toD a) := by
  have k : ∀ a o, g.fx a = some o → H a = some o := fun a o e => (r.fx a o e).1
  cases x with
  | ref i =>
    simp only [still] at e
    split at e
    · rename_i ys hg
      simp only [Option.some.injEq] at e
      subst e
      simp only [RelA] at rx
      obtain ⟨u, h1, vs, rfl, h3⟩ := r.obj i _ hg
      rw [rx.2]
      simp only [AV.data] at d
      exact .lst (SqL.of h1) (toDL_dp k d h3)
    · cases e
  | _ =>
    simp only [still, Option.some.injEq] at e
    subst e
    exact toD_dp k d rx
theorem still_flat {g : Gh} {h : AH} {x a : AV} {cx : V} (rx : RelA C g x cx) (e : still x h = some a) (d : a.flat = true ∨ ∃ b, a = .bl b) : x = a := by
  cases x with
  | ref i =>
    simp only [still] at e
    split at e
    · simp only [Option.some.injEq] at e
      subst e
      rcases d with d | ⟨b, d⟩
      · simp [AV.flat] at d
      · cases d
    · cases e
  | _ => simpa only [still, Option.some.injEq] using e
theorem flat_eq {g : Gh} {x y : AV} {cx cy : V} (rx : RelA C g x cx) (ry : RelA C g y cy) (hx : x.flat = true) (hy : y.flat = true) : L2.scal cx cy = true ∧ decide (cx = cy) = decide (x = y) := by
  cases x <;> simp only [AV.flat, Bool.false_eq_true] at hx <;> cases y <;> simp only [AV.flat, Bool.false_eq_true] at hy <;> simp only [RelA] at rx ry <;> subst rx <;> subst ry <;> refine ⟨rfl, ?_⟩
  all_goals first | (simp; done) | skip
  rename_i a b
  simp only [V.str.injEq, AV.str.injEq]
  by_cases e : a = b
  · simp [e]
  · have : toS a ≠ toS b := fun z => e (toS_inj z)
    simp [e, this]
def rEqA (K : PySem.W.Frag) : L2.R2 := fun x y H Q => L2.rEq x y H Q ∨ L2.rEqD K x y H Q
def rNeA (K : PySem.W.Frag) : L2.R2 := fun x y H Q => L2.rNe x y H Q ∨ L2.rNeD K x y H Q
theorem op_eqA (hu : X.A.units + 64 < cLine) : OpR X (compareOp .Eq) (rEqA X.K) := .or L2.op_eq (L2.op_eqD hu)
theorem op_neA (hu : X.A.units + 64 < cLine) : OpR X (compareOp .NotEq) (rNeA X.K) := .or L2.op_ne (L2.op_neD hu)
theorem eqA_at {g : Gh} {h : AH} {H : Hp} {x y a b : AV} {cx cy : V} {c : Bool} (r : Rep C g h H) (rx : RelA C g x cx) (ry : RelA C g y cy) (e1 : still x h = some a) (e2 : still y h = some b) (e : eqA a b = some c) :
    (L2.scal cx cy = true ∧ decide (cx = cy) = c) ∨ ∃ d d', L2.Dp C.K H cx d ∧ L2.Dp C.K H cy d' ∧ SeqAt.shaped d = true ∧ SeqAt.shaped d' = true ∧ PyData.eqv d d' = c := by
  unfold eqA at e
  split at e
  · rename_i p q
    obtain rfl := still_flat rx e1 (.inr ⟨_, rfl⟩)
    obtain rfl := still_flat ry e2 (.inr ⟨_, rfl⟩)
    rw [rx.bl, ry.bl]
    simp only [Option.some.injEq] at e
    left
    refine ⟨rfl, ?_⟩
    rw [← e, L2.dec_bl]
  · obtain rfl := still_flat rx e1 (.inr ⟨_, rfl⟩)
    obtain rfl := still_flat ry e2 (.inl rfl)
    rw [rx.bl, ry.str]
    simp only [Option.some.injEq] at e
    exact .inl ⟨rfl, by rw [← e]; rfl⟩
  · obtain rfl := still_flat rx e1 (.inl rfl)
    obtain rfl := still_flat ry e2 (.inr ⟨_, rfl⟩)
    rw [rx.str, ry.bl]
    simp only [Option.some.injEq] at e
    exact .inl ⟨rfl, by rw [← e]; rfl⟩
  · obtain rfl := still_flat rx e1 (.inr ⟨_, rfl⟩)
    obtain rfl := still_flat ry e2 (.inl rfl)
    rw [rx.bl, show cy = .non by simpa only [RelA] using ry]
    simp only [Option.some.injEq] at e
    exact .inl ⟨rfl, by rw [← e]; rfl⟩
  · obtain rfl := still_flat rx e1 (.inl rfl)
    obtain rfl := still_flat ry e2 (.inr ⟨_, rfl⟩)
    rw [ry.bl, show cx = .non by simpa only [RelA] using rx]
    simp only [Option.some.injEq] at e
    exact .inl ⟨rfl, by rw [← e]; rfl⟩
  · split at e
    · rename_i hz
      simp only [Option.some.injEq] at e
      simp only [Bool.or_eq_true, Bool.and_eq_true, decide_eq_true_eq] at hz
      rcases hz with hz | hz
      · obtain rfl := still_flat rx e1 (.inl hz.1)
        obtain rfl := still_flat ry e2 (.inl hz.2)
        obtain ⟨h1, h2⟩ := flat_eq rx ry hz.1 hz.2
        exact .inl ⟨h1, h2.trans e⟩
      · exact .inr ⟨_, _, still_dp r rx e1 hz.1.1.1, still_dp r ry e2 hz.1.1.2, shaped_of hz.1.1.1 hz.1.2, shaped_of hz.1.1.2 hz.2, (toD_eqv hz.1.1.1 hz.1.1.2).trans e⟩
    · cases e
theorem eq_run (hK : X.K = C.K) : BinR C (rEqA X.K) (cmpA .eq) := by
  refine ⟨fun g h H x y cx cy Q N r rx ry ok => ?_⟩
  simp only [cmpA] at ok
  split at ok
  · rename_i a b e1 e2
    obtain ⟨c, e, q⟩ := someB_at r ok
    rw [hK]
    rcases eqA_at r rx ry e1 e2 e with ⟨h1, h2⟩ | ⟨d, d', h1, h2, h3, h4, h5⟩
    · exact .inl ⟨h1, by rw [h2]; exact q⟩
    · exact .inr ⟨d, d', h1, h2, h3, h4, by rw [h5]; exact q⟩
  · exact ok.elim
theorem ne_run (hK : X.K = C.K) : BinR C (rNeA X.K) (cmpA .ne) := by
  refine ⟨fun g h H x y cx cy Q N r rx ry ok => ?_⟩
  simp only [cmpA] at ok
  split at ok
  · rename_i a b e1 e2
    obtain ⟨c', e', q⟩ := someB_at r ok
    obtain ⟨c, e, hc⟩ := notO_some e'
    rw [hc] at q
    rw [hK]
    rcases eqA_at r rx ry e1 e2 e with ⟨h1, h2⟩ | ⟨d, d', h1, h2, h3, h4, h5⟩
    · exact .inl ⟨h1, by rw [h2]; exact q⟩
    · exact .inr ⟨d, d', h1, h2, h3, h4, by rw [h5]; exact q⟩
  · exact ok.elim
theorem non_iff {g : Gh} {x : AV} {cx : V} (rx : RelA C g x cx) : decide (cx = .non) = decide (x = .non) := by
  cases x <;> simp only [RelA] at rx
  case non => subst rx; rfl
  case bl => subst rx; rfl
  case int => subst rx; rfl
  case str => subst rx; rfl
  case ref => rw [rx.2]; rfl
  all_goals
    obtain ⟨a, vs, rfl, _⟩ := rx
    rfl
theorem isN_run : BinR C (fun x y H Q => y = .non ∧ Q (.bl (decide (x = .non))) H) (cmpA .isN) := by
  refine ⟨fun g h H x y cx cy Q N r rx ry ok => ?_⟩
  simp only [cmpA] at ok
  split at ok
  · refine ⟨by simpa only [RelA] using ry, ?_⟩
    rw [non_iff rx]
    exact okP r ok .mkB
  · exact ok.elim
theorem notN_run : BinR C (fun x y H Q => y = .non ∧ Q (.bl (!decide (x = .non))) H) (cmpA .notN) := by
  refine ⟨fun g h H x y cx cy Q N r rx ry ok => ?_⟩
  simp only [cmpA] at ok
  split at ok
  · refine ⟨by simpa only [RelA] using ry, ?_⟩
    rw [non_iff rx]
    exact okP r ok .mkB
  · exact ok.elim

/-! in, not in -/
theorem KeyR.iff {x y : AV} {k l : Key} (h : KeyR x k) (h' : KeyR y l) : (k = l) ↔ x = y := by
  cases x <;> simp only [KeyR] at h <;> cases y <;> simp only [KeyR] at h' <;> subst h <;> subst h'
  · simp
  · simp
  · simp
  · constructor
    · intro e
      rw [toS_inj (Sum.inr.inj e)]
    · intro e
      rw [AV.str.inj e]
theorem key_of {g : Gh} {x : AV} {cx : V} (hk : isKey x = true) (rx : RelA C g x cx) : ∃ k, KeyR x k ∧ cx = L2.kV k := by
  cases x <;> simp only [isKey, Bool.false_eq_true] at hk
  · exact ⟨.inl _, rfl, rx.int⟩
  · exact ⟨.inr _, rfl, rx.str⟩
theorem RelP.get {g : Gh} {x : AV} {k : Key} (hk : KeyR x k) : ∀ {kvs : List (AV × AV)} {us : List (Key × V)}, RelP C g kvs us →
    (∀ v, getK x kvs = some v → ∃ u, L2.valV us k = some u ∧ RelA C g v u) ∧ (getK x kvs = none → L2.valV us k = none)
  | [], us, h => by simp only [RelP] at h; subst h; exact ⟨fun v e => by simp [getK] at e, fun _ => rfl⟩
  | (l, v) :: r, us, h => by
    simp only [RelP] at h
    obtain ⟨k', u, r', rfl, h1, h2, h3⟩ := h
    have ih := RelP.get hk h3
    unfold getK
    by_cases e : l = x
    · rw [if_pos e]
      have e2 : k' = k := (KeyR.iff h1 hk).mpr e
      rw [L2.valV_pos (p := (k', u)) e2]
      exact ⟨fun w z => by cases z; exact ⟨u, rfl, h2⟩, fun z => nomatch z⟩
    · rw [if_neg e]
      have e2 : ¬ k' = k := fun z => e ((KeyR.iff h1 hk).mp z)
      rw [L2.valV_neg (p := (k', u)) e2]
      exact ih
theorem hasK_get {x : AV} : ∀ {kvs : List (AV × AV)}, hasK x kvs = (getK x kvs).isSome
  | [] => rfl
  | (l, v) :: r => by
    have ih := hasK_get (x := x) (kvs := r)
    unfold hasK at ih ⊢
    unfold getK
    by_cases e : l = x
    · simp [e]
    · simp [e, ih]
/-- a dict, as it is read -/
theorem dct_at {g : Gh} {h : AH} {H : Hp} {x : AV} {cx : V} {kvs : List (AV × AV)} (r : Rep C g h H) (rx : RelA C g x cx) (e : dctOf x h = some kvs) :
    ∃ a us, cx = .ref a ∧ RelP C g kvs us ∧ H a = some (.dK us) := by
  cases x with
  | dct ys =>
    simp only [dctOf, Option.some.injEq] at e
    subst e
    simp only [RelA] at rx
    obtain ⟨a, vs, h1, h2, h3⟩ := rx
    exact ⟨a, vs, h1, h3, (r.fx _ _ h2).1⟩
  | ref i =>
    simp only [dctOf] at e
    split at e
    · rename_i ys hg
      simp only [Option.some.injEq] at e
      subst e
      simp only [RelA] at rx
      obtain ⟨u, h1, vs, rfl, h3⟩ := r.obj i _ hg
      exact ⟨_, vs, rx.2, h3, h1⟩
    · cases e
  | _ => simp [dctOf] at e
theorem dct_get {g : Gh} {h : AH} {H : Hp} {x d : AV} {cx cd : V} {kvs : List (AV × AV)} (r : Rep C g h H) (rd : RelA C g d cd) (rx : RelA C g x cx) (e : dctOf d h = some kvs) (hk : isKey x = true) :
    ∃ a o, cd = .ref a ∧ L2.DGet H a cx o ∧ o.isSome = (getK x kvs).isSome ∧ ∀ v, getK x kvs = some v → ∃ u, o = some u ∧ RelA C g v u := by
  obtain ⟨a, us, rfl, rp, hd⟩ := dct_at r rd e
  obtain ⟨k, h1, rfl⟩ := key_of hk rx
  obtain ⟨h2, h3⟩ := rp.get h1
  refine ⟨a, _, rfl, L2.DGet.k hd, ?_, h2⟩
  cases z : getK x kvs with
  | none => rw [h3 z]; rfl
  | some v => obtain ⟨u, e1, _⟩ := h2 v z; rw [e1] <;> rfl
theorem eqV_flat {g : Gh} {x y : AV} {cx cy : V} (rx : RelA C g x cx) (ry : RelA C g y cy) (hx : x.flat = true) (hy : y.flat = true) : L2.eqV cx cy = decide (x = y) ∧ L2.flatV cx = true := by
  cases x <;> simp only [AV.flat, Bool.false_eq_true] at hx <;> cases y <;> simp only [AV.flat, Bool.false_eq_true] at hy <;> simp only [RelA] at rx ry <;> subst rx <;> subst ry <;> refine ⟨?_, rfl⟩
  all_goals first | (simp [L2.eqV]; done) | skip
  · rename_i a b
    simp only [L2.eqV, AV.int.injEq]
    by_cases e : a = b <;> simp [e]
  · rename_i a b
    simp only [L2.eqV, AV.str.injEq]
    exact toS_beq a b
theorem inV_flat {g : Gh} {x : AV} {cx : V} (rx : RelA C g x cx) (hx : x.flat = true) : ∀ {ys : List AV} {vs : List V}, RelL C g ys vs → ys.all AV.flat = true → L2.inV cx vs = (ys.any fun z => decide (z = x)) ∧ vs.all L2.flatV = true
  | [], vs, h, _ => by rw [RelL.nil_iff] at h; subst h; exact ⟨rfl, rfl⟩
  | y :: ys, vs, h, e => by
    rw [RelL.cons_iff] at h
    obtain ⟨v, r, rfl, h1, h2⟩ := h
    simp only [List.all_cons, Bool.and_eq_true] at e ⊢
    obtain ⟨i1, i2⟩ := inV_flat rx hx h2 e.2
    obtain ⟨j1, j2⟩ := eqV_flat h1 rx e.1 hx
    refine ⟨?_, j2, i2⟩
    unfold L2.inV at i1 ⊢
    rw [List.any_cons, List.any_cons, i1, j1]
theorem flatV_of {g : Gh} {x : AV} {cx : V} (rx : RelA C g x cx) (hx : x.flat = true) : L2.flatV cx = true := (eqV_flat rx rx hx hx).2
def rDIn : L2.R2 := fun y x H Q => ∃ a o, x = .ref a ∧ L2.DGet H a y o ∧ Q (.bl o.isSome) H
def rDNotIn : L2.R2 := fun y x H Q => ∃ a o, x = .ref a ∧ L2.DGet H a y o ∧ Q (.bl (!o.isSome)) H
theorem op_dIn (hu : X.A.units + 1 < cLine) : OpR X (compareOp .In) rDIn := by
  intro pins s σ H y x u v Q I ry rx h
  obtain ⟨a, o, rfl, g, q⟩ := h
  cases rx
  exact L2.d_in hu I g ry fun s' I' => ⟨.bl _, H, I', rfl, q⟩
theorem op_dNotIn (hu : X.A.units + 1 < cLine) : OpR X (compareOp .NotIn) rDNotIn := by
  intro pins s σ H y x u v Q I ry rx h
  obtain ⟨a, o, rfl, g, q⟩ := h
  cases rx
  exact L2.d_notIn hu I g ry fun s' I' => ⟨.bl _, H, I', rfl, q⟩
def rInA (K : PySem.W.Frag) : L2.R2 := fun x y H Q => (∃ (c : Nat) (z : Str), x = .str ⟨#[c]⟩ ∧ y = .str z ∧ Q (.bl (decide (c ∈ z.cps.toList))) H) ∨ rDIn x y H Q ∨ L2.rIn K false x y H Q
def rNotInA (K : PySem.W.Frag) : L2.R2 := fun x y H Q => (∃ (c : Nat) (z : Str), x = .str ⟨#[c]⟩ ∧ y = .str z ∧ Q (.bl (!decide (c ∈ z.cps.toList))) H) ∨ rDNotIn x y H Q ∨ L2.rIn K true x y H Q
theorem op_inA (hu : X.A.units + 1 < cLine) : OpR X (compareOp .In) (rInA X.K) := .or L2.op_in_sign (.or (op_dIn hu) L2.op_in_seq)
theorem op_notInA (hu : X.A.units + 1 < cLine) : OpR X (compareOp .NotIn) (rNotInA X.K) := .or L2.op_notIn_sign (.or (op_dNotIn hu) L2.op_notIn_seq)
theorem inA_at {g : Gh} {h : AH} {H : Hp} {x y : AV} {cx cy : V} {c : Bool} (r : Rep C g h H) (rx : RelA C g x cx) (ry : RelA C g y cy) (e : inA x y h = some c) :
    (∃ (d : Nat) (z : Str), cx = .str ⟨#[d]⟩ ∧ cy = .str z ∧ decide (d ∈ z.cps.toList) = c) ∨ (∃ a o, cy = .ref a ∧ L2.DGet H a cx o ∧ o.isSome = c) ∨
      ∃ p xs, cy = .ref p ∧ (SqL C.K H p xs ∨ SqT C.K H p xs) ∧ L2.flatV cx = true ∧ xs.all L2.flatV = true ∧ L2.inV cx xs = c := by
  unfold inA at e
  split at e
  · rename_i a b
    split at e
    · rename_i d
      simp only [Option.some.injEq] at e
      left
      exact ⟨d, toS b, rx.str, ry.str, by rw [toS_list]; exact e⟩
    · cases e
  · split at e
    · rename_i kvs hd
      split at e
      · rename_i hk
        simp only [Option.some.injEq] at e
        obtain ⟨a, o, h1, h2, h3, _⟩ := dct_get r ry rx hd hk
        exact .inr (.inl ⟨a, o, h1, h2, by rw [h3, ← hasK_get]; exact e⟩)
      · cases e
    · split at e
      · rename_i ys hs
        split at e
        · rename_i hz
          simp only [Bool.and_eq_true] at hz
          simp only [Option.some.injEq] at e
          obtain ⟨p, vs, rfl, rl, h1⟩ := seq_at r ry hs
          obtain ⟨i1, i2⟩ := inV_flat rx hz.1 rl hz.2
          exact .inr (.inr ⟨p, vs, rfl, seq_SqLT h1, flatV_of rx hz.1, i2, i1.trans e⟩)
        · cases e
      · cases e
theorem in_run (hK : X.K = C.K) : BinR C (rInA X.K) (cmpA .inn) := by
  refine ⟨fun g h H x y cx cy Q N r rx ry ok => ?_⟩
  obtain ⟨c, e, q⟩ := someB_at r ok
  rw [hK]
  rcases inA_at r rx ry e with ⟨d, z, h1, h2, h3⟩ | ⟨a, o, h1, h2, h3⟩ | ⟨p, xs, h1, h2, h3, h4, h5⟩
  · exact .inl ⟨d, z, h1, h2, by rw [h3]; exact q⟩
  · exact .inr (.inl ⟨a, o, h1, h2, by rw [h3]; exact q⟩)
  · exact .inr (.inr ⟨p, xs, h1, h2, h3, h4, by rw [h5]; exact q⟩)
theorem notIn_run (hK : X.K = C.K) : BinR C (rNotInA X.K) (cmpA .notIn) := by
  refine ⟨fun g h H x y cx cy Q N r rx ry ok => ?_⟩
  obtain ⟨c', e', q⟩ := someB_at r ok
  obtain ⟨c, e, hc⟩ := notO_some e'
  rw [hc] at q
  rw [hK]
  rcases inA_at r rx ry e with ⟨d, z, h1, h2, h3⟩ | ⟨a, o, h1, h2, h3⟩ | ⟨p, xs, h1, h2, h3, h4, h5⟩
  · exact .inl ⟨d, z, h1, h2, by rw [h3]; exact q⟩
  · exact .inr (.inl ⟨a, o, h1, h2, by rw [h3]; exact q⟩)
  · exact .inr (.inr ⟨p, xs, h1, h2, h3, h4, by rw [h5]; exact q⟩)

/-! ### operators, comparisons, as pieces of the text -/
def toOp : BO → Operator
  | .add => .Add
  | .sub => .Sub
  | .mul => .Mult
  | .div => .FloorDiv
  | .mod => .Mod
  | .pow => .Pow
def toC : CO → CmpOp
  | .lt => .Lt
  | .le => .LtE
  | .gt => .Gt
  | .ge => .GtE
  | .eq => .Eq
  | .ne => .NotEq
  | .isN => .Is
  | .notN => .IsNot
  | .inn => .In
  | .notIn => .NotIn
theorem bin_ok (A : At C X) (m : Bool) (op : BO) : ∃ r, OpR X (binaryOp (toOp op)) r ∧ BinR C r (binA m op) := by
  cases op
  · exact ⟨_, op_addA, add_run A.K m⟩
  · exact ⟨_, L2.op_sub, sub_run m⟩
  · exact ⟨_, .or L2.op_mul L2.op_rep, mul_run m⟩
  · exact ⟨_, L2.op_fdivN, div_run m⟩
  · exact ⟨_, L2.op_modN, mod_run m⟩
  · exact ⟨_, L2.op_pow, pow_run m⟩
theorem cmp_ok (A : At C X) (op : CO) : ∃ r, OpR X (compareOp (toC op)) r ∧ BinR C r (cmpA op) := by
  have hu := A.hu
  cases op
  · exact ⟨_, op_ltA (by omega), lt_run A.K⟩
  · exact ⟨_, op_leA (by omega), le_run A.K⟩
  · exact ⟨_, op_gtA, gt_run⟩
  · exact ⟨_, op_geA, ge_run⟩
  · exact ⟨_, op_eqA (by omega), eq_run A.K⟩
  · exact ⟨_, op_neA (by omega), ne_run A.K⟩
  · exact ⟨_, L2.op_isN, isN_run⟩
  · exact ⟨_, L2.op_notN, notN_run⟩
  · exact ⟨_, op_inA (by omega), in_run A.K⟩
  · exact ⟨_, op_notInA (by omega), notIn_run A.K⟩
variable {a b c e : Expr} {fa fb fc f : EF} {pos : Pos}
theorem se_bin (A : At C X) (m : Bool) (op : BO) (ha : SE C φ X a fa) (hb : SE C φ X b fb) : SE C φ X (.BinOp a (toOp op) b pos) (eBin m op fa fb) := by
  obtain ⟨r, h1, h2⟩ := bin_ok A m op
  exact se_op2 (fun x y => L2.pe_op h1 x y) h2 ha hb
theorem se_cmp (A : At C X) (op : CO) (ha : SE C φ X a fa) (hb : SE C φ X b fb) (hm : behindInMarks (toC op) b = false) : SE C φ X (.Compare a [toC op] [b] pos) (eCmp op fa fb) := by
  obtain ⟨r, h1, h2⟩ := cmp_ok A op
  exact se_op2 (fun x y => L2.pe_cmpR h1 x y hm) h2 ha hb
/-- of what gives a truth -/
theorem okG.bools {g : Gh} {o : Out AV} {N : Nat → Hp → Prop} {P : Bool → Hp → Prop} (ok : okG C g o (fun x g' _ H' => ∃ b, x = .bl b ∧ P b H') N) :
    okG C g o (fun x g' _ H' => ∀ v, RelA C g' x v → ∃ k, v = .bl k ∧ P k H') N := by
  cases o with
  | ok x h1 =>
    intro g' H' e1 r1 v rv
    obtain ⟨b, rfl, q⟩ := ok g' H' e1 r1
    exact ⟨b, rv.bl, q⟩
  | exc c h1 => exact ok
  | stuck => exact ok
theorem sb_cmp (A : At C X) (op : CO) (ha : SE C φ X a fa) (hb : SE C φ X b fb) (hm : behindInMarks (toC op) b = false) : SB C φ X (.Compare a [toC op] [b] pos) (eCmp op fa fb) := by
  obtain ⟨r, h1, h2⟩ := cmp_ok A op
  refine ⟨fun N tk => (L2.pt_cmpR h1 (ha.run N tk) (hb.run N tk) hm).imp fun σ H Q ⟨g, s, h, r, rs, ok⟩ => ?_⟩
  have ok2 : okG C g ((fa φ s h).bind fun x h1 => (fb φ s h1).bind fun y h2 => cmpA op x y h2) (fun x g' _ H' => ∀ v, RelA C g' x v → ∃ k, v = .bl k ∧ Q k H') N := okG.bools ok
  exact go r rs ok2 fun g1 h1 x cx H1 e1 r1 rx ok1 => go r1 (rs.mono e1) ok1 fun g2 hh y cy H2 e2 r2 ry ok2 => h2.run g2 hh H2 x y cx cy _ N r2 (rx.mono e2) ry ok2
/-- an answer, then more -/
theorem BinR.then_ {r : L2.R2} {f : AV → AV → AH → Out AV} (B : BinR C r f) {α : Type} {g : Gh} {h : AH} {H : Hp} {x y : AV} {cx cy : V} {k : AV → AH → Out α} {K : α → Gh → AH → Hp → Prop} {N : Nat → Hp → Prop} {P : VK} (rp : Rep C g h H) (rx : RelA C g x cx) (ry : RelA C g y cy)
    (ok : okG C g ((f x y h).bind k) K N) (hP : ∀ g1 h1 z cz H1, Ext g g1 → Rep C g1 h1 H1 → RelA C g1 z cz → okG C g1 (k z h1) K N → P cz H1) : r cx cy H P := by
  refine B.run g h H x y cx cy P N rp rx ry ?_
  cases e : f x y h with
  | ok z h1 =>
    rw [e] at ok
    exact fun g' H' e1 r1 v rv => hP g' h1 z v H' e1 r1 rv (okG.ext ok e1)
  | exc c h1 => rw [e] at ok; exact ok
  | stuck => rw [e] at ok; exact ok
theorem chain_read (op op' : CO) {r r' : L2.R2} (h2 : BinR C r (cmpA op)) (h2' : BinR C r' (cmpA op')) {ta tb tc : TE} {g : Gh} {s : St} {h : AH} {σ : L2.St} {H : Hp} {Q : VK} {N : Nat → Hp → Prop} (rp : Rep C g h H) (rs : RelS C g s σ)
    (ok : okG C g (eChain op op' fa fb fc φ s h) (fun x g' _ H' => ∀ v, RelA C g' x v → Q v H') N) : L2.tChain r r' (tE C φ fa N) (tE C φ fb N) (tE C φ fc N) σ H Q := by
  refine go rp rs ok fun g1 h1 x cx H1 e1 r1 rx ok1 => go r1 (rs.mono e1) ok1 fun g2 hh y cy H2 e2 r2 ry ok2 => ?_
  refine h2.then_ r2 (rx.mono e2) ry ok2 fun g3 h3 z cz H3 e3 r3 rz ok3 => ?_
  obtain ⟨k, rfl, ok4⟩ := tst_bl2 ok3
  clear ok3
  refine ⟨k, rz.bl, ?_⟩
  cases k with
  | false =>
    rw [if_neg Bool.false_ne_true] at ok4 ⊢
    exact okP r3 ok4 .mkB
  | true =>
    rw [if_pos rfl] at ok4 ⊢
    exact go r3 (((rs.mono e1).mono e2).mono e3) ok4 fun g4 h4 u cu H4 e4 r4 ru ok4 => h2'.run g4 h4 H4 y u cy cu Q N r4 ((ry.mono e3).mono e4) ru ok4
theorem se_chain (A : At C X) (op op' : CO) (ha : SE C φ X a fa) (hb : SE C φ X b fb) (hc : SE C φ X c fc) (hm : lastMarks [toC op, toC op'] [b, c] = false) : SE C φ X (.Compare a [toC op, toC op'] [b, c] pos) (eChain op op' fa fb fc) := by
  obtain ⟨r, h1, h2⟩ := cmp_ok A op
  obtain ⟨r', h1', h2'⟩ := cmp_ok A op'
  exact ⟨fun N tk => (L2.pe_chain h1 h1' (ha.run N tk) (hb.run N tk) (hc.run N tk) hm).imp fun σ H Q ⟨g, s, h, r, rs, ok⟩ => chain_read op op' h2 h2' (ta := L2.tVar 0) (tb := L2.tVar 0) (tc := L2.tVar 0) r rs ok⟩
theorem sb_chain (A : At C X) (op op' : CO) (ha : SE C φ X a fa) (hb : SE C φ X b fb) (hc : SE C φ X c fc) (hm : lastMarks [toC op, toC op'] [b, c] = false) : SB C φ X (.Compare a [toC op, toC op'] [b, c] pos) (eChain op op' fa fb fc) := by
  obtain ⟨r, h1, h2⟩ := cmp_ok A op
  obtain ⟨r', h1', h2'⟩ := cmp_ok A op'
  exact ⟨fun N tk => (L2.pt_chain h1 h1' (ha.run N tk) (hb.run N tk) (hc.run N tk) hm).imp fun σ H Q ⟨g, s, h, r, rs, ok⟩ => chain_read op op' h2 h2' (ta := L2.tVar 0) (tb := L2.tVar 0) (tc := L2.tVar 0) r rs (okG.bools ok)⟩

/-! ### and, or, not, a if c else b -/
theorem se_neg (ha : SE C φ X a fa) : SE C φ X (.UnaryOp .USub a pos) (eNeg fa) := by
  refine ⟨fun N tk => (L2.pe_un L2.un_neg (ha.run N tk)).imp fun σ H Q ⟨g, s, h, r, rs, ok⟩ => ?_⟩
  refine go r rs ok fun g1 h1 x cx H1 e1 r1 rx ok1 => ?_
  split at ok1
  · exact ⟨_, rx.int, okP r1 ok1 .mkI⟩
  · exact ok1.elim
/-- a value that is a truth, as a test -/
theorem sb_val (ha : SE C φ X a fa) (he : ∀ whole, isTrue a X.env whole = (do let v ← whole; standAt a.pos; holding [v] (truthy v))) : SB C φ X a fa := by
  refine ⟨fun N tk => (L2.pt_val (ha.run N tk) he).imp fun σ H Q ⟨g, s, h, r, rs, ok⟩ => ?_⟩
  exact ⟨g, s, h, r, rs, okG.bools ok⟩
/-- the tests of and, or -/
structure SW (C : Cfg) (φ : Fn) (X : Cx) (e : Expr) (f : EF) : Prop where
  run : ∀ N, Takes X (wX C N) → PW X e (tB C φ f N)
theorem SW.sb (h : SW C φ X e f) : SB C φ X e f := ⟨fun N tk => (h.run N tk).pt⟩
variable {rest : List Expr}
theorem tB_eB {N : Nat → Hp → Prop} {σ : L2.St} {H : Hp} {Q : Bool → Hp → Prop} (h : tB C φ (eB fa) N σ H Q) : tB C φ fa N σ H Q := by
  obtain ⟨g, s, h, r, rs, ok⟩ := h
  refine goB r rs ok fun g1 h1 b H1 e1 r1 ok1 => ?_
  cases b with
  | true => obtain ⟨b', e, q⟩ := ok1.fin r1; cases e; exact q
  | false => obtain ⟨b', e, q⟩ := ok1.fin r1; cases e; exact q
theorem sw_and1 (ha : SB C φ X a fa) : SW C φ X (.BoolOp .And [a] pos) (eB fa) := ⟨fun N tk => (L2.pw_and1 (ha.run N tk)).imp fun _ _ _ h => tB_eB h⟩
theorem sw_or1 (ha : SB C φ X a fa) : SW C φ X (.BoolOp .Or [a] pos) (eB fa) := ⟨fun N tk => (L2.pw_or1 (ha.run N tk)).imp fun _ _ _ h => tB_eB h⟩
theorem sw_and (ha : SB C φ X a fa) (hb : SW C φ X (.BoolOp .And (b :: rest) pos) fb) : SW C φ X (.BoolOp .And (a :: b :: rest) pos) (eAnd fa fb) := by
  refine ⟨fun N tk => (L2.pw_and (ha.run N tk) (hb.run N tk)).imp fun σ H Q ⟨g, s, h, r, rs, ok⟩ => ?_⟩
  refine goB r rs ok fun g1 h1 c H1 e1 r1 ok1 => ?_
  cases c with
  | true => rw [if_pos rfl] at ok1 ⊢; exact ⟨g1, s, h1, r1, rs.mono e1, ok1⟩
  | false => rw [if_neg Bool.false_ne_true] at ok1 ⊢; obtain ⟨b', e, q⟩ := ok1.fin r1; cases e; exact q
theorem sw_or (ha : SB C φ X a fa) (hb : SW C φ X (.BoolOp .Or (b :: rest) pos) fb) : SW C φ X (.BoolOp .Or (a :: b :: rest) pos) (eOr fa fb) := by
  refine ⟨fun N tk => (L2.pw_or (ha.run N tk) (hb.run N tk)).imp fun σ H Q ⟨g, s, h, r, rs, ok⟩ => ?_⟩
  refine goB r rs ok fun g1 h1 c H1 e1 r1 ok1 => ?_
  cases c with
  | false => rw [if_neg Bool.false_ne_true] at ok1 ⊢; exact ⟨g1, s, h1, r1, rs.mono e1, ok1⟩
  | true => rw [if_pos rfl] at ok1 ⊢; obtain ⟨b', e, q⟩ := ok1.fin r1; cases e; exact q
theorem sb_not (ha : SB C φ X a fa) : SB C φ X (.UnaryOp .Not a pos) (eNot fa) := by
  refine ⟨fun N tk => (L2.pt_not (ha.run N tk)).imp fun σ H Q ⟨g, s, h, r, rs, ok⟩ => ?_⟩
  refine goB r rs ok fun g1 h1 c H1 e1 r1 ok1 => ?_
  cases c with
  | false => rw [if_neg Bool.false_ne_true] at ok1; obtain ⟨b', e, q⟩ := ok1.fin r1; cases e; exact q
  | true => rw [if_pos rfl] at ok1; obtain ⟨b', e, q⟩ := ok1.fin r1; cases e; exact q
theorem se_ifExp (hc : SB C φ X c fc) (ha : SE C φ X a fa) (hb : SE C φ X b fb) : SE C φ X (.IfExp c a b pos) (eIf fc fa fb) := by
  refine ⟨fun N tk => (L2.pe_ifExp (hc.run N tk) (ha.run N tk) (hb.run N tk)).imp fun σ H Q ⟨g, s, h, r, rs, ok⟩ => ?_⟩
  refine goB r rs ok fun g1 h1 d H1 e1 r1 ok1 => ?_
  cases d with
  | false => rw [if_neg Bool.false_ne_true] at ok1 ⊢; exact ⟨g1, s, h1, r1, rs.mono e1, ok1⟩
  | true => rw [if_pos rfl] at ok1 ⊢; exact ⟨g1, s, h1, r1, rs.mono e1, ok1⟩
/-- as values -/
theorem go1 {g : Gh} {s : St} {h : AH} {σ : L2.St} {H : Hp} {N : Nat → Hp → Prop} {ka kb : AH → Out AV} {K : AV → Gh → AH → Hp → Prop} {P : V → Hp → Prop} (r : Rep C g h H) (rs : RelS C g s σ)
    (hok : okG C g ((fa φ s h).bind fun x h1 => tst x (ka h1) (kb h1)) K N) (hP : ∀ g1 h1 b H1, Ext g g1 → Rep C g1 h1 H1 → okG C g1 (if b = true then ka h1 else kb h1) K N → P (.bl b) H1) : tE C φ fa N σ H P :=
  go r rs hok fun g1 h1 x cx H1 e1 r1 rx ok1 => by
    obtain ⟨b, rfl, ok2⟩ := tst_bl2 ok1
    rw [rx.bl]
    exact hP g1 h1 b H1 e1 r1 ok2
theorem se_b1 {op : BoolOp} (ha : SE C φ X a fa) : SE C φ X (.BoolOp op [a] pos) (eB fa) := by
  refine ⟨fun N tk => (L2.pe_one (ha.run N tk)).imp fun σ H Q ⟨g, s, h, r, rs, ok⟩ => ?_⟩
  refine go1 r rs ok fun g1 h1 b H1 e1 r1 ok1 => ?_
  cases b with
  | true => exact okP r1 ok1 .mkB
  | false => exact okP r1 ok1 .mkB
theorem se_and (ha : SE C φ X a fa) (hb : SE C φ X (.BoolOp .And (b :: rest) pos) fb) : SE C φ X (.BoolOp .And (a :: b :: rest) pos) (eAnd fa fb) := by
  refine ⟨fun N tk => (L2.pe_and (ha.run N tk) (hb.run N tk)).imp fun σ H Q ⟨g, s, h, r, rs, ok⟩ => ?_⟩
  refine go1 r rs ok fun g1 h1 d H1 e1 r1 ok1 => ⟨d, rfl, ?_⟩
  cases d with
  | true => rw [if_pos rfl] at ok1 ⊢; exact ⟨g1, s, h1, r1, rs.mono e1, ok1⟩
  | false => rw [if_neg Bool.false_ne_true] at ok1 ⊢; exact okP r1 ok1 .mkB
theorem se_or (ha : SE C φ X a fa) (hb : SE C φ X (.BoolOp .Or (b :: rest) pos) fb) : SE C φ X (.BoolOp .Or (a :: b :: rest) pos) (eOr fa fb) := by
  refine ⟨fun N tk => (L2.pe_or (ha.run N tk) (hb.run N tk)).imp fun σ H Q ⟨g, s, h, r, rs, ok⟩ => ?_⟩
  refine go1 r rs ok fun g1 h1 d H1 e1 r1 ok1 => ⟨d, rfl, ?_⟩
  cases d with
  | false => rw [if_neg Bool.false_ne_true] at ok1 ⊢; exact ⟨g1, s, h1, r1, rs.mono e1, ok1⟩
  | true => rw [if_pos rfl] at ok1 ⊢; exact okP r1 ok1 .mkB
theorem se_not (ha : SE C φ X a fa) : SE C φ X (.UnaryOp .Not a pos) (eNot fa) := by
  refine ⟨fun N tk => (L2.pe_not (ha.run N tk)).imp fun σ H Q ⟨g, s, h, r, rs, ok⟩ => ?_⟩
  refine go1 r rs ok fun g1 h1 d H1 e1 r1 ok1 => ⟨d, rfl, ?_⟩
  cases d with
  | false => rw [if_neg Bool.false_ne_true] at ok1; exact okP r1 ok1 .mkB
  | true => rw [if_pos rfl] at ok1; exact okP r1 ok1 .mkB
end
end TX

/-! TxD: displays, places, built-ins, texts, calls -/
set_option Elab.async false
set_option linter.all false
set_option maxRecDepth 100000
set_option maxHeartbeats 1000000
set_option autoImplicit false
namespace TX
open PySem PySem.Spec PyProof.Rows
open L2 (V HO Hp Key upd upd_same upd_ne SqL SqT Rd HOk Cx Inv PE PT PW PS PSs PG PI PA TE TT TA TS VK XK WX Takes Ends EP OpR tOp CallR tCB tCons tNil)

/-- no star -/
def noStar : Expr → Bool
  | .Starred _ _ => false
  | _ => true
theorem star_cons {e : Expr} {es : List Expr} {env : Env} (h : noStar e = true) : starEach (e :: es) env = (false, eval e env) :: starEach es env := by
  cases e <;> first | rfl | (simp [noStar] at h)
section
variable {C : Cfg} {φ : Fn} {X : Cx} {a b c e o i : Expr} {es : List Expr} {fa fb fc f : EF} {fs : AF} {pos : Pos}

theorem sa_nil : SA C φ X [] aNil := ⟨fun N _ => L2.pa_nil.imp fun σ H Q ⟨g, s, h, r, rs, ok⟩ => ok.fin r [] .nil⟩
theorem sa_cons (ha : SE C φ X e f) (hr : SA C φ X es fs) (hn : noStar e = true) : SA C φ X (e :: es) (aCons f fs) := by
  refine ⟨fun N tk => (L2.pa_cons (ha.run N tk) (hr.run N tk) (star_cons hn)).imp fun σ H Q ⟨g, s, h, r, rs, ok⟩ => ?_⟩
  refine go r rs ok fun g1 h1 x cx H1 e1 r1 rx ok1 => goA r1 (rs.mono e1) ok1 fun g2 h2 xs vs H2 e2 r2 rl ok2 => ?_
  exact ok2.fin r2 _ (.cons (rx.mono e2) rl)
theorem se_tup {k : Nat} (ha : SA C φ X es fs) : SE C φ X (.Tuple es k pos) (eTup fs) := by
  refine ⟨fun N tk => (L2.pe_tup (ha.run N tk)).imp fun σ H Q ⟨g, s, h, r, rs, ok⟩ => ?_⟩
  refine goA r rs ok fun g1 h1 xs vs H1 e1 r1 rl ok1 => ?_
  split at ok1
  · rename_i hz
    exact ⟨by rw [← rl.len]; exact hz, tup_at r1 rl ok1⟩
  · exact ok1.elim
theorem se_lst (m : Bool) (ha : SA C φ X es fs) : SE C φ X (.List es pos) (eLst m fs) := by
  refine ⟨fun N tk => (L2.pe_lst (ha.run N tk)).imp fun σ H Q ⟨g, s, h, r, rs, ok⟩ => ?_⟩
  exact goA r rs ok fun g1 h1 xs vs H1 e1 r1 rl ok1 => mkLst_at r1 rl ok1

/-! ### places -/
theorem atI_rel {g : Gh} {xs : List AV} {vs : List V} {j : Int} {v : AV} (rl : RelL C g xs vs) (e : atI xs j = some v) : ∃ u, L2.atI vs j = some u ∧ RelA C g v u := by
  unfold atI at e
  unfold L2.atI
  have hi : ∀ n k, L2.ixN n k = ixN n k := fun n k => rfl
  rw [hi, ← rl.len]
  cases z : ixN xs.length j with
  | none => rw [z] at e; cases e
  | some k =>
    rw [z] at e
    exact rl.get e
def noSl : Expr → Bool
  | .Slice _ _ _ _ => false
  | _ => true
theorem noSl_ix {b : Expr} (h : noSl b = true) : ∀ o i, subscripted b false o i = operate [o, i] (getItem o i) := by
  intro o i
  cases b <;> first | rfl | (simp [noSl] at h)
theorem ix_dct (hu : X.A.units + 1 < cLine) : L2.IxR X (fun x y H Q => ∃ a v, x = .ref a ∧ L2.DGet H a y (some v) ∧ Q v H) := by
  intro value slice pins s σ H x y v u Q I rx ry h hs
  obtain ⟨a, w, rfl, hg, q⟩ := h
  cases rx
  exact tail_any (L2.dict_typeIs I hg) PySem.F.slot_dict_getitem.lookup (L2.d_getItem hu I hg ry fun w' s' I' rw' => ⟨w, H, I', rw', q⟩) hs
theorem idx_run (hK : X.K = C.K) : BinR C (fun x y H Q => L2.rIx X.K x y H Q ∨ ∃ a v, x = .ref a ∧ L2.DGet H a y (some v) ∧ Q v H) (fun x y h => match idxA x y h with | some v => .ok v h | none => .stuck) := by
  refine ⟨fun g h H x y cx cy Q N r rx ry ok => ?_⟩
  cases e : idxA x y h with
  | none => rw [e] at ok; exact ok.elim
  | some v =>
    rw [e] at ok
    unfold idxA at e
    split at e
    · rename_i t j
      split at e
      · rename_i hz
        obtain ⟨d, hd, rfl⟩ := Option.map_eq_some_iff.mp e
        exact .inl (.inr (.inr ⟨toS t, j, d, rx.str, ry.int, by rw [toS_len]; exact hz, by rw [toS_list]; exact hd, okP r ok .mkS⟩))
      · cases e
    · split at e
      · rename_i j _ xs z
        obtain ⟨p, vs, rfl, rl, h1⟩ := seq_at r rx z
        obtain ⟨u, hu1, hu2⟩ := atI_rel rl e
        have hq : Q u H := okP r ok hu2
        rcases h1 with h1 | h1
        · exact .inl (.inl ⟨p, vs, _, u, rfl, ry.int, SqL.of h1.1, hu1, hq⟩)
        · rw [hK]; exact .inl (.inr (.inl ⟨p, vs, _, u, rfl, ry.int, h1.1, hu1, hq⟩))
      · split at e
        · rename_i kvs z2
          obtain ⟨p, o, h1, h3, h4, h5⟩ := dct_get r rx ry z2 rfl
          obtain ⟨u, rfl, hu2⟩ := h5 v e
          exact .inr ⟨p, u, h1, h3, okP r ok hu2⟩
        · cases e
    · split at e
      · rename_i kvs z2
        obtain ⟨p, o, h1, h3, h4, h5⟩ := dct_get r rx ry z2 rfl
        obtain ⟨u, rfl, hu2⟩ := h5 v e
        exact .inr ⟨p, u, h1, h3, okP r ok hu2⟩
      · cases e
    · cases e
theorem se_idx (A : At C X) (ha : SE C φ X a fa) (hb : SE C φ X b fb) (hs : noSl b = true) : SE C φ X (.Subscript a b pos) (eIdx fa fb) := by
  have hu := A.hu
  exact se_op2 (fun x y => L2.pe_ix (.or L2.ix_seq (ix_dct (by omega))) x y (noSl_ix hs)) (idx_run A.K) ha hb

/-! slices -/
structure SO (C : Cfg) (φ : Fn) (X : Cx) (e : Option Expr) (f : OF) : Prop where
  run : ∀ N, Takes X (wX C N) → L2.PO X e (fun σ H Q => ∃ g s h, Rep C g h H ∧ RelS C g s σ ∧ okG C g (f φ s h) (fun x _ _ H' => Q x H') N)
theorem so_none : SO C φ X none oNone := by
  refine ⟨fun N tk => ⟨fun pins s σ H Q I ⟨g, st, h, r, rs, ok⟩ => L2.po_none.run pins s σ H Q I ?_⟩⟩
  exact ok.fin r
theorem so_some (ha : SE C φ X e f) : SO C φ X (some e) (oSome f) := by
  refine ⟨fun N tk => ⟨fun pins s σ H Q I ⟨g, st, h, r, rs, ok⟩ => (L2.po_some (ha.run N tk)).run pins s σ H Q I ?_⟩⟩
  refine go r rs ok fun g1 h1 x cx H1 e1 r1 rx ok1 => ?_
  split at ok1
  · exact ⟨_, rx.int, ok1.fin r1⟩
  · exact ok1.elim
theorem goO {g : Gh} {s : St} {h : AH} {σ : L2.St} {H : Hp} {a : OF} {N : Nat → Hp → Prop} {k : Option Int → AH → Out AV} {K : AV → Gh → AH → Hp → Prop} {P : Option Int → Hp → Prop} (r : Rep C g h H) (rs : RelS C g s σ)
    (hok : okG C g ((a φ s h).bind k) K N) (hP : ∀ g1 h1 x H1, Ext g g1 → Rep C g1 h1 H1 → okG C g1 (k x h1) K N → P x H1) :
    ∃ g s h, Rep C g h H ∧ RelS C g s σ ∧ okG C g (a φ s h) (fun x _ _ H' => P x H') N := by
  refine ⟨g, s, h, r, rs, ?_⟩
  cases e : a φ s h with
  | ok x h1 =>
    rw [e] at hok
    exact fun g' H' e1 r1 => hP g' h1 x H' e1 r1 (okG.ext hok e1)
  | exc c h1 => rw [e] at hok; exact hok
  | stuck => rw [e] at hok; exact hok
theorem sIx_eq (n d : Nat) (x : Option Int) : HT.sIx n d x = sIx n d x := by
  cases x with
  | none => rfl
  | some i =>
    simp only [HT.sIx, sIx]
    by_cases h : i < 0
    · have : ¬ 0 ≤ i := by omega
      simp [h, this]
    · have : 0 ≤ i := by omega
      simp [h, this]
theorem cut_rel {g : Gh} {xs : List AV} {vs : List V} (rl : RelL C g xs vs) (lo hi : Option Int) : RelL C g (cut xs lo hi) (L2.cutV vs lo hi) := by
  unfold cut L2.cutV
  rw [sIx_eq, sIx_eq, ← rl.len]
  exact (rl.drop _).take _
theorem cut_whole {α : Type} {xs : List α} {lo hi : Option Int} (h : sIx xs.length 0 lo = 0 ∧ sIx xs.length xs.length hi = xs.length) : cut xs lo hi = xs := by
  unfold cut
  rw [h.1, h.2]
  simp
def rSlc (K : PySem.W.Frag) : V → Option Int → Option Int → Hp → VK → Prop := fun x lo hi H Q => L2.rSlS x lo hi H Q ∨ L2.rSlL K x lo hi H Q ∨ L2.rSlA K x lo hi H Q
theorem sl_any : L2.SlR X (rSlc X.K) := .or L2.sl_str (.or L2.sl_list L2.sl_tupA)
theorem se_slc (A : At C X) (m : Bool) {lo hi : Option Expr} {fl fh : OF} {p2 : Pos} (ha : SE C φ X a fa) (hl : SO C φ X lo fl) (hh : SO C φ X hi fh) : SE C φ X (.Subscript a (.Slice lo hi none p2) pos) (eSlc m fa fl fh) := by
  refine ⟨fun N tk => (L2.pe_slice sl_any (ha.run N tk) (hl.run N tk) (hh.run N tk)).imp fun σ H Q ⟨g, s, h, r, rs, ok⟩ => ?_⟩
  refine go r rs ok fun g1 h1 x cx H1 e1 r1 rx ok1 => goO r1 (rs.mono e1) ok1 fun g2 h2 l H2 e2 r2 ok2 => goO r2 ((rs.mono e1).mono e2) ok2 fun g3 h3 u H3 e3 r3 ok3 => ?_
  replace rx := (rx.mono e2).mono e3
  unfold sliceA at ok3
  split at ok3
  · split at ok3
    · rename_i t hz
      refine .inl ⟨_, rx.str, by rw [toS_len]; exact hz, ?_⟩
      have ec : L2.cutS (toS t) l u = toS (cut t l u) := by
        unfold L2.cutS cut
        rw [toS_list, toS_len, sIx_eq, sIx_eq]
        rfl
      rw [ec]
      exact okP r3 ok3 .mkS
    · exact ok3.elim
  · rename_i xs
    obtain ⟨p, vs, rfl, rl, h1 | h1⟩ := seq_at (xs := xs) r3 rx rfl
    · exact absurd rfl (h1.2 xs)
    · rw [A.K]
      refine .inr (.inr ⟨p, vs, rfl, h1.1, fun hw => ?_, fun _ => tup_at r3 (cut_rel rl l u) ok3⟩)
      rw [sIx_eq, sIx_eq, ← rl.len] at hw
      rw [cut_whole hw] at ok3
      exact okP r3 ok3 rx
  · rename_i xs
    simp only [RelA] at rx
    obtain ⟨p, vs, rfl, h1, rl⟩ := rx
    rw [A.K]
    exact .inr (.inl ⟨p, vs, rfl, SqL.mono (fun b o q => (r3.fx b o q).1) h1, mk_at r3 (cut_rel rl l u) ok3⟩)
  · split at ok3
    · rename_i x _ nt _ _ xs z
      obtain ⟨p, vs, rfl, rl, h1 | h1⟩ := seq_at r3 rx z
      · exact .inr (.inl ⟨p, vs, rfl, SqL.of h1.1, mk_at r3 (cut_rel rl l u) ok3⟩)
      · exact (nt _ h1.2).elim
    · exact ok3.elim

/-! ### built-ins of one argument -/
/-- a built-in's name -/
structure Bn (X : Cx) (x : Str) : Prop where
  gl : L2.Gl X x
  mg : X.mg x = none
structure UnB (C : Cfg) (r : List V → Hp → VK → Prop) (f : AV → AH → Out AV) : Prop where
  run : ∀ g h H x cx (Q : VK) (N : Nat → Hp → Prop), Rep C g h H → RelA C g x cx → okG C g (f x h) (fun x g' _ H' => ∀ v, RelA C g' x v → Q v H') N → r [cx] H Q
theorem UnB.or1 {r r' : List V → Hp → VK → Prop} {f : AV → AH → Out AV} (B : UnB C r f) : UnB C (fun xs H Q => r xs H Q ∨ r' xs H Q) f := ⟨fun g h H x cx Q N a b c => .inl (B.run g h H x cx Q N a b c)⟩
theorem se_callB {x : Str} {id : String} {r : List V → Hp → VK → Prop} {k : AV → AH → Out AV} {p : Pos} (hc : CallR X (.builtin id) r) (bn : Bn X x) (hv : bootBuiltins x = some (.builtin id)) (B : UnB C r k) (ha : SE C φ X a fa) (hn : noStar a = true)
    (h1 : x ≠ "__name__") (h2 : (x == ("__debug__" : Str)) = false) : SE C φ X (.Call (.Name x p) [a] [] pos) (fun φ s h => (fa φ s h).bind fun x h1 => k x h1) := by
  refine ⟨fun N tk => (L2.pe_callB hc bn.gl bn.mg hv (L2.pa_cons (ha.run N tk) L2.pa_nil (star_cons hn)) h1 h2 (star_cons hn) rfl).imp fun σ H Q ⟨g, s, h, r, rs, ok⟩ => ?_⟩
  exact go r rs ok fun g1 h1 x cx H1 e1 r1 rx ok1 => B.run g1 h1 H1 x cx Q N r1 rx ok1
theorem se_callT {x : Str} {T : String} {r : List V → Hp → VK → Prop} {k : AV → AH → Out AV} {p : Pos} (hc : CallR X (.type T) r) (bn : Bn X x) (hv : bootBuiltins x = some (.type T)) (B : UnB C r k) (ha : SE C φ X a fa) (hn : noStar a = true)
    (h1 : x ≠ "__name__") (h2 : (x == ("__debug__" : Str)) = false) : SE C φ X (.Call (.Name x p) [a] [] pos) (fun φ s h => (fa φ s h).bind fun x h1 => k x h1) := by
  refine ⟨fun N tk => (L2.pe_callTy hc bn.gl bn.mg hv (L2.pa_cons (ha.run N tk) L2.pa_nil (star_cons hn)) h1 h2 (star_cons hn) rfl).imp fun σ H Q ⟨g, s, h, r, rs, ok⟩ => ?_⟩
  exact go r rs ok fun g1 h1 x cx H1 e1 r1 rx ok1 => B.run g1 h1 H1 x cx Q N r1 rx ok1
theorem RelP.len {g : Gh} : ∀ {kvs : List (AV × AV)} {us : List (Key × V)}, RelP C g kvs us → kvs.length = us.length
  | [], _, h => by simp only [RelP] at h; subst h; rfl
  | (k, v) :: r, _, h => by
    simp only [RelP] at h
    obtain ⟨_, _, _, rfl, _, _, h3⟩ := h
    simp [RelP.len h3]
theorem len_run (hK : X.K = C.K) : UnB C (fun xs H Q => (∃ p ys, xs = [.ref p] ∧ (SqL X.K H p ys ∨ SqT X.K H p ys) ∧ Q (.int ys.length) H) ∨ (∃ z, xs = [.str z] ∧ z.length ≤ sizeLine ∧ Q (.int z.length) H) ∨ ∃ a kvs, xs = [V.ref a] ∧ H a = some (.dK kvs) ∧ Q (.int kvs.length) H) (uA .len) := by
  refine ⟨fun g h H x cx Q N r rx ok => ?_⟩
  unfold uA at ok
  simp only at ok
  split at ok
  · split at ok
    · rename_i hz
      refine .inr (.inl ⟨_, by rw [rx.str], by rw [toS_len]; exact hz, ?_⟩)
      rw [toS_len]
      exact okP r ok .mkI
    · exact ok.elim
  · split at ok
    · rename_i xs z
      obtain ⟨p, vs, rfl, rl, h1⟩ := seq_at r rx z
      rw [hK]
      refine .inl ⟨p, vs, rfl, seq_SqLT h1, ?_⟩
      rw [← rl.len]
      exact okP r ok .mkI
    · split at ok
      · rename_i kvs z
        obtain ⟨p, us, rfl, rp, h1⟩ := dct_at r rx z
        refine .inr (.inr ⟨p, us, rfl, h1, ?_⟩)
        rw [← rp.len]
        exact okP r ok .mkI
      · exact ok.elim
theorem cr_len : CallR X (.builtin "len") (fun xs H Q => (∃ p ys, xs = [.ref p] ∧ (SqL X.K H p ys ∨ SqT X.K H p ys) ∧ Q (.int ys.length) H) ∨ (∃ z, xs = [.str z] ∧ z.length ≤ sizeLine ∧ Q (.int z.length) H) ∨ ∃ a kvs, xs = [V.ref a] ∧ H a = some (.dK kvs) ∧ Q (.int kvs.length) H) :=
  .or L2.call_len_seq (.or L2.call_len_str L2.call_lenD)
theorem abs_run : UnB C (fun xs H Q => ∃ i, xs = [.int i] ∧ Q (.int (if i < 0 then -i else i)) H) (uA .abs) := by
  refine ⟨fun g h H x cx Q N r rx ok => ?_⟩
  unfold uA at ok
  simp only at ok
  split at ok
  · exact ⟨_, by rw [rx.int], okP r ok .mkI⟩
  · exact ok.elim
theorem numTx_val : ∀ (a : Tx) (acc n : Nat), numTx acc a = some n → (a.all fun c => decide (48 ≤ c) && decide (c ≤ 57)) = true ∧ n = a.foldl (fun v c => v * 10 + (c - 48)) acc
  | [], acc, n, h => by
    simp only [numTx, Option.some.injEq] at h
    exact ⟨rfl, h.symm⟩
  | c :: a, acc, n, h => by
    unfold numTx at h
    split at h
    · rename_i hc
      obtain ⟨h1, h2⟩ := numTx_val a _ n h
      simp only [List.all_cons, h1, Bool.and_true, List.foldl_cons]
      exact ⟨by simp [hc.1, hc.2], h2⟩
    · cases h

theorem int_run : UnB C (fun xs H Q => ((∃ i, xs = [.int i] ∧ Q (.int i) H) ∨ ∃ k, xs = [.bl k] ∧ Q (.int (if k then 1 else 0)) H) ∨ ∃ a n, xs = [.str a] ∧ PySem.intText? a = some n ∧ a.length ≤ 640 ∧ Q (.int n) H) (uA .int) := by
  refine ⟨fun g h H x cx Q N r rx ok => ?_⟩
  unfold uA at ok
  simp only at ok
  split at ok
  · exact .inl (.inl ⟨_, by rw [rx.int], okP r ok .mkI⟩)
  · exact .inl (.inr ⟨_, by rw [rx.bl], okP r ok .mkI⟩)
  · rename_i c t
    split at ok
    · rename_i hz
      split at ok
      · rename_i n hn
        obtain ⟨h1, h2⟩ := numTx_val _ _ _ hn
        refine .inr ⟨toS (c :: t), ((NumText.digitsVal (c :: t) : Nat) : Int), by rw [rx.str], SX.int_S h1 (by simp) (by omega), by rw [toS_len]; exact hz, ?_⟩
        have e : ((NumText.digitsVal (c :: t) : Nat) : Int) = (n : Int) := by
          rw [h2]
          rfl
        rw [e]
        exact okP r ok .mkI
      · exact ok.elim
    · exact ok.elim
  · exact ok.elim
theorem intTx_S (i : Int) : (Str.ofString (toString i)) = toS (intTx i) := by
  unfold intTx
  cases i with
  | ofNat n =>
    have h : ¬ (Int.ofNat n < 0) := by simp
    rw [if_neg h]
    exact SX.num_S n
  | negSucc n =>
    have h : Int.negSucc n < 0 := Int.negSucc_lt_zero n
    rw [if_pos h]
    have e1 : toString (Int.negSucc n) = "-" ++ toString (n + 1) := rfl
    rw [Str.ofString_eq_toList, e1]
    unfold toS
    congr 2
    have e2 : (toString (n + 1) : String).toList = Nat.toDigits 10 (n + 1) := by
      show (Nat.repr (n + 1)).toList = _
      simp [Nat.repr]
    simp only [String.toList_append, List.map_append, e2]
    rfl
theorem str_run : UnB C (fun xs H Q => ∃ i : Int, xs = [.int i] ∧ i.natAbs.log2 < 1920 ∧ Q (.str (toString i)) H) (uA .str) := by
  refine ⟨fun g h H x cx Q N r rx ok => ?_⟩
  unfold uA at ok
  simp only at ok
  split at ok
  · split at ok
    · rename_i i hz
      refine ⟨i, by rw [rx.int], hz, ?_⟩
      have e : (V.str (toString i : String)) = .str (toS (intTx i)) := by rw [← intTx_S]
      rw [e]
      exact okP r ok .mkS
    · exact ok.elim
  · exact ok.elim
theorem ints_rel {g : Gh} : ∀ {xs : List AV} {vs : List V} {ns : List Int}, RelL C g xs vs → intsO xs = some ns → vs = ns.map V.int
  | [], _, _, h, e => by
    simp only [intsO, Option.some.injEq] at e
    rw [RelL.nil_iff] at h
    subst e; subst h; rfl
  | x :: xs, _, ns, h, e => by
    cases x <;> simp only [intsO, reduceCtorEq] at e
    obtain ⟨m, e1, rfl⟩ := Option.map_eq_some_iff.mp e
    rw [RelL.cons_iff] at h
    obtain ⟨v, r, rfl, h1, h2⟩ := h
    rw [h1.int, ints_rel h2 e1]
    rfl
theorem strs_rel {g : Gh} : ∀ {xs : List AV} {vs : List V} {ns : List Tx}, RelL C g xs vs → strsO xs = some ns → vs = ns.map fun t => V.str (toS t)
  | [], _, _, h, e => by
    simp only [strsO, Option.some.injEq] at e
    rw [RelL.nil_iff] at h
    subst e; subst h; rfl
  | x :: xs, _, ns, h, e => by
    cases x <;> simp only [strsO, reduceCtorEq] at e
    obtain ⟨m, e1, rfl⟩ := Option.map_eq_some_iff.mp e
    rw [RelL.cons_iff] at h
    obtain ⟨v, r, rfl, h1, h2⟩ := h
    rw [h1.str, strs_rel h2 e1]
    rfl
theorem prs_rel {g : Gh} : ∀ {xs : List AV} {vs : List V} {ns : List (Int × Int)}, RelL C g xs vs → prsO xs = some ns → xs = ns.map prA ∧ Paired (fun (p : Int × Int) v => ∃ t, v = V.ref t ∧ SqT C.K g.fx t [.int p.1, .int p.2]) ns vs
  | [], _, _, h, e => by
    simp only [prsO, Option.some.injEq] at e
    rw [RelL.nil_iff] at h
    subst e; subst h; exact ⟨rfl, .nil⟩
  | x :: xs, _, ns, h, e => by
    unfold prsO at e
    split at e
    · rename_i heq
      cases heq
    · rename_i i j r heq
      cases heq
      obtain ⟨m, e1, rfl⟩ := Option.map_eq_some_iff.mp e
      rw [RelL.cons_iff] at h
      obtain ⟨v, r, rfl, h1, h2⟩ := h
      obtain ⟨h3, h4⟩ := prs_rel h2 e1
      refine ⟨by rw [h3]; rfl, .cons ?_ h4⟩
      simp only [RelA] at h1
      obtain ⟨a, vs, rfl, h5, h6⟩ := h1
      obtain ⟨u, r1, rfl, h7, h8⟩ := RelL.cons_iff.mp h6
      obtain ⟨u2, r2, rfl, h9, h10⟩ := RelL.cons_iff.mp h8
      rw [RelL.nil_iff] at h10
      subst h10
      exact ⟨a, rfl, by rw [h7.int, h9.int] at h5; exact h5⟩
    · cases e
theorem relL_ints {g : Gh} : ∀ ns : List Int, RelL C g (ns.map .int) (ns.map .int)
  | [] => .nil
  | n :: ns => .cons .mkI (relL_ints ns)
theorem relL_strs {g : Gh} : ∀ ns : List Tx, RelL C g (ns.map .str) (ns.map fun t => .str (toS t))
  | [] => .nil
  | n :: ns => .cons .mkS (relL_strs ns)

theorem sum_tup_raw {prog : Program} {w : World} {A : Around} {E : Value → Shared → Prop} {s : Shared} {l : Addr} {its : List Value} {ns : List Int} {Q : Value → Shared → Prop} (hh : A.handled = none) (hl : s.heap.IsTuple l its.toArray) (hi : IntsAre its ns)
    (h : ∀ h' tk t', (∀ b o, s.heap.get? b = some o → h'.get? b = some o) → Q (.int ns.sum t') { s with heap := h', toks := tk }) : wpAny (model prog w) A (call (.builtin "sum") [.ref l]) Q E s := by
  obtain ⟨xs, e⟩ := hi.allInts.items
  have hn : numsOf (intItems xs).toList = ns := by rw [← e]; exact hi.numsOf
  rw [nums_intItems] at hn
  rw [e] at hl
  have hlt : l < s.heap.objs.size := by obtain ⟨_, e, _⟩ := hl; exact Heap.lt_size e
  refine PySem.call_sum_walkG (PySem.wpAny_pyIter_tuple hl ?_)
  refine ⟨_, _, _, _, _, _, numAt xs, rfl, Walks.tuple (A := A.in1) hh s.heap.objs.size l (Nat.ne_of_lt hlt) (intItems xs), ⟨⟨_, Heap.get?_push_size _ rfl, rfl, rfl⟩, hl.push _⟩, fun b hb => ?_, (fun _ _ => intItems_at), fun h' tk t' hk => ?_⟩
  · show b < (s.heap.push _).objs.size
    rw [Heap.size_push]
    rcases List.mem_cons.mp hb with rfl | hb
    · exact Nat.lt_succ_self _
    · rcases List.mem_cons.mp hb with rfl | hb
      · exact Nat.lt_succ_of_lt hlt
      · cases hb
  · have := h h' tk t' fun b o e => hk b o (fun z => absurd (Heap.lt_size e) (by rw [List.mem_singleton.mp z]; exact Nat.lt_irrefl _)) (Heap.get?_push_of_some _ e)
    have e2 : (intItems xs).size = xs.size := by simp [intItems]
    rw [e2, preSum_eq, List.take_of_length_le (by simp), hn]
    exact this
def rSum2 (K : PySem.W.Frag) : List V → Hp → VK → Prop := fun vs H Q => ∃ (a : Addr) (ns : List Int), vs = [V.ref a] ∧ (SqL K H a (ns.map V.int) ∨ SqT K H a (ns.map V.int)) ∧ Q (.int ns.sum) H
theorem cr_sum2 (hc : X.calm = true) : CallR X (.builtin "sum") (rSum2 X.K) := by
  intro pins s σ H vs us Q I r h
  obtain ⟨a, ns, rfl, hs, q⟩ := h
  rcases hs with hs | hs
  · exact L2.cr_sum hc pins s σ H _ us Q I r ⟨a, ns, rfl, hs, q⟩
  · obtain ⟨its, rv, hl, _⟩ := I.tuple hs
    rw [L2.Vals.ref1 r]
    exact sum_tup_raw (I.ok.hd hc) hl rv.ints fun h' tk t' hk => ⟨.int _, H, I.kept hk, ⟨_, rfl⟩, q⟩
theorem sum_run (hK : X.K = C.K) : UnB C (rSum2 X.K) (uA .sum) := by
  refine ⟨fun g h H x cx Q N r rx ok => ?_⟩
  unfold uA at ok
  simp only at ok
  split at ok
  · rename_i xs z
    unfold uL at ok
    simp only at ok
    split at ok
    · rename_i ns e
      obtain ⟨p, vs, rfl, rl, h1⟩ := seq_at r rx z
      rw [ints_rel rl e] at h1
      rw [hK]
      exact ⟨p, ns, rfl, seq_SqLT h1, okP r ok .mkI⟩
    · exact ok.elim
  · exact ok.elim
theorem list_run (hK : X.K = C.K) (m : Bool) : UnB C (fun xs H Q => (∃ p ys, xs = [.ref p] ∧ (SqL X.K H p ys ∨ SqT X.K H p ys) ∧ ∀ l, H l = none → Q (.ref l) (upd H l (.lst ys))) ∨ L2.rListD xs H Q) (uA (.list m)) := by
  refine ⟨fun g h H x cx Q N r rx ok => ?_⟩
  unfold uA at ok
  simp only at ok
  split at ok
  · rename_i xs z
    obtain ⟨p, vs, rfl, rl, h1⟩ := seq_at r rx z
    rw [hK]
    exact .inl ⟨p, vs, rfl, seq_SqLT h1, mk_at r rl ok⟩
  · split at ok
    · rename_i kvs z
      obtain ⟨p, us, rfl, rp, h1⟩ := dct_at r rx z
      refine .inr ⟨p, us, rfl, h1, mk_at r ?_ ok⟩
      clear h1 z ok
      induction kvs generalizing us with
      | nil => simp only [RelP] at rp; subst rp; exact .nil
      | cons q l ih =>
        obtain ⟨k, v⟩ := q
        simp only [RelP] at rp
        obtain ⟨k', v', r', rfl, h1, h2, h3⟩ := rp
        refine .cons ?_ (ih _ h3)
        cases k <;> simp only [KeyR] at h1 <;> subst h1
        · exact .mkI
        · exact .mkS
    · exact ok.elim
theorem cr_list (hc : X.calm = true) : CallR X (.type "list") (fun xs H Q => (∃ p ys, xs = [.ref p] ∧ (SqL X.K H p ys ∨ SqT X.K H p ys) ∧ ∀ l, H l = none → Q (.ref l) (upd H l (.lst ys))) ∨ L2.rListD xs H Q) := .or L2.call_list_of (L2.call_list_dK hc)
theorem tuple_run (hK : X.K = C.K) : UnB C (fun xs H Q => ∃ p ys, xs = [.ref p] ∧ ((SqL X.K H p ys ∧ ∀ l, H l = none → Q (.ref l) (upd H l (.tup ys))) ∨ (SqT X.K H p ys ∧ Q (.ref p) H))) (uA .tuple) := by
  refine ⟨fun g h H x cx Q N r rx ok => ?_⟩
  unfold uA at ok
  simp only at ok
  split at ok
  · rename_i xs z
    obtain ⟨p, vs, rfl, rl, h1⟩ := seq_at r rx z
    rw [hK]
    refine ⟨p, vs, rfl, ?_⟩
    rcases h1 with h1 | h1
    · exact .inl ⟨SqL.of h1.1, tup_at r rl ok⟩
    · refine .inr ⟨h1.1, ?_⟩
      rw [h1.2] at rx
      exact okP r ok rx
  · exact ok.elim
/-! orders -/
theorem ins_perm {α : Type} (lt : α → α → Bool) (x : α) : ∀ l : List α, (ins lt x l).Perm (x :: l)
  | [] => .refl _
  | y :: r => by
    unfold ins
    split
    · exact ((ins_perm lt x r).cons y).trans (.swap x y r)
    · exact .refl _
theorem isort_perm {α : Type} (lt : α → α → Bool) : ∀ l : List α, (isort lt l).Perm l
  | [] => .refl _
  | x :: r => (ins_perm lt x _).trans ((isort_perm lt r).cons x)
/-- an order that tells all apart -/
structure Lin {α : Type} (lt : α → α → Bool) : Prop where
  trans : ∀ a b c, lt b a = false → lt c b = false → lt c a = false
  tot : ∀ a b, lt a b = true → lt b a = false
  anti : ∀ a b, lt a b = false → lt b a = false → a = b
theorem ins_sorted {α : Type} {lt : α → α → Bool} (L : Lin lt) (x : α) : ∀ l : List α, l.Pairwise (fun a b => lt b a = false) → (ins lt x l).Pairwise (fun a b => lt b a = false)
  | [], _ => by simp [ins]
  | y :: r, h => by
    have h0 := List.pairwise_cons.mp h
    unfold ins
    split
    · rename_i hy
      refine List.pairwise_cons.mpr ⟨fun z hz => ?_, ins_sorted L x r h0.2⟩
      rcases List.mem_cons.mp ((ins_perm lt x r).mem_iff.mp hz) with e | e
      · rw [e]; exact L.tot _ _ hy
      · exact h0.1 z e
    · rename_i hy
      have hy : lt y x = false := by simpa using hy
      refine List.pairwise_cons.mpr ⟨fun z hz => ?_, h⟩
      rcases List.mem_cons.mp hz with e | e
      · rw [e]; exact hy
      · exact L.trans x y z hy (h0.1 z e)
theorem isort_sorted {α : Type} {lt : α → α → Bool} (L : Lin lt) : ∀ l : List α, (isort lt l).Pairwise (fun a b => lt b a = false)
  | [] => .nil
  | x :: r => ins_sorted L x _ (isort_sorted L r)
theorem sorted_uniq {α : Type} {lt : α → α → Bool} (L : Lin lt) : ∀ {l m : List α}, l.Perm m → l.Pairwise (fun a b => lt b a = false) → m.Pairwise (fun a b => lt b a = false) → l = m := fun {l m} p h1 h2 =>
  p.eq_of_pairwise (fun a b _ _ h3 h4 => L.anti a b h4 h3) h1 h2
theorem isort_of {α : Type} {lt : α → α → Bool} (L : Lin lt) {l m : List α} (p : m.Perm l) (h : m.Pairwise (fun a b => lt b a = false)) : m = isort lt l :=
  sorted_uniq L (p.trans (isort_perm lt l).symm) h (isort_sorted L l)
theorem lin_int : Lin ilt := by
  refine ⟨fun a b c h1 h2 => ?_, fun a b h => ?_, fun a b h1 h2 => ?_⟩ <;> simp only [ilt, decide_eq_false_iff_not, decide_eq_true_eq] at * <;> omega
theorem lin_pair : Lin plt := by
  refine ⟨fun a b c h1 h2 => ?_, fun a b h => ?_, fun a b h1 h2 => ?_⟩ <;> simp only [plt, Bool.or_eq_false_iff, Bool.and_eq_false_iff, Bool.or_eq_true, Bool.and_eq_true, decide_eq_false_iff_not, decide_eq_true_eq] at *
  · omega
  · omega
  · exact Prod.ext (by omega) (by omega)

theorem lin_tx : Lin txLt := by
  have key : ∀ a b : Tx, a < b ∨ a = b ∨ b < a := fun a b => by
    rcases Std.lt_trichotomy a b with h | h | h
    · exact .inl h
    · exact .inr (.inl h)
    · exact .inr (.inr h)
  refine ⟨fun a b c h1 h2 => ?_, fun a b h => ?_, fun a b h1 h2 => ?_⟩ <;> simp only [txLt, decide_eq_false_iff_not, decide_eq_true_eq] at *
  · exact fun h => absurd (Std.lt_of_lt_of_le h (Std.not_lt.mp h1)) h2
  · exact fun h' => absurd (Std.lt_trans h h') (Std.lt_irrefl)
  · rcases key a b with h | h | h
    · exact absurd h h1
    · exact h
    · exact absurd h h2

/-! sorted -/
theorem lt_cps : ∀ a b : Tx, ltCps a b = txLt a b
  | [], [] => rfl
  | [], _ :: _ => by simp [ltCps, txLt]
  | _ :: _, [] => by simp [ltCps, txLt]
  | x :: xs, y :: ys => by
    have ih := lt_cps xs ys
    simp only [ltCps, txLt] at ih ⊢
    rw [ih]
    by_cases h1 : x < y
    · simp [h1, List.cons_lt_cons_iff]
    · by_cases h2 : x = y
      · simp [h2, List.cons_lt_cons_iff]
      · simp [h1, h2, List.cons_lt_cons_iff]
theorem rising_pair : ∀ (l : List Str) (p : Str), risingS p l = true → (p :: l).Pairwise (fun a b => txLt b.cps.toList a.cps.toList = false)
  | [], p, _ => by simp
  | x :: r, p, h => by
    unfold risingS at h
    simp only [Bool.and_eq_true, Bool.not_eq_true'] at h
    rw [lt_cps] at h
    have ih := rising_pair r x h.2
    refine List.pairwise_cons.mpr ⟨fun z hz => ?_, ih⟩
    rcases List.mem_cons.mp hz with e | e
    · rw [e]; exact h.1
    · exact lin_tx.trans _ _ _ h.1 ((List.pairwise_cons.mp ih).1 z e)
theorem sortedS_pair : ∀ (l : List Str), sortedS l = true → l.Pairwise (fun a b => txLt b.cps.toList a.cps.toList = false)
  | [], _ => .nil
  | x :: r, h => rising_pair r x h
/-- texts sorted are what inserting makes -/
theorem sortS_of {ss : List Tx} {ys : List Str} (hp : ys.Perm (ss.map toS)) (hs : sortedS ys = true) : ys.map V.str = (isort txLt ss).map fun t => V.str (toS t) := by
  have e : (ys.map fun y => y.cps.toList) = isort txLt ss := by
    refine isort_of lin_tx ?_ ?_
    · have := hp.map fun y : Str => y.cps.toList
      rw [List.map_map] at this
      refine this.trans (List.Perm.of_eq ?_)
      conv => rhs; rw [← List.map_id ss]
      refine List.map_congr_left fun t _ => ?_
      exact toS_list t
    · exact List.pairwise_map.mpr (sortedS_pair ys hs)
  rw [← e, List.map_map]
  refine List.map_congr_left fun y _ => ?_
  show V.str y = V.str (toS y.cps.toList)
  rw [toS_of]
theorem sortI_of {ns ms : List Int} (hp : ms.Perm ns) (hs : ms.Pairwise (· ≤ ·)) : ms = isort ilt ns := by
  refine isort_of lin_int hp (hs.imp fun {a b} h => ?_)
  simp only [ilt, decide_eq_false_iff_not]
  omega
theorem plt_lexB (a b : Int × Int) : SrtO.lexB a b = plt a b := by
  unfold SrtO.lexB plt
  by_cases e : a.1 = b.1
  · rw [if_pos e]; simp [e]
  · rw [if_neg e]; simp [e]
/-- the two numbers of a pair -/
noncomputable def twoOf (K : PySem.W.Frag) (H : Hp) (v : Value) : Int × Int := open Classical in if h : ∃ p : Int × Int, ∃ t, v = Value.ref t ∧ SqT K H t [.int p.1, .int p.2] then h.choose else (0, 0)
def IsPr (K : PySem.W.Frag) (H : Hp) (p : Int × Int) (v : V) : Prop := ∃ t, v = V.ref t ∧ SqT K H t [.int p.1, .int p.2]
theorem twoOf_eq {pins : List (Addr × Obj)} {σ : L2.St} {H : Hp} {s : Shared} (I : Inv X pins σ H s) {t : Addr} {p : Int × Int} (h : SqT X.K H t [.int p.1, .int p.2]) : twoOf X.K H (.ref t) = p := by
  have hx : ∃ p : Int × Int, ∃ u, Value.ref t = Value.ref u ∧ SqT X.K H u [.int p.1, .int p.2] := ⟨p, t, rfl, h⟩
  unfold twoOf
  rw [dif_pos hx]
  obtain ⟨u, e, hq⟩ := hx.choose_spec
  cases e
  have := I.tuple_inj hq h
  simp only [List.cons.injEq, V.int.injEq, and_true] at this
  exact Prod.ext this.1 this.2
def rSortQ (K : PySem.W.Frag) : List V → Hp → VK → Prop := fun vs H Q => ∃ (a : Addr) (xs : List V) (ts : List (Int × Int)) (R : Int × Int → V → Prop), vs = [V.ref a] ∧ SqL K H a xs ∧ (∀ p v, R p v → IsPr K H p v) ∧ Paired R ts xs ∧
  ∀ (os : List (Int × Int)) (us : List V) (p : Addr), Paired R os us → os.Perm ts → os.Pairwise (fun a b => plt b a = false) → H p = none → Q (.ref p) (upd H p (.lst us))
theorem paired_two {pins : List (Addr × Obj)} {σ : L2.St} {H : Hp} {s : Shared} {R : Int × Int → V → Prop} (I : Inv X pins σ H s) (hR : ∀ p v, R p v → IsPr X.K H p v) : ∀ {ts : List (Int × Int)} {xs : List V} {its : List Value}, Paired R ts xs → L2.Vals xs its →
    its.map (twoOf X.K H) = ts ∧ ∀ v ∈ its, R (twoOf X.K H v) (L2.backV v) ∧ ∃ t, v = Value.ref t ∧ SqT X.K H t [.int (twoOf X.K H v).1, .int (twoOf X.K H v).2]
  | _, _, _, .nil, .nil => ⟨rfl, fun v hv => absurd hv (by simp)⟩
  | _, _, _, .cons r q, .cons rv rr => by
    obtain ⟨t, ex, h⟩ := hR _ _ r
    subst ex
    cases rv
    obtain ⟨h1, h2⟩ := paired_two I hR q rr
    have e := twoOf_eq I h
    refine ⟨by rw [List.map_cons, e, h1], fun v hv => ?_⟩
    rcases List.mem_cons.mp hv with z | z
    · subst z
      rw [e]
      exact ⟨r, t, rfl, h⟩
    · exact h2 v z
theorem back_pairs {R : Int × Int → V → Prop} {k : Value → Int × Int} : ∀ {out : List Value}, (∀ v ∈ out, R (k v) (L2.backV v) ∧ ∃ t, v = Value.ref t) → Paired R (out.map k) (out.map L2.backV) ∧ L2.Vals (out.map L2.backV) out
  | [], _ => ⟨.nil, .nil⟩
  | v :: r, h => by
    obtain ⟨h1, h2⟩ := back_pairs (out := r) fun u hu => h u (List.mem_cons_of_mem _ hu)
    obtain ⟨hq, t, e⟩ := h v List.mem_cons_self
    refine ⟨.cons hq h1, .cons ?_ h2⟩
    rw [e]
    rfl
theorem cr_sortQ : CallR X (.builtin "sorted") (rSortQ X.K) := by
  intro pins s σ H vs us Q I r h
  obtain ⟨a, xs, ts, R, rfl, hs, hR, hp, q⟩ := h
  obtain ⟨its, rv, pl, hz⟩ := I.list hs
  rw [L2.Vals.ref1 r]
  obtain ⟨t1, t2⟩ := paired_two I hR hp rv
  refine SrtO.sorted_pairsO (k := twoOf X.K H) pl.isList (by rw [← rv.length]; exact hz) (fun v hv => ?_) fun h' d out o1 o2 kp hd hn => ?_
  · obtain ⟨_, t, e, hq⟩ := t2 v hv
    obtain ⟨js, rj, ⟨o, ho, hc, n, hdat⟩, _⟩ := I.tuple hq
    obtain ⟨u1, u2, rfl, r1, r2⟩ := L2.vals2 rj
    obtain ⟨k1, rfl⟩ := r1
    obtain ⟨k2, rfl⟩ := r2
    exact ⟨t, o, k1, k2, n, e, ho, hc, hdat⟩
  · have all : ∀ v ∈ out, R (twoOf X.K H v) (L2.backV v) ∧ ∃ t, v = Value.ref t := fun v hv => let ⟨z1, t, z2, _⟩ := t2 v (o2.perm.mem_iff.mp hv); ⟨z1, t, z2⟩
    obtain ⟨b1, b2⟩ := back_pairs all
    obtain ⟨n, hn⟩ := hn
    refine ⟨.ref d, upd H d (.lst (out.map L2.backV)), I.laid (t' := s.toks) kp hd ⟨?_, out, n, b2, hn⟩, rfl, q (out.map (twoOf X.K H)) _ d b1 ?_ ?_ (I.hok.fresh hd)⟩
    · rw [List.length_map, o2.perm.length_eq, ← rv.length]; exact hz
    · rw [← t1]; exact o2.perm.map _
    · refine List.pairwise_map.mpr (List.Pairwise.imp (fun {x y} z => ?_) o1)
      rw [← plt_lexB]
      exact z
def rSortA (K : PySem.W.Frag) : List V → Hp → VK → Prop := fun vs H Q => L2.rSortedI K vs H Q ∨ L2.rSortedS K vs H Q ∨ rSortQ K vs H Q ∨
  (∃ (a : Addr) (kvs : List (Key × V)) (ks : List Str), vs = [.ref a] ∧ Rd H a (.dK kvs) ∧ kvs.map (·.1) = ks.map Sum.inr ∧ ks.length < 64 ∧ ∀ ys p, ys.Perm ks → sortedS ys = true → H p = none → Q (.ref p) (upd H p (.lst (ys.map V.str)))) ∨
  ∃ (a : Addr) (kvs : List (Key × V)) (ks : List Int), vs = [.ref a] ∧ Rd H a (.dK kvs) ∧ kvs.map (·.1) = ks.map Sum.inl ∧ ks.length < 64 ∧ ∀ (ys : List Int) (p : Addr), ys.Perm ks → ys.Pairwise (· ≤ ·) → H p = none → Q (.ref p) (upd H p (.lst (ys.map V.int)))
theorem cr_sortA (hc : X.calm = true) : CallR X (.builtin "sorted") (rSortA X.K) := .or L2.cr_sortedI (.or L2.cr_sortedS (.or cr_sortQ (.or (L2.call_sortedD hc) (L2.call_sortedDI hc))))
theorem relL_prs {g : Gh} : ∀ {ts : List (Int × Int)} {vs : List V}, Paired (fun (p : Int × Int) v => ∃ t, v = V.ref t ∧ SqT C.K g.fx t [.int p.1, .int p.2]) ts vs → RelL C g (ts.map prA) vs
  | _, _, .nil => .nil
  | _, _, .cons ⟨t, e, h⟩ q => by
    refine .cons ?_ (relL_prs q)
    simp only [prA, RelA]
    exact ⟨t, _, e, h, .cons .mkI (.cons .mkI .nil)⟩
theorem keys_int {g : Gh} : ∀ {kvs : List (AV × AV)} {us : List (Key × V)} {ns : List Int}, RelP C g kvs us → intsO (kvs.map (·.1)) = some ns → us.map (·.1) = ns.map Sum.inl
  | [], _, _, h, e => by
    simp only [RelP] at h
    simp only [List.map_nil, intsO, Option.some.injEq] at e
    subst h; subst e; rfl
  | (k, v) :: r, _, _, h, e => by
    simp only [RelP] at h
    obtain ⟨k', v', r', rfl, h1, h2, h3⟩ := h
    cases k <;> simp only [List.map_cons, intsO, reduceCtorEq] at e
    obtain ⟨m, e1, rfl⟩ := Option.map_eq_some_iff.mp e
    simp only [KeyR] at h1
    rw [List.map_cons, List.map_cons, keys_int h3 e1, h1]
theorem keys_str {g : Gh} : ∀ {kvs : List (AV × AV)} {us : List (Key × V)} {ns : List Tx}, RelP C g kvs us → strsO (kvs.map (·.1)) = some ns → us.map (·.1) = (ns.map toS).map Sum.inr
  | [], _, _, h, e => by
    simp only [RelP] at h
    simp only [List.map_nil, strsO, Option.some.injEq] at e
    subst h; subst e; rfl
  | (k, v) :: r, _, _, h, e => by
    simp only [RelP] at h
    obtain ⟨k', v', r', rfl, h1, h2, h3⟩ := h
    cases k <;> simp only [List.map_cons, strsO, reduceCtorEq] at e
    obtain ⟨m, e1, rfl⟩ := Option.map_eq_some_iff.mp e
    simp only [KeyR] at h1
    rw [List.map_cons, List.map_cons, List.map_cons, keys_str h3 e1, h1]
theorem keys_prs {g : Gh} : ∀ {kvs : List (AV × AV)} {us : List (Key × V)} {ns : List (Int × Int)}, RelP C g kvs us → prsO (kvs.map (·.1)) = some ns → kvs = []
  | [], _, _, _, _ => rfl
  | (k, v) :: r, _, _, h, e => by
    simp only [RelP] at h
    obtain ⟨k', v', r', rfl, h1, h2, h3⟩ := h
    cases k <;> simp only [List.map_cons, prsO, reduceCtorEq] at e
    exact h1.elim
/-- at most so many, of a dict -/
theorem sorted_run (hK : X.K = C.K) (m : Bool) : UnB C (rSortA X.K) (uA (.sorted m)) := by
  refine ⟨fun g h H x cx Q N r rx ok => ?_⟩
  unfold uA at ok
  simp only at ok
  rw [hK]
  split at ok
  · rename_i xs z
    obtain ⟨p, vs, rfl, rl, h1⟩ := lst_at r rx z
    simp only [uL] at ok
    split at ok
    · rename_i ys e
      unfold sortA at e
      split at e
      · rename_i ns en
        simp only [Option.some.injEq] at e
        rw [ints_rel rl en] at h1
        refine .inl ⟨p, ns, rfl, SqL.of h1, fun ms q hp hs hq => ?_⟩
        rw [sortI_of hp hs]
        rw [← e] at ok
        exact mk_at r (relL_ints _) ok q hq
      · split at e
        · rename_i ss es
          split at e
          · rename_i hz
            simp only [Option.some.injEq] at e
            have ev := strs_rel rl es
            have ev2 : vs = (ss.map toS).map V.str := by rw [ev, List.map_map]; rfl
            rw [ev2] at h1
            refine .inr (.inl ⟨p, ss.map toS, rfl, SqL.of h1, by rw [List.length_map]; exact hz, fun ms q hp hs hq => ?_⟩)
            rw [sortS_of hp hs]
            rw [← e] at ok
            exact mk_at r (relL_strs _) ok q hq
          · cases e
        · split at e
          · rename_i ts et
            simp only [Option.some.injEq] at e
            obtain ⟨_, hp⟩ := prs_rel rl et
            refine .inr (.inr (.inl ⟨p, vs, ts, fun (p : Int × Int) v => ∃ t, v = V.ref t ∧ SqT C.K g.fx t [.int p.1, .int p.2], rfl, SqL.of h1, fun p v ⟨t, e1, e2⟩ => ⟨t, e1, SqT.mono (fun b o q => (r.fx b o q).1) e2⟩, hp, fun os us q ho hperm hs hq => ?_⟩))
            rw [isort_of lin_pair hperm hs] at ho
            rw [← e] at ok
            exact mk_at r (relL_prs ho) ok q hq
          · cases e
    · exact ok.elim
  · split at ok
    · rename_i kvs z
      obtain ⟨p, us, rfl, rp, h1⟩ := dct_at r rx z
      split at ok
      · rename_i hz
        simp only [uL] at ok
        split at ok
        · rename_i ys e
          unfold sortA at e
          split at e
          · rename_i ns en
            simp only [Option.some.injEq] at e
            have hk := keys_int rp en
            have hl : ns.length = us.length := by have := congrArg List.length hk; simpa using this.symm
            refine .inr (.inr (.inr (.inr ⟨p, us, ns, rfl, .inl h1, hk, by rw [hl, ← rp.len]; exact hz, fun ms q hp hs hq => ?_⟩)))
            rw [sortI_of hp hs]
            rw [← e] at ok
            exact mk_at r (relL_ints _) ok q hq
          · split at e
            · rename_i ss es
              split at e
              · simp only [Option.some.injEq] at e
                have hk := keys_str rp es
                have hl : ss.length = us.length := by have := congrArg List.length hk; simpa using this.symm
                refine .inr (.inr (.inr (.inl ⟨p, us, ss.map toS, rfl, .inl h1, hk, by rw [List.length_map, hl, ← rp.len]; exact hz, fun ms q hp hs hq => ?_⟩)))
                rw [sortS_of hp hs]
                rw [← e] at ok
                exact mk_at r (relL_strs _) ok q hq
              · cases e
            · rename_i _ n1 _ n2
              split at e
              · rename_i ts et
                obtain rfl := keys_prs rp et
                simp [intsO] at n1
              · cases e
        · exact ok.elim
      · exact ok.elim
    · exact ok.elim

theorem maxOf_mem {α : Type} (lt : α → α → Bool) : ∀ (l : List α) (a : α), maxOf lt a l ∈ a :: l
  | [], a => by simp [maxOf]
  | b :: r, a => by
    unfold maxOf
    have := maxOf_mem lt r (if lt a b then b else a)
    rcases List.mem_cons.mp this with e | e
    · rw [e]; split <;> simp
    · exact List.mem_cons_of_mem _ (List.mem_cons_of_mem _ e)
theorem maxOf_ge : ∀ (l : List Int) (a : Int), ∀ y ∈ a :: l, y ≤ maxOf ilt a l
  | [], a, y, h => by simp at h; subst h; exact Int.le_refl _
  | b :: r, a, y, h => by
    unfold maxOf
    have ih := maxOf_ge r (if ilt a b then b else a)
    have h0 := ih (if ilt a b then b else a) List.mem_cons_self
    have h1 : a ≤ (if ilt a b then b else a) ∧ b ≤ (if ilt a b then b else a) := by
      simp only [ilt]
      by_cases h : a < b
      · simp [h]; omega
      · simp [h]; omega
    rcases List.mem_cons.mp h with e | e
    · subst e; exact Int.le_trans h1.1 h0
    · rcases List.mem_cons.mp e with e | e
      · subst e; exact Int.le_trans h1.2 h0
      · exact ih y (List.mem_cons_of_mem _ e)
theorem minOf_mem {α : Type} (lt : α → α → Bool) : ∀ (l : List α) (a : α), minOf lt a l ∈ a :: l
  | [], a => by simp [minOf]
  | b :: r, a => by
    unfold minOf
    have := minOf_mem lt r (if lt b a then b else a)
    rcases List.mem_cons.mp this with e | e
    · rw [e]; split <;> simp
    · exact List.mem_cons_of_mem _ (List.mem_cons_of_mem _ e)
theorem minOf_le : ∀ (l : List Int) (a : Int), ∀ y ∈ a :: l, minOf ilt a l ≤ y
  | [], a, y, h => by simp at h; subst h; exact Int.le_refl _
  | b :: r, a, y, h => by
    unfold minOf
    have ih := minOf_le r (if ilt b a then b else a)
    have h0 := ih (if ilt b a then b else a) List.mem_cons_self
    have h1 : (if ilt b a then b else a) ≤ a ∧ (if ilt b a then b else a) ≤ b := by
      simp only [ilt]
      by_cases h : b < a
      · simp [h]; omega
      · simp [h]; omega
    rcases List.mem_cons.mp h with e | e
    · subst e; exact Int.le_trans h0 h1.1
    · rcases List.mem_cons.mp e with e | e
      · subst e; exact Int.le_trans h0 h1.2
      · exact ih y (List.mem_cons_of_mem _ e)

/-! ### max(a, b), min(a, b) -/
theorem se_mm (A : At C X) (mx : Bool) {x : Str} {p : Pos} (bn : Bn X x) (hv : bootBuiltins x = some (.builtin (if mx then "max" else "min"))) (ha : SE C φ X a fa) (hb : SE C φ X b fb) (hn : noStar a = true) (hn2 : noStar b = true)
    (h1 : x ≠ "__name__") (h2 : (x == ("__debug__" : Str)) = false) : SE C φ X (.Call (.Name x p) [a, b] [] pos) (eMM mx fa fb) := by
  have hc : CallR X (.builtin (if mx then "max" else "min")) (fun xs H Q => ∃ i j, xs = [.int i, .int j] ∧ Q (.int (if mx then (if j > i then j else i) else (if j < i then j else i))) H) := by
    cases mx
    · exact L2.call_min2 A.calm
    · exact L2.call_max2 A.calm
  refine ⟨fun N tk => (L2.pe_callB hc bn.gl bn.mg hv (L2.pa_cons (ha.run N tk) (L2.pa_cons (hb.run N tk) L2.pa_nil (star_cons hn2)) (star_cons hn)) h1 h2 (star_cons hn) (by rw [star_cons hn2]; rfl)).imp fun σ H Q ⟨g, s, h, r, rs, ok⟩ => ?_⟩
  refine go r rs ok fun g1 h1 x cx H1 e1 r1 rx ok1 => go r1 (rs.mono e1) ok1 fun g2 h2 y cy H2 e2 r2 ry ok2 => ?_
  replace rx := rx.mono e2
  split at ok2
  · rename_i v e
    unfold mmA at e
    split at e
    · simp only [Option.some.injEq] at e
      refine ⟨_, _, by rw [rx.int, ry.int], okP r2 ok2 (by rw [← e]; exact .mkI)⟩
    · cases e
  · exact ok2.elim

/-! ### dict(pairs) -/
theorem KeyR.inj {x y : AV} {k l : Key} (h : KeyR x k) (h' : KeyR y l) : decide (k = l) = decide (x = y) := by
  by_cases e : x = y
  · rw [decide_eq_true e, decide_eq_true ((KeyR.iff h h').mpr e)]
  · rw [decide_eq_false e, decide_eq_false (fun z => e ((KeyR.iff h h').mp z))]
theorem RelP.has {g : Gh} {x : AV} {k : Key} (hk : KeyR x k) : ∀ {kvs : List (AV × AV)} {us : List (Key × V)}, RelP C g kvs us → (us.any fun kv => decide (kv.1 = k)) = hasK x kvs
  | [], _, h => by simp only [RelP] at h; subst h; rfl
  | (l, v) :: r, _, h => by
    simp only [RelP] at h
    obtain ⟨k', v', r', rfl, h1, h2, h3⟩ := h
    have ih := RelP.has hk h3
    unfold hasK at ih ⊢
    rw [List.any_cons, List.any_cons, ih]
    show (decide (k' = k) || _) = (decide (l = x) || _)
    rw [KeyR.inj h1 hk]
theorem RelP.put {g : Gh} {x v : AV} {k : Key} {u : V} (hk : KeyR x k) (hv : RelA C g v u) {kvs : List (AV × AV)} {us : List (Key × V)} (h : RelP C g kvs us) : RelP C g (putK x v kvs) (L2.putK us k u) := by
  unfold putK L2.putK
  rw [h.has hk]
  cases hasK x kvs with
  | true =>
    simp only [if_true]
    induction kvs generalizing us with
    | nil => simp only [RelP] at h; subst h; simp [RelP]
    | cons p r ih =>
      obtain ⟨l, w⟩ := p
      simp only [RelP] at h
      obtain ⟨k', v', r', rfl, h1, h2, h3⟩ := h
      simp only [List.map_cons]
      by_cases e : l = x
      · have e2 : k' = k := (KeyR.iff h1 hk).mpr e
        rw [if_pos e, if_pos e2]
        simp only [RelP]
        exact ⟨k', u, _, rfl, h1, hv, ih h3⟩
      · have e2 : ¬ k' = k := fun z => e ((KeyR.iff h1 hk).mp z)
        rw [if_neg e, if_neg e2]
        simp only [RelP]
        exact ⟨k', v', _, rfl, h1, h2, ih h3⟩
  | false =>
    simp only [Bool.false_eq_true, if_false]
    induction kvs generalizing us with
    | nil =>
      simp only [RelP] at h
      subst h
      simp only [List.nil_append, RelP]
      exact ⟨k, u, [], rfl, hk, hv, rfl⟩
    | cons p r ih =>
      obtain ⟨l, w⟩ := p
      simp only [RelP] at h
      obtain ⟨k', v', r', rfl, h1, h2, h3⟩ := h
      simp only [List.cons_append, RelP]
      exact ⟨k', v', _, rfl, h1, h2, ih h3⟩
theorem putAll_rel {g : Gh} {H : Hp} (kp : ∀ a o, g.fx a = some o → H a = some o) : ∀ {xs : List AV} {vs : List V} {kvs out : List (AV × AV)} {us : List (Key × V)}, RelL C g xs vs → RelP C g kvs us → putAll kvs xs = some out →
    ∃ (ps : List Addr) (ks : List (Key × V)), vs = ps.map V.ref ∧ Paired (fun p (kv : Key × V) => SqT C.K H p [L2.kV kv.1, kv.2]) ps ks ∧ RelP C g out (L2.mergeK us ks)
  | [], _, kvs, out, us, hl, hp, e => by
    rw [RelL.nil_iff] at hl
    unfold putAll at e
    simp only [Option.some.injEq] at e
    subst hl; subst e
    exact ⟨[], [], rfl, .nil, hp⟩
  | x :: xs, _, kvs, out, us, hl, hp, e => by
    unfold putAll at e
    split at e
    · rename_i hq
      cases hq
    · rename_i k v r hq
      cases hq
      split at e
      · rename_i hk
        rw [RelL.cons_iff] at hl
        obtain ⟨cv, rr, rfl, h1, h2⟩ := hl
        simp only [RelA] at h1
        obtain ⟨a, ws, rfl, h3, h4⟩ := h1
        obtain ⟨ck, r1, rfl, h5, h6⟩ := RelL.cons_iff.mp h4
        obtain ⟨cw, r2, rfl, h7, h8⟩ := RelL.cons_iff.mp h6
        rw [RelL.nil_iff] at h8
        subst h8
        obtain ⟨kk, h9, rfl⟩ := key_of hk h5
        obtain ⟨ps, ks, e1, e2, e3⟩ := putAll_rel kp h2 (hp.put h9 h7) e
        exact ⟨a :: ps, (kk, cw) :: ks, by rw [e1]; rfl, .cons (SqT.mono kp h3) e2, e3⟩
      · cases e
    · cases e
/-- a dict made -/
theorem mkD_at {g : Gh} {h : AH} {H : Hp} {m : Bool} {xs : List (AV × AV)} {vs : List (Key × V)} {Q : VK} {N : Nat → Hp → Prop} (r : Rep C g h H) (rl : RelP C g xs vs) (ok : okG C g (mkD m xs h) (fun x g' _ H' => ∀ v, RelA C g' x v → Q v H') N) :
    ∀ p, H p = none → Q (.ref p) (upd H p (.dK vs)) := fun p hp => by
  unfold mkD at ok
  cases m with
  | false =>
    refine ok _ _ (r.ext_more hp _) (r.more hp (o := .dK vs) trivial) _ ?_
    simp only [RelA]
    exact ⟨p, vs, rfl, upd_same, rl.mono (r.ext_more hp _)⟩
  | true =>
    refine ok _ _ r.ext_obj (r.new hp (o := .dct xs) (u := .dK vs) ⟨vs, rfl, rl.mono r.ext_obj⟩) _ ?_
    simp only [RelA]
    refine ⟨?_, ?_⟩
    · show h.length < g.n + 1
      rw [r.n]; exact Nat.lt_succ_self _
    · show V.ref p = V.ref (if h.length = g.n then p else g.at_ h.length)
      rw [if_pos r.n.symm]
theorem dict_run (hK : X.K = C.K) (m : Bool) : UnB C (fun xs H Q => ∃ (a : Addr) (ps : List Addr) (kvs : List (Key × V)), xs = [.ref a] ∧ SqL X.K H a (ps.map V.ref) ∧ Paired (fun p kv => SqT X.K H p [L2.kV kv.1, kv.2]) ps kvs ∧ ∀ p, H p = none → Q (.ref p) (upd H p (.dK (L2.mergeK [] kvs)))) (uA (.dict m)) := by
  refine ⟨fun g h H x cx Q N r rx ok => ?_⟩
  unfold uA at ok
  simp only at ok
  split at ok
  · rename_i xs z
    obtain ⟨p, vs, rfl, rl, h1⟩ := lst_at r rx z
    split at ok
    · rename_i kvs e
      obtain ⟨ps, ks, rfl, e2, e3⟩ := putAll_rel (fun b o q => (r.fx b o q).1) rl (us := []) (by simp only [RelP]) e
      rw [hK]
      exact ⟨p, ps, ks, rfl, SqL.of h1, e2, mkD_at r e3 ok⟩
    · exact ok.elim
  · exact ok.elim
end
end TX

/-! TxE: texts, calls -/
set_option Elab.async false
set_option linter.all false
set_option maxRecDepth 100000
set_option maxHeartbeats 1000000
set_option autoImplicit false
namespace TX
open PySem PySem.Spec PyProof.Rows
open L2 (V HO Hp Key upd upd_same upd_ne SqL SqT Rd HOk Cx Inv PE PT PW PS PSs PG PI PA TE TT TA TS VK XK WX Takes Ends EP OpR tOp CallR tCB tCons tNil Sp Room FnOk)
section
variable {C : Cfg} {φ : Fn} {X : Cx} {a b c e o i : Expr} {es : List Expr} {fa fb fc f : EF} {fs : AF} {pos p apos : Pos}

/-! ### f-strings -/
inductive SF_ (C : Cfg) (φ : Fn) (X : Cx) : List Expr → List EF → Prop
  | nil : SF_ C φ X [] []
  | str {x : Str} {t : Tx} {j : Nat} {q : Pos} {es : List Expr} {fs : List EF} (h : x = toS t) (r : SF_ C φ X es fs) : SF_ C φ X (.Constant (.str x) j q :: es) (eC (.str t) :: fs)
  | val {e : Expr} {f : EF} {q : Pos} {es : List Expr} {fs : List EF} (h : SE C φ X e f) (r : SF_ C φ X es fs) : SF_ C φ X (.FormattedValue e (-1) none q :: es) (f :: fs)
/-- one part's text -/
def tPt (C : Cfg) (φ : Fn) (f : EF) (N : Nat → Hp → Prop) : TE := fun σ H Q => ∃ g s h, Rep C g h H ∧ RelS C g s σ ∧ okG C g (f φ s h) (fun x g' _ H' => ∃ t, fsPart x = some t ∧ Q (.str (toS t)) H') N
theorem natTx_len (n : Nat) (h : n.log2 < 1920) : (natTx n).length ≤ 3900 := by
  unfold natTx
  rw [List.length_map]
  by_cases h0 : n = 0
  · subst h0; decide
  · have h2 : n < 2 ^ 1920 := (Nat.log2_lt h0).mp h
    refine (Nat.length_toDigits_le_iff (by decide) (by decide)).mpr (Nat.lt_of_lt_of_le h2 ?_)
    exact Nat.le_trans (Nat.pow_le_pow_left (by decide) _) (Nat.pow_le_pow_right (by decide) (by decide))
theorem fsPart_len {x : AV} {t : Tx} (h : fsPart x = some t) : t.length ≤ 4000 := by
  unfold fsPart at h
  split at h
  · split at h
    · rename_i hz
      cases h; exact hz
    · cases h
  · split at h
    · rename_i i hz
      cases h
      unfold intTx
      have := natTx_len i.natAbs hz
      split <;> simp <;> omega
    · cases h
  · cases h

theorem fmt_at {N : Nat → Hp → Prop} {q : Pos} (tk : Takes X (wX C N)) (h : SE C φ X e f) : PE X (.FormattedValue e (-1) none q) (tPt C φ f N) := by
  refine (L2.pe_fmt (h.run N tk)).imp fun σ H Q ⟨g, s, hh, r, rs, ok⟩ => ?_
  refine ⟨g, s, hh, r, rs, ?_⟩
  cases e2 : f φ s hh with
  | exc c h1 => rw [e2] at ok; exact ok
  | stuck => rw [e2] at ok; exact ok
  | ok x h1 =>
    rw [e2] at ok
    intro g' H' e1 r1 v rv
    obtain ⟨t, ht, q⟩ := ok g' H' e1 r1
    have hl := fsPart_len ht
    unfold fsPart at ht
    split at ht
    · split at ht
      · cases ht
        exact .inl ⟨_, rv.str, by rw [toS_len]; exact Nat.le_trans hl (by decide), q⟩
      · cases ht
    · split at ht
      · rename_i i hz
        cases ht
        refine .inr ⟨i, rv.int, hz, ?_⟩
        have e : (V.str (toString i : String)) = .str (toS (intTx i)) := by rw [← intTx_S]
        rw [e]
        exact q
      · cases ht
    · cases ht
theorem const_at {N : Nat → Hp → Prop} {x : Str} {t : Tx} {j : Nat} {q : Pos} (h : x = toS t) : PE X (.Constant (.str x) j q) (tPt C φ (eC (.str t)) N) := by
  refine L2.pe_str.imp fun σ H Q ⟨g, s, hh, r, rs, ok⟩ => ?_
  obtain ⟨u, h1, h2⟩ := ok g H (Ext.refl g) r
  unfold fsPart at h1
  simp only at h1
  split at h1
  · cases h1
    rw [h]
    exact h2
  · cases h1
theorem fs_js {N : Nat → Hp → Prop} (tk : Takes X (wX C N)) {es : List Expr} {fs : List EF} (h : SF_ C φ X es fs) : L2.PJ X es (fs.map fun f => tPt C φ f N) := by
  induction h with
  | nil => exact .nil
  | str h r ih => exact .cons (const_at h) ih
  | val h r ih => exact .cons (fmt_at tk h) ih
theorem fs_read {N : Nat → Hp → Prop} {σ : L2.St} {Q : Str → Hp → Prop} {s : St} : ∀ (fs : List EF) (acc : Tx) (g : Gh) (h : AH) (H : Hp), Rep C g h H → RelS C g s σ → acc.length + 4000 * fs.length ≤ SZ →
    okG C g (fsGo φ s fs acc h) (fun x g' _ H' => ∀ v, RelA C g' x v → ∃ y, v = .str y ∧ Q y H') N → L2.tJs (fs.map fun f => tPt C φ f N) (toS acc) σ H Q
  | [], acc, g, h, H, r, rs, _, ok => by
    unfold fsGo at ok
    obtain ⟨y, e, q⟩ := ok g H (Ext.refl g) r _ .mkS
    cases e
    exact q
  | f :: fs, acc, g, h, H, r, rs, hz, ok => by
    unfold fsGo at ok
    show tPt C φ f N σ H fun x H1 => ∃ y : Str, x = .str y ∧ (toS acc ++ y).length ≤ sizeLine ∧ L2.tJs (fs.map fun f => tPt C φ f N) (toS acc ++ y) σ H1 Q
    refine ⟨g, s, h, r, rs, ?_⟩
    cases e2 : f φ s h with
    | exc c h1 => rw [e2] at ok; exact ok
    | stuck => rw [e2] at ok; exact ok
    | ok x h1 =>
      rw [e2] at ok
      intro g' H' e1 r1
      have ok1 := okG.ext ok e1
      simp only [bind_ok] at ok1
      split at ok1
      · rename_i t ht
        have hl := fsPart_len ht
        simp only [List.length_cons] at hz
        refine ⟨t, ht, toS t, rfl, ?_, ?_⟩
        · rw [toS_append, toS_len, List.length_append]
          exact Nat.le_trans (by omega) hz
        · rw [toS_append]
          exact fs_read fs (acc ++ t) g' h1 H' r1 (rs.mono e1) (by rw [List.length_append]; omega) ok1
      · exact ok1.elim
theorem se_fs {e1 e2 : Expr} {es : List Expr} {fs : List EF} (h : SF_ C φ X (e1 :: e2 :: es) fs) (hl : fs.length ≤ 4000) : SE C φ X (.JoinedStr (e1 :: e2 :: es) pos) (eFs fs) := by
  refine ⟨fun N tk => (L2.pe_joined (fs_js tk h)).imp fun σ H Q ⟨g, s, hh, r, rs, ok⟩ => ?_⟩
  have e : Str.empty = toS [] := rfl
  rw [e]
  refine fs_read fs [] g hh H r rs (by unfold SZ; simp; omega) ?_
  cases z : fsGo φ s fs [] hh with
  | exc c h1 => unfold eFs at ok; rw [z] at ok; exact ok
  | stuck => unfold eFs at ok; rw [z] at ok; exact ok
  | ok x h1 =>
    unfold eFs at ok
    rw [z] at ok
    have hs : ∃ t, x = .str t := by
      have key : ∀ (fs : List EF) (acc : Tx) (h h1 : AH) (x : AV), fsGo φ s fs acc h = .ok x h1 → ∃ t, x = .str t := by
        intro fs
        induction fs with
        | nil => intro acc h h1 x e; unfold fsGo at e; cases e; exact ⟨_, rfl⟩
        | cons f fs ih =>
          intro acc h h1 x e
          unfold fsGo at e
          cases e2 : f φ s h with
          | exc c h2 => rw [e2] at e; cases e
          | stuck => rw [e2] at e; cases e
          | ok y h2 =>
            rw [e2] at e
            simp only [bind_ok] at e
            split at e
            · exact ih _ _ _ _ e
            · cases e
      exact key _ _ _ _ _ z
    obtain ⟨t, rfl⟩ := hs
    intro g' H' e1 r1 v rv
    refine ⟨_, rv.str, ?_⟩
    have := ok g' H' e1 r1 v rv
    rw [rv.str] at this
    exact this

/-! ### texts' methods -/
/-- a method's call on one line, of no 'super' -/
def mBase (o : Expr) (n : Str) (env : Env) : Prop := attributeBase o n env (eval o env) = eval o env
theorem mBase_of {o : Expr} {n : Str} {env : Env} (h : ∀ (x : Str) (p q : Pos), o = .Call (.Name x p) [] [] q → x ≠ "super") : mBase o n env := by
  unfold mBase attributeBase
  cases o with
  | Call f as ks q =>
    cases f with
    | Name x p =>
      cases as with
      | nil =>
        cases ks with
        | nil =>
          have hx := h x p q rfl
          have : (x != ("super" : Str)) = true := by simpa using hx
          simp [this]
        | cons _ _ => rfl
      | cons _ _ => rfl
    | _ => rfl
  | _ => rfl
def notSuper : Expr → Bool
  | .Call (.Name x _) [] [] _ => !decide (x = "super")
  | _ => true
theorem mBase_by {o : Expr} {n : Str} {env : Env} (h : notSuper o = true) : mBase o n env := mBase_of fun x p q e => by
  subst e
  simpa [notSuper] using h
theorem pre_eq (p t : Tx) : TL.pre p t = p.isPrefixOf t := by
  unfold TL.pre
  by_cases h : p <+: t
  · have h2 : p.isPrefixOf t = true := List.isPrefixOf_iff_prefix.mpr h
    rw [h2, List.prefix_iff_eq_take.mp h]
    simp
  · have h2 : p.isPrefixOf t = false := by
      cases z : p.isPrefixOf t with
      | false => rfl
      | true => exact absurd (List.isPrefixOf_iff_prefix.mp z) h
    rw [h2]
    cases z : (t.take p.length == p) with
    | false => rfl
    | true => exact absurd (List.prefix_iff_eq_take.mpr (beq_iff_eq.mp z).symm) h

theorem starts_eq (t p : Tx) : Txt.startswith (toS t) (toS p) = p.isPrefixOf t := by
  rw [← pre_eq]
  show (decide (0 + (toS p).length ≤ (toS t).length) && ((toS t).cps.extract 0 (0 + (toS p).length) == (toS p).cps)) = _
  have h1 : (toS t).cps.extract 0 (0 + (toS p).length) = (t.take p.length).toArray := by
    rw [toS_len]
    simp [toS]
  have h2 : ((t.take p.length).toArray == (toS p).cps) = (t.take p.length == p) := by
    rw [Bool.eq_iff_iff, beq_iff_eq, beq_iff_eq]
    unfold toS
    constructor
    · intro h; simpa using h
    · intro h; rw [h]
  rw [h1, h2, toS_len, toS_len]
  unfold TL.pre
  cases z : (t.take p.length == p) with
  | false => rw [Bool.and_false]
  | true =>
    have h3 := congrArg List.length (beq_iff_eq.mp z)
    rw [List.length_take] at h3
    rw [Bool.and_true, decide_eq_true_iff]
    omega
theorem se_starts {x : Str} {t : Tx} {j : Nat} {q : Pos} (ha : SE C φ X a fa) (hx : x = toS t) (hs : notSuper a = true) (hl : (apos.endLine == pos.line) = true) : SE C φ X (.Call (.Attribute a "startswith" apos) [.Constant (.str x) j q] [] pos) (eStarts fa t) := by
  refine ⟨fun N tk => (L2.pe_m1 PySem.F.slot_str_startswith PySem.F.type_str_startswith L2.mt_startswith (ha.run N tk) L2.pe_str (star_cons rfl) (mBase_by hs) hl).imp fun σ H Q ⟨g, s, hh, r, rs, ok⟩ => ?_⟩
  refine go r rs ok fun g1 h1 x cx H1 e1 r1 rx ok1 => ?_
  split at ok1
  · rename_i u
    refine ⟨⟨_, rx.str⟩, _, _, rx.str, rfl, ?_⟩
    rw [hx, starts_eq]
    exact okP r1 ok1 .mkB
  · exact ok1.elim
end
end TX

/-! TxF: calls of own defs, statements, loops, comprehensions -/
set_option Elab.async false
set_option linter.all false
set_option maxRecDepth 100000
set_option maxHeartbeats 1000000
set_option autoImplicit false
namespace TX
open PySem PySem.Spec PyProof.Rows
open L2 (V HO Hp Key upd upd_same upd_ne SqL SqT Rd HOk Cx Inv PE PT PW PS PSs PG PGs PI PA TE TT TA TS TG TGs TI It VK XK WX Takes Ends EP OpR tOp CallR tCB tCons tNil Sp Room FnOk)

theorem _root_.L2.PI.imp {X : Cx} {tg e : Expr} {t t' : TI} (h : PI X tg e t) (k : ∀ σ H R, t' σ H R → t σ H R) : PI X tg e t' := ⟨fun pins s σ H R I hw => h.run pins s σ H R I (k σ H R hw)⟩
theorem _root_.L2.PI.or {X : Cx} {tg e : Expr} {t t' : TI} (h : PI X tg e t) (h' : PI X tg e t') : PI X tg e (fun σ H R => t σ H R ∨ t' σ H R) := ⟨fun pins s σ H R I hw => hw.elim (h.run pins s σ H R I) (h'.run pins s σ H R I)⟩
theorem _root_.L2.PG.imp {X : Cx} {e : Expr} {t t' : TG} (h : PG X e t) (k : ∀ v σ H Q, t' v σ H Q → t v σ H Q) : PG X e t' := ⟨fun pins s σ H v u Q I r hw => h.run pins s σ H v u Q I r (k v σ H Q hw)⟩
theorem _root_.L2.PGs.imp {X : Cx} {e : List Expr} {t t' : TGs} (h : PGs X e t) (k : ∀ v σ H Q, t' v σ H Q → t v σ H Q) : PGs X e t' := ⟨fun pins s σ H v u Q I r hw => h.run pins s σ H v u Q I r (k v σ H Q hw)⟩

/-! ### own defs -/
/-- what a def promises -/
def spOf (C : Cfg) (f : List AV → AH → Out AV) : Sp := fun vs H Q E => ∃ g h xs, Rep C g h H ∧ RelL C g xs vs ∧ okG C g (f xs h) (fun x g' _ H' => ∀ v, RelA C g' x v → Q v H') (fun c H' => ∀ d, E (.ref (C.cA c)) d H')
/-- a def of the text that may be called by its name -/
structure FnI (C : Cfg) (P : Program) (w : World) (K : PySem.W.Frag) (mg : Str → Option Value) (base : Heap) (k : Nat) (x : Str) (f : List AV → AH → Out AV) : Prop where
  ex : ∃ (a : Addr) (fd : FuncData) (ps : List Str), FnOk P w K mg base (L2.CX P w) k a fd ps (spOf C f) ∧ mg x = some (.ref a) ∧ PySem.W.keepIn K (.ref a) = true ∧ L2.Binds K fd ps []
section
variable {C : Cfg} {φ : Fn} {X : Cx} {a b c e o i : Expr} {es : List Expr} {fa fb fc f : EF} {fs : AF} {pos p apos : Pos}
theorem call_passes {N : Nat → Hp → Prop} (tk : Takes X (wX C N)) : L2.Passes (L2.CX X.prog X.w) X (fun cls _ H => ∃ c, cls = .ref (C.cA c) ∧ N c H) :=
  L2.passes_call tk fun _ _ _ _ h => h
theorem call_read {N : Nat → Hp → Prop} {k : Nat} {fi : Nat} {σ : L2.St} {H : Hp} {Q : VK} (h : tE C φ (eCall fi fs) N σ H Q) :
    L2.tCall (spOf C (φ 0 fi)) [] (fun cls _ H => ∃ c, cls = .ref (C.cA c) ∧ N c H) (tAr C φ fs N) σ H Q := by
  obtain ⟨g, s, hh, r, rs, ok⟩ := h
  refine goA r rs ok fun g1 h1 xs vs H1 e1 r1 rl ok1 => ?_
  rw [List.append_nil]
  refine ⟨g1, h1, xs, r1, rl, ?_⟩
  cases z : φ 0 fi xs h1 with
  | ok x h2 => rw [z] at ok1; exact ok1
  | exc c h2 => rw [z] at ok1; exact fun g' H' e2 r2 d => ⟨c, rfl, ok1 g' H' e2 r2⟩
  | stuck => rw [z] at ok1; exact ok1
theorem se_call {k fi : Nat} {x : Str} (F : FnI C X.prog X.w X.K X.mg X.base k x (φ 0 fi)) (hr : Room k X.A) (hg : L2.Gl X x) (ha : SA C φ X (e :: es) fs) (hd : (x == ("__debug__" : Str)) = false) (hn : noStar e = true) (hp : (backTo pos (starEach es X.env)).any (·.1) = false) :
    SE C φ X (.Call (.Name x p) (e :: es) [] pos) (eCall fi fs) := by
  obtain ⟨a, fd, ps, F, hm, kp, b⟩ := F.ex
  exact ⟨fun N tk => (L2.pe_call F hr hg hm kp b .nil (call_passes tk) (ha.run N tk) hd (star_cons hn) hp).imp fun σ H Q h => call_read (k := k) h⟩
theorem se_call0 {k fi : Nat} {x : Str} (F : FnI C X.prog X.w X.K X.mg X.base k x (φ 0 fi)) (hr : Room k X.A) (hg : L2.Gl X x) (hd : (x == ("__debug__" : Str)) = false) :
    SE C φ X (.Call (.Name x p) [] [] pos) (eCall fi aNil) := by
  obtain ⟨a, fd, ps, F, hm, kp, b⟩ := F.ex
  refine ⟨fun N tk => (L2.pe_call0 F hr hg hm kp b .nil (call_passes tk) hd).imp fun σ H Q h => ?_⟩
  obtain ⟨g, s, hh, r, rs, ok⟩ := call_read (k := k) h
  exact ok.fin r [] .nil

/-! ### statements -/
def kF (C : Cfg) (D : Ends) : Fl → Gh → AH → Hp → Prop := fun fl g' _ H' => match fl with
  | .nx s' => ∀ σ', RelS C g' s' σ' → D.nx σ' H'
  | .rt v => ∀ u, RelA C g' v u → D.rt u H'
  | .bk s' => ∀ σ', RelS C g' s' σ' → D.bk σ' H'
  | .ct s' => ∀ σ', RelS C g' s' σ' → D.ct σ' H'
def tSt (C : Cfg) (φ : Fn) (f : SF) (N : Nat → Hp → Prop) : TS := fun D σ H => ∃ g s h, Rep C g h H ∧ RelS C g s σ ∧ okG C g (f φ s h) (kF C D) N
structure SS (C : Cfg) (φ : Fn) (X : Cx) (e : Stmt) (f : SF) : Prop where
  run : ∀ N, Takes X (wX C N) → PS X e (tSt C φ f N)
structure SSs (C : Cfg) (φ : Fn) (X : Cx) (e : List Stmt) (f : SF) : Prop where
  run : ∀ N, Takes X (wX C N) → PSs X e (tSt C φ f N)
variable {st : Stmt} {sts : List Stmt} {ba bb : SF}
theorem sss_nil : SSs C φ X [] sNil := ⟨fun N tk => L2.pss_nil.imp fun D σ H ⟨g, s, h, r, rs, ok⟩ => ok.fin r σ rs⟩
theorem sss_cons (h1 : SS C φ X st ba) (h2 : SSs C φ X sts bb) : SSs C φ X (st :: sts) (sSeq ba bb) := by
  refine ⟨fun N tk => (L2.pss_cons (h1.run N tk) (h2.run N tk)).imp fun D σ H ⟨g, s, h, r, rs, ok⟩ => ?_⟩
  refine ⟨g, s, h, r, rs, ?_⟩
  unfold sSeq at ok
  cases z : ba φ s h with
  | exc c h1 => rw [z] at ok; exact ok
  | stuck => rw [z] at ok; exact ok
  | ok fl h1 =>
    rw [z] at ok
    simp only [bind_ok] at ok
    cases fl with
    | nx s1 => exact fun g' H' e1 r1 σ' rs' => ⟨g', s1, h1, r1, rs', okG.ext ok e1⟩
    | rt v => exact ok
    | bk s1 => exact ok
    | ct s1 => exact ok
/-- a tail that looks at no object made before -/
theorem sss_cl (h1 : SSs C φ X sts bb) : SSs C φ X sts (sCl bb) := by
  refine ⟨fun N tk => (h1.run N tk).imp fun D σ H ⟨g, s, h, r, rs, ok⟩ => ?_⟩
  have rs2 : RelS C (g.aside H) (List.replicate s.length none) σ := by
    refine ⟨by rw [List.length_replicate]; exact rs.1, fun i x e => ?_⟩
    rw [List.getElem?_replicate] at e
    split at e <;> cases e
  refine ⟨g.aside H, List.replicate s.length none, [], r.aside, rs2, ?_⟩
  unfold sCl at ok
  cases z : bb φ (List.replicate s.length none) [] with
  | stuck => rw [z] at ok; exact ok
  | exc c h2 =>
    rw [z] at ok
    intro g2 H2 e2 r2
    obtain ⟨b1, b2⟩ := r.back e2 r2
    exact ok _ _ b1 b2
  | ok fl h2 =>
    rw [z] at ok
    cases fl with
    | nx s1 => exact ok.elim
    | bk s1 => exact ok.elim
    | ct s1 => exact ok.elim
    | rt v =>
      simp only at ok
      split at ok
      · rename_i hv
        intro g2 H2 e2 r2 u ru
        obtain ⟨b1, b2⟩ := r.back e2 r2
        exact ok _ _ b1 b2 u (RelA.ofFx (g := g2) (g3 := g.back g2) rfl hv ru)
      · exact ok.elim
theorem sss_one (h1 : SS C φ X st ba) : SSs C φ X [st] (sSeq ba sNil) := sss_cons h1 sss_nil
theorem ss_pass : SS C φ X (.Pass pos) sNil := ⟨fun N tk => L2.ps_pass.imp fun D σ H ⟨g, s, h, r, rs, ok⟩ => ok.fin r σ rs⟩
theorem ss_break : SS C φ X (.Break pos) sBrk := ⟨fun N tk => L2.ps_break.imp fun D σ H ⟨g, s, h, r, rs, ok⟩ => ok.fin r σ rs⟩
theorem ss_continue : SS C φ X (.Continue pos) sCnt := ⟨fun N tk => L2.ps_continue.imp fun D σ H ⟨g, s, h, r, rs, ok⟩ => ok.fin r σ rs⟩
theorem ss_doc {x : Str} {j : Nat} {q : Pos} : SS C φ X (.Expr (.Constant (.str x) j q) pos) sNil := ⟨fun N tk => L2.ps_doc.imp fun D σ H ⟨g, s, h, r, rs, ok⟩ => ok.fin r σ rs⟩
theorem ss_expr (ha : SE C φ X e f) (hs : swapsWith e none pos.line X.env = pure false) : SS C φ X (.Expr e pos) (sExp f) := by
  refine ⟨fun N tk => (L2.ps_expr (ha.run N tk) hs).imp fun D σ H ⟨g, s, h, r, rs, ok⟩ => ?_⟩
  exact go r rs ok fun g1 h1 x cx H1 e1 r1 rx ok1 => ok1.fin r1 σ (rs.mono e1)
theorem ss_ret (ha : SE C φ X e f) : SS C φ X (.Return (some e) pos) (sRet f) := by
  refine ⟨fun N tk => (L2.ps_ret (ha.run N tk)).imp fun D σ H ⟨g, s, h, r, rs, ok⟩ => ?_⟩
  exact go r rs ok fun g1 h1 x cx H1 e1 r1 rx ok1 => ok1.fin r1 cx rx
theorem ss_retN : SS C φ X (.Return none pos) (sRet (eC .non)) := ⟨fun N tk => L2.ps_retN.imp fun D σ H ⟨g, s, h, r, rs, ok⟩ => by
  have z := ok.fin r
  exact z .non (by simp [RelA])⟩
theorem ss_if {sa sb : List Stmt} (hc : SB C φ X c fc) (ha : SSs C φ X sa ba) (hb : SSs C φ X sb bb) : SS C φ X (.If c sa sb pos) (sIf fc ba bb) := by
  refine ⟨fun N tk => (L2.ps_if (hc.run N tk) (ha.run N tk) (hb.run N tk)).imp fun D σ H ⟨g, s, h, r, rs, ok⟩ => ?_⟩
  refine goB r rs ok fun g1 h1 d H1 e1 r1 ok1 => ?_
  cases d with
  | true => rw [if_pos rfl] at ok1 ⊢; exact ⟨g1, s, h1, r1, rs.mono e1, ok1⟩
  | false => rw [if_neg Bool.false_ne_true] at ok1 ⊢; exact ⟨g1, s, h1, r1, rs.mono e1, ok1⟩
/-- raise of an own class without own __init__ -/
structure ExcI (C : Cfg) (K : PySem.W.Frag) (mg : Str → Option Value) (x : Str) (c : Nat) : Prop where
  ex : ∃ (bmB : List Value) (B newId initId : String), ExcBaseFacts B newId initId bmB ∧ PySem.W.excIn K (C.cA c) bmB newId = true
  gC : mg x = some (.ref (C.cA c))
  kC : PySem.W.keepIn K (.ref (C.cA c)) = true
  sub : PySem.W.subIn K (.ref (C.cA c)) (.type "BaseException") = some true
  ty : PySem.W.typeIn K (.ref (C.cA c)) = some (.type "type")
theorem ss_raise {x m : Str} {j k : Nat} {p2 p3 : Pos} (A : At C X) (F : ExcI C X.K X.mg x k) (hg : L2.Gl X x) (hd : (x == ("__debug__" : Str)) = false) : SS C φ X (.Raise (some (.Call (.Name x p) [.Constant (.str m) j p2] [] p3)) none pos) (sRaise k) := by
  obtain ⟨bmB, B, newId, initId, F1, F2⟩ := F.ex
  refine ⟨fun N tk => (L2.ps_raise A.calm tk (L2.pmk_own F1 F2 F.gC F.kC (L2.raises_own F.sub F.ty) hg hd)).imp fun D σ H ⟨g, s, h, r, rs, ok⟩ => ?_⟩
  exact ⟨k, rfl, ok g H (Ext.refl g) r⟩

/-! ### targets -/
def Only (sl : List Nat) (σ σ' : L2.St) : Prop := σ'.length = σ.length ∧ ∀ j, j ∉ sl → σ'[j]? = σ[j]?
theorem Only.set {σ : L2.St} {i : Nat} {v : Option V} : Only [i] σ (σ.set i v) := ⟨by simp, fun j hj => by rw [List.getElem?_set_ne (fun z => hj (by simp [z]))]⟩
theorem Only.trans {a b : List Nat} {σ σ1 σ2 : L2.St} (h : Only a σ σ1) (k : Only b σ1 σ2) : Only (a ++ b) σ σ2 :=
  ⟨k.1.trans h.1, fun j hj => (k.2 j fun z => hj (List.mem_append_right _ z)).trans (h.2 j fun z => hj (List.mem_append_left _ z))⟩
def tGt (C : Cfg) (sl : List Nat) (g : TF) : TG := fun v σ H Q => ∃ g0 h s s1 x, Rep C g0 h H ∧ RelS C g0 s σ ∧ RelA C g0 x v ∧ g x s h = some s1 ∧ ∀ σ', RelS C g0 s1 σ' → Only sl σ σ' → Q σ' H
def tGts (C : Cfg) (sl : List Nat) (g : List AV → St → AH → Option St) : TGs := fun v σ H Q => ∃ g0 h s s1 x, Rep C g0 h H ∧ RelS C g0 s σ ∧ RelL C g0 x v ∧ g x s h = some s1 ∧ ∀ σ', RelS C g0 s1 σ' → Only sl σ σ' → Q σ' H
structure ST (C : Cfg) (X : Cx) (tg : Expr) (sl : List Nat) (g : TF) : Prop where
  run : PG X tg (tGt C sl g)
structure STs (C : Cfg) (X : Cx) (tg : List Expr) (sl : List Nat) (g : List AV → St → AH → Option St) : Prop where
  run : PGs X tg (tGts C sl g)
theorem st_name {k : Nat} {x : Str} (A : At C X) (hi : X.N[k]? = some x) (hx : L2.Loc X.env.scope x) (hf : X.fn x = true ∨ X.env.scope.names.lookup x = some .local) : ST C X (.Name x pos) [k] (gN k) := by
  refine ⟨(L2.pg_name A.nd hi hx hf).imp fun v σ H Q ⟨g0, h, s, s1, y, r, rs, ry, e, q⟩ => ?_⟩
  unfold gN at e
  cases e
  exact q _ (rs.set k ry) Only.set
theorem sts_nil : STs C X [] [] gsNil := by
  refine ⟨L2.pgs_nil.imp fun v σ H Q ⟨g0, h, s, s1, y, r, rs, ry, e, q⟩ => ?_⟩
  cases y with
  | cons a b => simp [gsNil] at e
  | nil =>
    simp only [gsNil, Option.some.injEq] at e
    subst e
    exact ⟨RelL.nil_iff.mp ry, q σ rs ⟨rfl, fun _ _ => rfl⟩⟩
def noStarT : Expr → Bool
  | .Starred _ _ => false
  | _ => true
theorem assign_cons {e : Expr} {es : List Expr} {env : Env} (h : noStarT e = true) : assignEach (e :: es) env = (false, assign e env) :: assignEach es env := by
  cases e <;> first | rfl | (simp [noStarT] at h)
theorem sts_cons {t : Expr} {ts : List Expr} {sl sl2 : List Nat} {g : TF} {gs : List AV → St → AH → Option St} (h1 : ST C X t sl g) (h2 : STs C X ts sl2 gs) (hn : noStarT t = true) : STs C X (t :: ts) (sl ++ sl2) (gsCons g gs) := by
  refine ⟨(L2.pgs_cons h1.run h2.run (by rw [assign_cons hn]; rfl)).imp fun v σ H Q ⟨g0, h, s, s2, y, r, rs, ry, e, q⟩ => ?_⟩
  cases y with
  | nil => simp [gsCons] at e
  | cons y ys =>
    obtain ⟨v1, vr, rfl, r1, r2⟩ := RelL.cons_iff.mp ry
    simp only [gsCons] at e
    obtain ⟨s1, e1, e2⟩ := Option.bind_eq_some_iff.mp e
    refine ⟨v1, vr, rfl, g0, h, s, s1, y, r, rs, r1, e1, fun σ1 rs1 o1 => ?_⟩
    exact ⟨g0, h, s1, s2, ys, r, rs1, r2, e2, fun σ2 rs2 o2 => q σ2 rs2 (o1.trans o2)⟩
def plainTs : List Expr → Bool
  | [] => true
  | e :: es => noStarT e && plainTs es
theorem plainTs_len {env : Env} : ∀ {ts : List Expr}, plainTs ts = true → (assignEach ts env).length = ts.length ∧ (assignEach ts env).findIdx? (·.1) = none
  | [], _ => ⟨rfl, rfl⟩
  | e :: es, h => by
    simp only [plainTs, Bool.and_eq_true] at h
    obtain ⟨h1, h2⟩ := plainTs_len (env := env) h.2
    rw [assign_cons h.1]
    refine ⟨by simp [h1], ?_⟩
    rw [List.findIdx?_cons]
    simp [h2]
theorem _root_.L2.PG.or {X : Cx} {tg : Expr} {t t' : TG} (h : PG X tg t) (h' : PG X tg t') : PG X tg (fun v σ H Q => t v σ H Q ∨ t' v σ H Q) := ⟨fun pins s σ H v u Q I r hw => hw.elim (h.run pins s σ H v u Q I r) (h'.run pins s σ H v u Q I r)⟩
theorem st_tup {ts : List Expr} {k : Nat} {sl : List Nat} {gs : List AV → St → AH → Option St} (A : At C X) (h : STs C X ts sl gs) (hp : plainTs ts = true) (hl : ∀ xs s hh s1, gs xs s hh = some s1 → xs.length = ts.length) : ST C X (.Tuple ts k pos) sl (gT gs) := by
  refine ⟨((L2.pg_tup A.calm h.run (plainTs_len hp).1 (plainTs_len hp).2).or (L2.pg_lst A.calm h.run (plainTs_len hp).1 (plainTs_len hp).2)).imp fun v σ H Q ⟨g0, h, s, s2, y, r, rs, ry, e, q⟩ => ?_⟩
  unfold gT at e
  split at e
  · rename_i xs
    simp only [RelA] at ry
    obtain ⟨a, vs, rfl, h1, h2⟩ := ry
    rw [A.K]
    exact .inl ⟨a, vs, rfl, SqT.mono (fun b o q => (r.fx b o q).1) h1, by rw [← h2.len]; exact hl _ _ _ _ e, g0, h, s, s2, xs, r, rs, h2, e, q⟩
  · split at e
    · rename_i xs hx
      obtain ⟨a, vs, rfl, h2, h1⟩ := lst_at r ry hx
      rw [A.K]
      exact .inr ⟨a, vs, rfl, SqL.of h1, by rw [← h2.len]; exact hl _ _ _ _ e, g0, h, s, s2, xs, r, rs, h2, e, q⟩
    · cases e
def gsLen : List AV → Nat := List.length
theorem gsNil_len : ∀ xs s hh s1, gsNil xs s hh = some s1 → xs.length = 0 := fun xs s hh s1 h => by cases xs <;> simp_all [gsNil]
theorem gsCons_len {g : TF} {gs : List AV → St → AH → Option St} {n : Nat} (h : ∀ xs s hh s1, gs xs s hh = some s1 → xs.length = n) : ∀ xs s hh s1, gsCons g gs xs s hh = some s1 → xs.length = n + 1 := fun xs s hh s1 e => by
  cases xs with
  | nil => simp [gsCons] at e
  | cons x xs =>
    simp only [gsCons] at e
    obtain ⟨s2, _, e2⟩ := Option.bind_eq_some_iff.mp e
    rw [List.length_cons, h _ _ _ _ e2]
/-- target = value -/
theorem ss_set {tg : Expr} {sl : List Nat} {g : TF} (ha : SE C φ X e f) (hg : ST C X tg sl g) (hn : noStarT tg = true) (hs : swapsWithSole [tg] e pos.line X.env = pure false) (hw : swappedStores [tg] e X.env = pure none) : SS C φ X (.Assign [tg] e pos) (sSet g f) := by
  refine ⟨fun N tk => (L2.ps_asg (ha.run N tk) hg.run hs hw (by rw [assign_cons hn]; rfl)).imp fun D σ H ⟨g0, s, h, r, rs, ok⟩ => ?_⟩
  refine go r rs ok fun g1 h1 x cx H1 e1 r1 rx ok1 => ?_
  cases z : g x s h1 with
  | none => rw [z] at ok1; exact ok1.elim
  | some s1 =>
    rw [z] at ok1
    exact ⟨g1, h1, s, s1, x, r1, rs.mono e1, rx, z, fun σ' rs' _ => ok1.fin r1 σ' rs'⟩
/-- a, b = x, y, plain local names -/
theorem ss_par {k l : Nat} {x y : Str} {px py pt : Pos} {kt k2 : Nat} {pt2 : Pos} (A : At C X) (hi : X.N[k]? = some x) (hj : X.N[l]? = some y) (hij : k ≠ l) (hx : X.env.scope.names.lookup x = some .local) (hy : X.env.scope.names.lookup y = some .local) (ha : SA C φ X [a, b] fs)
    (hw : swappedStores [.Tuple [.Name x px, .Name y py] kt pt] (.Tuple [a, b] k2 pt2) X.env = pure (some [x, y])) :
    SS C φ X (.Assign [.Tuple [.Name x px, .Name y py] kt pt] (.Tuple [a, b] k2 pt2) pos) (sSet (gT (gsCons (gN k) (gsCons (gN l) gsNil))) (eTup fs)) := by
  refine ⟨fun N tk => (L2.ps_par A.calm A.nd hi hj hij hx hy (ha.run N tk) hw rfl).imp fun D σ H ⟨g0, s, h, r, rs, ok⟩ => ?_⟩
  have ok' : okG C g0 ((fs φ s h).bind fun xs h1 => (if xs.length ≤ SZ then (Out.ok (.tup xs) h1) else .stuck : Out AV).bind fun v h1 => match gT (gsCons (gN k) (gsCons (gN l) gsNil)) v s h1 with | some s1 => .ok (.nx s1) h1 | none => .stuck) (kF C D) N := by
    unfold sSet eTup at ok
    cases z : fs φ s h with
    | ok xs h1 => rw [z] at ok; exact ok
    | exc c h1 => rw [z] at ok; exact ok
    | stuck => rw [z] at ok; exact ok
  refine goA r rs ok' fun g1 h1 xs vs H1 e1 r1 rl ok1 => ?_
  split at ok1
  · match xs, rl with
    | [], rl => exact ok1.elim
    | [_], rl => exact ok1.elim
    | [x1, x2], rl =>
      obtain ⟨v1, r1', rfl, q1, rl⟩ := RelL.cons_iff.mp rl
      obtain ⟨v2, r2', rfl, q2, rl⟩ := RelL.cons_iff.mp rl
      rw [RelL.nil_iff] at rl
      subst rl
      exact ⟨v1, v2, rfl, ok1.fin r1 _ (((rs.mono e1).set k q1).set l q2)⟩
    | _ :: _ :: _ :: _, rl => exact ok1.elim
  · exact ok1.elim
theorem ss_par3 {k l m : Nat} {x y z : Str} {px py pz pt : Pos} {kt k2 : Nat} {pt2 : Pos} (A : At C X) (hi : X.N[k]? = some x) (hj : X.N[l]? = some y) (hk : X.N[m]? = some z) (hij : k ≠ l) (hik : k ≠ m) (hjk : l ≠ m) (hx : X.env.scope.names.lookup x = some .local) (hy : X.env.scope.names.lookup y = some .local) (hz : X.env.scope.names.lookup z = some .local) (ha : SA C φ X [a, b, c] fs)
    (hw : swappedStores [.Tuple [.Name x px, .Name y py, .Name z pz] kt pt] (.Tuple [a, b, c] k2 pt2) X.env = pure (some [x, y, z])) :
    SS C φ X (.Assign [.Tuple [.Name x px, .Name y py, .Name z pz] kt pt] (.Tuple [a, b, c] k2 pt2) pos) (sSet (gT (gsCons (gN k) (gsCons (gN l) (gsCons (gN m) gsNil)))) (eTup fs)) := by
  refine ⟨fun N tk => (L2.ps_par3 A.calm A.nd hi hj hk hij hik hjk hx hy hz (ha.run N tk) hw rfl).imp fun D σ H ⟨g0, s, h, r, rs, ok⟩ => ?_⟩
  have ok' : okG C g0 ((fs φ s h).bind fun xs h1 => (if xs.length ≤ SZ then (Out.ok (.tup xs) h1) else .stuck : Out AV).bind fun v h1 => match gT (gsCons (gN k) (gsCons (gN l) (gsCons (gN m) gsNil))) v s h1 with | some s1 => .ok (.nx s1) h1 | none => .stuck) (kF C D) N := by
    unfold sSet eTup at ok
    cases z : fs φ s h with
    | ok xs h1 => rw [z] at ok; exact ok
    | exc c h1 => rw [z] at ok; exact ok
    | stuck => rw [z] at ok; exact ok
  refine goA r rs ok' fun g1 h1 xs vs H1 e1 r1 rl ok1 => ?_
  split at ok1
  · match xs, rl with
    | [], rl => exact ok1.elim
    | [_], rl => exact ok1.elim
    | [_, _], rl => exact ok1.elim
    | [x1, x2, x3], rl =>
      obtain ⟨v1, r1', rfl, q1, rl⟩ := RelL.cons_iff.mp rl
      obtain ⟨v2, r2', rfl, q2, rl⟩ := RelL.cons_iff.mp rl
      obtain ⟨v3, r3', rfl, q3, rl⟩ := RelL.cons_iff.mp rl
      rw [RelL.nil_iff] at rl
      subst rl
      exact ⟨v1, v2, v3, rfl, ok1.fin r1 _ ((((rs.mono e1).set k q1).set l q2).set m q3)⟩
    | _ :: _ :: _ :: _ :: _, rl => exact ok1.elim
  · exact ok1.elim
end
end TX

/-! TxG: stores, loops, comprehensions -/
set_option Elab.async false
set_option linter.all false
set_option maxRecDepth 100000
set_option maxHeartbeats 1000000
set_option autoImplicit false
namespace TX
open PySem PySem.Spec PyProof.Rows
open L2 (V HO Hp Key upd upd_same upd_ne SqL SqT Rd HOk Cx Inv PE PT PW PS PSs PG PGs PI PA TE TT TA TS TG TGs TI It VK XK WX Takes Ends EP OpR tOp CallR tCB tCons tNil Sp Room FnOk)
section
variable {C : Cfg} {φ : Fn} {X : Cx} {a b c e o i : Expr} {es : List Expr} {fa fb fc fo fi f : EF} {fs : AF} {pos p apos : Pos}
theorem RelP.len' {g : Gh} {kvs : List (AV × AV)} {us : List (Key × V)} (h : RelP C g kvs us) : us.length = kvs.length := h.len.symm
theorem set_at {g : Gh} {h h4 : AH} {H : Hp} {x k v : AV} {cx ck cv : V} {Q : Hp → Prop} (r : Rep C g h H) (rx : RelA C g x cx) (rk : RelA C g k ck) (rv : RelA C g v cv) (e : setA x k v h = some h4) (hQ : ∀ H', Rep C g h4 H' → Q H') :
    L2.rSetL cx ck cv H Q ∨ L2.rSetD cx ck cv H Q := by
  unfold setA at e
  split at e
  · rename_i q
    simp only [RelA] at rx
    obtain ⟨hq, rfl⟩ := rx
    split at e
    · rename_i xs hg
      obtain ⟨u, h1, vs, rfl, rl⟩ := r.obj q _ hg
      split at e
      · rename_i j
        obtain ⟨m, hm, rfl⟩ := Option.map_eq_some_iff.mp e
        have e2 : L2.ixN vs.length j = some m := by rw [← rl.len]; exact hm
        exact .inl ⟨_, vs, j, m, rfl, rk.int, h1, e2, hQ _ (r.put hg ⟨_, rfl, rl.set rv m⟩)⟩
      · cases e
    · rename_i kvs hg
      obtain ⟨u, h1, us, rfl, rp⟩ := r.obj q _ hg
      split at e
      · rename_i hz
        simp only [Bool.and_eq_true, decide_eq_true_eq] at hz
        simp only [Option.some.injEq] at e
        subst e
        obtain ⟨kk, h2, rfl⟩ := key_of hz.1 rk
        refine .inr ⟨_, _, rfl, L2.DPut.k h1 (by rw [← rp.len]; exact hz.2), hQ _ (r.put hg ⟨_, rfl, rp.put h2 rv⟩)⟩
      · cases e
    · cases e
  · cases e
theorem pset_any (hu : X.A.units + 1 < cLine) : L2.PSet X (fun o i v H Q => L2.rSetL o i v H Q ∨ L2.rSetD o i v H Q) := fun pins s σ H o i v ov iv u Q I r1 r2 r3 h => h.elim (L2.set_list pins s σ H o i v ov iv u Q I r1 r2 r3) (L2.set_dict hu pins s σ H o i v ov iv u Q I r1 r2 r3)
/-- an index that is no slice -/
theorem assign_sub (hs : noSl i = true) (v : Value) : assign (.Subscript o i pos) X.env v = (do
      let ov ← holding [v] (eval o X.env)
      let iv ← holding [v, ov] (eval i X.env)
      standAt pos
      holding [v, ov, iv] (setItem ov iv v)
      release [v, ov, iv] []) := by
  cases i <;> first | rfl | (simp [noSl] at hs)
theorem aug_sub (hs : noSl i = true) : ∀ ov iv new, augStore i ov iv new = (do holding [new, ov, iv] (setItem ov iv new); release [new, ov, iv] []; pure .next) := by
  intro ov iv new
  cases i <;> first | rfl | (simp [noSl] at hs)
theorem ss_put {q : Pos} (A : At C X) (ha : SE C φ X e f) (ho : SE C φ X o fo) (hi : SE C φ X i fi) (hn : noSl i = true) (hs : swapsWithSole [.Subscript o i q] e pos.line X.env = pure false) :
    SS C φ X (.Assign [.Subscript o i q] e pos) (sPut fo fi f) := by
  have hu := A.hu
  refine ⟨fun N tk => (L2.ps_asg (ha.run N tk) (L2.pg_sub (ho.run N tk) (hi.run N tk) (pset_any (by omega)) (assign_sub hn)) hs rfl).imp fun D σ H ⟨g0, s, h, r, rs, ok⟩ => ?_⟩
  refine go r rs ok fun g1 h1 x cx H1 e1 r1 rx ok1 => go r1 (rs.mono e1) ok1 fun g2 h2 y cy H2 e2 r2 ry ok2 => go r2 ((rs.mono e1).mono e2) ok2 fun g3 h3 k ck H3 e3 r3 rk ok3 => ?_
  cases z : setA y k x h3 with
  | none => rw [z] at ok3; exact ok3.elim
  | some h4 =>
    rw [z] at ok3
    exact set_at r3 (ry.mono e3) rk ((rx.mono e2).mono e3) z fun H' r' => ok3 g3 H' (Ext.refl _) r' σ (((rs.mono e1).mono e2).mono e3)
def augOp : BO → Bool
  | .add => true
  | .sub => true
  | _ => false
theorem ip_of {op : BO} (h : augOp op = true) : ∃ k : Int → Int → Int, L2.PIp X (toOp op) (L2.ipI k) ∧ ∀ i j, intOp op i j = some (k i j) := by
  cases op <;> first | exact ⟨_, L2.ip_add, fun _ _ => rfl⟩ | exact ⟨_, L2.ip_sub, fun _ _ => rfl⟩ | (simp [augOp] at h)
theorem ss_aug {k : Nat} {x : Str} {op : BO} {q : Pos} (A : At C X) (hi : X.N[k]? = some x) (hx : L2.Loc X.env.scope x) (hf : X.fn x = true ∨ X.env.scope.names.lookup x = some .local) (ho : augOp op = true) (ha : SE C φ X e f) : SS C φ X (.AugAssign (.Name x q) (toOp op) e pos) (sAug k op f) := by
  obtain ⟨kk, h1, h2⟩ := ip_of (X := X) ho
  refine ⟨fun N tk => (L2.ps_aug A.nd hi hx (ha.run N tk) h1 hf).imp fun D σ H ⟨g0, s, h, r, rs, ok⟩ => ?_⟩
  unfold sAug at ok
  split at ok
  · rename_i y hy
    obtain ⟨v, hv, rv⟩ := rs.2 k y hy
    refine ⟨v, hv, go r rs ok fun g1 h1 z cz H1 e1 r1 rz ok1 => ?_⟩
    split at ok1
    · rename_i n m
      rw [h2] at ok1
      exact ⟨n, m, rv.int, rz.int, ok1.fin r1 _ ((rs.mono e1).set k .mkI)⟩
    · exact ok1.elim
  · exact ok.elim
theorem pget_any (hu : X.A.units + 1 < cLine) : L2.PGet X (fun x y H Q => L2.rIx X.K x y H Q ∨ ∃ a v, x = .ref a ∧ L2.DGet H a y (some v) ∧ Q v H) := by
  intro pins s σ H o i ov iv Q I ro ri h
  have hn := L2.line63
  rcases h with (⟨p, xs, k, z, rfl, rfl, hq, he, q⟩ | ⟨p, xs, k, z, rfl, rfl, hq, he, q⟩ | ⟨y, k, c, rfl, rfl, hz, he, q⟩) | ⟨a, v, rfl, hg, q⟩
  · cases ro
    obtain ⟨t, rfl⟩ := ri
    obtain ⟨its, r, pl, hz⟩ := I.list hq
    obtain ⟨j, h1, h2, h3, h4, h5⟩ := L2.atI_get he
    obtain ⟨w, ew, rw'⟩ := r.get h2
    have hl := r.length
    have fin : EP X pins σ Q w s := ⟨z, H, I, rw', q⟩
    by_cases h0 : 0 ≤ k
    · have hj : k.toNat = j := by
        rw [seqIndex_of h0 h5] at h1
        exact Option.some.inj h1
      exact wpAny_getItem_list (Q := EP X pins σ Q) pl.isList h0 (by omega) (x := w) (by rw [hj]; simpa using ew) fin
    · have hj : (k + (its.toArray.size : Int)).toNat = j := by
        rw [seqIndex_neg (by omega) h4] at h1
        rw [List.size_toArray, ← hl]
        exact Option.some.inj h1
      exact wpAny_getItem_list_neg (Q := EP X pins σ Q) pl.isList (by omega) (by rw [List.size_toArray] <;> omega) (by omega) (x := w) (by rw [hj]; simpa using ew) fin
  · cases ro
    obtain ⟨t, rfl⟩ := ri
    obtain ⟨its, r, pl, hz⟩ := I.tuple hq
    obtain ⟨j, h1, h2, h3, h4, h5⟩ := L2.atI_get he
    obtain ⟨w, ew, rw'⟩ := r.get h2
    have hl := r.length
    exact getItem_tuple (j := j) (Q := EP X pins σ Q) pl (by omega) (by omega) (by rw [List.size_toArray, ← hl]; exact h1) (x := w) (by simpa using ew) ⟨z, H, I, rw', q⟩
  · obtain ⟨t, rfl⟩ := ro
    obtain ⟨t', rfl⟩ := ri
    obtain ⟨j, h1, h2, h3, h4, h5⟩ := L2.atI_get he
    have hl : y.cps.toList.length = y.length := by simp [Str.length]
    rw [hl] at h1 h4 h5
    exact getItem_str (c := c) (by
      have e1 : decide (k < -(2 ^ 63 : Int)) = false := decide_eq_false (by omega)
      have e2 : decide (k ≥ 2 ^ 63) = false := decide_eq_false (by omega)
      rw [e1, e2, Bool.or_false]) (by rw [h1]; simpa using h2) ⟨.str ⟨#[c]⟩, H, I.tok _, ⟨_, rfl⟩, q⟩
  · cases ro
    exact L2.d_getItem hu I hg ri fun w' s' I' rw' => ⟨v, H, I', rw', q⟩
theorem ss_augI {op : BO} {q : Pos} (A : At C X) (ho : SE C φ X o fo) (hi : SE C φ X i fi) (hn : noSl i = true) (hop : augOp op = true) (ha : SE C φ X e f) : SS C φ X (.AugAssign (.Subscript o i q) (toOp op) e pos) (sAugI fo fi op f) := by
  have hu := A.hu
  obtain ⟨kk, h1, h2⟩ := ip_of (X := X) hop
  refine ⟨fun N tk => (L2.ps_augS (ho.run N tk) (hi.run N tk) (pget_any (by omega)) (ha.run N tk) h1 (pset_any (by omega)) (aug_sub hn)).imp fun D σ H ⟨g0, s, h, r, rs, ok⟩ => ?_⟩
  refine go r rs ok fun g1 h1 x cx H1 e1 r1 rx ok1 => go r1 (rs.mono e1) ok1 fun g2 h3 k ck H2 e2 r2 rk ok2 => ?_
  split at ok2
  · rename_i n hn
    refine (idx_run A.K).run g2 h3 H2 x k cx ck _ N r2 (rx.mono e2) rk ?_
    rw [hn]
    intro g' H' e' r' v rv
    cases rv.int
    have ok3 := okG.ext ok2 e'
    refine go r' (((rs.mono e1).mono e2).mono e') ok3 fun g4 h4 y cy H4 e4 r4 ry ok4 => ?_
    split at ok4
    · rename_i m
      rw [h2] at ok4
      refine ⟨n, m, rfl, ry.int, ?_⟩
      simp only at ok4
      cases z : setA x k (.int (kk n m)) h4 with
      | none => rw [z] at ok4; exact ok4.elim
      | some h5 =>
        rw [z] at ok4
        exact set_at r4 (((rx.mono e2).mono e').mono e4) ((rk.mono e').mono e4) .mkI z fun H5 r5 => ok4 g4 H5 (Ext.refl _) r5 σ ((((rs.mono e1).mono e2).mono e').mono e4)
    · exact ok4.elim
  · exact ok2.elim

/-! ### what is walked -/
/-- at each turn J gives the item, as long as what it walks stays -/
def Src (C : Cfg) (items : List AV) (gd : Gd) (g : Gh) (J : It) : Prop := ∀ g' h' H', Ext g g' → Rep C g' h' H' → gOk gd h' = true → ∀ i,
  (∀ x, items[i]? = some x → J.go i H' ∧ ∀ v H3, J.yld i H' v H3 → ∃ g3, Ext g' g3 ∧ Rep C g3 h' H3 ∧ RelA C g3 x v) ∧ (items.length ≤ i → J.stop i H')
def tI (C : Cfg) (φ : Fn) (f : IF_) (N : Nat → Hp → Prop) : TI := fun σ H R => ∃ g s h, Rep C g h H ∧ RelS C g s σ ∧ okG C g (f φ s h) (fun p g' _ H' => ∀ J, Src C p.1 p.2 g' J → R J H') N
structure SI (C : Cfg) (φ : Fn) (X : Cx) (tg e : Expr) (f : IF_) : Prop where
  run : ∀ N, Takes X (wX C N) → PI X tg e (tI C φ f N)
variable {tg : Expr}
/-- a list, as it stays -/
theorem lst_stay {g : Gh} {h : AH} {H : Hp} {x : AV} {cx : V} {xs : List AV} (r : Rep C g h H) (rx : RelA C g x cx) (e : seqOf x h = some xs) (nt : ∀ ys, x ≠ .tup ys) :
    ∃ a, cx = .ref a ∧ ∀ g' h' H', Ext g g' → Rep C g' h' H' → gOk (gdOf x h) h' = true → ∃ vs, H' a = some (.lst vs) ∧ RelL C g' xs vs := by
  cases x with
  | tup ys => exact absurd rfl (nt ys)
  | lst ys =>
    simp only [seqOf, Option.some.injEq] at e
    subst e
    simp only [RelA] at rx
    obtain ⟨a, vs, h1, h2, h3⟩ := rx
    exact ⟨a, h1, fun g' h' H' e' r' _ => ⟨vs, (r'.fx _ _ (e'.fx _ _ h2)).1, h3.mono e'⟩⟩
  | ref q =>
    simp only [RelA] at rx
    simp only [seqOf] at e
    split at e
    · rename_i ys hg
      simp only [Option.some.injEq] at e
      subst e
      refine ⟨_, rx.2, fun g' h' H' e' r' hk => ?_⟩
      have hk2 : hget h' q = some (.lst ys) := by
        simp only [gdOf, hg, gOk, List.all_cons, List.all_nil, Bool.and_true, decide_eq_true_eq] at hk
        exact hk
      obtain ⟨u, h1, vs, rfl, rl⟩ := r'.obj q _ hk2
      rw [e'.at_ q rx.1] at h1
      exact ⟨vs, h1, rl⟩
    · cases e
  | _ => simp [seqOf] at e
theorem tup_stay {g : Gh} {xs : List AV} {cx : V} (rx : RelA C g (.tup xs) cx) : ∃ a vs, cx = .ref a ∧ RelL C g xs vs ∧ ∀ g' h' H', Ext g g' → Rep C g' h' H' → SqT C.K H' a vs := by
  simp only [RelA] at rx
  obtain ⟨a, vs, h1, h2, h3⟩ := rx
  exact ⟨a, vs, h1, h3, fun g' h' H' e' r' => SqT.mono (fun b o q => (r'.fx b o (e'.fx _ _ q)).1) h2⟩
theorem Inv.nothing : True := trivial
theorem src_list {g : Gh} {xs : List AV} {gd : Gd} {a : Addr} (st : ∀ g' h' H', Ext g g' → Rep C g' h' H' → gOk gd h' = true → ∃ vs, H' a = some (.lst vs) ∧ RelL C g' xs vs) : Src C xs gd g (L2.Itl C.K a) := by
  intro g' h' H' e' r' hk i
  obtain ⟨vs, h1, rl⟩ := st g' h' H' e' r' hk
  refine ⟨fun x hx => ?_, fun hi => ⟨vs, SqL.of h1, by rw [← rl.len]; exact hi⟩⟩
  obtain ⟨u, hu, ru⟩ := rl.get hx
  refine ⟨⟨vs, u, SqL.of h1, hu⟩, fun v H3 hy => ?_⟩
  obtain ⟨rfl, q⟩ := hy
  have := q vs (SqL.of h1)
  rw [hu] at this
  cases this
  exact ⟨g', Ext.refl _, r', ru⟩
theorem src_tup {g : Gh} {xs : List AV} {gd : Gd} {a : Addr} {vs : List V} (rl : RelL C g xs vs) (st : ∀ g' h' H', Ext g g' → Rep C g' h' H' → SqT C.K H' a vs) : Src C xs gd g (L2.Itt C.K a) := by
  intro g' h' H' e' r' hk i
  have h1 := st g' h' H' e' r'
  refine ⟨fun x hx => ?_, fun hi => ⟨vs, h1, by rw [← rl.len]; exact hi⟩⟩
  obtain ⟨u, hu, ru⟩ := rl.get hx
  refine ⟨⟨vs, u, h1, hu⟩, fun v H3 hy => ?_⟩
  obtain ⟨rfl, q⟩ := hy
  have := q vs h1
  rw [hu] at this
  cases this
  exact ⟨g', Ext.refl _, r', ru.mono e'⟩
theorem src_str {g : Gh} {t : Tx} : Src C (t.map fun c => .str [c]) [] g (L2.Its (toS t)) := by
  intro g' h' H' e' r' hk i
  refine ⟨fun x hx => ?_, fun hi => ?_⟩
  · rw [List.getElem?_map] at hx
    obtain ⟨c, hc, rfl⟩ := Option.map_eq_some_iff.mp hx
    have hlt := (List.getElem?_eq_some_iff.mp hc).1
    refine ⟨by show i < t.toArray.size; simpa using hlt, fun v H3 hy => ?_⟩
    obtain ⟨rfl, d, hd, rfl⟩ := hy
    have hd2 : t[i]? = some d := by
      have := hd
      simpa [toS] using this
    rw [hc] at hd2
    cases hd2
    exact ⟨g', Ext.refl _, r', by simp only [RelA]; rfl⟩
  · show t.toArray.size ≤ i
    simpa using hi
theorem gOk_self {x : AV} {h : AH} : gOk (gdOf x h) h = true := by
  unfold gdOf gOk
  cases x with
  | ref q =>
    simp only
    split
    · rename_i o ho; simp [ho]
    · rfl
  | _ => rfl
/-- a text, a list, a tuple -/
theorem si_seq (A : At C X) (ha : SE C φ X a fa) : SI C φ X tg a (iSeq fa) := by
  refine ⟨fun N tk => (((L2.pi_list (ha.run N tk)).or (L2.pi_tup (ha.run N tk))).or (L2.pi_str (ha.run N tk))).imp fun σ H R ⟨g, s, h, r, rs, ok⟩ => ?_⟩
  cases z : fa φ s h with
  | exc c h1 =>
    unfold iSeq at ok; rw [z] at ok
    exact .inr ⟨g, s, h, r, rs, by rw [z]; exact ok⟩
  | stuck => unfold iSeq at ok; rw [z] at ok; exact ok.elim
  | ok x h1 =>
    unfold iSeq at ok
    rw [z] at ok
    simp only [bind_ok] at ok
    have key : (∃ t, x = .str t ∧ okG C g (.ok (t.map fun c => AV.str [c], ([] : Gd)) h1) (fun p g' _ H' => ∀ J, Src C p.1 p.2 g' J → R J H') N) ∨ ∃ xs, seqOf x h1 = some xs ∧ okG C g (.ok (xs, gdOf x h1) h1) (fun p g' _ H' => ∀ J, Src C p.1 p.2 g' J → R J H') N := by
      cases x with
      | str t => exact .inl ⟨t, rfl, ok⟩
      | _ =>
        right
        dsimp only at ok
        split at ok
        · rename_i xs hx
          exact ⟨xs, hx, ok⟩
        · exact ok.elim
    rcases key with ⟨t, rfl, ok⟩ | ⟨xs, hx, ok⟩
    · refine .inr ⟨g, s, h, r, rs, ?_⟩
      rw [z]
      exact fun g' H' e1 r1 v rv => ⟨_, rv.str, ok g' H' e1 r1 _ src_str⟩
    · by_cases htup : ∃ ys, x = .tup ys
      · obtain ⟨ys, rfl⟩ := htup
        simp only [seqOf, Option.some.injEq] at hx
        subst hx
        refine .inl (.inr ⟨g, s, h, r, rs, ?_⟩)
        rw [z]
        intro g' H' e1 r1 v rv
        obtain ⟨p, vs, rfl, rl, st⟩ := tup_stay rv
        rw [A.K]
        exact ⟨p, rfl, ⟨vs, st g' _ H' (Ext.refl _) r1⟩, ok g' H' e1 r1 _ (src_tup rl st)⟩
      · refine .inl (.inl ⟨g, s, h, r, rs, ?_⟩)
        rw [z]
        intro g' H' e1 r1 v rv
        obtain ⟨p, rfl, st⟩ := lst_stay r1 rv hx (fun ys e => htup ⟨ys, e⟩)
        rw [A.K]
        obtain ⟨vs, h2, _⟩ := st g' _ H' (Ext.refl _) r1 gOk_self
        exact ⟨p, rfl, ⟨vs, SqL.of h2⟩, ok g' H' e1 r1 _ (src_list st)⟩
theorem rng_len : ∀ (n : Nat) (lo : Int), (rng lo n).length = n
  | 0, _ => rfl
  | n + 1, lo => by simp [rng, rng_len n]
theorem rng_get : ∀ (n : Nat) (lo : Int) (i : Nat) (x : AV), (rng lo n)[i]? = some x → i < n ∧ x = .int (lo + i)
  | 0, _, _, _, h => by simp [rng] at h
  | n + 1, lo, 0, x, h => by
    simp [rng] at h
    exact ⟨by omega, by rw [← h]; simp⟩
  | n + 1, lo, i + 1, x, h => by
    simp only [rng, List.getElem?_cons_succ] at h
    obtain ⟨h1, h2⟩ := rng_get n (lo + 1) i x h
    exact ⟨by omega, by rw [h2]; congr 1; omega⟩
theorem src_rng {g : Gh} {lo : Int} {n : Nat} : Src C (rng lo n) [] g (L2.Itr lo n) := by
  intro g' h' H' e' r' hk i
  refine ⟨fun x hx => ?_, fun hi => ?_⟩
  · obtain ⟨h1, rfl⟩ := rng_get n lo i x hx
    refine ⟨h1, fun v H3 hy => ?_⟩
    obtain ⟨rfl, rfl⟩ := hy
    exact ⟨g', Ext.refl _, r', .mkI⟩
  · rw [rng_len] at hi
    exact hi
theorem rngOk_of {i : Int} (h : rngOk i = true) : -(2 ^ 62) ≤ i ∧ i < 2 ^ 62 := by simpa [rngOk] using h
theorem star1 (hn : noStar a = true) : starEach [a] X.env = [(false, eval a X.env)] := by rw [star_cons hn]; rfl
theorem si_rng1 (bn : Bn X "range") (ha : SE C φ X a fa) (hn : noStar a = true) : SI C φ X tg (.Call (.Name "range" p) [a] [] pos) (iRng1 fa) := by
  refine ⟨fun N tk => (L2.pi_range1 bn.gl bn.mg (L2.pa_cons (ha.run N tk) L2.pa_nil (star_cons hn)) (star1 hn)).imp fun σ H R ⟨g, s, h, r, rs, ok⟩ => ?_⟩
  refine go r rs ok fun g1 h1 x cx H1 e1 r1 rx ok1 => ?_
  split at ok1
  · split at ok1
    · rename_i hk
      obtain ⟨k1, k2⟩ := rngOk_of hk
      exact ⟨_, by rw [rx.int], k1, k2, ok1.fin r1 _ src_rng⟩
    · exact ok1.elim
  · exact ok1.elim
theorem si_rng2 (bn : Bn X "range") (ha : SE C φ X a fa) (hb : SE C φ X b fb) (hn : noStar a = true) (hn2 : noStar b = true) : SI C φ X tg (.Call (.Name "range" p) [a, b] [] pos) (iRng2 fa fb) := by
  refine ⟨fun N tk => (L2.pi_range2 bn.gl bn.mg (L2.pa_cons (ha.run N tk) (L2.pa_cons (hb.run N tk) L2.pa_nil (star_cons hn2)) (star_cons hn)) (by rw [star_cons hn, star_cons hn2]; rfl) (star1 hn2)).imp fun σ H R ⟨g, s, h, r, rs, ok⟩ => ?_⟩
  refine go r rs ok fun g1 h1 x cx H1 e1 r1 rx ok1 => go r1 (rs.mono e1) ok1 fun g2 h2 y cy H2 e2 r2 ry ok2 => ?_
  split at ok2
  · split at ok2
    · rename_i hk
      simp only [Bool.and_eq_true] at hk
      obtain ⟨k1, k2⟩ := rngOk_of hk.1
      obtain ⟨k3, k4⟩ := rngOk_of hk.2
      exact ⟨_, _, by rw [(rx.mono e2).int, ry.int], ⟨k1, k2, k3, k4⟩, ok2.fin r2 _ src_rng⟩
    · exact ok2.elim
  · exact ok2.elim
theorem lst_seq {x : AV} {h : AH} {xs : List AV} (e : lstOf x h = some xs) : seqOf x h = some xs ∧ ∀ ys, x ≠ .tup ys := by
  cases x <;> simp_all [lstOf, seqOf]
theorem enum_len : ∀ (xs : List AV) (k : Int), (enumL k xs).length = xs.length
  | [], _ => rfl
  | x :: r, k => by simp [enumL, enum_len r]
theorem enum_get : ∀ (xs : List AV) (k : Int) (i : Nat) (x : AV), (enumL k xs)[i]? = some x → ∃ y, xs[i]? = some y ∧ x = .tup [.int (k + i), y]
  | [], _, _, _, h => by simp [enumL] at h
  | y :: r, k, 0, x, h => by
    simp [enumL] at h
    exact ⟨y, rfl, by rw [← h]; simp⟩
  | y :: r, k, i + 1, x, h => by
    simp only [enumL, List.getElem?_cons_succ] at h
    obtain ⟨z, h1, h2⟩ := enum_get r (k + 1) i x h
    refine ⟨z, h1, ?_⟩
    rw [h2]
    have : k + 1 + (i : Int) = k + ((i + 1 : Nat) : Int) := by omega
    rw [this]
theorem pair_new {g : Gh} {h : AH} {H : Hp} {T : Addr} {x y : AV} {u v : V} (r : Rep C g h H) (hT : H T = none) (rx : RelA C g x u) (ry : RelA C g y v) :
    ∃ g3, Ext g g3 ∧ Rep C g3 h (upd H T (.tup [u, v])) ∧ RelA C g3 (.tup [x, y]) (.ref T) := by
  refine ⟨g.more T (.tup [u, v]), r.ext_more hT _, r.more hT (o := .tup [u, v]) trivial, ?_⟩
  simp only [RelA]
  exact ⟨T, [u, v], rfl, SqT.of upd_same, .cons (rx.mono (r.ext_more hT _)) (.cons (ry.mono (r.ext_more hT _)) .nil)⟩
theorem src_enum {g : Gh} {xs : List AV} {gd : Gd} {a : Addr} (st : ∀ g' h' H', Ext g g' → Rep C g' h' H' → gOk gd h' = true → ∃ vs, H' a = some (.lst vs) ∧ RelL C g' xs vs) : Src C (enumL 0 xs) gd g (L2.Ite C.K a) := by
  intro g' h' H' e' r' hk i
  obtain ⟨vs, h1, rl⟩ := st g' h' H' e' r' hk
  refine ⟨fun x hx => ?_, fun hi => ⟨vs, SqL.of h1, by rw [← rl.len]; rw [enum_len] at hi; exact hi⟩⟩
  obtain ⟨y, hy, rfl⟩ := enum_get _ _ _ _ hx
  obtain ⟨u, hu, ru⟩ := rl.get hy
  refine ⟨⟨vs, u, SqL.of h1, hu⟩, fun v H3 hyy => ?_⟩
  obtain ⟨T, w, rfl, hT, rfl, q⟩ := hyy
  have := q vs (SqL.of h1)
  rw [hu] at this
  cases this
  have e0 : (0 : Int) + (i : Int) = ((i : Nat) : Int) := by omega
  rw [e0]
  exact pair_new r' hT .mkI ru
/-! ### for, while -/
theorem gd_fst {gd : Gd} {h : AH} {α : Type} {o : Out α} {g : Gh} {K : α → Gh → AH → Hp → Prop} {N : Nat → Hp → Prop} (ok : okG C g (if gOk gd h = true then o else .stuck) K N) : gOk gd h = true ∧ okG C g o K N := by
  split at ok
  · rename_i hz; exact ⟨hz, ok⟩
  · exact ok.elim
theorem ss_for {sl : List Nat} {gt : TF} {it : Expr} {fi : IF_} {sb : List Stmt} {fb : SF} (A : At C X) (hp : PassesOwn (model X.prog X.w) X.A X.env X.xe) (hi : SI C φ X tg it fi) (hg : ST C X tg sl gt) (hb : SSs C φ X sb fb)
    (hs : ∀ x, foldedSetIterable it X.env x = pure x) : SS C φ X (.For tg it sb [] pos) (sFor fi gt fb) := by
  refine ⟨fun N tk => (L2.ps_for hp A.calm (hi.run N tk) hg.run (hb.run N tk) hs).imp fun D σ H ⟨g, s, h, r, rs, ok⟩ => ?_⟩
  refine ⟨g, s, h, r, rs, ?_⟩
  unfold sFor at ok
  cases z : fi φ s h with
  | exc c h1 => rw [z] at ok; exact ok
  | stuck => rw [z] at ok; exact ok
  | ok p h1 =>
    rw [z] at ok
    simp only [bind_ok] at ok
    intro g1 H1 e1 r1 J src
    have ok1 := okG.ext ok e1
    obtain ⟨items, gd⟩ := p
    refine ⟨fun i m σ' H' => m = items.length - i ∧ i ≤ items.length ∧ ∃ g' s' h', Ext g1 g' ∧ Rep C g' h' H' ∧ RelS C g' s' σ' ∧ okG C g' (forGo φ gt fb gd (items.drop i) s' h') (kF C D) N,
      ⟨items.length, by simp, Nat.zero_le _, g1, s, h1, Ext.refl _, r1, rs.mono e1, ok1⟩, ?_⟩
    rintro i m σ' H' ⟨rfl, hi, g', s', h', e', r', rs', ok'⟩
    by_cases hlt : i < items.length
    · rw [List.drop_eq_getElem_cons hlt] at ok'
      unfold forGo at ok'
      obtain ⟨hk, ok'⟩ := gd_fst ok'
      obtain ⟨q1, _⟩ := src g' h' H' e' r' hk i
      obtain ⟨jgo, jy⟩ := q1 items[i] (List.getElem?_eq_getElem hlt)
      refine .inr ⟨jgo, fun σ2 H2 => ∃ g' s' h', Ext g1 g' ∧ Rep C g' h' H2 ∧ RelS C g' s' σ2 ∧ okG C g' (forGo φ gt fb gd (items.drop (i + 1)) s' h') (kF C D) N, fun σ2 H2 q => ⟨items.length - (i + 1), by omega, rfl, hlt, q⟩, fun x H3 hy => ?_⟩
      obtain ⟨g3, e3, r3, rx⟩ := jy x H3 hy
      cases z2 : gt items[i] s' h' with
      | none => rw [z2] at ok'; exact ok'.elim
      | some s1 =>
        rw [z2] at ok'
        refine ⟨g3, h', s', s1, items[i], r3, rs'.mono e3, rx, z2, fun σ4 rs4 _ => ⟨g3, s1, h', r3, rs4, ?_⟩⟩
        have ok4 := okG.ext ok' e3
        simp only at ok4
        cases z3 : fb φ s1 h' with
        | exc c h2 => rw [z3] at ok4; exact ok4
        | stuck => rw [z3] at ok4; exact ok4
        | ok fl h2 =>
          rw [z3] at ok4
          simp only [bind_ok] at ok4
          cases fl with
          | nx s2 => exact fun g5 H5 e5 r5 σ5 rs5 => ⟨g5, s2, h2, (e'.trans e3).trans e5, r5, rs5, okG.ext ok4 e5⟩
          | ct s2 => exact fun g5 H5 e5 r5 σ5 rs5 => ⟨g5, s2, h2, (e'.trans e3).trans e5, r5, rs5, okG.ext ok4 e5⟩
          | bk s2 => exact fun g5 H5 e5 r5 σ5 rs5 => ok4 g5 H5 e5 r5 σ5 rs5
          | rt v => exact ok4
    · have hie : i = items.length := by omega
      rw [List.drop_eq_nil_of_le (by omega)] at ok'
      unfold forGo at ok'
      obtain ⟨hk, ok'⟩ := gd_fst ok'
      exact .inl ⟨(src g' h' H' e' r' hk i).2 (by show items.length ≤ i; omega), ok'.fin r' σ' rs'⟩
theorem ss_while {sb : List Stmt} {fb : SF} (hp : PassesOwn (model X.prog X.w) X.A X.env X.xe) (hc : SB C φ X c fc) (hb : SSs C φ X sb fb) : SS C φ X (.While c sb [] pos) (sWhile fc fb) := by
  refine ⟨fun N tk => (L2.ps_while hp (hc.run N tk) (hb.run N tk)).imp fun D σ H ⟨g, s, h, r, rs, ok⟩ => ?_⟩
  refine ⟨fun m σ' H' => ∃ g' s' h', Rep C g' h' H' ∧ RelS C g' s' σ' ∧ okG C g' (whGo φ fc fb m s' h') (kF C D) N, ⟨WF, g, s, h, r, rs, ok⟩, ?_⟩
  rintro m σ' H' ⟨g', s', h', r', rs', ok'⟩
  cases m with
  | zero => exact ok'.elim
  | succ m =>
    unfold whGo at ok'
    refine goB r' rs' ok' fun g1 h1 d H1 e1 r1 ok1 => ?_
    cases d with
    | false => rw [if_neg Bool.false_ne_true] at ok1 ⊢; exact ok1.fin r1 σ' (rs'.mono e1)
    | true =>
      rw [if_pos rfl] at ok1 ⊢
      refine ⟨fun σ2 H2 => ∃ g' s' h', Rep C g' h' H2 ∧ RelS C g' s' σ2 ∧ okG C g' (whGo φ fc fb m s' h') (kF C D) N, fun σ2 H2 q => ⟨m, Nat.lt_succ_self _, q⟩, ?_⟩
      refine ⟨g1, s', h1, r1, rs'.mono e1, ?_⟩
      cases z3 : fb φ s' h1 with
      | exc c h2 => rw [z3] at ok1; exact ok1
      | stuck => rw [z3] at ok1; exact ok1
      | ok fl h2 =>
        rw [z3] at ok1
        simp only [bind_ok] at ok1
        cases fl with
        | nx s2 => exact fun g5 H5 e5 r5 σ5 rs5 => ⟨g5, s2, h2, r5, rs5, okG.ext ok1 e5⟩
        | ct s2 => exact fun g5 H5 e5 r5 σ5 rs5 => ⟨g5, s2, h2, r5, rs5, okG.ext ok1 e5⟩
        | bk s2 => exact fun g5 H5 e5 r5 σ5 rs5 => ok1 g5 H5 e5 r5 σ5 rs5
        | rt v => exact ok1
end
end TX

/-! TxT: more sources: zip -/
set_option Elab.async false
set_option linter.all false
set_option maxRecDepth 100000
set_option maxHeartbeats 1000000
set_option autoImplicit false
namespace TX
open PySem PySem.Spec PyProof.Rows
open L2 (V HO Hp Key upd upd_same upd_ne SqL SqT Rd HOk Cx Inv PE PT PTs PW PS PSs PG PGs PI PA TE TT TA TS TG TGs TI It VK XK WX Takes Ends EP SP TP OpR tOp CallR tCB tCons tNil Sp Room FnOk)
theorem zip_get : ∀ (xs ys : List AV) (i : Nat) (x : AV), (zipL xs ys)[i]? = some x → ∃ u v, xs[i]? = some u ∧ ys[i]? = some v ∧ x = .tup [u, v]
  | [], _, _, _, h => by simp [zipL] at h
  | _ :: _, [], _, _, h => by simp [zipL] at h
  | u :: xs, v :: ys, 0, x, h => by
    simp [zipL] at h
    exact ⟨u, v, rfl, rfl, h.symm⟩
  | u :: xs, v :: ys, i + 1, x, h => by
    simp only [zipL, List.getElem?_cons_succ] at h
    obtain ⟨a, b, h1, h2, h3⟩ := zip_get xs ys i x h
    exact ⟨a, b, h1, h2, h3⟩
theorem zip_len : ∀ (xs ys : List AV) (i : Nat), (zipL xs ys).length ≤ i → xs.length ≤ i ∨ ys.length ≤ i
  | [], _, _, _ => .inl (Nat.zero_le _)
  | _ :: _, [], _, _ => .inr (Nat.zero_le _)
  | u :: xs, v :: ys, 0, h => by simp [zipL] at h
  | u :: xs, v :: ys, i + 1, h => by
    simp only [zipL, List.length_cons] at h
    rcases zip_len xs ys i (by omega) with z | z
    · exact .inl (by simp; omega)
    · exact .inr (by simp; omega)
section
variable {C : Cfg}
theorem src_zipL {g : Gh} {xs ys : List AV} {gd : Gd} {a b : Addr} (st : ∀ g' h' H', Ext g g' → Rep C g' h' H' → gOk gd h' = true → ∃ vs, H' a = some (.lst vs) ∧ RelL C g' xs vs)
    (st2 : ∀ g' h' H', Ext g g' → Rep C g' h' H' → gOk gd h' = true → ∃ vs, H' b = some (.lst vs) ∧ RelL C g' ys vs) : Src C (zipL xs ys) gd g (L2.Itz C.K a b) := by
  intro g' h' H' e' r' hk i
  obtain ⟨vs, h1, rl⟩ := st g' h' H' e' r' hk
  obtain ⟨ws, k1, sl⟩ := st2 g' h' H' e' r' hk
  refine ⟨fun x hx => ?_, fun hi => ⟨vs, ws, SqL.of h1, SqL.of k1, by rw [← rl.len, ← sl.len]; exact zip_len _ _ _ hi⟩⟩
  obtain ⟨y, z, hy, hz, rfl⟩ := zip_get _ _ _ _ hx
  obtain ⟨u, hu, ru⟩ := rl.get hy
  obtain ⟨w, hw, rw_⟩ := sl.get hz
  refine ⟨⟨vs, ws, u, w, SqL.of h1, SqL.of k1, hu, hw⟩, fun v H3 hyy => ?_⟩
  obtain ⟨T, p, q, rfl, hT, rfl, q1, q2⟩ := hyy
  have e1 := q1 vs (SqL.of h1)
  rw [hu] at e1
  cases e1
  have e2 := q2 ws (SqL.of k1)
  rw [hw] at e2
  cases e2
  exact pair_new r' hT ru rw_
theorem src_zipT {g : Gh} {xs ys : List AV} {gd : Gd} {a b : Addr} {vs ws : List V} (rl : RelL C g xs vs) (st : ∀ g' h' H', Ext g g' → Rep C g' h' H' → SqT C.K H' a vs)
    (sl : RelL C g ys ws) (st2 : ∀ g' h' H', Ext g g' → Rep C g' h' H' → SqT C.K H' b ws) : Src C (zipL xs ys) gd g (RZ.ItzT C.K a b) := by
  intro g' h' H' e' r' hk i
  have h1 := st g' h' H' e' r'
  have k1 := st2 g' h' H' e' r'
  refine ⟨fun x hx => ?_, fun hi => ⟨vs, ws, h1, k1, by rw [← rl.len, ← sl.len]; exact zip_len _ _ _ hi⟩⟩
  obtain ⟨y, z, hy, hz, rfl⟩ := zip_get _ _ _ _ hx
  obtain ⟨u, hu, ru⟩ := rl.get hy
  obtain ⟨w, hw, rw_⟩ := sl.get hz
  refine ⟨⟨vs, ws, u, w, h1, k1, hu, hw⟩, fun v H3 hyy => ?_⟩
  obtain ⟨T, p, q, rfl, hT, rfl, q1, q2⟩ := hyy
  have e1 := q1 vs h1
  rw [hu] at e1
  cases e1
  have e2 := q2 ws k1
  rw [hw] at e2
  cases e2
  exact pair_new r' hT (ru.mono e') (rw_.mono e')
end
section
variable {C : Cfg} {φ : Fn} {X : Cx} {a b : Expr} {fa fb : EF} {p pos : Pos}
theorem gOk_append {g1 g2 : Gd} {h : AH} (k : gOk (g1 ++ g2) h = true) : gOk g1 h = true ∧ gOk g2 h = true := by
  unfold gOk at *
  rw [List.all_append, Bool.and_eq_true] at k
  exact k
theorem gOk_append' {g1 g2 : Gd} {h : AH} (k1 : gOk g1 h = true) (k2 : gOk g2 h = true) : gOk (g1 ++ g2) h = true := by
  unfold gOk at *
  rw [List.all_append, Bool.and_eq_true]
  exact ⟨k1, k2⟩
theorem si_zip {elts : List Expr} {kk : Nat} {tpos : Pos} (A : At C X) (bn : Bn X "zip") (ha : SE C φ X a fa) (hb : SE C φ X b fb) (hn : noStar a = true) (hn2 : noStar b = true) : SI C φ X (.Tuple elts kk tpos) (.Call (.Name "zip" p) [a, b] [] pos) (iZip fa fb) := by
  refine ⟨fun N tk => (RZ.pi_zipA bn.gl bn.mg (L2.pa_cons (ha.run N tk) (L2.pa_cons (hb.run N tk) L2.pa_nil (star_cons hn2)) (star_cons hn)) (star_cons hn) (by rw [star1 hn2]; rfl)).imp fun σ H R ⟨g, s, h, r, rs, ok⟩ => ?_⟩
  refine go r rs ok fun g1 h1 x cx H1 e1 r1 rx ok1 => go r1 (rs.mono e1) ok1 fun g2 h2 y cy H2 e2 r2 ry ok2 => ?_
  cases zx : seqOf x h2 with
  | none => rw [zx] at ok2; exact ok2.elim
  | some xs =>
    cases zy : seqOf y h2 with
    | none => rw [zx, zy] at ok2; exact ok2.elim
    | some ys =>
      rw [zx, zy] at ok2
      simp only at ok2
      have rx2 := rx.mono e2
      split at ok2
      · obtain ⟨p1, vs, rfl, rl, st⟩ := tup_stay rx2
        obtain ⟨p2, ws, rfl, sl, st2⟩ := tup_stay ry
        simp only [seqOf, Option.some.injEq] at zx zy
        subst zx
        subst zy
        rw [A.K]
        exact ⟨p1, p2, vs, ws, rfl, .inr ⟨st g2 _ H2 (Ext.refl _) r2, st2 g2 _ H2 (Ext.refl _) r2, ok2.fin r2 _ (src_zipT rl st sl st2)⟩⟩
      · exact ok2.elim
      · exact ok2.elim
      · rename_i n1 n2 n3
        have nx : ∀ l, x ≠ .tup l := fun l z => by
          subst z
          cases y <;> first | exact n1 _ rfl _ rfl | exact n2 _ rfl | exact n3 _ rfl | simp_all
        have ny : ∀ l, y ≠ .tup l := fun l z => by
          subst z
          cases x <;> first | exact n1 _ rfl _ rfl | exact n2 _ rfl | exact n3 _ rfl | simp_all
        obtain ⟨p1, rfl, st⟩ := lst_stay r2 rx2 zx nx
        obtain ⟨p2, rfl, st2⟩ := lst_stay r2 ry zy ny
        obtain ⟨vs, h4, rl⟩ := st g2 _ H2 (Ext.refl _) r2 gOk_self
        obtain ⟨ws, k4, sl⟩ := st2 g2 _ H2 (Ext.refl _) r2 gOk_self
        rw [A.K]
        exact ⟨p1, p2, vs, ws, rfl, .inl ⟨SqL.of h4, SqL.of k4, ok2.fin r2 _ (src_zipL (fun g' h' H' e' r' k => st g' h' H' e' r' (gOk_append k).1) (fun g' h' H' e' r' k => st2 g' h' H' e' r' (gOk_append k).2))⟩⟩
end
end TX

/-! TxV: enumerate over a tuple -/
set_option Elab.async false
set_option linter.all false
set_option maxRecDepth 100000
set_option maxHeartbeats 2000000
set_option autoImplicit false
namespace PySem
open Sem (wp)
open AutoSeq1 (wpAny_loadPart')
theorem meets_enumerate_newT (l : Addr) (items : Array Value) (n : Nat) (dct : Option Addr) (sl : Array (Option Value)) :
    Meets (Builtin.«enumerate.__new__» ⟨[.type "enumerate", .ref l], []⟩) (fun _ R s => s.heap.get? l = some { cls := .type "tuple", data := .seq items n, dict := dct, slots := sl } ∧
      R (.ok (.ret (.ref (s.heap.push { cls := .type "tuple_iterator", data := .fields #[.ref l, .int 0 0] }).objs.size)))
        { s with heap := (s.heap.push { cls := .type "tuple_iterator", data := .fields #[.ref l, .int 0 0] }).push { cls := .type "enumerate", data := .fields #[.none, .bool false, .ref s.heap.objs.size, rawInt 0, .none, .none] } }) :=
  .of_wp fun prog w A R s h => by
    obtain ⟨hp, g, d, tk, os⟩ := s; obtain ⟨hl, h⟩ := h
    have hsub := sub_enumerate
    have hL : Heap.IsTuple (Shared.heap ⟨hp, g, d, tk, os⟩) l items := ⟨_, hl, rfl, n, rfl⟩
    wp_walk using wpAny_loadPart' hl
    refine wpAny_stack_any fun st => wpAny_pure ?_
    split
    · rename_i c _ _ _ _ _
      cases (c == Value.type "enumerate")
      · wp_walk using wpAny_loadPart' hl, wpAny_pyIter_tuple hL
        exact ⟨_, rfl, h⟩
      · wp_walk using wpAny_loadPart' hl, wpAny_pyIter_tuple hL
        exact ⟨_, rfl, h⟩
    · wp_walk using wpAny_loadPart' hl, wpAny_pyIter_tuple hL
      exact ⟨_, rfl, h⟩
theorem call_enumerate_tuple {prog : Program} {w : World} {A : Around} {E : Value → Shared → Prop} {s : Shared} {l : Addr} {items : Array Value} {Q : Value → Shared → Prop} (hL : s.heap.IsTuple l items)
    (h : ∀ h', IsEnum h' (s.heap.objs.size + 1) s.heap.objs.size 0 .none → h'.IsTupleIter s.heap.objs.size l 0 → h'.objs.size = s.heap.objs.size + 2 →
      (∀ b o, s.heap.get? b = some o → h'.get? b = some o) → Q (.ref (s.heap.objs.size + 1)) { s with heap := h' }) :
    wpAny (model prog w) A (call (.type "enumerate") [.ref l]) Q E s := by
  obtain ⟨⟨c, dct, dt, sl⟩, hl, hc, n, hd⟩ := hL
  replace hc : c = .type "tuple" := hc
  replace hd : dt = .seq items n := hd
  subst hc hd
  refine callType_new F.called_enumerate (by decide) (F.typeCall_enumerate_1 _) (F.newCall_enumerate_1 _) (fun obj => F.args_object_init_2 obj _) F.entry_enumerate_new
    (meets_enumerate_newT l items n dct sl) ⟨hl, ?_⟩
  have hz : (s.heap.push { cls := .type "tuple_iterator", data := .fields #[.ref l, .int 0 0] }).objs.size = s.heap.objs.size + 1 := Heap.size_push ..
  show _ ∧ _
  rw [hz]
  have he : IsEnum ((s.heap.push { cls := .type "tuple_iterator", data := .fields #[.ref l, .int 0 0] }).push
      { cls := .type "enumerate", data := .fields #[.none, .bool false, .ref s.heap.objs.size, rawInt 0, .none, .none] }) (s.heap.objs.size + 1) s.heap.objs.size 0 .none := by
    have := Heap.get?_push_size (s.heap.push { cls := .type "tuple_iterator", data := .fields #[.ref l, .int 0 0] })
      (o := { cls := .type "enumerate", data := .fields #[.none, .bool false, .ref s.heap.objs.size, rawInt 0, .none, .none] }) rfl
    rw [hz] at this; exact this
  refine ⟨⟨_, he, rfl⟩, h _ he ⟨_, Heap.get?_push_of_some _ (Heap.get?_push_size _ rfl), rfl, rfl⟩ (by rw [Heap.size_push, hz]) fun b o x => Heap.get?_push_of_some _ (Heap.get?_push_of_some _ x)⟩
end PySem
namespace TX
open PySem PySem.Spec PyProof.Rows
open L2 (V HO Hp Key upd upd_same upd_ne SqL SqT Rd HOk Cx Inv PE PT PTs PW PS PSs PG PGs PI PA TE TT TA TS TG TGs TI It VK XK WX Takes Ends EP SP TP OpR tOp CallR tCB tCons tNil Sp Room FnOk thn thnF Turn ObjOk FpOk ld_blt)
theorem wpAny_pyNext_enum_endT {prog : Program} {w : World} {A : Around} {E : Value → Shared → Prop} {s : Shared} {e it l : Addr} {i : Nat} {items : Array Value} {old : Value} {Q : Option Value → Shared → Prop} (hh : A.handled = none)
    (he : IsEnum s.heap e it i old) (hit : s.heap.IsTupleIter it l i) (hl : s.heap.IsTuple l items) (hx : items[i]? = none)
    (hQ : ∀ h', Heap.ExtBut it s.heap h' → Q none { s with heap := h' }) : wpAny (model prog w) A (pyNext (.ref e)) Q E s := by
  have hT : s.TypeIs (.ref e) "enumerate" := ⟨_, he, rfl⟩
  unfold pyNext
  refine wpAny_bind (wpAny_attempt (wpAny_callSpecial?_slot (name := Str.ofString "__next__") hT F.slot_enumerate_next
    (wpAny_call_entry F.slot_enumerate_next hT F.entry_enumerate_next ?_ (F.args_enumerate_next_1 _))))
  show wpAny _ _ (field (.ref e) 2 >>= _) _ _ _
  refine wpAny_bind (wpAny_field he rfl (x := .ref it) rfl ?_)
  refine wpAny_bind (wpAny_nextOf_tuple_end hh hit hl hx fun h' x he' hx' => ?_)
  obtain ⟨o, ho, hc⟩ := hx'
  refine wpAny_bind (wpAny_isInstance (T := "StopIteration") (b := true) ⟨o, ho, hc⟩ isSubtype_stop ?_)
  exact wpAny_pure (hQ _ he')
def IteT (K : PySem.W.Frag) (a : Addr) : It :=
  ⟨fun i H => ∃ (xs : List V) (x : V), SqT K H a xs ∧ xs[i]? = some x, fun i H v H' => ∃ T x, v = .ref T ∧ H T = none ∧ H' = upd H T (.tup [.int (i : Nat), x]) ∧ ∀ xs, SqT K H a xs → xs[i]? = some x, fun i H => ∃ xs : List V, SqT K H a xs ∧ xs.length ≤ i⟩
theorem turn_enumT {P : Program} {w : World} {K : PySem.W.Frag} {elts : List Expr} {kk : Nat} {tpos : Pos} (a e it : Addr) :
    Turn P w K (.Tuple elts kk tpos) (IteT K a) [e, it] e (fun i h => (∃ old, IsEnum h e it ((i : Nat) : Int) old) ∧ h.IsTupleIter it a i ∧ e ≠ it ∧ e ≠ a ∧ a ≠ it) where
  mem := by simp
  obj := fun i h st b hb => by
    obtain ⟨⟨old, he⟩, ⟨o, ho, hc, hd⟩, _⟩ := st
    have e' : b = e ∨ b = it := by simpa using hb
    rcases e' with z | z
    · rw [z]; exact ⟨_, he, fun v q => nomatch q⟩
    · rw [z]; exact ⟨o, ho, fun v q => by rw [hd] at q; cases q⟩
  keep := fun i h h' st k => let ⟨⟨old, he⟩, ⟨o, ho, r⟩, hne⟩ := st; ⟨⟨old, k e (by simp) _ he⟩, ⟨o, k it (by simp) _ ho, r⟩, hne⟩
  item := by
    intro X hP hw hK hc i pins s σ H E I hf st hg
    subst hP hw hK
    obtain ⟨⟨old, he⟩, hit, hne, hea, hai⟩ := st
    obtain ⟨xs, x, hq, hx⟩ := hg
    obtain ⟨its, rv, p, hz⟩ := I.tuple hq
    obtain ⟨u, hu, ru⟩ := rv.get hx
    have hel : e < s.heap.objs.size := Heap.lt_size he
    have hil : it < s.heap.objs.size := by obtain ⟨_, q, _⟩ := hit; exact Heap.lt_size q
    have hii : i < its.toArray.size := by
      have := (List.getElem?_eq_some_iff.mp hu).1
      simpa using this
    have D := Draws.tuple (prog := X.prog) (w := X.w) (A := X.A.in1) (I.ok.hd hc) it a hai its.toArray
    refine wpAny_pyNext_enum_itemD D he ⟨hit, p⟩ hii hne (by simp [hne, hea]) fun x2 h' tk hx2 ho hit' hT hsz hk => ?_
    have ex2 : x2 = u := by
      have z : its.toArray[i]? = some x2 := hx2
      simp [hu] at z
      exact z.symm
    subst ex2
    refine ⟨_, rfl, wpAny_letOwnedTupleGo_enum (s := { s with heap := h', toks := tk + 1 }) ho fun h'' he' sb => ?_⟩
    have hT2 : h''.get? s.heap.objs.size = some { cls := .type "tuple", data := .seq #[.int i tk, x2] } := (sb.2 _ (Nat.ne_of_gt hel)).trans hT
    have new : ObjOk X.prog X.w (upd H s.heap.objs.size (.tup [.int (i : Nat), x])) h'' s.heap.objs.size (.tup [.int (i : Nat), x]) :=
      ⟨by show 2 ≤ sizeLine; decide, [.int i tk, x2], .cons ⟨_, rfl⟩ (.cons ru .nil), ⟨_, hT2, rfl, _, rfl⟩⟩
    have I1 : Inv X pins σ (upd H s.heap.objs.size (.tup [.int (i : Nat), x])) { s with heap := h'', toks := tk + 1 } :=
      I.turnedNew (ch := [e, it]) (fun b ob hb q => (sb.2 b (fun z => hb (by simp [z]))).trans (hk b ob (fun z => hb (by simp [z])) (fun z => hb (by simp [z])) q)) hf (Nat.le_refl _) new
    obtain ⟨⟨o3, ho3, r3⟩, _⟩ := hit'
    refine ⟨.ref s.heap.objs.size, _, I1, rfl, ⟨_, x, rfl, I.hok.fresh (Nat.le_refl _), rfl, fun ys hy => by rw [I.tuple_inj hy hq]; exact hx⟩, ⟨⟨x2, ?_⟩, ⟨o3, (sb.2 it (Ne.symm hne)).trans ho3, r3⟩, hne, hea, hai⟩, fun b hb => ?_⟩
    · have e1 : ((i + 1 : Nat) : Int) = (i : Int) + 1 := by omega
      rw [e1]; exact he'
    · have hb' : b < s.heap.objs.size := by
        have e' : b = e ∨ b = it := by simpa using hb
        rcases e' with z | z
        · rw [z]; exact hel
        · rw [z]; exact hil
      rw [upd_ne (Nat.ne_of_lt hb')]
      exact (hf b hb).1
  done := by
    intro X hP hw hK hc i pins s σ H E I hf st hg
    subst hP hw hK
    obtain ⟨⟨old, he⟩, hit, hne, hea, hai⟩ := st
    obtain ⟨xs, hq, hx⟩ := hg
    obtain ⟨its, rv, p, hz⟩ := I.tuple hq
    obtain ⟨f0, f1, f2, f3, f4, f5⟩ := hf it (by simp)
    have hl := rv.length
    exact wpAny_pyNext_enum_endT (I.ok.hd hc) he hit p (by simp; omega) fun h' eb => ⟨rfl, I.turned (t' := s.toks) (fun b o hb q => eb b o hb q) f0 f1 f3 f4 f5⟩
  self := fun A i s Q E st h => let ⟨⟨_, he⟩, _⟩ := st; wpAny_pyIter_enum he h
def iEnumA (K : PySem.W.Frag) (ta : TA) : TI := fun σ H R => ta σ H fun vs H1 => ∃ a xs, vs = [.ref a] ∧ ((SqL K H1 a xs ∧ R (L2.Ite K a) H1) ∨ (SqT K H1 a xs ∧ R (IteT K a) H1))
theorem pi_enumA {X : Cx} {e : Expr} {ta : TA} {p pos tpos : Pos} {elts : List Expr} {kk : Nat} (hg : L2.Gl X "enumerate") (hm : X.mg "enumerate" = none) (ha : PA X [e] ta) (hs : starEach [e] X.env = [(false, eval e X.env)] := by rfl) :
    PI X (.Tuple elts kk tpos) (.Call (.Name "enumerate" p) [e] [] pos) (iEnumA X.K ta) := by
  refine ⟨fun pins s σ H R I h => ?_⟩
  refine wpAny_Call_Name_kw (ld_blt I hg hm boot_enumerate (PyProof.Rows.callWith_type1 (thn (ha.run pos pins s σ H _ I h) fun us s1 ⟨vs, H1, I1, r1, q1⟩ => ?_) hs rfl))
  obtain ⟨a, xs, ex, q1⟩ := q1
  subst ex
  cases r1 with
  | cons r rr =>
    cases rr
    cases r
    have fresh : ∀ b, b ∈ [s1.heap.objs.size + 1, s1.heap.objs.size] → FpOk X pins H1 b := fun b hb => by
      have e' : b = s1.heap.objs.size + 1 ∨ b = s1.heap.objs.size := by simpa using hb
      have hle : s1.heap.objs.size ≤ b := by
        rcases e' with z | z
        · rw [z]; exact Nat.le_add_right _ _
        · rw [z]; exact Nat.le_refl _
      exact I1.fpOk hle (I1.hok.fresh hle)
    rcases q1 with ⟨hq, q⟩ | ⟨hq, q⟩
    · obtain ⟨its, rv, p', hz⟩ := I1.list hq
      refine call_enumerate_list p'.isList fun h' he hit hsz hk => wpAny_pyIter_enum he ?_
      have I2 : Inv X pins σ H1 { s1 with heap := h' } := I1.kept (t' := s1.toks) hk
      exact ⟨s1.heap.objs.size + 1, [s1.heap.objs.size + 1, s1.heap.objs.size], _, _, H1, rfl, I2, L2.turn_enum a (s1.heap.objs.size + 1) s1.heap.objs.size, ⟨⟨.none, he⟩, hit, Nat.succ_ne_self _⟩, fresh, q⟩
    · obtain ⟨its, rv, p', hz⟩ := I1.tuple hq
      have hla : a < s1.heap.objs.size := by obtain ⟨o, ho, _⟩ := id p'; exact Heap.lt_size ho
      refine call_enumerate_tuple p' fun h' he hit hsz hk => wpAny_pyIter_enum he ?_
      have I2 : Inv X pins σ H1 { s1 with heap := h' } := I1.kept (t' := s1.toks) hk
      exact ⟨s1.heap.objs.size + 1, [s1.heap.objs.size + 1, s1.heap.objs.size], _, _, H1, rfl, I2, turn_enumT a (s1.heap.objs.size + 1) s1.heap.objs.size, ⟨⟨.none, he⟩, hit, Nat.succ_ne_self _, Nat.ne_of_gt (Nat.lt_succ_of_lt hla), Nat.ne_of_lt hla⟩, fresh, q⟩
section
variable {C : Cfg}
theorem src_enumT {g : Gh} {xs : List AV} {gd : Gd} {a : Addr} {vs : List V} (rl : RelL C g xs vs) (st : ∀ g' h' H', Ext g g' → Rep C g' h' H' → SqT C.K H' a vs) : Src C (enumL 0 xs) gd g (IteT C.K a) := by
  intro g' h' H' e' r' hk i
  have h1 := st g' h' H' e' r'
  refine ⟨fun x hx => ?_, fun hi => ⟨vs, h1, by rw [← rl.len]; rw [enum_len] at hi; exact hi⟩⟩
  obtain ⟨y, hy, rfl⟩ := enum_get _ _ _ _ hx
  obtain ⟨u, hu, ru⟩ := rl.get hy
  refine ⟨⟨vs, u, h1, hu⟩, fun v H3 hyy => ?_⟩
  obtain ⟨T, w, rfl, hT, rfl, q⟩ := hyy
  have := q vs h1
  rw [hu] at this
  cases this
  have e0 : (0 : Int) + (i : Int) = ((i : Nat) : Int) := by omega
  rw [e0]
  exact pair_new r' hT .mkI (ru.mono e')
end
section
variable {C : Cfg} {φ : Fn} {X : Cx} {a : Expr} {fa : EF} {p pos : Pos}
theorem si_enum {elts : List Expr} {kk : Nat} {tpos : Pos} (A : At C X) (bn : Bn X "enumerate") (ha : SE C φ X a fa) (hn : noStar a = true) : SI C φ X (.Tuple elts kk tpos) (.Call (.Name "enumerate" p) [a] [] pos) (iEnum fa) := by
  refine ⟨fun N tk => (pi_enumA bn.gl bn.mg (L2.pa_cons (ha.run N tk) L2.pa_nil (star_cons hn)) (star1 hn)).imp fun σ H R ⟨g, s, h, r, rs, ok⟩ => ?_⟩
  refine go r rs ok fun g1 h1 x cx H1 e1 r1 rx ok1 => ?_
  split at ok1
  · rename_i xs hx
    by_cases ht : ∃ ys, x = .tup ys
    · obtain ⟨ys, rfl⟩ := ht
      obtain ⟨q, vs, rfl, rl, st⟩ := tup_stay rx
      simp only [seqOf, Option.some.injEq] at hx
      subst hx
      rw [A.K]
      exact ⟨q, vs, rfl, .inr ⟨st g1 _ H1 (Ext.refl _) r1, ok1.fin r1 _ (src_enumT rl st)⟩⟩
    · obtain ⟨q, rfl, st⟩ := lst_stay r1 rx hx (fun ys z => ht ⟨ys, z⟩)
      obtain ⟨vs, h4, rl⟩ := st g1 _ H1 (Ext.refl _) r1 gOk_self
      rw [A.K]
      exact ⟨q, vs, rfl, .inl ⟨SqL.of h4, ok1.fin r1 _ (src_enum st)⟩⟩
  · exact ok1.elim
end
end TX

/-! TxH: comprehensions -/
set_option Elab.async false
set_option linter.all false
set_option maxRecDepth 100000
set_option maxHeartbeats 1000000
set_option autoImplicit false
namespace TX
open PySem PySem.Spec PyProof.Rows
open L2 (V HO Hp Key upd upd_same upd_ne SqL SqT Rd HOk Cx Inv PE PT PTs PW PS PSs PG PGs PI PA TE TT TA TS TG TGs TI It VK XK WX Takes Ends EP OpR tOp CallR tCB tCons tNil Sp Room FnOk)
theorem _root_.L2.PTs.imp {X : Cx} {e : List Expr} {t t' : TT} (h : PTs X e t) (k : ∀ σ H Q, t' σ H Q → t σ H Q) : PTs X e t' := ⟨fun pins s σ H Q I hw => h.run pins s σ H Q I (k σ H Q hw)⟩
section
variable {C : Cfg} {φ : Fn} {X : Cx} {a b c e o i : Expr} {es : List Expr} {fa fb fc fo f : EF} {fs : AF} {pos p apos : Pos}
/-- no error -/
def N0 : Nat → Hp → Prop := fun _ _ => False
theorem takesN0 : Takes X (wX C N0) := fun u s' x => (LamX.takes0 (X := X)) u s' (by
  obtain ⟨a, B, sI, pins, σ, H, cls, d, e, I, nb, up, sky, na, os, ag, w⟩ := x
  obtain ⟨c, _, h⟩ := w
  exact h.elim)
theorem Ext.keepS {g g' : Gh} (e : Ext g g') {D : Addr} (h : g.kx D = none) (o : Option HO) : Ext g (g'.keep D o) := ⟨e.n, e.at_, e.fx, fun a u k => by
  show (if a = D then o else g'.kx a) = some u
  rw [if_neg (fun z => by subst z; rw [h] at k; cases k)]
  exact e.kx a u k⟩
theorem wipe_len : ∀ (s : St) (vs : List Nat), (wipe s vs).length = s.length
  | s, [] => rfl
  | s, v :: vs => by unfold wipe; rw [List.length_set, wipe_len s vs]
theorem wipe_rel {g : Gh} {s : St} {σ : L2.St} (r : RelS C g s σ) : ∀ vs, RelS C g (wipe s vs) (L2.wipe σ vs)
  | [] => r
  | v :: vs => by
    have ih := wipe_rel r vs
    unfold wipe L2.wipe
    refine ⟨by simp [ih.1], fun j x h => ?_⟩
    by_cases hj : v = j
    · subst hj
      have hl : v < (wipe s vs).length := by
        have := (List.getElem?_eq_some_iff.mp h).1
        simpa using this
      rw [List.getElem?_set_self hl] at h
      cases h
    · rw [List.getElem?_set_ne hj] at h
      obtain ⟨u, h1, h2⟩ := ih.2 j x h
      exact ⟨u, by rw [List.getElem?_set_ne hj]; exact h1, h2⟩
theorem wipe_get : ∀ (vs : List Nat) (σ : L2.St) (j : Nat), (L2.wipe σ vs)[j]? = if j ∈ vs then (if j < σ.length then some none else none) else σ[j]?
  | [], σ, j => by simp [L2.wipe]
  | v :: vs, σ, j => by
    have ih := wipe_get vs σ j
    unfold L2.wipe
    by_cases hj : v = j
    · subst hj
      rw [if_pos (by simp)]
      by_cases hl : v < σ.length
      · rw [if_pos hl, List.getElem?_set_self (by rw [L2.wipe_length]; exact hl)]
      · rw [if_neg hl]
        rw [List.getElem?_eq_none]
        rw [List.length_set, L2.wipe_length]
        omega
    · rw [List.getElem?_set_ne hj, ih]
      have : (j ∈ v :: vs) ↔ j ∈ vs := by
        simp only [List.mem_cons]
        exact ⟨fun h => h.elim (fun z => absurd z.symm hj) id, .inr⟩
      simp only [this]
theorem wipe_only {σ σ' : L2.St} {sl vs : List Nat} (h : Only sl (L2.wipe σ vs) σ') (hs : ∀ j ∈ sl, j ∈ vs) : L2.wipe σ' vs = L2.wipe σ vs := by
  apply List.ext_getElem?
  intro j
  have hl : σ'.length = σ.length := by rw [h.1, L2.wipe_length]
  rw [wipe_get, wipe_get, hl]
  by_cases hj : j ∈ vs
  · rw [if_pos hj, if_pos hj]
  · rw [if_neg hj, if_neg hj, h.2 j (fun z => hj (hs j z)), wipe_get, if_neg hj]
theorem quiet_bind {α β : Type} {o : Out α} {f : α → AH → Out β} {g : Gh} {K : β → Gh → AH → Hp → Prop} {N : Nat → Hp → Prop} (ok : okG C g ((quiet o).bind f) K N) : ∃ a h, o = .ok a h ∧ okG C g (f a h) K N := by
  cases o with
  | ok a h => exact ⟨a, h, rfl, ok⟩
  | exc c h => exact ok.elim
  | stuck => exact ok.elim
theorem bind_eq_ok {α β : Type} {o : Out α} {f : α → AH → Out β} {y : β} {h' : AH} (e : o.bind f = .ok y h') : ∃ a h, o = .ok a h ∧ f a h = .ok y h' := by
  cases o with
  | ok a h => exact ⟨a, h, rfl, e⟩
  | exc c h => cases e
  | stuck => cases e
theorem tst_eq_ok {α : Type} {x : AV} {a b : Out α} {y : α} {h' : AH} (e : tst x a b = .ok y h') : ∃ c, x = .bl c ∧ (if c = true then a else b) = .ok y h' := by
  cases x <;> first | exact ⟨_, rfl, by rw [tst_bl] at e; exact e⟩ | cases e
theorem ite_eq_ok {α : Type} {c : Prop} [Decidable c] {a : Out α} {y : α} {h' : AH} (e : (if c then a else .stuck) = .ok y h') : c ∧ a = .ok y h' := by
  split at e
  · rename_i h; exact ⟨h, e⟩
  · cases e
/-- the reading of a comprehension -/
theorem lc_read {m : Bool} {vs sl : List Nat} {fi : IF_} {gt : TF} {σ : L2.St} {H : Hp} {Q : VK} {N : Nat → Hp → Prop} (hsl : ∀ j ∈ sl, j ∈ vs) (h : tE C φ (eLc m vs fi gt fc f) N σ H Q) :
    L2.tLc (tI C φ fi N) (tGt C sl gt) (tB C φ fc N0) (tE C φ f N0) vs σ H Q := by
  obtain ⟨g, s, h, r, rs, ok⟩ := h
  refine ⟨g, s, h, r, rs, ?_⟩
  unfold eLc at ok
  cases z : fi φ s h with
  | exc c h1 => rw [z] at ok; exact ok
  | stuck => rw [z] at ok; exact ok
  | ok p h1 =>
    rw [z] at ok
    simp only [bind_ok] at ok
    intro g1 H1 e1 r1 J src D hD
    have ok1 := okG.ext ok e1
    obtain ⟨items, gd⟩ := p
    simp only at ok1 src
    split at ok1
    · rename_i hz
      obtain ⟨ys, h2, e2, ok2⟩ := quiet_bind ok1
      have kD : g1.kx D = none := r1.freeKx hD
      have rs0 := wipe_rel (rs.mono e1) vs
      refine ⟨fun i m' H' => m' = items.length - i ∧ i ≤ items.length ∧ ∃ g' h' acc accA ys h2, Ext g1 g' ∧ Rep C g' h' H' ∧ g'.kx D = some (.lst acc) ∧ RelL C g' accA acc ∧ accA.length ≤ i ∧
          lcGo φ gt fc f (wipe s vs) gd (items.drop i) h' = .ok ys h2 ∧ okG C g1 (mkLst m (accA ++ ys) h2) (fun x g' _ H' => ∀ v, RelA C g' x v → Q v H') N,
        ⟨items.length, by simp, Nat.zero_le _, g1.keep D (some (.lst [])), h1, [], [], ys, h2, (Ext.refl g1).keepS kD _, r1.kept hD [], Gh.keep_same _ _ _, .nil, Nat.le_refl _, e2, ok2⟩, ?_⟩
      rintro i m' H' ⟨rfl, hi, g', h', acc, accA, ys, h2, e', r', kx', rl, hla, eq, okm⟩
      obtain ⟨hHD, _, _⟩ := r'.kx D _ kx'
      by_cases hlt : i < items.length
      · rw [List.drop_eq_getElem_cons hlt] at eq
        unfold lcGo at eq
        obtain ⟨hk, eq⟩ := ite_eq_ok eq
        obtain ⟨q1, _⟩ := src g' h' H' e' r' hk i
        obtain ⟨jgo, jy⟩ := q1 items[i] (List.getElem?_eq_getElem hlt)
        refine .inr ⟨jgo, fun H' => ∃ g' h' acc accA ys h2, Ext g1 g' ∧ Rep C g' h' H' ∧ g'.kx D = some (.lst acc) ∧ RelL C g' accA acc ∧ accA.length ≤ i + 1 ∧
            lcGo φ gt fc f (wipe s vs) gd (items.drop (i + 1)) h' = .ok ys h2 ∧ okG C g1 (mkLst m (accA ++ ys) h2) (fun x g' _ H' => ∀ v, RelA C g' x v → Q v H') N,
          fun H' q => ⟨items.length - (i + 1), by omega, rfl, hlt, q⟩, fun x H3 hy => ?_⟩
        obtain ⟨g3, e3, r3, rx⟩ := jy x H3 hy
        cases z2 : gt items[i] (wipe s vs) h' with
        | none => rw [z2] at eq; cases eq
        | some s1 =>
          rw [z2] at eq
          simp only at eq
          obtain ⟨bv, hb, eb, eq1⟩ := bind_eq_ok eq
          obtain ⟨bb, rfl, eq2⟩ := tst_eq_ok eq1
          clear eq1
          have e13 : Ext g1 g3 := e'.trans e3
          refine ⟨g3, h', wipe s vs, s1, items[i], r3, rs0.mono e13, rx, z2, fun σ2 rs2 o2 => ⟨wipe_only o2 hsl, g3, s1, h', r3, rs2, ?_⟩⟩
          rw [eb]
          intro g4 H4 e4 r4
          refine ⟨bb, rfl, ?_⟩
          cases bb with
          | false =>
            rw [if_neg Bool.false_ne_true] at eq2 ⊢
            exact ⟨g4, hb, acc, accA, ys, h2, e13.trans e4, r4, e4.kx _ _ (e3.kx _ _ kx'), (rl.mono e3).mono e4, by omega, eq2, okm⟩
          | true =>
            rw [if_pos rfl] at eq2 ⊢
            obtain ⟨y, hy2, ey, eq3⟩ := bind_eq_ok eq2
            obtain ⟨ys', h3, er, eq4⟩ := bind_eq_ok eq3
            cases eq4
            refine ⟨g4, s1, hb, r4, rs2.mono e4, ?_⟩
            rw [ey]
            intro g5 H5 e5 r5 v rv
            have kx5 : g5.kx D = some (.lst acc) := e5.kx _ _ (e4.kx _ _ (e3.kx _ _ kx'))
            obtain ⟨hD5, _, _⟩ := r5.kx D _ kx5
            have rl5 := ((rl.mono e3).mono e4).mono e5
            refine ⟨acc, hD5, by rw [← rl5.len]; exact Nat.lt_of_le_of_lt hla (Nat.lt_trans hlt hz), ?_⟩
            refine ⟨g5.keep D (some (.lst (acc ++ [v]))), hy2, acc ++ [v], accA ++ [y], ys', h2, ((e13.trans e4).trans e5).keepS kD _, r5.rekept kx5 _, Gh.keep_same _ _ _, rl5.keep.append (.cons rv.keep .nil), by rw [List.length_append]; simp; omega, er, ?_⟩
            have ea : accA ++ [y] ++ ys' = accA ++ (y :: ys') := by simp
            rw [ea]
            exact okm
      · have hie : i = items.length := by omega
        rw [List.drop_eq_nil_of_le (by omega)] at eq
        unfold lcGo at eq
        obtain ⟨hk, eq⟩ := ite_eq_ok eq
        cases eq
        rw [List.append_nil] at okm
        refine .inl ⟨(src g' h' H' e' r' hk i).2 (by omega), ?_⟩
        have rr := r'.unkept kx'
        have okm2 := okG.ext okm (e'.keepS kD none)
        obtain ⟨_, q⟩ := mkLst_at rr rl.keep okm2
        have := q D (if_pos rfl)
        rw [upd_unkept hHD] at this
        exact this
    · exact ok1.elim
variable {tg iter elt : Expr} {ifs : List Expr} {scope : Scope} {own : List (Str × Nat)} {sl : List Nat} {fi : IF_} {gt : TF}
/-- the parts of a comprehension -/
structure LcP (C : Cfg) (φ : Fn) (X : Cx) (elt tg iter : Expr) (ifs : List Expr) (scope : Scope) (own : List (Str × Nat)) (sl : List Nat) (fi : IF_) (gt : TF) (fc f : EF) : Prop where
  hi : SI C φ X tg iter fi
  ok : L2.BlkOk X.N X.env.scope scope own
  hg : ∀ (s : Shared) (H : Hp) (L : Addr) (cl : List (Str × Addr)) (fp : List Addr), ST C (X.blk s H scope (compEnvC scope cl L X.env) fp) tg sl gt
  ht : ∀ (s : Shared) (H : Hp) (L : Addr) (cl : List (Str × Addr)) (fp : List Addr), PTs (X.blk s H scope (compEnvC scope cl L X.env) fp) ifs (tB C φ fc N0)
  he : ∀ (s : Shared) (H : Hp) (L : Addr) (cl : List (Str × Addr)) (fp : List Addr), SE C φ (X.blk s H scope (compEnvC scope cl L X.env) fp) elt f
  hs : ∀ x, foldedSetIterable iter X.env x = pure x
  hsl : ∀ j ∈ sl, j ∈ own.map (·.2)
theorem pts_yes : PTs X [] (tB C φ eYes N0) := L2.pts_nil.imp fun σ H Q ⟨g, s, h, r, rs, ok⟩ => by
  obtain ⟨b, e, q⟩ := ok g H (Ext.refl g) r
  cases e
  exact q
theorem pts_if (h : SB C φ X c fc) : PTs X [c] (tB C φ fc N0) := L2.pts_one (h.run N0 takesN0)
theorem se_lc (A : At C X) (m : Bool) (L : LcP C φ X elt tg iter ifs scope own sl fi gt fc f) : SE C φ X (.ListComp elt [⟨tg, iter, ifs, 0⟩] scope pos) (eLc m (own.map (·.2)) fi gt fc f) := by
  refine ⟨fun N tk => (L2.pe_lc A.calm A.nd (L.hi.run N tk) L.ok (fun s H L' cl fp => (L.hg s H L' cl fp).run) (fun s H L' cl fp => L.ht s H L' cl fp) (fun s H L' cl fp => (L.he s H L' cl fp).run N0 takesN0) L.hs).imp fun σ H Q h => lc_read L.hsl h⟩
theorem ss_setLc {k : Nat} {y : Str} {py : Pos} {spos : Pos} (A : At C X) (m : Bool) (hy : X.N[k]? = some y) (hyl : X.env.scope.names.lookup y = some .local)
    (hsw : swapsWith (.ListComp elt [⟨tg, iter, ifs, 0⟩] scope pos) (some (.Name y py)) spos.line X.env = pure true) (L : LcP C φ X elt tg iter ifs scope own sl fi gt fc f) :
    SS C φ X (.Assign [.Name y py] (.ListComp elt [⟨tg, iter, ifs, 0⟩] scope pos) spos) (sSet (gN k) (eLc m (own.map (·.2)) fi gt fc f)) := by
  refine ⟨fun N tk => (L2.ps_setLc A.calm A.nd hy hyl hsw (L.hi.run N tk) L.ok (fun s H L' cl fp => (L.hg s H L' cl fp).run) (fun s H L' cl fp => L.ht s H L' cl fp) (fun s H L' cl fp => (L.he s H L' cl fp).run N0 takesN0) L.hs).imp fun D σ H ⟨g, s, h, r, rs, ok⟩ => ?_⟩
  refine lc_read (m := m) (fi := fi) (gt := gt) (fc := fc) (f := f) (N := N) (Q := fun x H1 => L2.gName k x σ H1 D.nx) L.hsl ⟨g, s, h, r, rs, ?_⟩
  unfold sSet at ok
  cases z : eLc m (own.map (·.2)) fi gt fc f φ s h with
  | exc c h1 => rw [z] at ok; exact ok
  | stuck => rw [z] at ok; exact ok
  | ok x h1 =>
    rw [z] at ok
    simp only [bind_ok, gN] at ok
    exact fun g' H' e1 r1 v rv => ok g' H' e1 r1 _ ((rs.mono e1).set k rv)
end
end TX

/-! TxI: lambdas handed to the def that tells how a call ends -/
set_option Elab.async false
set_option linter.all false
set_option maxRecDepth 100000
set_option maxHeartbeats 1000000
set_option autoImplicit false
namespace TX
open PySem PySem.Spec PyProof.Rows
open L2 (V HO Hp Key upd upd_same upd_ne SqL SqT Rd HOk Cx Inv PE PT PTs PW PS PSs PG PGs PI PA TE TT TA TS TG TGs TI It VK XK WX Takes Ends EP EP OpR tOp CallR tCB tCons tNil Sp Room FnOk thn)
section
variable {X : Cx} {pins : List (Addr × Obj)} {σ : L2.St} {H : Hp} {s : Shared}
abbrev lamObj (X : Cx) (params : Arguments) (body : Expr) (scope : Scope) (pm : Value) (c' : Addr) (ctv : Value) : Obj :=
  PySem.W.kla_obj "<lambda>" (X.env.qual ++ "<lambda>") params body scope (L2.cloFrom X.env.cells scope.names []) pm c' ctv
/-- all but the table at P stays -/
def ButP (P : Addr) (H H' : Hp) : Prop := ∀ b o, b ≠ P → H b = some o → H' b = some o
/-- a lambda is made; only its own table is written -/
theorem lam_mk {T : List (Addr × Str)} {c P : Addr} {params : Arguments} {body : Expr} {scope : Scope} {pos : Pos} {E : Value → Shared → Prop} {Q : Value → Shared → Prop} (I : Inv X pins σ H s) (TB : LamX.TabB X.base X.mg c P) (hcode : X.env.code = .ref c)
    (hm : (P, X.env.qual ++ "<lambda>") ∈ T) (hu : ∀ p ∈ T, p.1 = P → p.2 = X.env.qual ++ "<lambda>") (hT : LamX.Tabs T H) (hdef : defaultsOf params X.env = ([], [])) (hfree : ∀ y ∈ scope.names, y.2 = .free → ∃ c, X.env.cells.lookup y.1 = some c)
    (h : ∀ (f c' : Addr) (pm ctv : Value) (H1 : Hp) (s' : Shared), Inv X pins σ H1 s' → ButP P H H1 → LamX.Tabs T H1 → s'.heap.get? f = some (lamObj X params body scope pm c' ctv) → H1 f = none → s.heap.objs.size ≤ f →
      H1 c' = some (LamX.CodeO c' (X.env.qual ++ "<lambda>")) → (∀ b o, b ≠ P → s.heap.get? b = some o → s'.heap.get? b = some o) → (∃ ps, H P = some (.tbl ps)) → Q (.ref f) s') :
    wpAny (model X.prog X.w) X.A (eval (.Lambda params body scope pos) X.env) Q E s := by
  obtain ⟨ps, hP, ht, ha⟩ := hT _ hm
  have tabP : ∃ ps, H P = some (.tbl ps) := ⟨ps, hP⟩
  refine PySem.W.kla_eval hdef ?_
  have bP : s.heap.BuiltinsAt X.mg P := TB.bm.keeps I.bk
  have atP : s.heap.get? P = some { cls := .none, data := .fields ps } := I.hok P _ hP
  cases hc : codeAmong pos ps.toList with
  | some cv =>
    obtain ⟨c', e, hco⟩ := ha pos cv hc
    subst e
    refine PySem.W.kla_makeFunctionHit (mg := X.mg) (c := c) (P := P) (ps := ps) (L2.closure_ok hfree) I.ok.glob (I.mod.glob.keeps I.bk) hcode (TB.code.keeps I.bk) atP ht hc bP fun ctv h' tk hx hsz => ?_
    have J := I.kept (t' := tk) (h' := h'.push (lamObj X params body scope ((X.mg "__name__").getD .none) c' ctv)) fun b o e => Heap.get?_push_of_some _ (hx b o e)
    exact h h'.objs.size c' _ ctv H _ J (fun _ _ _ e => e) hT (Heap.get?_push_size _ rfl) (I.hok.fresh hsz) hsz hco (fun b o _ e => Heap.get?_push_of_some _ (hx b o e)) tabP
  | none =>
    refine PySem.W.kla_makeFunction (mg := X.mg) (c := c) (P := P) (ps := ps) (L2.closure_ok hfree) I.ok.glob (I.mod.glob.keeps I.bk) hcode (TB.code.keeps I.bk) atP ht hc TB.gP bP fun c' ctv h' tk hx hge hlt hrec htb => ?_
    obtain ⟨c2, oc, vs, t, e2, hoc, hd, hv⟩ := hrec
    cases e2
    have big : s.heap.objs.size ≤ h'.objs.size := Nat.le_trans hge (Nat.le_of_lt hlt)
    have nC : H c' = none := I.hok.fresh hge
    have J := LamX.inv_table (t' := tk) (more := #[rawInt pos.line, rawInt pos.col, .ref c']) (h' := h'.push (lamObj X params body scope ((X.mg "__name__").getD .none) c' ctv)) I hP
      (fun b o hb e => Heap.get?_push_of_some _ (hx b o hb e)) (Heap.get?_push_of_some _ htb) hge ⟨oc, vs, t, Heap.get?_push_of_some _ hoc, hd, hv⟩
    have stay : ButP P H (upd (upd H P (.tbl (ps ++ #[rawInt pos.line, rawInt pos.col, .ref c']))) c' (LamX.CodeO c' (X.env.qual ++ "<lambda>"))) := fun b o hb e => by
      rw [upd_ne (L2.ne_of_none e nC), upd_ne hb]
      exact e
    have codeStay : ∀ c0 q, H c0 = some (LamX.CodeO c0 q) → upd (upd H P (.tbl (ps ++ #[rawInt pos.line, rawInt pos.col, .ref c']))) c' (LamX.CodeO c' (X.env.qual ++ "<lambda>")) c0 = some (LamX.CodeO c0 q) := fun c0 q e =>
      stay c0 _ (fun z => by rw [z, hP] at e; exact LamX.codeO_ne ps (Option.some.inj e).symm) e
    have asL : (ps ++ #[rawInt pos.line, rawInt pos.col, .ref c']).toList = ps.toList ++ [rawInt pos.line, rawInt pos.col, .ref c'] := by simp
    have nf : h'.objs.size ≠ c' := Nat.ne_of_gt hlt
    have nfP : h'.objs.size ≠ P := Nat.ne_of_gt (Nat.lt_of_lt_of_le (Heap.lt_size atP) big)
    refine h h'.objs.size c' _ ctv _ _ J stay (fun p hp => ?_) (Heap.get?_push_size _ rfl) (by rw [upd_ne nf, upd_ne nfP]; exact I.hok.fresh big) big upd_same (fun b o hb e => Heap.get?_push_of_some _ (hx b o hb e)) tabP
    by_cases hb : p.1 = P
    · rw [hu p hp hb, hb]
      refine ⟨_, by rw [upd_ne (L2.ne_of_none hP nC), upd_same], by rw [asL]; exact PySem.TriplesOk_snoc _ _ _ _ ht, fun p' cv hcv => ?_⟩
      rw [asL] at hcv
      rcases LamX.among_app _ ht hcv with z | z
      · obtain ⟨c0, e1, e2⟩ := ha p' cv z
        exact ⟨c0, e1, codeStay _ _ e2⟩
      · exact ⟨c', z, upd_same⟩
    · obtain ⟨ps2, a1, a2, a3⟩ := hT p hp
      refine ⟨ps2, stay _ _ hb a1, a2, fun p' cv hcv => ?_⟩
      obtain ⟨c0, e1, e2⟩ := a3 p' cv hcv
      exact ⟨c0, e1, codeStay _ _ e2⟩
end

/-! ### the heap behind it -/
section
variable {C : Cfg} {g : Gh} {h : AH} {H H1 : Hp} {P : Addr}
theorem Rep.but (r : Rep C g h H) (b : ButP P H H1) (hP : ∃ ps, H P = some (.tbl ps)) (hT : LamX.Tabs C.tl H1) (hl : ∃ q, (P, q) ∈ C.tl) : Rep C g h H1 := by
  obtain ⟨ps, hP⟩ := hP
  have k : ∀ a o, H a = some o → (∀ q, o ≠ .tbl q) → H1 a = some o := fun a o e n => b a o (fun z => by subst z; rw [hP] at e; cases e; exact n _ rfl) e
  refine ⟨r.n, fun a o e => ?_, r.inj, r.dis, fun i o e => ?_, ⟨hT, fun p hp => ?_⟩, fun a o e => ?_, r.kd⟩
  · obtain ⟨e1, e2⟩ := r.fx a o e
    exact ⟨k a o e1 (fun q z => by subst z; exact e2), e2⟩
  · obtain ⟨u, e1, e2⟩ := r.obj i o e
    refine ⟨u, k _ _ e1 fun q z => ?_, e2⟩
    subst z
    cases o with
    | lst xs => obtain ⟨vs, z, _⟩ := e2; cases z
    | dct xs => obtain ⟨vs, z, _⟩ := e2; cases z
    | ins c xs => obtain ⟨dx, vs, z, _⟩ := e2; cases z
  · obtain ⟨ps2, e1, e2⟩ := r.sys.2 p hp
    by_cases hb : p = P
    · subst hb
      obtain ⟨q, hq⟩ := hl
      obtain ⟨ps3, f1, f2, _⟩ := hT _ hq
      exact ⟨ps3, f1, f2⟩
    · exact ⟨ps2, b _ _ hb e1, e2⟩
  · obtain ⟨e1, e2, e3⟩ := r.kx a o e
    refine ⟨k a _ e1 (fun q z => ?_), e2, e3⟩
    subst z
    rcases e3 with ⟨xs, z⟩ | ⟨us, z⟩ | ⟨c, dx, us, z⟩ | ⟨c, q, z⟩
    · cases z
    · cases z
    · cases z
    · exact LamX.codeO_ne _ z.symm
end

/-! ### what is told of a lambda -/
/-- the def that tells: try: return a() except x: return ret -/
structure TellI (C : Cfg) (K : PySem.W.Frag) (mg : Str → Option Value) (x : Str) (w : Ct) (ret : Tx) : Prop where
  ex : ∃ (g : Addr) (pg : Arguments) (sg : Scope) (dV kV doc pm cdv ct oc : Value) (an od : Option Addr) (osl : Array (Option Value)) (Ng : List Str) (a e : Str) (CS : Addr) (rt : Str) (j : Nat) (p1 p2 p3 p4 p5 p6 p7 p8 : Pos),
    mg x = some (.ref g) ∧ PySem.W.keepIn K (.ref g) = true ∧
    K.lookup g = some ⟨oc, od, .func (PySem.W.fnOf x x pg [.Try [.Return (some (.Call (.Name a p1) [] [] p2)) p3] [.ExceptHandler (some (.Name e p4)) none [.Return (some (.Constant (.str rt) j p5)) p6] p7] [] [] p8] sg dV kV doc pm an cdv ct), osl⟩ ∧
    PySem.W.codeIn K cdv x = true ∧ L2.Binds K (PySem.W.fnOf x x pg [.Try [.Return (some (.Call (.Name a p1) [] [] p2)) p3] [.ExceptHandler (some (.Name e p4)) none [.Return (some (.Constant (.str rt) j p5)) p6] p7] [] [] p8] sg dV kV doc pm an cdv ct) [a] [] ∧
    L2.FnScope Ng [a] sg ∧ Ng[0]? = some a ∧ L2.Vis sg a ∧ sg.names.lookup e = some .globalImplicit ∧ mg e = some (.ref CS) ∧ (e == ("__debug__" : Str)) = false ∧ (a == ("__debug__" : Str)) = false ∧ (a == ("__classdict__" : Str)) = false ∧ rt = toS ret ∧
    ∀ c, w c = some true → PySem.W.exmOne K (.ref (C.cA c)) (.ref CS) = some true
/-- what a lambda's maker must have -/
structure LamM (C : Cfg) (X : Cx) : Prop where
  ex : ∃ c P, LamX.TabB X.base X.mg c P ∧ X.env.code = .ref c ∧ (P, X.env.qual ++ "<lambda>") ∈ C.tl ∧ ∀ p ∈ C.tl, p.1 = P → p.2 = X.env.qual ++ "<lambda>"
section
variable {C : Cfg} {φ : Fn} {X : Cx} {f : EF}
theorem start0 {Ng : List Str} {v : V} : (L2.start Ng [v])[0]? = some (some v) := rfl
theorem LamM.nofr {pins : List (Addr × Obj)} {σ : L2.St} {H : Hp} {s : Shared} (I : Inv X pins σ H s) {f : Addr} (hf : s.heap.objs.size ≤ f) : f ∉ L2.frs X.stack := fun z => by
  rcases List.mem_cons.mp (I.stkSub _ z) with e | e
  · have h1 := I.lt
    rw [← e] at h1
    exact Nat.lt_irrefl _ (Nat.lt_of_lt_of_le h1 hf)
  · exact I.nofs hf e
/-- the lambda's own context lets an error out as its caller wishes -/
theorem lam_takes {A : Around} {outer : List Env} {s : Shared} {H : Hp} {E : XK} {scope : Scope} {fa c' : Addr} : Takes (LamX.lamCx X A outer s H E scope fa c') (wX C fun c H => ∀ d, E (.ref (C.cA c)) d H) :=
  (L2.takes_of (X := LamX.lamCx X A outer s H E scope fa c') (E := E) rfl rfl rfl rfl).imp fun cls d σ H ⟨c, e, q⟩ => by rw [e]; exact q d
/-- the parts of a lambda without parameters -/
structure LamP (C : Cfg) (φ : Fn) (X : Cx) (k : Nat) (params : Arguments) (body : Expr) (scope : Scope) (f : EF) : Prop where
  L : LamX.LamS X.env.scope scope
  hdef : defaultsOf params X.env = ([], [])
  hbind : ∀ (q : Str) (cl : List (Str × Addr)) (pm cv ctv : Value), bindArgs (PySem.W.kla_fn "<lambda>" q params body scope cl pm cv ctv) ⟨[], []⟩ = pure []
  hb : ∀ (A : Around) (outer : List Env) (s : Shared) (H : Hp) (E : XK) (fa c' : Addr), Room k (A.deeper (LamX.lamEnv X scope s.heap.objs.size fa c')) → SE C φ (LamX.lamCx X A outer s H E scope fa c') body f
/-- the lambda at fa is told of, from a state where its maker's names stand -/
theorem tell_code {x : Str} {w : Ct} {ret : Tx} {pins : List (Addr × Obj)} {σ : L2.St} {H : Hp} {s : Shared} {Q : VK} {params : Arguments} {body : Expr} {scope : Scope} {fa c' ga : Addr} {pm ctv : Value} {k : Nat} {g : Gh} {st : St} {h : AH} (TI : TellI C X.K X.mg x w ret) (I : Inv X pins σ H s)
    (P : LamP C φ X k params body scope f) (hga : X.mg x = some (.ref ga)) (hf : s.heap.get? fa = some (lamObj X params body scope pm c' ctv)) (hfn : H fa = none) (hfr : fa ∉ L2.frs X.stack) (hc : H c' = some (LamX.CodeO c' (X.env.qual ++ "<lambda>"))) (hr : Room (k + 2) X.A)
    (r : Rep C g h H) (rs : RelS C g st σ) {N : Nat → Hp → Prop} (ok : okG C g (told w ret (f φ st h)) (fun x g' _ H' => ∀ v, RelA C g' x v → Q v H') N) :
    codeAny (model X.prog X.w) X.A (.call (.ref ga) ⟨[.ref fa], []⟩) (L2.CR C8.CX0 X.stack X.prog X.w H s Q C8.E0) s := by
  obtain ⟨g0, pg, sg, dV, kV, doc, pm0, cdv, ct, oc, an, od, osl, Ng, a, e, CS, rt, j, p1, p2, p3, p4, p5, p6, p7, p8, m1, m2, m3, m4, m5, m6, m7, m8, m9, m10, m11, m12, m13, m14, m15⟩ := TI.ex
  rw [m1] at hga
  cases hga
  refine LamX.run_ofS (N := Ng) (ps := [a]) (us := [.ref fa]) (vs := [.ref fa]) m3 m4 m6 hr I.env0 (by have := m5 s [.ref fa] I.kIn rfl; exact this) (.cons rfl .nil) rfl fun hr' => ?_
  obtain ⟨t', ht', hq'⟩ := LamX.told_gives (X := X) (Ng := Ng) (x := x) (a := a) (e := e) (q := X.env.qual ++ "<lambda>") (ret := rt) (sg := sg) (g := ga) (CS := CS) (cdg := cdv) (j := j) (p1 := p1) (p2 := p2) (p3 := p3) (p4 := p4) (p5 := p5) (p6 := p6) (p7 := p7) (p8 := p8) m9 m10 m11 (fun f => start0) fa c' s H Q
    (fun E H' Q' => tE C φ f (fun c H => ∀ d, E (.ref (C.cA c)) d H) σ H' Q')
    (fun W pn xe E p1 p2 tk hW => LamX.pe_act (i := 0) I P.L hf hfn hfr (P.hbind _ _ _ _ _) tk hW hr' (fun A outer s H hr2 => (P.hb A outer s H E fa c' hr2).run _ lam_takes) m7 m8 m12 m13) hc (by
    refine ⟨g, st, h, r, rs, ?_⟩
    cases z : f φ st h with
    | stuck => rw [z] at ok; exact ok
    | ok v h1 => rw [z] at ok; exact ok
    | exc c h1 =>
      rw [z] at ok
      unfold told at ok
      simp only at ok
      split at ok
      · rename_i hw
        exact fun g' H' e1 r1 d => ⟨true, m15 c hw, fun _ => by rw [m14]; exact ok g' H' e1 r1 _ .mkS, fun z => nomatch z⟩
      · exact ok.elim)
  exact ⟨t', ht'.nox, hq'⟩
/-- x(lambda: body), x the def that tells -/
theorem se_told {x : Str} {w : Ct} {ret : Tx} {params : Arguments} {body : Expr} {scope : Scope} {k : Nat} {p lpos pos : Pos} (TI : TellI C X.K X.mg x w ret) (M : LamM C X) (P : LamP C φ X k params body scope f) (hr : Room (k + 2) X.A) (hg : L2.Gl X x) (hdb : (x == ("__debug__" : Str)) = false) :
    SE C φ X (.Call (.Name x p) [.Lambda params body scope lpos] [] pos) (eTold w ret f) := by
  obtain ⟨c, Pt, TB, hcode, hmT, hu⟩ := M.ex
  have TI' := TI
  obtain ⟨ga, pg, sg, dV, kV, doc, pm0, cdv, ct, oc, an, od, osl, Ng, a, e, CS, rt, j, p1, p2, p3, p4, p5, p6, p7, p8, m1, m2, m3, m4, _⟩ := TI'.ex
  refine ⟨fun N tk => ⟨fun pins s σ H Q I ⟨g, st, h, r, rs, ok⟩ => ?_⟩⟩
  refine wpAny_Call_Name_kw (L2.ld_glob I hg m1 ?_ hdb)
  refine PySem.W.callWith_K (h₀ := X.base) I.ok.mod.kin m2 ?_ (by rfl) (by rfl)
  show wpAny _ _ (spliced ((false, eval (.Lambda params body scope lpos) X.env) :: backTo pos (starEach [] X.env))) _ _ s
  refine Calls.spliced_cons (lam_mk I TB hcode hmT hu r.sys.1 P.hdef (P.L.has I.ok) fun fa c' pm ctv H1 s' I1 bP T1 hf hfn hge hc _ tabP => ?_)
  refine Calls.spliced_nil ⟨I1.kIn, ?_⟩
  have r1 := r.but bP tabP T1 ⟨_, hmT⟩
  have rc := tell_code (Q := Q) (N := N) (ga := ga) TI I1 P m1 hf hfn (LamM.nofr I hge) hc hr r1 rs ok
  refine wpAny_call (codeAny_mono rc fun r s2 hq => ?_)
  cases r with
  | error e => exact (show False from hq).elim
  | ok fl =>
    cases fl with
    | ret u => exact I1.after hq
    | next => exact False.elim hq
    | brk => exact False.elim hq
    | cont => exact False.elim hq
end
end TX

/-! TxJ: a list of lambdas, each told of in a comprehension -/
set_option Elab.async false
set_option linter.all false
set_option maxRecDepth 100000
set_option maxHeartbeats 1000000
set_option autoImplicit false
namespace TX
open PySem PySem.Spec PyProof.Rows
open L2 (V HO Hp Key upd upd_same upd_ne SqL SqT Rd HOk Cx Inv PE PT PTs PW PS PSs PG PGs PI PA TE TT TA TS TG TGs TI It VK XK WX Takes Ends EP SP TP OpR tOp CallR tCB tCons tNil Sp Room FnOk thn thnF)
section
variable {C : Cfg} {φ : Fn} {X : Cx} {k : Nat}
inductive LamL (C : Cfg) (φ : Fn) (X : Cx) (k : Nat) : List Expr → List EF → Prop
  | nil : LamL C φ X k [] []
  | cons {params : Arguments} {body : Expr} {scope : Scope} {pos : Pos} {f : EF} {es : List Expr} {fs : List EF} (h : LamP C φ X k params body scope f) (r : LamL C φ X k es fs) : LamL C φ X k (.Lambda params body scope pos :: es) (f :: fs)
/-- a made lambda -/
def LamAt (C : Cfg) (φ : Fn) (X : Cx) (k : Nat) (g : Gh) (pins : List (Addr × Obj)) (f : EF) (fa : Addr) : Prop :=
  ∃ params body scope pm c' ctv, LamP C φ X k params body scope f ∧ (fa, lamObj X params body scope pm c' ctv) ∈ pins ∧ fa ∉ L2.frs X.stack ∧ g.kx c' = some (LamX.CodeO c' (X.env.qual ++ "<lambda>"))
inductive LamsAt (C : Cfg) (φ : Fn) (X : Cx) (k : Nat) (g : Gh) (pins : List (Addr × Obj)) : List EF → List Addr → Prop
  | nil : LamsAt C φ X k g pins [] []
  | cons {f : EF} {fs : List EF} {a : Addr} {as : List Addr} (h : LamAt C φ X k g pins f a) (r : LamsAt C φ X k g pins fs as) : LamsAt C φ X k g pins (f :: fs) (a :: as)
theorem LamAt.mono {g g' : Gh} {pins pins' : List (Addr × Obj)} {f : EF} {fa : Addr} (e : ∀ a o, g.kx a = some o → g'.kx a = some o) (hp : ∀ p ∈ pins, p ∈ pins') (h : LamAt C φ X k g pins f fa) : LamAt C φ X k g' pins' f fa := by
  obtain ⟨params, body, scope, pm, c', ctv, h1, h2, h3, h4⟩ := h
  exact ⟨params, body, scope, pm, c', ctv, h1, hp _ h2, h3, e _ _ h4⟩
theorem LamsAt.mono {g g' : Gh} {pins pins' : List (Addr × Obj)} (e : ∀ a o, g.kx a = some o → g'.kx a = some o) (hp : ∀ p ∈ pins, p ∈ pins') {fs : List EF} {as : List Addr} (h : LamsAt C φ X k g pins fs as) : LamsAt C φ X k g' pins' fs as := by
  induction h with
  | nil => exact .nil
  | cons h r ih => exact .cons (h.mono e hp) ih
theorem LamsAt.get {g : Gh} {pins : List (Addr × Obj)} : ∀ {fs : List EF} {as : List Addr} (_ : LamsAt C φ X k g pins fs as) {i : Nat} {f : EF}, fs[i]? = some f → ∃ a, as[i]? = some a ∧ LamAt C φ X k g pins f a
  | _, _, .nil, i, f, h => by simp at h
  | _, _, .cons h r, 0, f, e => by simp at e; subst e; exact ⟨_, rfl, h⟩
  | _, _, .cons h r, i + 1, f, e => by
    simp only [List.getElem?_cons_succ] at e ⊢
    exact r.get e
theorem LamsAt.len {g : Gh} {pins : List (Addr × Obj)} {fs : List EF} {as : List Addr} (h : LamsAt C φ X k g pins fs as) : fs.length = as.length := by
  induction h with
  | nil => rfl
  | cons h r ih => simp [ih]
theorem LamAt.tr {g : Gh} {pins pn : List (Addr × Obj)} {f : EF} {fa : Addr} (hP : ∀ params body scope, LamP C φ X k params body scope f → LamP C φ (X.tr pn X.xe) k params body scope f) (h : LamAt C φ X k g pins f fa) : LamAt C φ (X.tr pn X.xe) k g pins f fa := by
  obtain ⟨params, body, scope, pm, c', ctv, h1, h2, h3, h4⟩ := h
  exact ⟨params, body, scope, pm, c', ctv, hP _ _ _ h1, h2, h3, h4⟩
theorem LamP.tr {params : Arguments} {body : Expr} {scope : Scope} {f : EF} {pn : List (Addr × Obj)} (h : LamP C φ X k params body scope f) : LamP C φ (X.tr pn X.xe) k params body scope f := ⟨h.L, h.hdef, h.hbind, h.hb⟩
theorem LamsAt.tr {g : Gh} {pins pn : List (Addr × Obj)} {fs : List EF} {as : List Addr} (h : LamsAt C φ X k g pins fs as) : LamsAt C φ (X.tr pn X.xe) k g pins fs as := by
  induction h with
  | nil => exact .nil
  | cons h r ih => exact .cons (h.tr fun _ _ _ => LamP.tr) ih
/-- the display of lambdas -/
theorem lams_disp {pos : Pos} (M : LamM C X) {es : List Expr} {fs : List EF} (LL : LamL C φ X k es fs) : ∀ {pins : List (Addr × Obj)} {σ : L2.St} {H : Hp} {s : Shared} {g : Gh} {h : AH} {E : Value → Shared → Prop} {Q : List Value → Shared → Prop}, Inv X pins σ H s → Rep C g h H →
    (∀ as pins' g' H' s', Inv X pins' σ H' s' → Ext g g' → Rep C g' h H' → LamsAt C φ X k g' pins' fs as → (∀ p ∈ pins, p ∈ pins') → Q (as.map Value.ref) s') →
    wpAny (model X.prog X.w) X.A (spliced (backTo pos (starEach es X.env))) Q E s := by
  obtain ⟨c, P, TB, hcode, hmT, hu⟩ := M.ex
  induction LL with
  | nil => exact fun I r hQ => Calls.spliced_nil (hQ [] _ _ _ _ I (Ext.refl _) r .nil fun _ h => h)
  | @cons params body scope lpos f es fs LP LL ih =>
    intro pins σ H s g h E Q I r hQ
    show wpAny _ _ (spliced ((false, eval (.Lambda params body scope lpos) X.env) :: backTo pos (starEach es X.env))) _ _ s
    refine Calls.spliced_cons (lam_mk I TB hcode hmT hu r.sys.1 LP.hdef (LP.L.has I.ok) fun fa c' pm ctv H1 s' I1 bP T1 hf hfn hge hc _ tabP => ?_)
    have r1 := r.but bP tabP T1 ⟨_, hmT⟩
    have r2 := r1.code hc
    have nc : Ext g (g.keep c' (some (LamX.CodeO c' (X.env.qual ++ "<lambda>")))) := ⟨Nat.le_refl _, fun _ _ => rfl, fun _ _ e => e, fun a u e => by
      show (if a = c' then _ else g.kx a) = some u
      by_cases z : a = c'
      · rw [if_pos z]
        subst z
        have e9 := (r1.kx _ _ e).1
        rw [hc] at e9
        exact e9
      · rw [if_neg z]; exact e⟩
    have I2 : Inv X (pins ++ [(fa, lamObj X params body scope pm c' ctv)]) σ H1 s' := I1.pins_of fun p hp => by
      rcases List.mem_append.mp hp with hp | hp
      · exact I1.pin p (List.mem_append_right _ hp)
      · simp only [List.mem_singleton] at hp
        subst hp
        exact ⟨hf, hfn, fun z => by
          have h1 := I.lt
          have z' : fa = X.env.locals := z
          rw [← z'] at h1
          exact Nat.lt_irrefl _ (Nat.lt_of_lt_of_le h1 hge), I.nofs hge, fun v z => by cases z⟩
    refine ih I2 r2 fun as pins' g' H' s2 I3 e' r' la sub => ?_
    refine hQ (fa :: as) pins' g' H' s2 I3 (nc.trans e') r' (.cons ⟨params, body, scope, pm, c', ctv, LP, sub _ (List.mem_append_right _ (List.mem_singleton.mpr rfl)), LamM.nofr I hge, e'.kx _ _ (if_pos rfl)⟩ la) fun p hp => sub p (List.mem_append_left _ hp)

/-- a call of the def that tells, of the lambda that a name holds -/
theorem pe_tellN {Y : Cx} {x : Str} {w : Ct} {ret : Tx} {pins0 : List (Addr × Obj)} {σX : L2.St} {st : St} {kf : Nat} {fx : Str} {pt pf pc : Pos} (TI : TellI C X.K X.mg x w ret) (hr : Room (k + 2) X.A)
    (eY : Y.prog = X.prog ∧ Y.w = X.w ∧ Y.K = X.K ∧ Y.mg = X.mg ∧ Y.base = X.base ∧ Y.A = X.A ∧ Y.stack = X.stack) (hg : L2.Gl Y x) (hdb : (x == ("__debug__" : Str)) = false)
    (hN : Y.N[kf]? = some fx) (hv : L2.Vis Y.env.scope fx) (hd : (fx == ("__debug__" : Str)) = false) (hcd : (fx == ("__classdict__" : Str)) = false)
    (back : ∀ pins σ H s, Inv Y pins σ H s → Inv X pins0 σX H s) :
    PE Y (.Call (.Name x pt) [.Name fx pf] [] pc) (fun σ H Q => ∃ fa f g h, σ[kf]? = some (some (.ref fa)) ∧ LamAt C φ X k g (X.pn ++ pins0) f fa ∧ Rep C g h H ∧ RelS C g st σX ∧ okG C g (told w ret (f φ st h)) (fun x g' _ H' => ∀ v, RelA C g' x v → Q v H') N0) := by
  obtain ⟨ga, pg, sg, dV, kV, doc, pm0, cdv, ct, oc, an, od, osl, Ng, a, e, CS, rt, j, p1, p2, p3, p4, p5, p6, p7, p8, m1, m2, m3, m4, _⟩ := TI.ex
  obtain ⟨y1, y2, y3, y4, y5, y6, y7⟩ := eY
  refine ⟨fun pins s σ H Q I ⟨fa, f, g, h, hs, la, r, rs, ok⟩ => ?_⟩
  refine wpAny_Call_Name_kw (L2.ld_glob I hg (by rw [y4]; exact m1) ?_ hdb)
  refine PySem.W.callWith_K (h₀ := Y.base) I.ok.mod.kin (by rw [y3]; exact m2) ?_ (by rfl) (by rfl)
  show wpAny _ _ (spliced ((false, eval (.Name fx pf) Y.env) :: backTo pc (starEach [] Y.env))) _ _ s
  refine Calls.spliced_cons (thn ((L2.pe_var (pos := pf) (i := kf) hN hv hd hcd).run pins s σ H (fun v H1 => v = .ref fa ∧ H1 = H) I ⟨.ref fa, hs, rfl, rfl⟩) fun u s1 ⟨v, H1, I1, r1, q1⟩ => ?_)
  obtain ⟨ev, eH⟩ := q1
  subst ev
  subst eH
  obtain rfl : u = Value.ref fa := r1
  refine Calls.spliced_nil ⟨I1.kIn, ?_⟩
  have J := back pins σ H1 s1 I1
  obtain ⟨params, body, scope, pm, c', ctv, LP, hp, hfr, hkx⟩ := la
  obtain ⟨hf, hfn, _⟩ := J.pin _ hp
  have rc := tell_code (Q := Q) (N := N0) (ga := ga) TI J LP m1 hf hfn hfr (r.kx _ _ hkx).1 hr r rs ok
  rw [← y1, ← y2, ← y6, ← y7] at rc
  refine wpAny_call (codeAny_mono rc fun r s2 hq => ?_)
  cases r with
  | error e => exact (show False from hq).elim
  | ok fl =>
    cases fl with
    | ret u => exact I1.after hq
    | next => exact False.elim hq
    | brk => exact False.elim hq
    | cont => exact False.elim hq
/-- the reading of the comprehension over the lambdas -/
def tBad (C : Cfg) (φ : Fn) (X : Cx) (k : Nat) (w : Ct) (ret : Tx) (kb : Nat) : TE := fun σ H Q => ∃ g st h D fs as hE, Rep C g h H ∧ RelS C g st σ ∧ σ[kb]? = some (some (.ref D)) ∧ g.kx D = some (.lst (as.map V.ref)) ∧ LamsAt C φ X k g X.pn fs as ∧
  toldAll w ret φ st fs h = some hE ∧ ∀ g' H' L, Ext g g' → Rep C g' hE H' → RelA C g' (.lst []) (.ref L) → Q (.ref L) H'
theorem pe_bad {x bad fx xr : Str} {w : Ct} {ret : Tx} {kb kf jq : Nat} {scope : Scope} {own : List (Str × Nat)} {elt : Expr} {pf pb pt pf2 pc pq pc2 pos : Pos} (A : At C X) (TI : TellI C X.K X.mg x w ret) (hr : Room (k + 2) X.A)
    (hNb : X.N[kb]? = some bad) (hvb : L2.Vis X.env.scope bad) (hdb : (bad == ("__debug__" : Str)) = false) (hcb : (bad == ("__classdict__" : Str)) = false)
    (ok : L2.BlkOk X.N X.env.scope scope own) (hown : own.map (·.2) = [kf]) (hNf : X.N[kf]? = some fx) (hdf : (fx == ("__debug__" : Str)) = false) (hcf : (fx == ("__classdict__" : Str)) = false) (hdx : (x == ("__debug__" : Str)) = false)
    (hlf : L2.Loc (L2.relS scope X.env.scope) fx) (hff : (fun y => scope.names.lookup y == some .cell) fx = true ∨ (L2.relS scope X.env.scope).names.lookup fx = some .local) (hgx : (L2.relS scope X.env.scope).names.lookup x = some .globalImplicit) (hxr : xr = toS ret) :
    PE X (.ListComp elt [⟨.Name fx pf, .Name bad pb, [.Compare (.Call (.Name x pt) [.Name fx pf2] [] pc) [.NotEq] [.Constant (.str xr) jq pq] pc2], 0⟩] scope pos) (tBad C φ X k w ret kb) := by
  refine ⟨fun pins s σ H Q I ⟨g, st, h, D, fs, as, hE, r, rs, hsb, hkD, LA, tA, hQ⟩ => ?_⟩
  have hi : PI X (.Name fx pf) (.Name bad pb) (L2.iList X.K (L2.tVar kb)) := L2.pi_list (L2.pe_var hNb hvb hdb hcb)
  have hHD := (r.kx _ _ hkD).1
  have hiR : L2.iList X.K (L2.tVar kb) σ H (fun J H1 => J = L2.Itl X.K D ∧ H1 = H) := ⟨.ref D, hsb, D, rfl, ⟨_, SqL.of hHD⟩, rfl, rfl⟩
  rw [eval_ListComp]
  have hfree : ∀ y ∈ scope.names, y.2 = .free → ∃ c, X.env.cells.lookup y.1 = some c := fun y hy e => (ok.free y hy e).elim (fun z => I.ok.has _ (.inl z)) fun z => I.ok.has _ (.inr z)
  refine wpAny_comprehension_free (use := none) rfl (fun _ => rfl) (L2.closure_ok hfree) ok.kind (fun y hy e => by rw [ok.uniq y hy, e]) (thn (hi.run pins s σ H _ I hiR) fun xv s1 hx => thn hx fun itv s2 h2 => ?_)
  obtain ⟨it, fp, tn, J, H2, e, I2, Tn, st2, f2, eJ, eH⟩ := h2
  subst e eJ eH
  refine wpAny_newObj_type (L2.newEnv_comp ?_) (by show 0 ≤ sizeLine; decide)
  have hDn : H2 s2.heap.objs.size = none := I2.hok.fresh (Nat.le_refl _)
  have ptsz : ∀ b ∈ fp, b < s2.heap.objs.size := fun b hb => by
    obtain ⟨o, e, _⟩ := Tn.obj _ _ st2 b hb
    exact Heap.lt_size e
  have I3 : Inv X pins σ (upd H2 s2.heap.objs.size (.lst [])) { s2 with heap := s2.heap.push { cls := .type "list", data := .seq ([] : List Value).toArray } } :=
    I2.laid (t' := s2.toks) (fun b o e => Heap.get?_push_of_some _ e) (Nat.le_refl _) ⟨Nat.zero_le _, [], 0, .nil, Heap.get?_push_size _ rfl⟩
  have r3 := r.more hDn (o := .lst []) trivial
  have e3 := r.ext_more hDn (.lst [])
  have rL : RelA C (g.more s2.heap.objs.size (.lst [])) (.lst []) (.ref s2.heap.objs.size) := by
    simp only [RelA]
    exact ⟨_, [], rfl, upd_same, .nil⟩
  generalize hLd : s2.heap.objs.size = Ld at *
  generalize hs3 : ({ s2 with heap := s2.heap.push { cls := .type "list", data := .seq ([] : List Value).toArray } } : Shared) = s3 at *
  generalize hH3 : upd H2 Ld (.lst []) = H3 at *
  have h3h : s3.heap = s2.heap.push { cls := .type "list", data := .seq ([] : List Value).toArray } := by rw [← hs3]
  have fp3 : ∀ b ∈ fp, L2.FpOk X pins H3 b ∧ b < s3.heap.objs.size := fun b hb => by
    have hlt := ptsz b hb
    refine ⟨⟨?_, (f2 b hb).2⟩, by rw [h3h, Heap.size_push]; exact Nat.lt_succ_of_lt (by rw [hLd]; exact hlt)⟩
    rw [← hH3, upd_ne (Nat.ne_of_lt hlt)]
    exact (f2 b hb).1
  have st3 : tn 0 s3.heap := Tn.keep _ _ _ st2 fun b _ o e => by rw [h3h]; exact Heap.get?_push_of_some _ e
  have I4 := L2.block_start I3 ok A.nd fp3
  show codeAny _ _ (.compStart (.ListComp elt [⟨.Name fx pf, .Name bad pb, [.Compare (.Call (.Name x pt) [.Name fx pf2] [] pc) [.NotEq] [.Constant (.str xr) jq pq] pc2], 0⟩] scope pos) 0 (.ref it) (.ref Ld) (compEnvC scope (cellsFrom (s3.heap.objs.size + 1) scope.names (L2.cloFrom X.env.cells scope.names [])) s3.heap.objs.size X.env)) (compPost (model X.prog X.w) X.A X.xe none (EP X pins σ Q) (.ref Ld) s3.heap.objs.size) _
  have esc : (compEnvC scope (cellsFrom (s3.heap.objs.size + 1) scope.names (L2.cloFrom X.env.cells scope.names [])) s3.heap.objs.size X.env).scope = L2.relS scope X.env.scope := rfl
  have eL : (compEnvC scope (cellsFrom (s3.heap.objs.size + 1) scope.names (L2.cloFrom X.env.cells scope.names [])) s3.heap.objs.size X.env).locals = s3.heap.objs.size := rfl
  generalize hce : compEnvC scope (cellsFrom (s3.heap.objs.size + 1) scope.names (L2.cloFrom X.env.cells scope.names [])) s3.heap.objs.size X.env = ce at *
  generalize hs4 : ({ s3 with heap := pushCells (s3.heap.push { cls := .type "dict", data := .dict #[] }) scope.names } : Shared) = s4 at *
  have st4 : tn 0 s4.heap := Tn.keep _ _ _ st3 fun b _ o e => by rw [← hs4]; exact pushCells_keeps _ _ _ _ (Heap.get?_push_of_some _ e)
  -- back in the maker's context
  have back : ∀ pins' σ' H' s', Inv (X.blk s3 H3 scope ce fp) pins' σ' H' s' → Inv X pins σ H' s' := fun pins' σ' H' s' I' =>
    I3.call' (ch := fp) I'.os I'.base I'.hok I'.bare fun b hb => ⟨(fp3 b hb).1.2.2.2.1, (fp3 b hb).1.2.1, (fp3 b hb).1.2.2.2.2.1, (fp3 b hb).1.2.2.2.2.2⟩
  have stat : ∀ {σ' : L2.St} {H' : Hp} {s' : Shared}, Inv (X.blk s3 H3 scope ce fp) [] σ' H' s' → (∀ b ∈ fp, H' b = none) → ∀ b ∈ fp, L2.FpOk (X.blk s3 H3 scope ce fp) [] H' b := fun {σ' H' s'} I' hn b hb =>
    ⟨hn b hb, (I'.ok.exf b hb).1, I'.ok.exfs b hb, .inl hb, fun x c e => (I'.ok.exf b hb).2 x c e, fun p hp => absurd (show p ∈ ([] : List (Addr × Obj)) ++ [] from hp) (by simp)⟩
  have pg : PG (X.blk s3 H3 scope ce fp) (.Name fx pf) (L2.gName kf) := L2.pg_name A.nd hNf (by show L2.Loc ce.scope fx; rw [esc]; exact hlf) (by
    rcases hff with z | z
    · exact .inl z
    · right; show ce.scope.names.lookup fx = _; rw [esc]; exact z)
  have AB : At C (X.blk s3 H3 scope ce fp) := ⟨A.K, A.calm, A.nd, A.hu⟩
  have pe := pe_tellN (C := C) (φ := φ) (X := X) (k := k) (Y := X.blk s3 H3 scope ce fp) (st := st) (σX := σ) (pins0 := pins) (kf := kf) (fx := fx) (pt := pt) (pf := pf2) (pc := pc) TI hr ⟨rfl, rfl, rfl, rfl, rfl, rfl, rfl⟩ (by show ce.scope.names.lookup x = _; rw [esc]; exact hgx) hdx hNf (by
    show L2.Vis ce.scope fx
    rw [esc]
    exact hlf.elim .inl fun z => .inr (.inl z)) hdf hcf back
  obtain ⟨rne, hne1, hne2⟩ := cmp_ok AB .ne
  have ptst := L2.pt_cmpR (X := X.blk s3 H3 scope ce fp) (pos := pc2) hne1 pe (L2.pe_str (x := xr) (j := jq) (pos := pq)) (by rfl)
  have loop : codeAny (model X.prog X.w) X.A (.compLoop (.ListComp elt [⟨.Name fx pf, .Name bad pb, [.Compare (.Call (.Name x pt) [.Name fx pf2] [] pc) [.NotEq] [.Constant (.str xr) jq pq] pc2], 0⟩] scope pos) 0 (.ref it) (.ref Ld) ce) (compPost (model X.prog X.w) X.A X.xe none (EP X pins σ Q) (.ref Ld) s3.heap.objs.size) s4 := by
    have nfp : ∀ b ∈ fp, H3 b = none := fun b hb => (fp3 b hb).1.1
    refine L2.compLoop_any (fun n s' => ∃ i H' g' h', Inv (X.blk s3 H3 scope ce fp) [] (L2.wipe σ (own.map (·.2))) H' s' ∧ tn i s'.heap ∧ (∀ b ∈ fp, H' b = none) ∧ n = fs.length - i ∧ i ≤ fs.length ∧ Ext (g.more Ld (.lst [])) g' ∧ Rep C g' h' H' ∧ toldAll w ret φ st (fs.drop i) h' = some hE) ?_ fs.length
      ⟨0, H3, _, h, I4, st4, nfp, by simp, Nat.zero_le _, Ext.refl _, r3, tA⟩
    rintro n s5 ⟨i, H5, g5, h5, I5, st5, n5, rfl, hi5, e5, r5, t5⟩
    have hD5 : H5 D = some (.lst (as.map V.ref)) := (r5.kx _ _ (e5.kx _ _ (e3.kx _ _ hkD))).1
    by_cases hlt : i < fs.length
    · obtain ⟨a, ha, la⟩ := LA.get (List.getElem?_eq_getElem hlt)
      have hget : (as.map V.ref)[i]? = some (.ref a) := by rw [List.getElem?_map, ha]; rfl
      have go : (L2.Itl X.K D).go i H5 := ⟨_, _, SqL.of hD5, hget⟩
      rw [List.drop_eq_getElem_cons hlt] at t5
      unfold toldAll at t5
      have key : ∃ h6, told w ret (fs[i] φ st h5) = .ok (.str ret) h6 ∧ toldAll w ret φ st (fs.drop (i + 1)) h6 = some hE := by
        split at t5
        · rename_i t h6 et
          split at t5
          · rename_i e; subst e; exact ⟨h6, et, t5⟩
          · cases t5
        · cases t5
      obtain ⟨h6, et, t6⟩ := key
      have ti := Tn.item (X.blk s3 H3 scope ce fp) rfl rfl rfl A.calm i [] s5 _ H5 (fun _ _ => False) I5 (stat I5 n5) st5 go
      refine thnF ti fun rr s6 ⟨u, hr6, h6'⟩ => ?_
      subst hr6
      refine thnF h6' fun _ s7 ⟨xv, H7, I7, r7, y7, st7, n7⟩ => ?_
      obtain ⟨rfl, y7⟩ := y7
      have hx7 := y7 _ (SqL.of hD5)
      rw [hget] at hx7
      cases hx7
      have I7' := I7.pinned (stat I7 n7) (Tn.obj _ _ st7)
      refine thnF (pg.run _ s7 _ H7 (.ref a) u (fun σ8 H8 => σ8 = (L2.wipe σ (own.map (·.2))).set kf (some (.ref a)) ∧ H8 = H7) I7' r7 ⟨rfl, rfl⟩) fun _ s8 ⟨σ8, H8, I8, e8, eH8⟩ => ?_
      subst e8 eH8
      have hkf : kf < (L2.wipe σ (own.map (·.2))).length := by
        rw [L2.wipe_length, I.len]
        exact (List.getElem?_eq_some_iff.mp hNf).1
      have hw : L2.tTest (tOp rne (fun σ1 H Q => ∃ fa f g h, σ1[kf]? = some (some (.ref fa)) ∧ LamAt C φ X k g (X.pn ++ pins) f fa ∧ Rep C g h H ∧ RelS C g st σ ∧ okG C g (told w ret (f φ st h)) (fun x g' _ H' => ∀ v, RelA C g' x v → Q v H') N0) (L2.tC (.str xr))) ((L2.wipe σ (own.map (·.2))).set kf (some (.ref a))) H8 (fun b H9 => b = false ∧ ∃ g9, Ext g5 g9 ∧ Rep C g9 h6 H9) := by
        refine ⟨a, fs[i], g5, h5, List.getElem?_set_self hkf, la.mono (fun p o e => e5.kx _ _ (e3.kx _ _ e)) (fun p hp => List.mem_append_left _ hp), r5, (rs.mono e3).mono e5, ?_⟩
        rw [et]
        intro g' H' e' r' v rv
        refine hne2.run g' h6 H' (.str ret) (.str ret) v (.str xr) _ N0 r' rv (by rw [hxr]; exact .mkS) ?_
        have ec : cmpA .ne (.str ret) (.str ret) h6 = .ok (.bl false) h6 := by
          simp [cmpA, still, eqA, AV.flat, notO, someB]
        rw [ec]
        exact fun g2 H2 e2 r2 z rz => ⟨false, rz.bl, rfl, g2, e'.trans e2, r2⟩
      refine thnF ((L2.pts_one ptst).run _ s8 _ H8 _ I8 hw) fun b s9 ⟨H9, I9, hb, g9, e9, r9⟩ => ?_
      subst hb
      rw [if_neg Bool.false_ne_true]
      refine ⟨fs.length - (i + 1), by omega, i + 1, H9, g9, h6, (I9.unpinned (pins := [])).weak (by rw [List.length_set]) (fun j v ej => ?_), Tn.keep _ _ _ st7 fun b hb o e => (I9.pin (b, o) (List.mem_append_right _ (List.mem_append_right _ (L2.mem_pinsAt hb e)))).1, fun b hb => ?_, rfl, hlt, e5.trans e9, r9, t6⟩
      · obtain ⟨_, hj⟩ := L2.wipe_some ej
        rw [List.getElem?_set_ne (fun z => hj (by rw [hown, z]; simp))]
        exact ej
      · obtain ⟨o, e, _⟩ := Tn.obj _ _ st7 b hb
        exact (I9.pin (b, o) (List.mem_append_right _ (List.mem_append_right _ (L2.mem_pinsAt hb e)))).2.1
    · have hie : i = fs.length := by omega
      rw [List.drop_eq_nil_of_le (by omega)] at t5
      unfold toldAll at t5
      cases t5
      have stop : (L2.Itl X.K D).stop i H5 := ⟨_, SqL.of hD5, by rw [List.length_map, ← LA.len]; omega⟩
      refine thnF (Tn.done (X.blk s3 H3 scope ce fp) rfl rfl rfl A.calm i [] s5 _ H5 (fun _ _ => False) I5 (stat I5 n5) st5 stop) fun rr s6 ⟨hr6, I6⟩ => ?_
      subst hr6
      have I7 := back _ _ _ _ I6
      have nC : H5 s3.heap.objs.size = none := by
        have z : H5 ce.locals = none := I6.free
        rw [eL] at z
        exact z
      obtain ⟨m, hn, _⟩ := I6.loc
      have hn : s6.heap.Ns ce.locals m := hn
      rw [eL] at hn
      obtain ⟨q0, q1, q2, q3, q4, q5⟩ := I3.fpOk (Nat.le_refl _) nC
      exact ⟨m, hn, fun h'' sb => ⟨.ref Ld, H5, I7.turned (t' := s6.toks) (fun b o hb e => (sb.2 b hb).trans e) q0 q1 q3 q4 q5, rfl, hQ g5 H5 Ld (e3.trans e5) r5 (rL.mono e5)⟩⟩
  exact codeAny_compStart_list loop (Tn.self X.A 0 _ _ _ st4 loop)

/-- what is known ahead of the test over the lambdas; behind it: P -/
def tKnown (C : Cfg) (φ : Fn) (X : Cx) (k : Nat) (w : Ct) (ret : Tx) (kb : Nat) (P : L2.St → Hp → Prop) : L2.St → Hp → Prop := fun σ H => ∃ g st h D fs as hE, Rep C g h H ∧ RelS C g st σ ∧ σ[kb]? = some (some (.ref D)) ∧ g.kx D = some (.lst (as.map V.ref)) ∧ LamsAt C φ X k g X.pn fs as ∧
  toldAll w ret φ st fs h = some hE ∧ ∀ g' H', Ext g g' → Rep C g' hE H' → P σ H'
theorem pt_badcmp {lc : Expr} {w : Ct} {ret : Tx} {kb : Nat} {pl pcc : Pos} (A : At C X) (h : PE X lc (tBad C φ X k w ret kb)) : PT X (.Compare lc [.NotEq] [.List [] pl] pcc) (fun σ H Q => tKnown C φ X k w ret kb (fun _ H' => Q false H') σ H) := by
  obtain ⟨rne, hne1, hne2⟩ := cmp_ok A .ne
  refine (L2.pt_cmpR (pos := pcc) hne1 h ((se_lst (pos := pl) false (sa_nil (C := C) (φ := φ) (X := X))).run N0 takesN0) (by rfl)).imp fun σ H Q ⟨g, st, h, D, fs, as, hE, r, rs, h1, h2, h3, h4, hQ⟩ => ?_
  refine ⟨g, st, h, D, fs, as, hE, r, rs, h1, h2, h3, h4, fun g' H' L e' r' rl => ?_⟩
  refine ⟨g', st, hE, r', rs.mono e', ?_⟩
  have e0 : eLst false aNil φ st hE = .ok (.lst []) hE := by
    simp [eLst, aNil, mkLst, mk, SZ]
  rw [e0]
  intro g2 H2 e2 r2 v rv
  refine hne2.run g2 hE H2 (.lst []) (.lst []) (.ref L) v _ N0 r2 (rl.mono e2) rv ?_
  have ec : cmpA .ne (.lst []) (.lst []) hE = .ok (.bl false) hE := by
    simp [cmpA, still, eqA, AV.flat, AV.data, AV.dataL, AV.dep, AV.depL, notO, someB]
  rw [ec]
  exact fun g3 H3 e3 r3 z rz => ⟨false, rz.bl, hQ g3 H3 ((e'.trans e2).trans e3) r3⟩
/-- the test alone -/
theorem pt_bad1 {test : Expr} {w : Ct} {ret : Tx} {kb : Nat} {N : Nat → Hp → Prop} (h : PT X test (fun σ H Q => tKnown C φ X k w ret kb (fun _ H' => Q false H') σ H)) : PT X test (fun σ H Q => tKnown C φ X k w ret kb (fun σ H' => tB C φ (eC (.bl false)) N σ H' Q) σ H) := by
  refine h.imp fun σ H Q ⟨g, st, h, D, fs, as, hE, r, rs, h1, h2, h3, h4, hQ⟩ => ⟨g, st, h, D, fs, as, hE, r, rs, h1, h2, h3, h4, fun g' H' e' r' => ?_⟩
  obtain ⟨g1, s1, hh, r1, rs1, ok⟩ := hQ g' H' e' r'
  obtain ⟨b, e, q⟩ := ok.fin r1
  cases e
  exact q
/-- .. or more -/
theorem pt_bad2 {cmp b : Expr} {rest : List Expr} {fm : EF} {w : Ct} {ret : Tx} {kb : Nat} {N : Nat → Hp → Prop} {pos : Pos} (h : PT X cmp (fun σ H Q => tKnown C φ X k w ret kb (fun _ H' => Q false H') σ H)) (hm : SW C φ X (.BoolOp .Or (b :: rest) pos) fm) (tk : Takes X (wX C N)) :
    PT X (.BoolOp .Or (cmp :: b :: rest) pos) (fun σ H Q => tKnown C φ X k w ret kb (fun σ H' => tB C φ fm N σ H' Q) σ H) := by
  refine (L2.pw_or h (hm.run N tk)).pt.imp fun σ H Q ⟨g, st, h, D, fs, as, hE, r, rs, h1, h2, h3, h4, hQ⟩ => ⟨g, st, h, D, fs, as, hE, r, rs, h1, h2, h3, h4, fun g' H' e' r' => ?_⟩
  show if false = true then _ else _
  rw [if_neg Bool.false_ne_true]
  exact hQ g' H' e' r'
theorem takes_tr {W : WX} {pn : List (Addr × Obj)} (tk : Takes X W) (ok : X.Ok) (hp : ∀ p ∈ X.pn, p ∈ pn) : Takes (X.tr pn X.xe) W := fun u s' ⟨a, B, sI, pins, σ, H, cls, d, e, I, nb, up, sky, na, os, ag, w⟩ =>
  tk u s' ⟨a, B, sI, [], σ, H, cls, d, e, ⟨ok, I.os, I.bare, I.base, I.loc, I.cell, I.free, I.freeC, fun p hq => I.pin p (List.mem_append_left _ (hp p (by rw [List.append_nil] at hq; exact hq))), I.hok, I.len⟩, nb, up, sky, na, os, ag, w⟩
theorem SP.ofTr {pn pins : List (Addr × Obj)} {D : Ends} {f : Flow} {s' : Shared} (ok : X.Ok) (hp : ∀ p ∈ X.pn ++ pins, p ∈ pn) (h : SP (X.tr pn X.xe) [] D f s') : SP X pins D f s' := by
  have back : ∀ {σ : L2.St} {H : Hp}, Inv (X.tr pn X.xe) [] σ H s' → Inv X pins σ H s' := fun {σ H} I => ⟨ok, I.os, I.bare, I.base, I.loc, I.cell, I.free, I.freeC, fun p hq => I.pin p (List.mem_append_left _ (hp p hq)), I.hok, I.len⟩
  cases f with
  | next => obtain ⟨σ', H', I, q⟩ := h; exact ⟨σ', H', back I, q⟩
  | brk => obtain ⟨σ', H', I, q⟩ := h; exact ⟨σ', H', back I, q⟩
  | cont => obtain ⟨σ', H', I, q⟩ := h; exact ⟨σ', H', back I, q⟩
  | ret v => obtain ⟨x, σ', H', I, r, q⟩ := h; exact ⟨x, σ', H', back I, r, q⟩
/-- bad = [lambda: .., ..]; if [.. for f in bad if told(f) != ret] != [] or ..: sa else: sb; rest -/
theorem sss_bad {bad : Str} {w : Ct} {ret : Tx} {kb : Nat} {es : List Expr} {fs : List EF} {test : Expr} {fm : EF} {sa sb rest : List Stmt} {ba bb br : SF} {pb pl ps pi : Pos} (A : At C X) (M : LamM C X) (LL : LamL C φ X k es fs) (hz : es.length ≤ SZ)
    (hN : X.N[kb]? = some bad) (hx : L2.Loc X.env.scope bad) (hf : X.fn bad = true ∨ X.env.scope.names.lookup bad = some .local) (hs : swapsWith (.List es pl) (some (.Name bad pb)) ps.line X.env = pure false)
    (hT : ∀ pn N, Takes (X.tr pn X.xe) (wX C N) → PT (X.tr pn X.xe) test (fun σ H Q => tKnown C φ (X.tr pn X.xe) k w ret kb (fun σ H' => tB C φ fm N σ H' Q) σ H))
    (ha : ∀ pn, SSs C φ (X.tr pn X.xe) sa ba) (hb : ∀ pn, SSs C φ (X.tr pn X.xe) sb bb) (hr : ∀ pn, SSs C φ (X.tr pn X.xe) rest br) (LE : LamL C φ X k es fs → es.length = fs.length) :
    SSs C φ X (.Assign [.Name bad pb] (.List es pl) ps :: .If test sa sb pi :: rest) (sBad kb fs w ret (sSeq (sIf fm ba bb) br)) := by
  refine ⟨fun N tk => ⟨fun pins s σ H D I ⟨g, st, h, r, rs, ok⟩ => ?_⟩⟩
  unfold sBad at ok
  split at ok
  · rename_i hsb
    split at ok
    · rename_i hE tA
      refine wpAny_execs_cons (wpAny_Assign_Name (wpAny_List_spliced (lams_disp M LL I r fun as pins' g' H' s' I' e' r' la sub => ⟨by rw [List.length_map, ← la.len, ← LE LL]; exact hz, ?_⟩)) hs)
      have hDn : H' s'.heap.objs.size = none := I'.hok.fresh (Nat.le_refl _)
      have rv : L2.Vals (as.map V.ref) (as.map Value.ref) := by
        clear la
        induction as with
        | nil => exact .nil
        | cons a as ih => exact .cons rfl ih
      have I2 : Inv X pins' σ (upd H' s'.heap.objs.size (.lst (as.map V.ref))) { s' with heap := s'.heap.push { cls := .type "list", data := .seq (as.map Value.ref).toArray } } :=
        I'.laid (t' := s'.toks) (fun b o e => Heap.get?_push_of_some _ e) (Nat.le_refl _) ⟨by rw [List.length_map, ← la.len, ← LE LL]; exact hz, _, 0, rv, Heap.get?_push_size _ rfl⟩
      have r2 := r'.kept hDn (as.map V.ref)
      have e2 : Ext g' (g'.keep s'.heap.objs.size (some (.lst (as.map V.ref)))) := Rep.ext_keep (r'.freeKx hDn)
      refine L2.store_ok I2 A.nd hN hx (v := .ref s'.heap.objs.size) rfl (fun s3 I3 => ?_) hf
      show wpAny (model X.prog X.w) X.A (execs (.If test sa sb pi :: rest) X.env) (SP X pins D) X.xe s3
      have J := I3.toTry X.xe
      have tk' := takes_tr (pn := X.pn ++ pins') tk I.ok (fun p hp => List.mem_append_left _ hp)
      have rs' : RelS C (g'.keep s'.heap.objs.size (some (.lst (as.map V.ref)))) st (σ.set kb (some (.ref s'.heap.objs.size))) := by
        refine ⟨by rw [List.length_set]; exact rs.1, fun j x hj => ?_⟩
        by_cases hk : kb = j
        · subst hk
          rw [hsb] at hj
          cases hj
        · obtain ⟨v, h1, h2⟩ := rs.2 j x hj
          exact ⟨v, by rw [List.getElem?_set_ne hk]; exact h1, (h2.mono e').mono e2⟩
      have hkl : kb < σ.length := by rw [I.len]; exact (List.getElem?_eq_some_iff.mp hN).1
      have run := (L2.pss_cons (L2.ps_if (pos := pi) (hT (X.pn ++ pins') N tk') ((ha (X.pn ++ pins')).run N tk') ((hb (X.pn ++ pins')).run N tk')) ((hr (X.pn ++ pins')).run N tk')).run [] s3 _ _ D J ?_
      · exact wpAny_mono run (fun f s4 q => SP.ofTr I.ok (fun p hp => (List.mem_append.mp hp).elim (fun z => List.mem_append_left _ z) fun z => List.mem_append_right _ (sub p z)) q) fun _ _ q => q
      · refine ⟨_, st, h, s'.heap.objs.size, fs, as, hE, r2, rs', List.getElem?_set_self hkl, Gh.keep_same _ _ _, ?_, tA, fun g3 H3 e3 r3 => ?_⟩
        · exact LamsAt.tr (la.mono e2.kx (fun p hp => List.mem_append_right _ hp))
        · have ok3 := okG.ext ok ((e'.trans e2).trans e3)
          have ok4 : okG C g3 ((fm φ st hE).bind fun x h1 => tst x ((ba φ st h1).bind (seqK φ br)) ((bb φ st h1).bind (seqK φ br))) (kF C D) N := by
            unfold sSeq sIf at ok3
            cases z : fm φ st hE with
            | exc c h1 => rw [z] at ok3; exact ok3
            | stuck => rw [z] at ok3; exact ok3
            | ok x h1 =>
              rw [z] at ok3
              simp only [bind_ok] at ok3 ⊢
              cases x <;> first | (rw [tst_bl] at ok3 ⊢; split at ok3 <;> simp_all) | exact ok3
          refine goB r3 (rs'.mono e3) ok4 fun g5 h5 d H5 e5 r5 ok5 => ?_
          have fin : ∀ {bx : SF}, okG C g5 ((bx φ st h5).bind (seqK φ br)) (kF C D) N → tSt C φ bx N { D with nx := tSt C φ br N D } (σ.set kb (some (.ref s'.heap.objs.size))) H5 := fun {bx} okx => by
            refine ⟨g5, st, h5, r5, (rs'.mono e3).mono e5, ?_⟩
            cases z : bx φ st h5 with
            | exc c h1 => rw [z] at okx; exact okx
            | stuck => rw [z] at okx; exact okx
            | ok fl h1 =>
              rw [z] at okx
              simp only [bind_ok] at okx
              cases fl with
              | nx s1 => exact fun g7 H7 e7 r7 σ7 rs7 => ⟨g7, s1, h1, r7, rs7, okG.ext okx e7⟩
              | rt v => exact okx
              | bk s1 => exact okx
              | ct s1 => exact okx
          cases d with
          | true => rw [if_pos rfl] at ok5 ⊢; exact fin ok5
          | false => rw [if_neg Bool.false_ne_true] at ok5 ⊢; exact fin ok5
    · exact ok.elim
  · exact ok.elim
end
end TX

/-! TxK: more built-ins: max, min of lists; list(range); split, join -/
set_option Elab.async false
set_option linter.all false
set_option maxRecDepth 100000
set_option maxHeartbeats 1000000
set_option autoImplicit false
namespace TX
open PySem PySem.Spec PyProof.Rows
open PySem.W (dataLt maxD minD AlikeAll alike alikeAll keyToks keyToksAll readsAll_at max_list_data min_list_data)
open L2 (V HO Hp Key upd upd_same upd_ne SqL SqT Rd HOk Cx Inv PE PT PTs PW PS PSs PG PGs PI PA TE TT TA TS TG TGs TI It VK XK WX Takes Ends EP SP TP OpR tOp CallR tCB tCons tNil Sp Room FnOk)
section
variable {C : Cfg} {φ : Fn} {X : Cx} {a b o e : Expr} {fa fb fo : EF} {p p2 pos apos : Pos}
/-! ### max, min -/
theorem prD (q : Int × Int) : toD (prA q) = .tuple [.int q.1, .int q.2] := by simp [prA, toD, toDL]
theorem dataLt_pair (q r : Int × Int) : dataLt (toD (prA q)) (toD (prA r)) = plt q r := by
  rw [prD, prD]
  unfold dataLt plt
  simp only [keyToks, keyToksAll, List.cons_append, List.nil_append]
  rw [PyProof.Rows.lex_self]
  by_cases h : q.1 = r.1
  · rw [h, PyProof.Rows.lex_self, PyProof.Rows.lex_self]
    by_cases h2 : q.2 = r.2
    · rw [h2, PyProof.Rows.lex_self, PyProof.Rows.lex_self]
      simp [PyProof.Rows.lexLt]
    · rw [PyProof.Rows.lex_diff (by simpa using h2)]
      simp [itemLt]
  · rw [PyProof.Rows.lex_diff (by simpa using h)]
    simp [itemLt, h]
theorem maxD_prs : ∀ (ts : List (Int × Int)) (t : Int × Int), maxD (toD (prA t)) ((ts.map prA).map toD) = toD (prA (maxOf plt t ts))
  | [], t => rfl
  | u :: r, t => by
    have ih := maxD_prs r
    unfold maxD at ih ⊢
    rw [List.map_cons, List.map_cons, List.foldl_cons, dataLt_pair]
    unfold maxOf
    cases plt t u <;> exact ih _
theorem minD_prs : ∀ (ts : List (Int × Int)) (t : Int × Int), minD (toD (prA t)) ((ts.map prA).map toD) = toD (prA (minOf plt t ts))
  | [], t => rfl
  | u :: r, t => by
    have ih := minD_prs r
    unfold minD at ih ⊢
    rw [List.map_cons, List.map_cons, List.foldl_cons, dataLt_pair]
    unfold minOf
    cases plt u t <;> exact ih _
theorem alike_prs (ts : List (Int × Int)) : AlikeAll ((ts.map prA).map toD) := by
  refine ⟨fun x hx y hy => ?_, fun x hx => ?_⟩
  · simp only [List.map_map, List.mem_map, Function.comp] at hx hy
    obtain ⟨q, _, rfl⟩ := hx
    obtain ⟨r, _, rfl⟩ := hy
    rw [prD, prD]
    simp [alike, alikeAll]
  · simp only [List.map_map, List.mem_map, Function.comp] at hx
    obtain ⟨q, _, rfl⟩ := hx
    rw [prD]
    simp
theorem depth_prs : ∀ ts : List (Int × Int), PyData.depthAll ((ts.map prA).map toD) ≤ 2
  | [] => by simp [PyData.depthAll]
  | t :: r => by
    have ih := depth_prs r
    rw [List.map_cons, List.map_cons, prD]
    simp only [PyData.depthAll, PyData.depth]
    omega
/-- of pairs: the place of the greatest, the least -/
def rMM (K : PySem.W.Frag) (mx : Bool) : List V → Hp → VK → Prop := fun xs H Q => ∃ (a : Addr) (vs : List V) (t : Int × Int) (ts : List (Int × Int)), xs = [.ref a] ∧ SqL K H a vs ∧ L2.DpAll K H vs (((t :: ts).map prA).map toD) ∧
  ∀ (i : Nat) (v : V), vs[i]? = some v → ((t :: ts).map prA)[i]? = some (prA (if mx then maxOf plt t ts else minOf plt t ts)) → Q v H
theorem pr_inj {q r : Int × Int} (h : toD (prA q) = toD (prA r)) : q = r := by
  rw [prD, prD] at h
  simp at h
  exact Prod.ext h.1 h.2
theorem cr_mm (hc : X.calm = true) (hu : X.A.units + 65 < cLine) (mx : Bool) : CallR X (.builtin (if mx then "max" else "min")) (rMM X.K mx) := by
  intro pins s σ H xs us Q I r h
  obtain ⟨l, vs, t, ts, rfl, hs, hd, q⟩ := h
  obtain ⟨its, rv, hl, hz⟩ := I.list hs
  rw [L2.Vals.ref1 r]
  obtain ⟨as, hr⟩ := L2.Dp.readsAll I _ vs its hd rv
  have hr' : ReadsAll s.heap its.toArray.toList (toD (prA t) :: (ts.map prA).map toD) as := by simpa using hr
  have hdep := depth_prs (t :: ts)
  have al := alike_prs (t :: ts)
  have fin : ∀ (g : Int × Int) (i : Nat) (v : Value) (h' : Heap) (tk : Nat) (bs : List Addr), its.toArray[i]? = some v → Reads h' v (toD (prA g)) bs → (∀ b o, s.heap.get? b = some o → h'.get? b = some o) →
      (∀ w, vs[i]? = some w → ((t :: ts).map prA)[i]? = some (prA g) → Q w H) → EP X pins σ Q v { s with heap := h', toks := tk } := fun g i v h' tk bs hv hrd hk hq => by
    have hv2 : its[i]? = some v := by simpa using hv
    have hi : i < vs.length := by rw [rv.length]; exact (List.getElem?_eq_some_iff.mp hv2).1
    obtain ⟨u, hu1, hu2⟩ := rv.get (List.getElem?_eq_getElem hi)
    rw [hv2] at hu1
    cases hu1
    obtain ⟨bs2, r2, hlt, _, _⟩ := readsAll_at hr' i v (by simpa using hv)
    obtain ⟨e1, _⟩ := PyProof.Rows.reads_det (h := s.heap) (h' := h') (fun b o e _ => hk b o e) r2 hrd
    refine ⟨vs[i], H, I.kept hk, hu2, hq _ (List.getElem?_eq_getElem hi) ?_⟩
    have hlt2 : i < (t :: ts).length := by simpa using hlt
    have e2 : (toD (prA t) :: (ts.map prA).map toD).getD i .none = toD (prA (t :: ts)[i]) := by
      have : (toD (prA t) :: (ts.map prA).map toD) = (((t :: ts).map prA).map toD) := rfl
      rw [this, List.getD_eq_getElem?_getD, List.getElem?_map, List.getElem?_map, List.getElem?_eq_getElem hlt2]
      rfl
    rw [e2] at e1
    have e3 := pr_inj e1
    rw [List.getElem?_map, List.getElem?_eq_getElem hlt2, ← e3]
    rfl
  have hdep' : PyData.depthAll (toD (prA t) :: (ts.map prA).map toD) ≤ 2 := hdep
  cases mx with
  | true =>
    refine max_list_data (I.ok.hd hc) hl.isList hr' al (by omega) fun i v h' tk bs hv hrd hk => ?_
    rw [maxD_prs] at hrd
    exact fin _ i v h' tk bs hv hrd hk fun w h1 h2 => q i w h1 h2
  | false =>
    refine min_list_data (I.ok.hd hc) hl.isList hr' al (by omega) fun i v h' tk bs hv hrd hk => ?_
    rw [minD_prs] at hrd
    exact fin _ i v h' tk bs hv hrd hk fun w h1 h2 => q i w h1 h2

theorem dpAll_of {g : Gh} {H : Hp} (k : ∀ a o, g.fx a = some o → H a = some o) : ∀ {xs : List AV} {vs : List V}, RelL C g xs vs → (∀ x ∈ xs, x.data = true) → L2.DpAll C.K H vs (xs.map toD)
  | [], _, h, _ => by rw [RelL.nil_iff] at h; subst h; exact .nil
  | x :: xs, _, h, d => by
    obtain ⟨v, r, rfl, h1, h2⟩ := RelL.cons_iff.mp h
    exact .cons (toD_dp k (d x List.mem_cons_self) h1) (dpAll_of k h2 fun y hy => d y (List.mem_cons_of_mem _ hy))
theorem mx_run : UnB C (fun xs H Q => L2.rMax C.K xs H Q ∨ rMM C.K true xs H Q) (uA .max) := by
  refine ⟨fun g h H x cx Q N r rx ok => ?_⟩
  unfold uA at ok
  simp only at ok
  split at ok
  · rename_i xs z
    obtain ⟨p, vs, rfl, rl, h1⟩ := lst_at r rx z
    simp only [uL] at ok
    split at ok
    · rename_i v e
      unfold maxA at e
      split at e
      · rename_i i is ei
        cases e
        have ev := ints_rel rl ei
        rw [ev] at h1
        refine .inl ⟨p, i :: is, rfl, SqL.of h1, by simp, fun m hm hge => ?_⟩
        have e2 : m = maxOf ilt i is := Int.le_antisymm (maxOf_ge is i m hm) (hge _ (maxOf_mem ilt is i))
        rw [e2]
        exact okP r ok .mkI
      · cases e
      · rename_i ei
        split at e
        · rename_i t ts et
          cases e
          obtain ⟨ex, _⟩ := prs_rel rl et
          have hd := dpAll_of (H := H) (fun b o q => (r.fx b o q).1) rl (by
            rw [ex]
            intro y hy
            obtain ⟨q, _, rfl⟩ := List.mem_map.mp hy
            simp [prA, AV.data, AV.dataL])
          rw [ex] at hd
          refine .inr ⟨p, vs, t, ts, rfl, SqL.of h1, hd, fun i v hv hi => ?_⟩
          rw [if_pos rfl] at hi
          rw [← ex] at hi
          obtain ⟨u, hu1, hu2⟩ := rl.get hi
          rw [hv] at hu1
          cases hu1
          exact okP r ok hu2
        · cases e
    · exact ok.elim
  · exact ok.elim
theorem mn_run : UnB C (fun xs H Q => L2.rMin C.K xs H Q ∨ rMM C.K false xs H Q) (uA .min) := by
  refine ⟨fun g h H x cx Q N r rx ok => ?_⟩
  unfold uA at ok
  simp only at ok
  split at ok
  · rename_i xs z
    obtain ⟨p, vs, rfl, rl, h1⟩ := lst_at r rx z
    simp only [uL] at ok
    split at ok
    · rename_i v e
      unfold minA at e
      split at e
      · rename_i i is ei
        cases e
        have ev := ints_rel rl ei
        rw [ev] at h1
        refine .inl ⟨p, i :: is, rfl, SqL.of h1, by simp, fun m hm hge => ?_⟩
        have e2 : m = minOf ilt i is := Int.le_antisymm (hge _ (minOf_mem ilt is i)) (minOf_le is i m hm)
        rw [e2]
        exact okP r ok .mkI
      · cases e
      · rename_i ei
        split at e
        · rename_i t ts et
          cases e
          obtain ⟨ex, _⟩ := prs_rel rl et
          have hd := dpAll_of (H := H) (fun b o q => (r.fx b o q).1) rl (by
            rw [ex]
            intro y hy
            obtain ⟨q, _, rfl⟩ := List.mem_map.mp hy
            simp [prA, AV.data, AV.dataL])
          rw [ex] at hd
          refine .inr ⟨p, vs, t, ts, rfl, SqL.of h1, hd, fun i v hv hi => ?_⟩
          rw [if_neg Bool.false_ne_true] at hi
          rw [← ex] at hi
          obtain ⟨u, hu1, hu2⟩ := rl.get hi
          rw [hv] at hu1
          cases hu1
          exact okP r ok hu2
        · cases e
    · exact ok.elim
  · exact ok.elim
theorem se_mxl (A : At C X) (bn : Bn X "max") (ha : SE C φ X a fa) (hn : noStar a = true) : SE C φ X (.Call (.Name "max" p) [a] [] pos) (eU .max fa) :=
  se_callB (k := uA .max) (by rw [← A.K]; exact .or (L2.cr_max A.calm) (cr_mm A.calm A.hu true)) bn (by rfl) mx_run ha hn (by decide) (by decide)
theorem se_mnl (A : At C X) (bn : Bn X "min") (ha : SE C φ X a fa) (hn : noStar a = true) : SE C φ X (.Call (.Name "min" p) [a] [] pos) (eU .min fa) :=
  se_callB (k := uA .min) (by rw [← A.K]; exact .or (L2.cr_min A.calm) (cr_mm A.calm A.hu false)) bn (by rfl) mn_run ha hn (by decide) (by decide)

/-! ### list(range(a, b)) -/
theorem rng_rel {g : Gh} : ∀ (n : Nat) (i : Int), RelL C g (rng i n) ((List.range n).map fun k => V.int (i + (k : Nat)))
  | 0, i => .nil
  | n + 1, i => by
    have ih : RelL C g (rng (i + 1) n) ((List.range n).map fun k => V.int (i + 1 + (k : Nat))) := rng_rel n (i + 1)
    rw [List.range_succ_eq_map, List.map_cons, List.map_map]
    unfold rng
    refine .cons (by simp only [RelA]; simp) ?_
    have e : ((fun k : Nat => V.int (i + (k : Nat))) ∘ Nat.succ) = fun k : Nat => V.int (i + 1 + (k : Nat)) := by
      funext k
      show V.int (i + ((k + 1 : Nat) : Int)) = _
      congr 1
      omega
    rw [e]
    exact ih
theorem se_lrg (A : At C X) (m : Bool) {q : Pos} (bl : Bn X "list") (br : Bn X "range") (ha : SE C φ X a fa) (hb : SE C φ X b fb) (hn : noStar a = true) (hn2 : noStar b = true) :
    SE C φ X (.Call (.Name "list" p) [.Call (.Name "range" p2) [a, b] [] q] [] pos) (eLRg m fa fb) := by
  refine ⟨fun N tk => (L2.pe_listRg A.calm bl.gl bl.mg (L2.prg_2 br.gl br.mg (ha.run N tk) (hb.run N tk) (by rw [star_cons hn]) (by rw [star_cons hn2]) (by rw [star_cons hn2]; rfl)) (by rfl)).imp fun σ H Q ⟨g, s, h, r, rs, ok⟩ => ?_⟩
  refine go r rs ok fun g1 h1 x cx H1 e1 r1 rx ok1 => go r1 (rs.mono e1) ok1 fun g2 h2 y cy H2 e2 r2 ry ok2 => ?_
  split at ok2
  · rename_i i j
    split at ok2
    · rename_i hk
      simp only [Bool.and_eq_true, decide_eq_true_eq] at hk
      obtain ⟨k1, k2⟩ := rngOk_of hk.1.1
      obtain ⟨k3, k4⟩ := rngOk_of hk.1.2
      refine ⟨i, j, (rx.mono e2).int, ry.int, ⟨k1, k2, k3, k4, Nat.le_trans hk.2 (by decide)⟩, fun q hq => ?_⟩
      exact mk_at r2 (rng_rel _ _) ok2 q hq
    · exact ok2.elim
  · exact ok2.elim

/-! ### split, join -/
theorem spl_one (c : Nat) : ∀ (t acc : Tx), TL.spl [c] 0 acc t = splitGo c acc t
  | [], acc => rfl
  | d :: r, acc => by
    unfold TL.spl splitGo
    have e : TL.pre [c] (d :: r) = decide (d = c) := by
      unfold TL.pre
      simp only [List.length_cons, List.length_nil, List.take_succ_cons, List.take_zero]
      rw [Bool.eq_iff_iff, beq_iff_eq, decide_eq_true_iff]
      simp
    rw [e]
    by_cases h : d = c
    · simp only [decide_eq_true h, if_true, if_pos h]
      show acc :: TL.spl [c] 0 [] r = _
      rw [spl_one c r []]
    · simp only [decide_eq_false h, Bool.false_eq_true, if_false, if_neg h]
      exact spl_one c r _
theorem split_tx (t : Tx) (c : Nat) (hc : c < 256) : (Txt.split (toS t) (toS [c])).map (fun s => s.cps.toList) = splitTx t c := by
  have hk : ¬ Builtin.Str.strKind (toS t) < Builtin.Str.strKind (toS [c]) := TL.kind_ok (by simp [toS, hc])
  have := TL.split_spl (toS t) (toS [c]) (by simp [TL.tl, toS]) hk
  have e1 : TL.tl (toS [c]) = [c] := toS_list _
  have e2 : TL.tl (toS t) = t := toS_list _
  rw [e1, e2, spl_one] at this
  exact this
theorem se_split (m : Bool) {x : Str} {c j : Nat} {q : Pos} (ho : SE C φ X o fo) (hx : x = toS [c]) (hc : c < 256) (hs : notSuper o = true) (hl : (apos.endLine == pos.line) = true) : SE C φ X (.Call (.Attribute o "split" apos) [.Constant (.str x) j q] [] pos) (eSplit m fo c) := by
  refine ⟨fun N tk => (L2.pe_m1 PySem.F.slot_str_split PySem.F.type_str_split L2.mt_split (ho.run N tk) L2.pe_str (star_cons rfl) (mBase_by hs) hl).imp fun σ H Q ⟨g, s, hh, r, rs, ok⟩ => ?_⟩
  refine go r rs ok fun g1 h1 x cx H1 e1 r1 rx ok1 => ?_
  split at ok1
  · rename_i t
    split at ok1
    · rename_i hz
      refine ⟨⟨_, rx.str⟩, toS t, x, rx.str, rfl, by rw [hx, toS_len]; rfl, by rw [toS_len]; exact hz, ?_⟩
      have rl : RelL C g1 ((splitTx t c).map .str) ((Txt.split (toS t) x).map V.str) := by
        rw [hx, ← split_tx t c hc, List.map_map]
        have e : (Txt.split (toS t) (toS [c])).map V.str = ((Txt.split (toS t) (toS [c])).map (fun s => s.cps.toList)).map fun t => V.str (toS t) := by
          rw [List.map_map]
          apply List.map_congr_left
          intro s _
          simp only [Function.comp, toS_of]
        rw [e, ← List.map_map]
        exact relL_strs _
      exact (mkLst_at r1 rl ok1).2
    · exact ok1.elim
  · exact ok1.elim
theorem join_tx (sep : Tx) : ∀ ss : List Tx, TL.joinL sep ss = joinTx sep ss
  | [] => rfl
  | [a] => rfl
  | a :: b :: r => by
    unfold TL.joinL joinTx
    rw [join_tx sep (b :: r), List.append_assoc]
theorem se_join {x : Str} {sep : Tx} {j : Nat} {q : Pos} (A : At C X) (ha : SE C φ X a fa) (hx : x = toS sep) (hn : noStar a = true) (hl : (apos.endLine == pos.line) = true) : SE C φ X (.Call (.Attribute (.Constant (.str x) j q) "join" apos) [a] [] pos) (eJoin sep fa) := by
  refine ⟨fun N tk => (L2.pe_m1 PySem.F.slot_str_join PySem.F.type_str_join L2.mt_join L2.pe_str (ha.run N tk) (star1 hn) (mBase_by rfl) hl).imp fun σ H Q ⟨g, s, hh, r, rs, ok⟩ => ?_⟩
  refine ⟨⟨x, rfl⟩, ?_⟩
  refine go r rs ok fun g1 h1 y cy H1 e1 r1 ry ok1 => ?_
  split at ok1
  · rename_i xs hs
    obtain ⟨p, vs, rfl, rl, h2⟩ := seq_at r1 ry hs
    split at ok1
    · rename_i ss es
      split at ok1
      · rename_i hz
        have ev := strs_rel rl es
        have ev2 : vs = (ss.map toS).map V.str := by rw [ev, List.map_map]; rfl
        refine ⟨x, p, ss.map toS, rfl, rfl, ?_, ?_, ?_⟩
        · rw [← ev2, A.K]
          exact seq_SqLT h2
        · rw [List.map_map, List.length_map, hx, toS_len]
          have : ((fun s : Str => s.length) ∘ toS) = List.length := by funext t; exact toS_len t
          rw [this]
          exact hz
        · have ej : Txt.join x (ss.map toS) = toS (joinTx sep ss) := by
            rw [hx, ← join_tx]
            exact SX.join_S sep ss
          rw [ej]
          exact okP r1 ok1 .mkS
      · exact ok1.elim
    · exact ok1.elim
  · exact ok1.elim
end
end TX

/-! TxP: generator expressions -/
set_option Elab.async false
set_option linter.all false
set_option maxRecDepth 100000
set_option maxHeartbeats 2000000
set_option autoImplicit false
namespace TX
open PySem PySem.Spec PyProof.Rows
open L2 (V HO Hp Key upd upd_same upd_ne SqL SqT Rd HOk Cx Inv PE PT PTs PW PS PSs PG PGs PI PA TE TT TA TS TG TGs TI It VK XK WX Takes Ends EP SP TP OpR tOp CallR tCB tCons tNil Sp Room FnOk thn thnF)
/-- the run of a generator expression: what it hands out, the heap at each; fin: the heap at its end, if it comes there -/
inductive LcTr (φ : Fn) (g : TF) (c e : EF) (s0 : St) (gd : Gd) : List AV → AH → List (AV × AH) → Option AH → Prop
  | done {h : AH} (hk : gOk gd h = true) : LcTr φ g c e s0 gd [] h [] (some h)
  | skip {x : AV} {r : List AV} {h h1 : AH} {s1 : St} {tr : List (AV × AH)} {fin : Option AH} (hk : gOk gd h = true) (hg : g x s0 h = some s1) (hc : c φ s1 h = .ok (.bl false) h1) (t : LcTr φ g c e s0 gd r h1 tr fin) : LcTr φ g c e s0 gd (x :: r) h tr fin
  | give {x y : AV} {r : List AV} {h h1 h2 : AH} {s1 : St} {tr : List (AV × AH)} {fin : Option AH} (hk : gOk gd h = true) (hg : g x s0 h = some s1) (hc : c φ s1 h = .ok (.bl true) h1) (he : e φ s1 h1 = .ok y h2) (t : LcTr φ g c e s0 gd r h2 tr fin) :
      LcTr φ g c e s0 gd (x :: r) h ((y, h2) :: tr) fin
  | stop {x y : AV} {r : List AV} {h h1 h2 : AH} {s1 : St} (hk : gOk gd h = true) (hg : g x s0 h = some s1) (hc : c φ s1 h = .ok (.bl true) h1) (he : e φ s1 h1 = .ok y h2) : LcTr φ g c e s0 gd (x :: r) h [(y, h2)] none
theorem over_gen {A : Around} {elt : Expr} {gs : List Comprehension} {scope : Scope} {pos : Pos} {it acc : Value} {env : Env} : A.over (.compLoop (.GeneratorExp elt gs scope pos) 0 it acc env) [] = A.deeper env := by
  first
    | rfl
    | (obtain ⟨hd, d, fr, gs, u⟩ := A; simp [Around.over, Around.deeper, marksOver, frameCount, unitsOf, envsOf, guardsOf, pushEnvs, pushGuards, Code.envs, Code.env?, Code.isFrame, Code.guards, Code.isGuard, Code.weight, Code.frames, Code.isCreation, Code.isCaller, Code.cUnits])
theorem over_gen0 {A : Around} {elt : Expr} {gs : List Comprehension} {scope : Scope} {pos : Pos} {it acc : Value} {env : Env} : A.over (.compStart (.GeneratorExp elt gs scope pos) 0 it acc env) [] = A.deeper env := by
  first
    | rfl
    | (obtain ⟨hd, d, fr, gs, u⟩ := A; simp [Around.over, Around.deeper, marksOver, frameCount, unitsOf, envsOf, guardsOf, pushEnvs, pushGuards, Code.envs, Code.env?, Code.isFrame, Code.guards, Code.isGuard, Code.weight, Code.frames, Code.isCreation, Code.isCaller, Code.cUnits])
section
variable {C : Cfg} {φ : Fn} {Y : Cx} {B : Around}
/-- the loop of a generator expression, in its own frame's context Y -/
theorem seg_items {R : GenEnd} {Pr : Protocol} {elt tg iter : Expr} {ifs : List Expr} {scope : Scope} {pos : Pos} {it : Addr} {fp : List Addr} {tn : Nat → Heap → Prop} {J : It} {gt : TF} {fc f : EF} {gd : Gd} {g0 : Gh} {s0 : St} {σ0 : L2.St} {own sl : List Nat} {allI : List AV} {FIN : Option AH} {TR : List (AV × AH)}
    {CONS : List V → List (Addr × Obj) → Prop} {NT : Nat}
    (hc : Y.calm = true) (hA : Y.A = B.deeper Y.env) (hco : Y.env.scope.isCoroutine = false) (hpn : Y.pn = []) (hex : Y.ex = fp) (hxe : Y.xe = fun _ _ => False) (rs0 : RelS C g0 s0 σ0)
    (Tn : L2.Turn Y.prog Y.w Y.K tg J fp it tn) (src : Src C allI gd g0 J) (pg : PG Y tg (tGt C sl gt)) (pt : PTs Y ifs (tB C φ fc N0)) (pe : PE Y elt (tE C φ f N0))
    (hσ0 : L2.wipe σ0 own = σ0) (hsl : ∀ j ∈ sl, j ∈ own) (hCf : ∀ cvs PN, CONS cvs PN → ∀ p ∈ PN, p.1 ∉ fp)
    (hR : ∀ n s₀ s' H' g' h' PN cvs, FIN = some h' → Inv Y PN σ0 H' s' → Ext g0 g' → Rep C g' h' H' → RelL C g' (TR.map (·.1)) cvs → CONS cvs PN → n + cvs.length = NT → R n s₀ (.ok .next) s')
    (hY : ∀ n s₀ s' H' g' h' PN cvs pre rest y cv v (kap : Resume → Shared → Prop), TR = pre ++ (y, h') :: rest → Inv Y PN σ0 H' s' → Ext g0 g' → Rep C g' h' H' → RelL C g' (pre.map (·.1)) cvs → CONS cvs PN → (n + 1) + cvs.length = NT → L2.RelV cv v → RelA C g' y cv →
      ((rest ≠ [] ∨ FIN.isSome = true) → ∀ s'' PN', Inv Y PN' σ0 H' s'' → CONS (cvs ++ [cv]) PN' → (∀ b ∈ fp, ∀ o, s'.heap.get? b = some o → s''.heap.get? b = some o) → kap (.send .none) s'') → Pr n s₀ v s' kap) :
    ∀ (items : List AV) (h : AH) (tr : List (AV × AH)) (fin : Option AH) (_ : LcTr φ gt fc f s0 gd items h tr fin) (i : Nat) (pre : List (AV × AH)) (n : Nat) (s₀ s : Shared) (g : Gh) (H : Hp) (cvs : List V) (PN : List (Addr × Obj)), allI.drop i = items → fin = FIN → TR = pre ++ tr → tr.length ≤ n → n + cvs.length = NT →
      Inv Y PN σ0 H s → tn i s.heap → (∀ b ∈ fp, H b = none) → Ext g0 g → Rep C g h H → RelL C g (pre.map (·.1)) cvs → CONS cvs PN →
      Seg (model Y.prog Y.w) B R Pr n s₀ (.compLoop (.GeneratorExp elt [⟨tg, iter, ifs, 0⟩] scope pos) 0 (.ref it) .none Y.env) ((model Y.prog Y.w).den (.compLoop (.GeneratorExp elt [⟨tg, iter, ifs, 0⟩] scope pos) 0 (.ref it) .none Y.env)) [] s := by
  have hov : B.over (.compLoop (.GeneratorExp elt [⟨tg, iter, ifs, 0⟩] scope pos) 0 (.ref it) .none Y.env) [] = Y.A := over_gen.trans hA.symm
  have stat : ∀ {σ' : L2.St} {H' : Hp} {s' : Shared} {PN : List (Addr × Obj)} {cvs : List V}, Inv Y PN σ' H' s' → CONS cvs PN → (∀ b ∈ fp, H' b = none) → ∀ b ∈ fp, L2.FpOk Y PN H' b := fun {σ' H' s' PN cvs} I hC hn b hb =>
    ⟨hn b hb, (I.ok.exf b (by rw [hex]; exact hb)).1, I.ok.exfs b (by rw [hex]; exact hb), .inl (by rw [hex]; exact hb), fun x c e => (I.ok.exf b (by rw [hex]; exact hb)).2 x c e, fun p hp z => hCf _ _ hC p (by rw [hpn] at hp; exact hp) (by rw [z]; exact hb)⟩
  have thnY : ∀ {α : Type} {t : Sem α} {Q Q' : α → Shared → Prop} {E : Value → Shared → Prop} {s : Shared}, wpAny (model Y.prog Y.w) Y.A t Q Y.xe s → (∀ a s, Q a s → Q' a s) → wpAny (model Y.prog Y.w) Y.A t Q' E s := fun {α t Q Q' E s} h k => by
    rw [hxe] at h
    exact thnF h k
  -- an item, and what comes of it
  have turn : ∀ {x : AV} {r : List AV} {h h1 : AH} {s1 : St} {b : Bool} {n : Nat} {s₀ s : Shared} {i : Nat} {pre : List (AV × AH)} {g : Gh} {H : Hp} {cvs : List V} {PN : List (Addr × Obj)}, gOk gd h = true → gt x s0 h = some s1 → fc φ s1 h = .ok (.bl b) h1 → allI.drop i = x :: r →
      Inv Y PN σ0 H s → tn i s.heap → (∀ b ∈ fp, H b = none) → Ext g0 g → Rep C g h H → RelL C g (pre.map (·.1)) cvs → CONS cvs PN →
      (b = false → ∀ σ8 s9 H9 g9 fpp, Inv Y (PN ++ fpp) σ8 H9 s9 → L2.wipe σ8 own = σ0 → Ext g0 g9 → Rep C g9 h1 H9 → RelL C g9 (pre.map (·.1)) cvs → (∀ b ∈ fp, ∃ o, (b, o) ∈ fpp) → (∀ h'' : Heap, (∀ p ∈ fpp, h''.get? p.1 = some p.2) → tn (i + 1) h'') →
        Seg (model Y.prog Y.w) B R Pr n s₀ (.compLoop (.GeneratorExp elt [⟨tg, iter, ifs, 0⟩] scope pos) 0 (.ref it) .none Y.env) ((model Y.prog Y.w).den (.compLoop (.GeneratorExp elt [⟨tg, iter, ifs, 0⟩] scope pos) 0 (.ref it) .none Y.env)) [] s9) →
      (b = true → ∃ n' y h2, n = n' + 1 ∧ f φ s1 h1 = .ok y h2 ∧ ∀ σ8 s9 H9 g9 fpp cv v, Inv Y (PN ++ fpp) σ8 H9 s9 → L2.wipe σ8 own = σ0 → Ext g0 g9 → Rep C g9 h2 H9 → RelL C g9 (pre.map (·.1)) cvs → L2.RelV cv v → RelA C g9 y cv → (∀ b ∈ fp, ∃ o, (b, o) ∈ fpp) → (∀ h'' : Heap, (∀ p ∈ fpp, h''.get? p.1 = some p.2) → tn (i + 1) h'') →
        ∀ kap : Resume → Shared → Prop, (∀ s'', Seg (model Y.prog Y.w) B R Pr n' s'' (.compLoop (.GeneratorExp elt [⟨tg, iter, ifs, 0⟩] scope pos) 0 (.ref it) .none Y.env) ((model Y.prog Y.w).den (.compLoop (.GeneratorExp elt [⟨tg, iter, ifs, 0⟩] scope pos) 0 (.ref it) .none Y.env)) [] s'' → kap (.send .none) s'') → Pr n' s₀ v s9 kap) →
      Seg (model Y.prog Y.w) B R Pr n s₀ (.compLoop (.GeneratorExp elt [⟨tg, iter, ifs, 0⟩] scope pos) 0 (.ref it) .none Y.env) ((model Y.prog Y.w).den (.compLoop (.GeneratorExp elt [⟨tg, iter, ifs, 0⟩] scope pos) 0 (.ref it) .none Y.env)) [] s := by
    intro x r h h1 s1 b n s₀ s i pre g H cvs PN hk hgt hfc hdr I st fr e0 rp rl hC contF contT
    have hxi : allI[i]? = some x := by
      have := congrArg (fun l : List AV => l[0]?) hdr
      simpa using this
    obtain ⟨q1, _⟩ := src g h H e0 rp hk i
    obtain ⟨jgo, jy⟩ := q1 x hxi
    show Seg _ B _ _ _ s₀ _ ((compTurn (.GeneratorExp elt [⟨tg, iter, ifs, 0⟩] scope pos) 0 (.ref it) .none Y.env).onRaise (leaving Y.env)) [] s
    rw [compTurn_gen, Sem.onRaise_eq_wrap]
    refine seg_bind_wrap (wpAny_standAt ?_)
    refine seg_bind_wrap ?_
    rw [hov]
    refine thnF (Tn.item Y rfl rfl rfl hc i PN s σ0 H (fun _ _ => False) I (stat I hC fr) st jgo) fun rr s6 ⟨u, hr6, h6⟩ => ?_
    subst hr6
    refine seg_bind_wrap ?_
    rw [hov]
    refine thnF h6 fun _ s7 ⟨xv, H7, I7, r7, y7, st7, n7⟩ => ?_
    obtain ⟨g7, e7, rp7, rx7⟩ := jy xv H7 y7
    have I7' := I7.pinned (stat I7 hC n7) (Tn.obj _ _ st7)
    refine seg_bind_wrap ?_
    rw [hov]
    refine thnY (pg.run _ s7 σ0 H7 xv u (fun σ8 H8 => RelS C g7 s1 σ8 ∧ L2.wipe σ8 own = σ0 ∧ H8 = H7) I7' r7 ⟨g7, h, s0, s1, x, rp7, rs0.mono (e0.trans e7), rx7, hgt, fun σ' rs' on => ⟨rs', by
      have on' : Only sl (L2.wipe σ0 own) σ' := by rw [hσ0]; exact on
      rw [wipe_only on' hsl, hσ0], rfl⟩⟩) fun _ s8 ⟨σ8, H8, I8, rs8, w8, eH8⟩ => ?_
    subst eH8
    refine seg_bind_wrap ?_
    rw [hov]
    refine thnY (pt.run _ s8 σ8 H8 (fun b' H9 => b' = b ∧ ∃ g9, Ext g7 g9 ∧ Rep C g9 h1 H9) I8 ⟨g7, s1, h, rp7, rs8, by
      rw [hfc]
      exact fun g' H' e' r' => ⟨b, rfl, rfl, g', e', r'⟩⟩) fun b' s9 ⟨H9, I9, hb, g9, e9, rp9⟩ => ?_
    subst hb
    have hfp : ∀ b ∈ fp, ∃ o, (b, o) ∈ L2.pinsAt fp s7.heap := fun b hb => by
      obtain ⟨o, e, _⟩ := Tn.obj _ _ st7 b hb
      exact ⟨o, L2.mem_pinsAt hb e⟩
    have htn : ∀ h'' : Heap, (∀ p ∈ L2.pinsAt fp s7.heap, h''.get? p.1 = some p.2) → tn (i + 1) h'' := fun h'' hp => Tn.keep _ _ _ st7 fun b hb o e => hp (b, o) (L2.mem_pinsAt hb e)
    cases b' with
    | false =>
      simp only [Bool.false_eq_true, if_false]
      exact seg_again rfl (contF rfl σ8 s9 H9 g9 _ I9 w8 ((e0.trans e7).trans e9) rp9 ((rl.mono e7).mono e9) hfp htn)
    | true =>
      obtain ⟨n', y, h2, rfl, hfy, contT⟩ := contT rfl
      simp only [if_true]
      have hy : ∀ v, yieldOut Y.env v = yieldValue v := fun v => by simp only [yieldOut, hco, Bool.false_eq_true, if_false]
      simp only [hy]
      rw [Sem.bind_eq_wrap', Sem.bind_eq_wrap', Sem.wrap_wrap, Sem.wrap_wrap]
      refine seg_wrap ?_
      rw [hov]
      refine thnY (pe.run _ s9 σ8 H9 (fun cv H10 => ∃ g10, Ext g9 g10 ∧ Rep C g10 h2 H10 ∧ RelA C g10 y cv) I9 ⟨g9, s1, h1, rp9, rs8.mono e9, by
        rw [hfy]
        exact fun g' H' e' r' v rv => ⟨g', e', r', rv⟩⟩) fun v s10 ⟨cv, H10, I10, rv, g10, e10, rp10, ra⟩ => ?_
      refine seg_at (seg_yield rfl rfl rfl (contT σ8 s10 H10 g10 _ cv v I10 w8 (((e0.trans e7).trans e9).trans e10) rp10 (((rl.mono e7).mono e9).mono e10) rv ra hfp htn _ fun s'' hs => ?_))
      exact seg_again rfl hs
  intro items h tr fin t
  induction t with
  | @done h hk =>
    intro i pre n s₀ s g H cvs PN hd hf hT hn hNT I st fr e0 rp rl hC
    have hle : allI.length ≤ i := by
      have := congrArg List.length hd
      simp at this
      omega
    show Seg _ B _ _ _ s₀ _ ((compTurn (.GeneratorExp elt [⟨tg, iter, ifs, 0⟩] scope pos) 0 (.ref it) .none Y.env).onRaise (leaving Y.env)) [] s
    rw [compTurn_gen, Sem.onRaise_eq_wrap]
    refine seg_bind_wrap (wpAny_standAt ?_)
    refine seg_bind_wrap ?_
    rw [hov]
    refine thnF (Tn.done Y rfl rfl rfl hc i PN s σ0 H (fun _ _ => False) I (stat I hC fr) st ((src g _ H e0 rp hk i).2 hle)) fun rr s6 ⟨hr6, I6⟩ => ?_
    subst hr6
    rw [List.append_nil] at hT
    exact seg_end (.ok .next) (hR n s₀ s6 H g _ PN cvs hf.symm I6 e0 rp (by rw [hT]; exact rl) hC hNT)
  | @skip x r h h1 s1 tr fin hk hg hc1 t ih =>
    intro i pre n s₀ s g H cvs PN hd hf hT hn hNT I st fr e0 rp rl hC
    have hd2 : allI.drop (i + 1) = r := by
      have := congrArg List.tail hd
      simpa using this
    refine turn hk hg hc1 hd I st fr e0 rp rl hC (fun _ σ8 s9 H9 g9 fpp I9 w8 e9 rp9 rl9 hfp htn => ?_) fun z => nomatch z
    refine ih (i + 1) pre n s₀ s9 g9 H9 cvs PN hd2 hf hT hn hNT ((I9.unpinned).weak (by rw [← w8, L2.wipe_length]) fun j v e => by rw [← w8] at e; exact (L2.wipe_some e).1) (htn _ fun p hp => (I9.pin p (List.mem_append_right _ (List.mem_append_right _ hp))).1) (fun b hb => ?_) e9 rp9 rl9 hC
    obtain ⟨o, ho⟩ := hfp b hb
    exact (I9.pin (b, o) (List.mem_append_right _ (List.mem_append_right _ ho))).2.1
  | @give x y r h h1 h2 s1 tr fin hk hg hc1 he t ih =>
    intro i pre n s₀ s g H cvs PN hd hf hT hn hNT I st fr e0 rp rl hC
    have hd2 : allI.drop (i + 1) = r := by
      have := congrArg List.tail hd
      simpa using this
    refine turn hk hg hc1 hd I st fr e0 rp rl hC (fun z => nomatch z) fun _ => ?_
    obtain ⟨n', rfl⟩ : ∃ n', n = n' + 1 := ⟨n - 1, by simp at hn; omega⟩
    refine ⟨n', y, h2, rfl, he, fun σ8 s9 H9 g9 fpp cv v I9 w8 e9 rp9 rl9 rv ra hfp htn kap hkap => ?_⟩
    have I10 : Inv Y PN σ0 H9 s9 := (I9.unpinned).weak (by rw [← w8, L2.wipe_length]) fun j v e => by rw [← w8] at e; exact (L2.wipe_some e).1
    refine hY n' s₀ s9 H9 g9 h2 PN cvs pre tr y cv v kap hT I10 e9 rp9 rl9 hC (by omega) rv ra fun _ s'' PN' I'' hC'' hk'' => hkap s'' ?_
    have kfp : ∀ p ∈ fpp, p.1 ∈ fp → s''.heap.get? p.1 = some p.2 := fun p hp hm => hk'' p.1 hm p.2 (I9.pin p (List.mem_append_right _ (List.mem_append_right _ hp))).1
    refine ih (i + 1) (pre ++ [(y, h2)]) n' s'' s'' g9 H9 (cvs ++ [cv]) PN' hd2 hf (by rw [hT]; simp) (by simp at hn; exact hn) (by rw [List.length_append]; simp; omega) I'' ?_ (fun b hb => ?_) e9 rp9 (by rw [List.map_append]; exact rl9.append (.cons ra .nil)) hC''
    · have h0 : tn (i + 1) s9.heap := htn _ fun p hp => (I9.pin p (List.mem_append_right _ (List.mem_append_right _ hp))).1
      exact Tn.keep _ _ _ h0 fun b hb o e => hk'' b hb o e
    · obtain ⟨o, ho⟩ := hfp b hb
      exact (I9.pin (b, o) (List.mem_append_right _ (List.mem_append_right _ ho))).2.1
  | @stop x y r h h1 h2 s1 hk hg hc1 he =>
    intro i pre n s₀ s g H cvs PN hd hf hT hn hNT I st fr e0 rp rl hC
    refine turn hk hg hc1 hd I st fr e0 rp rl hC (fun z => nomatch z) fun _ => ?_
    obtain ⟨n', rfl⟩ : ∃ n', n = n' + 1 := ⟨n - 1, by simp at hn; omega⟩
    refine ⟨n', y, h2, rfl, he, fun σ8 s9 H9 g9 fpp cv v I9 w8 e9 rp9 rl9 rv ra hfp htn kap hkap => ?_⟩
    have I10 : Inv Y PN σ0 H9 s9 := (I9.unpinned).weak (by rw [← w8, L2.wipe_length]) fun j v e => by rw [← w8] at e; exact (L2.wipe_some e).1
    exact hY n' s₀ s9 H9 g9 h2 PN cvs pre [] y cv v kap hT I10 e9 rp9 rl9 hC (by omega) rv ra fun z => by
      rcases z with z | z
      · exact absurd rfl z
      · rw [← hf] at z; cases z
end

/-! ### the frame of a generator expression -/
def genCx (X : Cx) (s : Shared) (H : Hp) (scope : Scope) (code : Value) (fp : List Addr) : Cx :=
  { X with
    A := X.A.in4.in1.deeper (genEnv scope (L2.cloFrom X.env.cells scope.names []) s.heap.objs.size code builtinsNs X.env), s_0 := s, H_0 := H, env := genEnv scope (L2.cloFrom X.env.cells scope.names []) s.heap.objs.size code builtinsNs X.env
    outer := X.stack, stack := genEnv scope (L2.cloFrom X.env.cells scope.names []) s.heap.objs.size code builtinsNs X.env :: X.stack, ex := fp, fn := fun _ => false, calm := true, pn := [], xe := fun _ _ => False }
theorem inv_gen {X : Cx} {pins : List (Addr × Obj)} {σ : L2.St} {H : Hp} {s s5 : Shared} {scope : Scope} {own : List (Str × Nat)} {code : Value} {fp : List Addr} {m : Str → Option Value} (I : Inv X pins σ H s) (hc : X.calm = true) (hN : X.N.Nodup) (ok : L2.BlkOk X.N X.env.scope scope own) (hcell : ∀ y ∈ scope.names, y.2 ≠ .cell)
    (hfp : ∀ b ∈ fp, L2.FpOk X pins H b ∧ b < s.heap.objs.size) (k : ∀ b o, s.heap.get? b = some o → s5.heap.get? b = some o) (hns : s5.heap.Ns s.heap.objs.size m) (os : s5.os = s.os) (bare : AllBare s5.gens)
    (PN : List (Addr × Obj)) (hPN : ∀ p ∈ PN, s5.heap.get? p.1 = some p.2 ∧ H p.1 = none ∧ p.1 ≠ s.heap.objs.size ∧ p.1 ∉ L2.frs X.stack ∧ ∀ v, p.2.data ≠ .cell v) :
    Inv (genCx X s H scope code fp) PN (L2.wipe σ (own.map (·.2))) H s5 := by
  have hfree : ∀ y ∈ scope.names, y.2 = .free → ∃ c, X.env.cells.lookup y.1 = some c := fun y hy e => (ok.free y hy e).elim (fun z => I.ok.has _ (.inl z)) fun z => I.ok.has _ (.inr z)
  have cm : ∀ {y c}, (L2.cloFrom X.env.cells scope.names []).lookup y = some c → X.env.cells.lookup y = some c := fun {y c} e => by
    rcases L2.cloFrom_mem (PySem.mem_of_lookup e) with hm | ⟨h1, h2⟩
    · cases hm
    · obtain ⟨c1, hc⟩ := hfree _ h1 rfl
      have hc : X.env.cells.lookup y = some c1 := hc
      have e2 : c = c1 := by rw [h2, hc]; rfl
      rw [e2]
      exact hc
  have look : ∀ {y}, scope.names.lookup y = some .free → ∃ c, (L2.cloFrom X.env.cells scope.names []).lookup y = some c := fun {y} hl => by
    have hy : (y, NameKind.free) ∈ scope.names := PySem.mem_of_lookup hl
    exact L2.mem_lookup (L2.cloFrom_has (cells := X.env.cells) (acc := []) hy)
  have okY : (genCx X s H scope code fp).Ok := by
    refine ⟨I.ok.mod, ok.kind, I.ok.glob, rfl, Nat.le_refl _, fun y z c e1 e2 => I.ok.inj y z c (cm e1) (cm e2), fun y hy => ?_, fun y c z _ => Bool.noConfusion z, fun _ => I.ok.hd hc, Around.frames_deeper I.ok.frames, .inr ⟨rfl, rfl⟩, fun b hb => ⟨Nat.ne_of_lt (hfp b hb).2, fun y c e => (hfp b hb).1.2.2.2.2.1 y c (cm e)⟩, I.bs,
      Nat.le_trans I.ok.bsz I.sz, fun b o e hb => ?_, fun b hb z => ?_, I.stack, I.stkFree⟩
    · have hy : scope.names.lookup y = some .cell ∨ scope.names.lookup y = some .free := hy
      rcases hy with hy | hy
      · exact absurd rfl (hcell _ (PySem.mem_of_lookup hy))
      · exact look hy
    · rcases (hfp b hb).1.2.2.2.1 with z | z
      · exact I.ok.noex b o e z
      · exact absurd (Nat.lt_of_lt_of_le (Heap.lt_size e) (Nat.le_trans I.ok.bsz z)) (Nat.lt_irrefl _)
    · rcases List.mem_cons.mp (I.stkSub b z) with z | z
      · exact (hfp b hb).1.2.1 z
      · exact (hfp b hb).1.2.2.1 z
  refine ⟨okY, os, bare, L2.Un.kept k, ⟨m, hns, fun i y v e1 e2 e3 => ?_⟩, fun y c e => ?_, I.hok.fresh (Nat.le_refl _), fun y c e => I.freeC y c (cm e), fun p hp => ?_, I.hok.kept k, by rw [L2.wipe_length]; exact I.len⟩
  · obtain ⟨e2, hne⟩ := L2.wipe_some e2
    have e3 : L2.Vis scope y := e3
    have hfr : scope.names.lookup y = some .free := by
      have no : ∀ kd, scope.names.lookup y = some kd → (kd = .local ∨ kd = .cell) → False := fun kd e hh => by
        rcases ok.own _ (PySem.mem_of_lookup e) hh with e' | e'
        · obtain ⟨p, hp, hpy⟩ := List.mem_map.mp e'
          have e4 := ok.ix p hp
          have hpy : p.1 = y := hpy
          rw [hpy] at e4
          exact hne (List.mem_map.mpr ⟨p, hp, L2.nodup_ix hN e4 e1⟩)
        · exact e' (List.mem_of_getElem? e1)
      rcases e3 with z | z | z
      · exact (no _ z (.inl rfl)).elim
      · exact (no _ z (.inr rfl)).elim
      · exact z
    obtain ⟨m2, hn2, hl⟩ := I.loc
    have hvis : L2.Vis X.env.scope y := (ok.free _ (PySem.mem_of_lookup hfr) rfl).elim (fun k => .inr (.inl k)) (fun k => .inr (.inr k))
    obtain ⟨u, ru, q⟩ := hl i y v e1 e2 hvis
    obtain ⟨c, h2⟩ := look hfr
    refine ⟨u, ru, .inr ⟨.inr hfr, c, h2, ?_⟩⟩
    have h1 := cm h2
    rcases q with ⟨kk, _⟩ | ⟨_, c', e', z⟩
    · have kk : X.env.scope.names.lookup y = some .local := kk
      rcases ok.free _ (PySem.mem_of_lookup hfr) rfl with k' | k' <;> rw [show X.env.scope.names.lookup y = _ from k'] at kk <;> cases kk
    · rw [h1] at e'
      cases e'
      exact z.keeps k
  · obtain ⟨w, z⟩ := I.cell y c (cm e)
    exact ⟨w, z.keeps k⟩
  · have hp : p ∈ ([] : List (Addr × Obj)) ++ PN := hp
    rw [List.nil_append] at hp
    exact hPN p hp

/-- what the maker of a generator expression must have -/
structure GenM (C : Cfg) (X : Cx) : Prop where
  ex : ∃ c P, LamX.TabB X.base X.mg c P ∧ X.env.code = .ref c ∧ P ∈ C.tg ∧ ∀ p ∈ C.tl, p.1 ≠ P
theorem Rep.tbl {C : Cfg} {g : Gh} {h : AH} {H : Hp} {P : Addr} {ps ps' : Array Value} (r : Rep C g h H) (hP : H P = some (.tbl ps)) (ht : TriplesOk ps'.toList) (hl : ∀ p ∈ C.tl, p.1 ≠ P) : Rep C g h (upd H P (.tbl ps')) := by
  have ne : ∀ {a : Addr} {o : HO}, H a = some o → (∀ q, o ≠ .tbl q) → upd H P (.tbl ps') a = some o := fun {a o} e n => by
    rw [upd_ne (fun z => by subst z; rw [hP] at e; cases e; exact n _ rfl)]
    exact e
  refine ⟨r.n, fun a o e => ?_, r.inj, r.dis, fun i o e => ?_, ⟨fun p hp => ?_, fun p hp => ?_⟩, fun a o e => ?_, r.kd⟩
  · obtain ⟨e1, e2⟩ := r.fx a o e
    exact ⟨ne e1 (fun q z => by subst z; exact e2), e2⟩
  · obtain ⟨u, e1, e2⟩ := r.obj i o e
    refine ⟨u, ne e1 fun q z => ?_, e2⟩
    subst z
    cases o with
    | lst xs => obtain ⟨vs, z, _⟩ := e2; cases z
    | dct xs => obtain ⟨vs, z, _⟩ := e2; cases z
    | ins c xs => obtain ⟨dx, vs, z, _⟩ := e2; cases z
  · obtain ⟨ps2, a1, a2, a3⟩ := r.sys.1 p hp
    refine ⟨ps2, by rw [upd_ne (hl p hp)]; exact a1, a2, fun pos cv hc => ?_⟩
    obtain ⟨c, e1, e2⟩ := a3 pos cv hc
    exact ⟨c, e1, ne e2 fun q => LamX.codeO_ne q⟩
  · obtain ⟨ps2, a1, a2⟩ := r.sys.2 p hp
    by_cases hb : p = P
    · subst hb
      exact ⟨ps', upd_same, ht⟩
    · exact ⟨ps2, by rw [upd_ne hb]; exact a1, a2⟩
  · obtain ⟨e1, e2, e3⟩ := r.kx a o e
    refine ⟨ne e1 (fun q z => ?_), e2, e3⟩
    subst z
    rcases e3 with ⟨xs, z⟩ | ⟨us, z⟩ | ⟨c, dx, us, z⟩ | ⟨c, q, z⟩
    · cases z
    · cases z
    · cases z
    · exact LamX.codeO_ne _ z.symm
theorem upd_id {H : Hp} {P : Addr} {o : HO} (h : H P = some o) : upd H P o = H := by
  funext a
  by_cases z : a = P
  · subst z; rw [upd_same, h]
  · rw [upd_ne z]
section
variable {C : Cfg} {φ : Fn} {X : Cx}
/-- a generator, made -/
structure GenAt0 (C : Cfg) (X : Cx) (pins : List (Addr × Obj)) (σ : L2.St) (scope : Scope) (elt tg iter : Expr) (ifs : List Expr) (gpos : Pos) (items : List AV) (gd : Gd) (h1 : AH) (g : Gh) (ga : Addr) (s5 : Shared) : Prop where
  ex : ∃ (g1 : Gh) (H4 : Hp) (s4 : Shared) (it : Addr) (fp : List Addr) (tn : Nat → Heap → Prop) (J : It) (code : Value) (m : Str → Option Value) (gi : Nat),
    Ext g g1 ∧ Rep C g1 h1 H4 ∧ Inv X pins σ H4 s4 ∧ L2.Turn X.prog X.w X.K tg J fp it tn ∧ tn 0 s4.heap ∧ (∀ b ∈ fp, L2.FpOk X pins H4 b ∧ b < s4.heap.objs.size) ∧ Src C items gd g1 J ∧
    (∀ b o, s4.heap.get? b = some o → s5.heap.get? b = some o) ∧ s5.heap.Ns s4.heap.objs.size m ∧ s5.os = s4.os ∧ AllBare s5.gens ∧ s4.heap.objs.size < ga ∧ ga < s5.heap.objs.size ∧ s5.heap.IsGen ga gi ∧
    s5.gens[gi]? = some (.fresh (.compStart (.GeneratorExp elt [⟨tg, iter, ifs, 0⟩] scope gpos) 0 (.ref it) .none (genEnv scope (L2.cloFrom X.env.cells scope.names []) s4.heap.objs.size code builtinsNs X.env)))
theorem gen_mk {pins : List (Addr × Obj)} {σ : L2.St} {H : Hp} {s : Shared} {N : Nat → Hp → Prop} {elt tg iter : Expr} {ifs : List Expr} {scope : Scope} {own : List (Str × Nat)} {gpos : Pos} {fi : IF_} {g : Gh} {st : St} {h : AH} {k : Nat} {Q : Value → Shared → Prop}
    (G : GenM C X) (hr : Room k X.A) (hi : SI C φ X tg iter fi) (tk : Takes X (wX C N)) (ok : L2.BlkOk X.N X.env.scope scope own) (hco : scope.isCoroutine = false) (hcell : ∀ y ∈ scope.names, y.2 ≠ .cell) (h0 : scope.names.lookup (".0" : Str) = some NameKind.local)
    (hs : ∀ v, genFold iter X.env v = pure v) (I : Inv X pins σ H s) (r : Rep C g h H) (rs : RelS C g st σ)
    (hok : okG C g (fi φ st h) (fun p g' h' H' => ∀ ga s5, GenAt0 C X pins σ scope elt tg iter ifs gpos p.1 p.2 h' g ga s5 → Q (.ref ga) s5) N) :
    wpAny (model X.prog X.w) X.A (eval (.GeneratorExp elt [⟨tg, iter, ifs, 0⟩] scope gpos) X.env) Q X.xe s := by
  obtain ⟨c, P, TB, hcode, hPg, hPl⟩ := G.ex
  have hfree : ∀ y ∈ scope.names, y.2 = .free → ∃ c, X.env.cells.lookup y.1 = some c := fun y hy e => (ok.free y hy e).elim (fun z => I.ok.has _ (.inl z)) fun z => I.ok.has _ (.inr z)
  refine wpAny_GeneratorExp_make hco (L2.closure_ok hfree) hcell h0 ok.kind (by have := hr.dp; omega) ?_ hs
  refine thn ((hi.run N tk).run pins s σ H (fun J H1 => ∃ g1 items gd h1, Ext g g1 ∧ Rep C g1 h1 H1 ∧ Src C items gd g1 J ∧ ∀ ga s5, GenAt0 C X pins σ scope elt tg iter ifs gpos items gd h1 g ga s5 → Q (.ref ga) s5) I ⟨g, st, h, r, rs, by
    cases z : fi φ st h with
    | exc c h1 => rw [z] at hok; exact hok
    | stuck => rw [z] at hok; exact hok
    | ok p h1 =>
      rw [z] at hok
      exact fun g' H' e' r' J src => ⟨g', p.1, p.2, h1, e', r', src, hok g' H' e' r'⟩⟩) fun xv s1 hx => thn hx fun itv s2 h2 => ?_
  obtain ⟨it, fp, tn, J, H2, e, I2, Tn, st2, f2, g1, items, gd, h1, e1, r2, src, hQ⟩ := h2
  subst e
  refine ⟨I2.nolimit, ?_⟩
  obtain ⟨ps, hP, ht⟩ := r2.sys.2 P hPg
  have hPs : s2.heap.get? P = some { cls := .none, data := .fields ps } := I2.hok P _ hP
  have hPlt : P < s2.heap.objs.size := Heap.lt_size hPs
  have cd : PySem.W.CodeHd s2.heap c P := TB.code.keeps fun b u e => I2.bk b u e
  have ptsz : ∀ b ∈ fp, b < s2.heap.objs.size := fun b hb => by
    obtain ⟨o, e, _⟩ := Tn.obj _ _ st2 b hb
    exact Heap.lt_size e
  have fpP : ∀ b ∈ fp, b ≠ P := fun b hb z => by
    have := (f2 b hb).1
    rw [z, hP] at this
    cases this
  have cont : ∀ (code : Value) (h3 : Heap) (tk3 : Nat) (ps' : Array Value), Heap.ExtBut P s2.heap h3 → s2.heap.objs.size ≤ h3.objs.size → h3.get? P = some { cls := .none, data := .fields ps' } → (∃ more, ps' = ps ++ more) → TriplesOk ps'.toList →
      wpAny (model X.prog X.w) X.A (builtinsFor X.env.globals X.env.builtins) (fun bi s₄ =>
        ∀ h', h'.Ns s₄.heap.objs.size (fun y => if y = ".0" then some (.ref it) else none) → Heap.SameBut s₄.heap.objs.size (s₄.heap.push { cls := .type "frame", data := .dict #[] }) h' →
          Q (.ref h'.objs.size) { s₄ with
            gens := s₄.gens.push (.fresh (.compStart (.GeneratorExp elt [⟨tg, iter, ifs, 0⟩] scope gpos) 0 (.ref it) .none (genEnv scope (L2.cloFrom X.env.cells scope.names []) s₄.heap.objs.size code bi X.env))),
            toks := s₄.toks + 1 + 1 + 1,
            heap := h'.push { cls := .type "generator", data := .fields #[.int s₄.gens.size 0, .str "<genexpr>" (s₄.toks + 1), .str (X.env.qual ++ "<genexpr>") (s₄.toks + 1 + 1)] } }) X.xe { s2 with heap := h3, toks := tk3 } := by
    intro code h3 tk3 ps' hx3 hsz hP3 hmore ht3
    obtain ⟨more, em⟩ := hmore
    obtain ⟨bm, ob, b1, b2, b3, b4, b5, b6, b7, b8⟩ := TB.bm
    have keep3 : ∀ b u, b ≠ P → s2.heap.get? b = some u → h3.get? b = some u := fun b u hb e => hx3 b u hb e
    have I4 : Inv X pins σ (upd H2 P (.tbl (ps ++ more))) { s2 with heap := h3, gens := s2.gens, drawn := s2.drawn, toks := tk3 } := GxR.inv_tab (more := more) (h' := h3) (g' := s2.gens) (d' := s2.drawn) (t' := tk3) I2 hP keep3 (by rw [← em]; exact hP3) I2.bare
    have r4 : Rep C g1 h1 (upd H2 P (.tbl (ps ++ more))) := r2.tbl hP (by rw [← em]; exact ht3) hPl
    refine wpAny_builtinsFor (m := X.mg) (by rw [I2.ok.glob]; exact (I2.mod.glob.keeps I2.bk).extBut hx3 TB.gP) b1 b2 (keep3 _ _ b4 (I2.bk _ _ b5)) b6 b7 b8 ?_
    intro h' hn' hsb
    have hz' : h'.objs.size = h3.objs.size + 1 := by rw [hsb.1, Heap.size_push]
    have k45 : ∀ b o, h3.get? b = some o → (h'.push { cls := .type "generator", data := .fields #[.int s2.gens.size 0, .str "<genexpr>" (tk3 + 1), .str (X.env.qual ++ "<genexpr>") (tk3 + 1 + 1)] }).get? b = some o := fun b o e =>
      Heap.get?_push_of_some _ (hsb.extBut b o (Nat.ne_of_lt (Heap.lt_size e)) (Heap.get?_push_of_some _ e))
    refine hQ _ _ ⟨g1, _, { s2 with heap := h3, toks := tk3 }, it, fp, tn, J, code, _, s2.gens.size, e1, r4, I4, Tn, Tn.keep _ _ _ st2 fun b hb o e => keep3 b o (fpP b hb) e, fun b hb => ⟨⟨?_, (f2 b hb).2⟩, Nat.lt_of_lt_of_le (ptsz b hb) hsz⟩, src, k45, hn'.push _, rfl, ?_, ?_, ?_, ?_, ?_⟩
    · rw [upd_ne (fpP b hb)]
      exact (f2 b hb).1
    · exact I2.bare.push rfl
    · show h3.objs.size < h'.objs.size
      omega
    · show h'.objs.size < (h'.push _).objs.size
      rw [Heap.size_push]
      exact Nat.lt_succ_self _
    · exact ⟨_, _, _, Heap.get?_push_size _ rfl, rfl, rfl, rfl⟩
    · exact Array.getElem?_push_size ..
  cases hf : codeAmong gpos ps.toList with
  | none =>
    refine wpAny_genexprCodeX hcode (cd.code hPs ht) (cd.tab hPs) hf fun c' h' tk hx hge hlt hco' _ htab' _ => ?_
    obtain ⟨o1, vs, f1, tf, fl, tg, inF, tx, tt, op, _, _, _, _, _, _, _, _, _, htr, _⟩ := hco'
    exact cont _ h' tk _ hx (Nat.le_trans hge (Nat.le_of_lt hlt)) htab'.2 ⟨_, rfl⟩ htr
  | some cv =>
    refine wpAny_genexprCode_hit hcode (cd.code hPs ht) hf ?_
    exact cont cv s2.heap s2.toks ps (Heap.ExtBut.refl _ _) (Nat.le_refl _) hPs ⟨#[], by simp⟩ ht
end

/-! ### the generator resumed -/
section
variable {C : Cfg} {φ : Fn} {X : Cx}
/-- the generator at ga is to be resumed: what it hands out from here is told by TR, FIN; USER: what the one that walks it keeps beside -/
structure GW (C : Cfg) (X : Cx) (pins : List (Addr × Obj)) (σ : L2.St) (g0 : Gh) (TR : List (AV × AH)) (FIN : Option AH) (USER : List V → List (Addr × Obj) → Prop) (ga gi : Nat) where
  Y : Cx
  fp : List Addr
  σ0 : L2.St
  s4 : Shared
  H4 : Hp
  NT : Nat
  hNT : NT = TR.length + 1
  I4 : Inv X pins σ H4 s4
  hfp : ∀ b ∈ fp, L2.FpOk X pins H4 b ∧ b < s4.heap.objs.size
  prog : Y.prog = X.prog
  w : Y.w = X.w
  fs : Y.fs = L2.frs X.stack
  ex : Y.ex = fp
  h0 : Y.H_0 = H4
  s0 : Y.s_0 = s4
  big : s4.heap.objs.size < ga
  calm : X.calm = true
  hpn : Y.pn = []
variable {pins : List (Addr × Obj)} {σ : L2.St} {g0 : Gh} {TR : List (AV × AH)} {FIN : Option AH} {USER : List V → List (Addr × Obj) → Prop} {ga gi : Nat}
def genObj (o : Obj) (s : Shared) (ga gi : Nat) : Prop := s.heap.get? ga = some o ∧ s.heap.IsGen ga gi
def GW.CONS (W : GW C X pins σ g0 TR FIN USER ga gi) (cvs : List V) (PN : List (Addr × Obj)) : Prop := (∃ o, (ga, o) ∈ PN ∧ ∀ s : Shared, s.heap.get? ga = some o → s.heap.IsGen ga gi) ∧ (∀ p ∈ PN, p.1 ∉ W.fp) ∧ USER cvs PN
def GW.R (W : GW C X pins σ g0 TR FIN USER ga gi) : Nat → Shared → Shared → Prop := fun n _ s' => ∃ H' g' h' PN cvs, FIN = some h' ∧ Inv W.Y PN W.σ0 H' s' ∧ Ext g0 g' ∧ Rep C g' h' H' ∧ RelL C g' (TR.map (·.1)) cvs ∧ W.CONS cvs PN ∧ n + cvs.length = W.NT
def GW.Pr (W : GW C X pins σ g0 TR FIN USER ga gi) : Protocol := fun n _ v s' kap => ∃ H' g' h' PN cvs pre rest y cv, TR = pre ++ (y, h') :: rest ∧ Inv W.Y PN W.σ0 H' s' ∧ Ext g0 g' ∧ Rep C g' h' H' ∧ RelL C g' (pre.map (·.1)) cvs ∧ W.CONS cvs PN ∧ (n + 1) + cvs.length = W.NT ∧ L2.RelV cv v ∧ RelA C g' y cv ∧
  ((rest ≠ [] ∨ FIN.isSome = true) → ∀ s'' PN', Inv W.Y PN' W.σ0 H' s'' → W.CONS (cvs ++ [cv]) PN' → (∀ b ∈ W.fp, ∀ o, s'.heap.get? b = some o → s''.heap.get? b = some o) → kap (.send .none) s'')
/-- j items are handed out -/
def GW.At (W : GW C X pins σ g0 TR FIN USER ga gi) (j : Nat) (s : Shared) : Prop :=
  s.heap.IsGen ga gi ∧ s.heap.NoLimit ∧ j ≤ TR.length ∧ ∃ gs, s.gens[gi]? = some gs ∧ gs.Goes (model X.prog X.w) X.A.in4.in1 (fun n s₀ r s₁ => r = .ok .next ∧ W.R n s₀ s₁) W.Pr (W.NT - j) (.send .none) (s.setGen gi .running)
/-- back in the maker's context -/
theorem GW.back (W : GW C X pins σ g0 TR FIN USER ga gi) {PN : List (Addr × Obj)} {H' : Hp} {s s' : Shared} (I : Inv W.Y PN W.σ0 H' s) (hh : ∀ b o, s.heap.get? b = some o → s'.heap.get? b = some o) (os : s'.os = s.os) (hb : AllBare s'.gens) : Inv X pins σ H' s' := by
  have u := I.base
  rw [W.fs, W.ex, W.h0, W.s0] at u
  have o := I.os
  rw [W.s0] at o
  have hk := I.hok
  rw [W.prog, W.w] at hk
  exact W.I4.call' (ch := W.fp) (os.trans o) (u.trans (L2.Un.kept hh)) (hk.kept hh) hb fun b hb => ⟨(W.hfp b hb).1.2.2.2.1, (W.hfp b hb).1.2.1, (W.hfp b hb).1.2.2.2.2.1, (W.hfp b hb).1.2.2.2.2.2⟩
/-- the frame's state, other generators and tokens beside -/
theorem inv_gens {Y : Cx} {PN : List (Addr × Obj)} {σ : L2.St} {H : Hp} {s : Shared} (I : Inv Y PN σ H s) {gens : Array GenState} {toks : Nat} {dr : Drawn} (hb : AllBare gens) : Inv Y PN σ H { s with gens := gens, toks := toks, drawn := dr } :=
  ⟨I.ok, I.os, hb, I.base, I.loc, I.cell, I.free, I.freeC, I.pin, I.hok, I.len⟩
theorem GW.nolimit (W : GW C X pins σ g0 TR FIN USER ga gi) {PN : List (Addr × Obj)} {H' : Hp} {s : Shared} (I : Inv W.Y PN W.σ0 H' s) : s.heap.NoLimit := I.nolimit
theorem GW.isGen (W : GW C X pins σ g0 TR FIN USER ga gi) {cvs : List V} {PN : List (Addr × Obj)} {H' : Hp} {s : Shared} (I : Inv W.Y PN W.σ0 H' s) (hC : W.CONS cvs PN) : s.heap.IsGen ga gi := by
  obtain ⟨⟨o, h1, h2⟩, _⟩ := hC
  exact h2 s (I.pin _ (List.mem_append_right _ h1)).1
/-- what stands when an item has come -/
structure GW.Got (W : GW C X pins σ g0 TR FIN USER ga gi) (j : Nat) (v : Value) (s' : Shared) : Prop where
  ex : ∃ H' g' h' PN cvs pre rest y cv, TR = pre ++ (y, h') :: rest ∧ pre.length = j ∧ cvs.length = j ∧ Inv W.Y PN W.σ0 H' s' ∧ Ext g0 g' ∧ Rep C g' h' H' ∧ RelL C g' (pre.map (·.1)) cvs ∧ W.CONS cvs PN ∧ L2.RelV cv v ∧ RelA C g' y cv ∧ gi < s'.gens.size ∧
    ((rest ≠ [] ∨ FIN.isSome = true) → ∀ s'' PN', Inv W.Y PN' W.σ0 H' s'' → W.CONS (cvs ++ [cv]) PN' → (∀ b ∈ W.fp, ∀ o, s'.heap.get? b = some o → s''.heap.get? b = some o) → s''.gens = s'.gens → W.At (j + 1) s'')
structure GW.End (W : GW C X pins σ g0 TR FIN USER ga gi) (s' : Shared) : Prop where
  ex : ∃ H' g' h' PN cvs, FIN = some h' ∧ Inv W.Y PN W.σ0 H' s' ∧ Ext g0 g' ∧ Rep C g' h' H' ∧ RelL C g' (TR.map (·.1)) cvs ∧ W.CONS cvs PN
theorem GW.next (W : GW C X pins σ g0 TR FIN USER ga gi) (hr : X.A.depth + 1 < recursionLimit) {j : Nat} {s : Shared} {E : Value → Shared → Prop} {Q : Option Value → Shared → Prop} (st : W.At j s)
    (hY : ∀ v s', W.Got j v s' → Q (some v) s') (hE : ∀ s', W.End s' → TR.length = j → Q none s') : wpAny (model X.prog X.w) X.A.in4 (pyNext (.ref ga)) Q E s := by
  obtain ⟨hg, hl, hj, gs, hgs, hgo⟩ := st
  have hgl : gi < s.gens.size := (Array.getElem?_eq_some_iff.mp hgs).1
  have hh : X.A.in4.handled = none := W.I4.ok.hd W.calm
  refine GenW.wpAny_gsz (n := gi + 1) hgl (wpAny_pyNext_genexpQ (P := W.R) hh hl (by show X.A.depth < _; omega) hg hgs hgo (fun v s₁ gs' hb hv => ?_) (fun s₁ hp h' hk => ?_))
  · intro hsz
    obtain ⟨H', g', h', PN, cvs, pre, rest, y, cv, hT, I, e, r, rl, hC, hn, rv, ra, kk⟩ := hv
    have hpl : pre.length = cvs.length := by
      have := rl.len
      rw [List.length_map] at this
      exact this
    have hTl : TR.length = pre.length + (rest.length + 1) := by rw [hT]; simp
    have hjj : cvs.length = j ∧ 0 < W.NT - j := by
      have : (W.NT - j - 1 + 1) + cvs.length = W.NT := hn
      have := W.hNT
      omega
    have I2 : Inv W.Y PN W.σ0 H' (s₁.setGen gi gs') := inv_gens I (L2.allBare_setGen I.bare hb)
    have hsz2 : gi < s₁.gens.size := by
      have q : (s₁.setGen gi gs').gens.size = s₁.gens.size := GenW.setGen_size _ _ _
      have hsz' : gi + 1 ≤ (s₁.setGen gi gs').gens.size := hsz
      omega
    refine hY v _ ⟨H', g', h', PN, cvs, pre, rest, y, cv, hT, ?_, hjj.1, I2, e, r, rl, hC, rv, ra, by rw [GenW.setGen_size]; exact hsz2, fun hm s'' PN' I'' hC'' hk'' eg => ?_⟩
    · omega
    · obtain ⟨m, hm2⟩ : ∃ m, W.NT - j = m + 1 := ⟨W.NT - j - 1, by omega⟩
      have hk0 := kk hm (s''.setGen gi .running) PN' (inv_gens I'' (L2.allBare_setGen I''.bare rfl)) hC'' (fun b hb o e => hk'' b hb o e)
      rw [hm2] at hk0
      have e1 : W.NT - (j + 1) = m := by omega
      refine ⟨W.isGen I'' hC'', I''.nolimit, by omega, gs', ?_, ?_⟩
      · rw [eg]; exact L2.setGen_at hsz2
      · rw [e1]; exact hk0
  · intro hsz
    obtain ⟨H', g', hh', PN, cvs, hf, I, e, r, rl, hC, hn⟩ := hp
    have I2 : Inv W.Y PN W.σ0 H' { s₁.setGen gi .finished with heap := h' } := inv_gens (I.kept (t' := s₁.toks) hk) (L2.allBare_setGen I.bare rfl)
    refine hE _ ⟨H', g', hh', PN, cvs, hf, I2, e, r, rl, hC⟩ ?_
    have h1 := rl.len
    rw [List.length_map] at h1
    have h2 : (W.NT - j) + cvs.length = W.NT := hn
    have h3 := W.hNT
    omega

theorem FpOk_gen {pins : List (Addr × Obj)} {σ : L2.St} {H : Hp} {s : Shared} {b : Addr} {L : Addr} (I : Inv X pins σ H s) (h : L2.FpOk X pins H b ∧ b < s.heap.objs.size) (hL : L = s.heap.objs.size) : b ≠ L := by
  rw [hL]
  exact Nat.ne_of_lt h.2
/-- the generator just made, ready to be resumed -/
theorem gw_start {pins : List (Addr × Obj)} {σ : L2.St} {elt tg iter : Expr} {ifs : List Expr} {scope : Scope} {own : List (Str × Nat)} {sl : List Nat} {gpos : Pos} {gt : TF} {fc f : EF} {items : List AV} {gd : Gd} {h1 : AH} {g : Gh} {ga : Addr} {s5 : Shared} {st : St} {USER : List V → List (Addr × Obj) → Prop} {TR : List (AV × AH)} {FIN : Option AH}
    (hcalm : X.calm = true) (hN : X.N.Nodup) (ok : L2.BlkOk X.N X.env.scope scope own) (hcell : ∀ y ∈ scope.names, y.2 ≠ .cell) (hco : scope.isCoroutine = false) (hsl : ∀ j ∈ sl, j ∈ own.map (·.2)) (rs : RelS C g st σ)
    (pg : ∀ (s : Shared) (H : Hp) (code : Value) (fp : List Addr), PG (genCx X s H scope code fp) tg (tGt C sl gt)) (pt : ∀ (s : Shared) (H : Hp) (code : Value) (fp : List Addr), PTs (genCx X s H scope code fp) ifs (tB C φ fc N0)) (pe : ∀ (s : Shared) (H : Hp) (code : Value) (fp : List Addr), PE (genCx X s H scope code fp) elt (tE C φ f N0))
    (hLc : LcTr φ gt fc f (wipe st (own.map (·.2))) gd items h1 TR FIN)
    (G : GenAt0 C X pins σ scope elt tg iter ifs gpos items gd h1 g ga s5) :
    ∃ g1 gi, Ext g g1 ∧ ∃ W : GW C X pins σ g1 TR FIN USER ga gi, ∃ o H4, s5.heap.IsGen ga gi ∧ ga < s5.heap.objs.size ∧ (∀ s : Shared, s.heap.get? ga = some o → s.heap.IsGen ga gi) ∧ (∀ b ∈ W.fp, b ≠ ga ∧ b < s5.heap.objs.size) ∧ Inv W.Y [(ga, o)] W.σ0 H4 s5 ∧ Rep C g1 h1 H4 ∧
      ∀ s6 PN6, Inv W.Y PN6 W.σ0 H4 s6 → W.CONS [] PN6 → (∀ b ∈ W.fp, ∀ o, s5.heap.get? b = some o → s6.heap.get? b = some o) → s6.gens = s5.gens → W.At 0 s6 := by
  obtain ⟨g1, H4, s4, it, fp, tn, J, code, m, gi, e1, r1, I4, Tn, st4, hfp, src, keep, hns, os, hb, hga1, hga2, hgen, hfresh⟩ := G.ex
  have hgas : s4.heap.objs.size ≤ ga := Nat.le_of_lt hga1
  have gafp : ∀ b ∈ fp, b ≠ ga := fun b hb z => by
    have h0 := (hfp b hb).2
    rw [z] at h0
    exact absurd (Nat.lt_of_lt_of_le h0 hgas) (Nat.lt_irrefl _)
  have hobj : ∃ o, s5.heap.get? ga = some o ∧ (∀ v, o.data ≠ .cell v) ∧ ∀ s : Shared, s.heap.get? ga = some o → s.heap.IsGen ga gi := by
    obtain ⟨oo, n1, n2, ho, hrest⟩ := hgen
    exact ⟨_, ho, fun v z => (by rw [hrest.2.1] at z; cases z), fun s e => ⟨oo, n1, n2, e, hrest⟩⟩
  obtain ⟨o, hoo, hncell, hisg⟩ := hobj
  have I5 : Inv (genCx X s4 H4 scope code fp) [(ga, o)] (L2.wipe σ (own.map (·.2))) H4 s5 := inv_gen I4 hcalm hN ok hcell hfp keep hns os hb [(ga, o)] fun p hp => by
    have e : p = (ga, o) := by simpa using hp
    subst e
    exact ⟨hoo, I4.hok.fresh hgas, Nat.ne_of_gt hga1, fun z => (List.mem_cons.mp (I4.stkSub _ z)).elim (Nat.ne_of_gt (Nat.lt_of_lt_of_le I4.lt hgas)) (I4.nofs hgas), hncell⟩
  have hσ0 : L2.wipe (L2.wipe σ (own.map (·.2))) (own.map (·.2)) = L2.wipe σ (own.map (·.2)) := by
    apply List.ext_getElem?
    intro j
    rw [wipe_get, wipe_get, L2.wipe_length]
    split <;> rfl
  refine ⟨g1, gi, e1, ⟨genCx X s4 H4 scope code fp, fp, L2.wipe σ (own.map (·.2)), s4, H4, TR.length + 1, rfl, I4, hfp, rfl, rfl, rfl, rfl, rfl, rfl, hga1, hcalm, rfl⟩, o, H4, hgen, hga2, hisg, fun b hb => ⟨gafp b hb, Nat.lt_of_lt_of_le (hfp b hb).2 (Nat.le_of_lt (Nat.lt_trans hga1 hga2))⟩, I5, r1, fun s6 PN6 I66 hC0 kfp eg => ?_⟩
  obtain ⟨⟨o6, hp6, his6⟩, _⟩ := id hC0
  have hfr := hfresh
  rw [← eg] at hfr
  refine ⟨his6 _ (I66.pin _ (List.mem_append_right _ hp6)).1, I66.nolimit, Nat.zero_le _, _, hfr, ?_⟩
  refine ⟨rfl, ?_⟩
  have loop := fun s₀ s (I : Inv (genCx X s4 H4 scope code fp) PN6 (L2.wipe σ (own.map (·.2))) H4 s) (st' : tn 0 s.heap) => seg_items (Y := genCx X s4 H4 scope code fp) (B := X.A.in4.in1) (elt := elt) (iter := iter) (scope := scope) (pos := gpos)
    (R := fun n s₀ r s₁ => r = .ok .next ∧ ∃ H' g' h' PN cvs, FIN = some h' ∧ Inv (genCx X s4 H4 scope code fp) PN (L2.wipe σ (own.map (·.2))) H' s₁ ∧ Ext g1 g' ∧ Rep C g' h' H' ∧ RelL C g' (TR.map (·.1)) cvs ∧ ((∃ o', (ga, o') ∈ PN ∧ ∀ s : Shared, s.heap.get? ga = some o' → s.heap.IsGen ga gi) ∧ (∀ p ∈ PN, p.1 ∉ fp) ∧ USER cvs PN) ∧ n + cvs.length = TR.length + 1)
    (Pr := fun n _ v s' kap => ∃ H' g' h' PN cvs pre rest y cv, TR = pre ++ (y, h') :: rest ∧ Inv (genCx X s4 H4 scope code fp) PN (L2.wipe σ (own.map (·.2))) H' s' ∧ Ext g1 g' ∧ Rep C g' h' H' ∧ RelL C g' (pre.map (·.1)) cvs ∧ ((∃ o', (ga, o') ∈ PN ∧ ∀ s : Shared, s.heap.get? ga = some o' → s.heap.IsGen ga gi) ∧ (∀ p ∈ PN, p.1 ∉ fp) ∧ USER cvs PN) ∧ (n + 1) + cvs.length = TR.length + 1 ∧ L2.RelV cv v ∧ RelA C g' y cv ∧
      ((rest ≠ [] ∨ FIN.isSome = true) → ∀ s'' PN', Inv (genCx X s4 H4 scope code fp) PN' (L2.wipe σ (own.map (·.2))) H' s'' → ((∃ o', (ga, o') ∈ PN' ∧ ∀ s : Shared, s.heap.get? ga = some o' → s.heap.IsGen ga gi) ∧ (∀ p ∈ PN', p.1 ∉ fp) ∧ USER (cvs ++ [cv]) PN') → (∀ b ∈ fp, ∀ o, s'.heap.get? b = some o → s''.heap.get? b = some o) → kap (.send .none) s''))
    (CONS := fun cvs PN => (∃ o', (ga, o') ∈ PN ∧ ∀ s : Shared, s.heap.get? ga = some o' → s.heap.IsGen ga gi) ∧ (∀ p ∈ PN, p.1 ∉ fp) ∧ USER cvs PN) (NT := TR.length + 1) (FIN := FIN) (TR := TR)
    rfl rfl hco rfl rfl rfl (wipe_rel (rs.mono e1) (own.map (·.2))) Tn src (pg s4 H4 code fp) (pt s4 H4 code fp) (pe s4 H4 code fp) hσ0 hsl (fun cvs PN h => h.2.1)
    (fun n s₀ s' H' g' h' PN cvs a1 a2 a3 a4 a5 a6 a7 => ⟨rfl, H', g', h', PN, cvs, a1, a2, a3, a4, a5, a6, a7⟩)
    (fun n s₀ s' H' g' h' PN cvs pre rest y cv v kap a1 a2 a3 a4 a5 a6 a7 a8 a9 a10 => ⟨H', g', h', PN, cvs, pre, rest, y, cv, a1, a2, a3, a4, a5, a6, a7, a8, a9, a10⟩)
    items h1 TR FIN hLc 0 [] (TR.length + 1) s₀ s g1 H4 [] PN6 rfl rfl rfl (Nat.le_succ _) rfl I st' (fun b hb => (hfp b hb).1.1) (Ext.refl _) r1 .nil hC0
  have st6 : tn 0 s6.heap := Tn.keep _ _ _ (Tn.keep _ _ _ st4 fun b hb o e => keep b o e) fun b hb o e => kfp b hb o e
  have I7 : Inv (genCx X s4 H4 scope code fp) PN6 (L2.wipe σ (own.map (·.2))) H4 (s6.setGen gi .running) := inv_gens I66 (L2.allBare_setGen I66.bare rfl)
  have lp := loop (s6.setGen gi .running) (s6.setGen gi .running) I7 st6
  show Seg (model X.prog X.w) X.A.in4.in1 _ _ _ _ _ ((compStart (.GeneratorExp elt [⟨tg, iter, ifs, 0⟩] scope gpos) 0 (.ref it) .none _).onRaise (leaving _)) [] _
  unfold compStart
  rw [Sem.onRaise_eq_wrap]
  show Seg _ _ _ _ _ _ _ ((ask >>= _).wrap _ _ _ _) [] _
  refine seg_bind_wrap (wpAny_askSetting ?_)
  split
  · exact seg_again rfl lp
  · first
      | exact seg_bind_wrap (wpAny_rule (seg_bind_wrap (wpAny_standAt (seg_bind_wrap (Tn.self _ 0 _ _ _ st6 (seg_again rfl lp))))))
      | (refine seg_bind_wrap (wpAny_rule ?_); show Seg _ _ _ _ _ _ _ ((standAt iter.pos >>= _).wrap _ _ _ _) [] _; exact seg_bind_wrap (wpAny_standAt (seg_bind_wrap (Tn.self _ 0 _ _ _ st6 (seg_again rfl lp)))))
/-- around in1 -/
theorem GW.next1 (W : GW C X pins σ g0 TR FIN USER ga gi) (hr : X.A.depth + 1 < recursionLimit) {j : Nat} {s : Shared} {E : Value → Shared → Prop} {Q : Option Value → Shared → Prop} (st : W.At j s)
    (hY : ∀ v s', W.Got j v s' → Q (some v) s') (hE : ∀ s', W.End s' → TR.length = j → Q none s') : wpAny (model X.prog X.w) X.A.in1 (pyNext (.ref ga)) Q E s :=
  wpAny_of_in1 (A := X.A.in1) (wpAny_of_in1 (A := X.A.in1.in1) (wpAny_of_in1 (A := X.A.in1.in1.in1) (W.next hr st hY hE)))
/-- the readings of any -/
structure AnyOk (b : Bool) (h2 : AH) (TR : List (AV × AH)) (FIN : Option AH) : Prop where
  at_ : ∀ pre y h' rest, TR = pre ++ (y, h') :: rest → (y = .bl false ∧ (rest ≠ [] ∨ FIN.isSome = true)) ∨ (y = .bl true ∧ b = true ∧ h' = h2)
  fin : ∀ h', FIN = some h' → b = false ∧ h' = h2
  ne : TR ≠ [] ∨ FIN.isSome = true
theorem any_tr {gt : TF} {fc f : EF} {s0 : St} {gd : Gd} {b : Bool} {h2 : AH} : ∀ (items : List AV) (h : AH), anyGo φ gt fc f s0 gd items h = .ok b h2 → ∃ TR FIN, LcTr φ gt fc f s0 gd items h TR FIN ∧ AnyOk b h2 TR FIN
  | [], h, e => by
    unfold anyGo at e
    obtain ⟨hk, e⟩ := ite_eq_ok e
    cases e
    exact ⟨[], some _, .done hk, ⟨fun pre y h' rest z => absurd z (by simp), fun h' z => (by cases z; exact ⟨rfl, rfl⟩), .inr rfl⟩⟩
  | x :: r, h, e => by
    unfold anyGo at e
    obtain ⟨hk, e⟩ := ite_eq_ok e
    cases hg : gt x s0 h with
    | none => rw [hg] at e; cases e
    | some s1 =>
      rw [hg] at e
      simp only at e
      obtain ⟨bv, hb, eb, e1⟩ := bind_eq_ok e
      obtain ⟨bb, rfl, e2⟩ := tst_eq_ok e1
      cases bb with
      | false =>
        rw [if_neg Bool.false_ne_true] at e2
        obtain ⟨TR, FIN, t, ok⟩ := any_tr r hb e2
        exact ⟨TR, FIN, .skip hk hg eb t, ok⟩
      | true =>
        rw [if_pos rfl] at e2
        obtain ⟨y, hy2, ey, e3⟩ := bind_eq_ok e2
        obtain ⟨cc, rfl, e4⟩ := tst_eq_ok e3
        cases cc with
        | true =>
          rw [if_pos rfl] at e4
          cases e4
          refine ⟨[(.bl true, _)], none, .stop hk hg eb ey, ⟨fun pre y h' rest z => .inr ?_, fun h' z => (by cases z), .inl (by simp)⟩⟩
          cases pre with
          | nil =>
            simp at z
            exact ⟨z.1.1.symm, rfl, z.1.2.symm⟩
          | cons p q =>
            have := congrArg List.length z
            simp at this
        | false =>
          rw [if_neg Bool.false_ne_true] at e4
          obtain ⟨TR, FIN, t, ok⟩ := any_tr r hy2 e4
          refine ⟨(.bl false, hy2) :: TR, FIN, .give hk hg eb ey t, ⟨fun pre y h' rest z => ?_, ok.fin, .inl (by simp)⟩⟩
          cases pre with
          | nil =>
            simp at z
            obtain ⟨⟨z1, z2⟩, z3⟩ := z
            subst z1 z2 z3
            exact .inl ⟨rfl, ok.ne⟩
          | cons p q =>
            simp at z
            exact ok.at_ q y h' rest z.2
/-- any's loop -/
theorem any_loop {b : Bool} {h2 : AH} {R : Result → Shared → Prop} (W : GW C X pins σ g0 TR FIN (fun _ _ => True) ga gi) (hr : X.A.depth + 1 < recursionLimit) (ok : AnyOk b h2 TR FIN)
    (hR : ∀ s' g' H', Inv X pins σ H' s' → Ext g0 g' → Rep C g' h2 H' → R (.ok (.ret (.bool b))) s') :
    ∀ (k j : Nat) (s : Shared), TR.length - j = k → W.At j s → codeAny (model X.prog X.w) X.A (.builtin "any.loop" ⟨[.ref ga], []⟩) R s := by
  intro k
  induction k with
  | zero =>
    intro j s hk hst
    refine codeAny_builtin F.entry_any_loop ?_
    rw [Around.under_plainId F.plain_any_loop _]
    show wpAny _ X.A.in1 (pyNext (.ref ga) >>= _) _ _ s
    refine wpAny_bind (W.next1 hr hst (fun v s' hG => ?_) (fun s' hE hj => ?_))
    · obtain ⟨H', g', h', PN, cvs, pre, rest, y, cv, hT, hp, _⟩ := hG.ex
      have := congrArg List.length hT
      simp at this
      omega
    · obtain ⟨H', g', h', PN, cvs, hF, I, e, r, rl, hC⟩ := hE.ex
      obtain ⟨rfl, rfl⟩ := ok.fin _ hF
      exact wpAny_bind (wpAny_rule (wpAny_pure (hR s' g' H' (W.back I (fun _ _ e => e) rfl I.bare) e r)))
  | succ k ih =>
    intro j s hk hst
    refine codeAny_builtin F.entry_any_loop ?_
    rw [Around.under_plainId F.plain_any_loop _]
    show wpAny _ X.A.in1 (pyNext (.ref ga) >>= _) _ _ s
    refine wpAny_bind (W.next1 hr hst (fun v s' hG => ?_) (fun s' hE hj => by omega))
    obtain ⟨H', g', h', PN, cvs, pre, rest, y, cv, hT, hp, hcl, I, e, r, rl, hC, rv, ra, hgi, kk⟩ := hG.ex
    rcases ok.at_ pre y h' rest hT with ⟨rfl, hm⟩ | ⟨rfl, rfl, rfl⟩
    · have e1 : cv = .bl false := ra
      subst e1
      have e2 : v = .bool false := rv
      subst e2
      refine wpAny_bind (wpAny_holding (wpAny_truthy_bool ?_))
      refine wpAny_bind (wpAny_letGo ?_)
      simp only [Bool.false_eq_true, if_false]
      exact wpAny_pure ⟨plainId_quiet F.plain_any_loop _, ih (j + 1) _ (by omega) (kk hm s' PN I ⟨hC.1, hC.2.1, trivial⟩ (fun _ _ _ e => e) rfl)⟩
    · have e1 : cv = .bl true := ra
      subst e1
      have e2 : v = .bool true := rv
      subst e2
      refine wpAny_bind (wpAny_holding (wpAny_truthy_bool ?_))
      refine wpAny_bind (wpAny_letGo ?_)
      simp only [if_true]
      exact wpAny_bind (wpAny_rule (wpAny_pure (hR s' g' H' (W.back I (fun _ _ e => e) rfl I.bare) e r)))
end
section
variable {C : Cfg} {φ : Fn} {X : Cx}
/-- the parts of a generator expression -/
structure GnP (C : Cfg) (φ : Fn) (X : Cx) (elt tg iter : Expr) (ifs : List Expr) (scope : Scope) (own : List (Str × Nat)) (sl : List Nat) (fi : IF_) (gt : TF) (fc f : EF) : Prop where
  hi : SI C φ X tg iter fi
  ok : L2.BlkOk X.N X.env.scope scope own
  hco : scope.isCoroutine = false
  hcell : ∀ y ∈ scope.names, y.2 ≠ .cell
  h0 : scope.names.lookup (".0" : Str) = some NameKind.local
  hg : ∀ (s : Shared) (H : Hp) (code : Value) (fp : List Addr), ST C (genCx X s H scope code fp) tg sl gt
  ht : ∀ (s : Shared) (H : Hp) (code : Value) (fp : List Addr), PTs (genCx X s H scope code fp) ifs (tB C φ fc N0)
  he : ∀ (s : Shared) (H : Hp) (code : Value) (fp : List Addr), SE C φ (genCx X s H scope code fp) elt f
  hs : ∀ v, genFold iter X.env v = pure v
  hsl : ∀ j ∈ sl, j ∈ own.map (·.2)
variable {elt tg iter : Expr} {ifs : List Expr} {scope : Scope} {own : List (Str × Nat)} {sl : List Nat} {fi : IF_} {gt : TF} {fc f : EF} {p gpos pos : Pos} {k : Nat}
theorem se_any (A : At C X) (hr : Room (k + 2) X.A) (G : GenM C X) (hg : L2.Gl X "any") (hm : X.mg "any" = none) (P : GnP C φ X elt tg iter ifs scope own sl fi gt fc f) :
    SE C φ X (.Call (.Name "any" p) [.GeneratorExp elt [⟨tg, iter, ifs, 0⟩] scope gpos] [] pos) (eAny (own.map (·.2)) fi gt fc f) := by
  have he : starEach [.GeneratorExp elt [⟨tg, iter, ifs, 0⟩] scope gpos] X.env = (false, eval (.GeneratorExp elt [⟨tg, iter, ifs, 0⟩] scope gpos) X.env) :: starEach [] X.env := rfl
  refine ⟨fun N tk => ⟨fun pins s σ H Q I ⟨g, st, h, r, rs, ok⟩ => ?_⟩⟩
  refine wpAny_Call_Name_kw (L2.ld_blt I hg hm boot_any ?_)
  refine PyProof.Rows.callWith_builtin1 ?_ he (by rfl)
  rw [he]
  show wpAny _ _ (spliced ((false, eval (.GeneratorExp elt [⟨tg, iter, ifs, 0⟩] scope gpos) X.env) :: backTo pos (starEach [] X.env))) _ _ s
  refine Calls.spliced_cons (gen_mk G hr P.hi tk P.ok P.hco P.hcell P.h0 P.hs I r rs ?_)
  unfold eAny at ok
  cases z : fi φ st h with
  | exc c h1 => rw [z] at ok; exact ok
  | stuck => rw [z] at ok; exact ok
  | ok p h1 =>
    rw [z] at ok
    simp only [bind_ok] at ok
    intro g' H' e1 r1 ga s5 hG
    obtain ⟨b, h2, e2, ok2⟩ := quiet_bind ok
    obtain ⟨TR, FIN, hLc, hAn⟩ := any_tr p.1 h1 e2
    obtain ⟨g1, gi, e3, W, o, H4, hgen, _, hisg, hfo, I5, r5, hSt⟩ := gw_start (USER := fun _ _ => True) A.calm A.nd P.ok P.hcell P.hco P.hsl rs (fun s H code fp => (P.hg s H code fp).run) P.ht (fun s H code fp => (P.he s H code fp).run N0 takesN0) hLc hG
    have hAt := hSt s5 [(ga, o)] I5 ⟨⟨o, by simp, hisg⟩, fun p hp => (by
      have e : p = (ga, o) := by simpa using hp
      subst e
      exact fun z => (hfo _ z).1 rfl), trivial⟩ (fun _ _ _ e => e) rfl
    refine Calls.spliced_nil ?_
    have hroom : X.A.depth + 1 < recursionLimit := by have := hr.dp; omega
    refine call_function_tree F.kind_any F.plain_any F.entry_any (F.args_any1 _) ?_
    unfold Builtin.«any»
    refine wpAny_bind (m := oneArg "any" _) (wpAny_pure ?_)
    refine wpAny_bind (wpAny_pyIter_gen hgen ?_)
    refine wpAny_pure ⟨plainId_quiet F.plain_any_loop _, any_loop W hroom hAn (fun s' g9 H9 I9 e9 r9 => ?_) _ 0 s5 rfl hAt⟩
    exact ⟨.bl b, H9, I9, rfl, ok2 g9 H9 (e3.trans e9) r9 _ rfl⟩
end
end TX
namespace TX
open PySem PySem.Spec PyProof.Rows
open L2 (V HO Hp Key upd upd_same upd_ne SqL SqT Rd HOk Cx Inv PE PT PTs PW PS PSs PG PGs PI PA TE TT TA TS TG TGs TI It VK XK WX Takes Ends EP SP TP OpR tOp CallR tCB tCons tNil Sp Room FnOk thn thnF Vals)
section
variable {C : Cfg} {φ : Fn} {X : Cx} {pins : List (Addr × Obj)} {σ : L2.St} {g0 : Gh} {TR : List (AV × AH)} {FIN : Option AH} {ga gi : Nat}
def lsObj (acc : Array Value) (c : Nat) : Obj := { cls := .type "list", dict := none, data := .seq acc c, slots := #[] }
/-- S holds f of what has come -/
def holdsAt (S : Addr) (F : List V → Obj → Prop) : List V → List (Addr × Obj) → Prop := fun cvs PN => ∃ o, (S, o) ∈ PN ∧ F cvs o
/-- the user's object written -/
theorem inv_put {Y : Cx} {σ0 : L2.St} {H' : Hp} {s : Shared} {h' : Heap} {t' : Nat} {S : Addr} {o o' oS : Obj} (I : Inv Y [(ga, o), (S, oS)] σ0 H' s) (hg : S ≠ ga) (hS0 : Y.s_0.heap.objs.size ≤ S) (hpn : Y.pn = []) (hcl : ∀ x c, Y.env.cells.lookup x = some c → c ≠ S)
    (k : ∀ b o, b ≠ S → s.heap.get? b = some o → h'.get? b = some o) (hS : h'.get? S = some o') (hd : ∀ v, o'.data ≠ .cell v) : Inv Y [(ga, o), (S, o')] σ0 H' { s with heap := h', toks := t' } := by
  obtain ⟨a1, a2, a3, a4, a5⟩ := I.pin (S, oS) (List.mem_append_right _ (by simp))
  have I1 : Inv Y [(ga, o)] σ0 H' s := I.pins_of fun p hp => I.pin p (List.mem_append_right _ (by
    have e : p = (ga, o) := by simpa using hp
    rw [e]; simp))
  have I2 : Inv Y [(ga, o)] σ0 H' { s with heap := h', toks := t' } := I1.turned k a2 a3 (.inr hS0) hcl fun p hp => by
    rw [hpn] at hp
    have e : p = (ga, o) := by simpa using hp
    rw [e]
    exact Ne.symm hg
  refine I2.pins_of fun p hp => ?_
  rcases List.mem_cons.mp hp with e | hp
  · subst e
    exact I2.pin _ (List.mem_append_right _ (by simp))
  · have e : p = (S, o') := by simpa using hp
    subst e
    exact ⟨hS, a2, a3, a4, hd⟩
/-- a new object pinned -/
theorem inv_pin {Y : Cx} {σ0 : L2.St} {H' : Hp} {s : Shared} {o oS : Obj} {t' : Nat} (I : Inv Y [(ga, o)] σ0 H' s) (hd : ∀ v, oS.data ≠ .cell v) (hst : oS.isFreed = false) : Inv Y [(ga, o), (s.heap.objs.size, oS)] σ0 H' { s with heap := s.heap.push oS, toks := t' } := by
  have I2 : Inv Y [(ga, o)] σ0 H' { s with heap := s.heap.push oS, toks := t' } := I.kept fun b u e => Heap.get?_push_of_some _ e
  refine I2.pins_of fun p hp => ?_
  rcases List.mem_cons.mp hp with e | hp
  · subst e
    exact I2.pin _ (List.mem_append_right _ (by simp))
  · have e : p = (s.heap.objs.size, oS) := by simpa using hp
    subst e
    exact ⟨Heap.get?_push_size _ hst, I.hok.fresh (Nat.le_refl _), Nat.ne_of_gt I.lt, fun z => I.nofs (Nat.le_refl _) z, hd⟩

theorem pins2 {p : Addr × Obj} {a b : Addr} {o o' : Obj} (h : p ∈ [(a, o), (b, o')]) : p.1 = a ∨ p.1 = b := by
  rcases List.mem_cons.mp h with e | h
  · exact .inl (by rw [e])
  · exact .inr (by rw [List.mem_singleton.mp h])
def FList (cvs : List V) (o : Obj) : Prop := ∃ acc c, o = lsObj acc c ∧ Vals cvs acc.toList
theorem Vals.push {cvs : List V} {acc : Array Value} {cv : V} {v : Value} (h : Vals cvs acc.toList) (r : L2.RelV cv v) : Vals (cvs ++ [cv]) (acc.push v).toList := by
  rw [Array.toList_push]
  exact Paired.snoc h r
/-- what stands when a list has been filled -/
structure Filled (C : Cfg) (X : Cx) (pins : List (Addr × Obj)) (σ : L2.St) (g0 : Gh) (TR : List (AV × AH)) (FIN : Option AH) (S : Addr) (s' : Shared) : Prop where
  ex : ∃ H' g' h' cvs acc c, FIN = some h' ∧ Inv X pins σ H' s' ∧ Ext g0 g' ∧ Rep C g' h' H' ∧ RelL C g' (TR.map (·.1)) cvs ∧ s'.heap.get? S = some (lsObj acc c) ∧ Vals cvs acc.toList ∧ acc.size = TR.length
theorem extend_loop {S : Addr} {A' : Around} {res : Value} {R : Result → Shared → Prop} (W : GW C X pins σ g0 TR FIN (holdsAt S FList) ga gi) (hr : X.A.depth + 1 < recursionLimit) (hz : TR.length ≤ sizeLine) (hSg : S ≠ ga) (hS0 : W.s4.heap.objs.size ≤ S)
    (nx : ∀ (t : Sem (Option Value)) (Q : Option Value → Shared → Prop) (E : Value → Shared → Prop) (s : Shared), wpAny (model X.prog X.w) X.A.in4 t Q E s → wpAny (model X.prog X.w) A'.in1 t Q E s)
    (hcl : ∀ x c, W.Y.env.cells.lookup x = some c → c ≠ S) (hFe : ∀ b ∈ W.fp, b ≠ S) (hFg : ∀ b ∈ W.fp, b ≠ ga) (hpn : W.Y.pn = []) (hsome : FIN.isSome = true)
    (hR : ∀ s', Filled C X pins σ g0 TR FIN S s' → R (.ok (.ret res)) s') :
    ∀ (k j : Nat) (s : Shared), TR.length - j = k → W.At j s → codeAny (model X.prog X.w) A' (.builtin "list.extend.loop" ⟨[.ref S, .ref ga, res], []⟩) R s := by
  intro k
  induction k with
  | zero =>
    intro j s hk hst
    refine codeAny_builtin F.entry_extend_loop ?_
    rw [Around.under_plainId F.plain_extend_loop _]
    show wpAny _ A'.in1 (pyNext (.ref ga) >>= _) _ _ s
    refine wpAny_bind (nx _ _ _ _ (W.next hr hst (fun v s' hG => ?_) (fun s' hE hj => ?_)))
    · obtain ⟨H', g', h', PN, cvs, pre, rest, y, cv, hT, hp, _⟩ := hG.ex
      have := congrArg List.length hT
      simp at this
      omega
    · obtain ⟨H', g', h', PN, cvs, hF, I, e, r, rl, hC⟩ := hE.ex
      obtain ⟨oS, hmS, acc, c, rfl, hv⟩ := hC.2.2
      refine wpAny_pure (hR s' ⟨H', g', h', cvs, acc, c, hF, W.back I (fun _ _ e => e) rfl I.bare, e, r, rl, (I.pin _ (List.mem_append_right _ hmS)).1, hv, ?_⟩)
      have h1 : cvs.length = acc.size := by simpa using hv.length
      have h2 := rl.len
      rw [List.length_map] at h2
      omega
  | succ k ih =>
    intro j s hk hst
    refine codeAny_builtin F.entry_extend_loop ?_
    rw [Around.under_plainId F.plain_extend_loop _]
    show wpAny _ A'.in1 (pyNext (.ref ga) >>= _) _ _ s
    refine wpAny_bind (nx _ _ _ _ (W.next hr hst (fun v s' hG => ?_) (fun s' hE hj => by omega)))
    obtain ⟨H', g', h', PN, cvs, pre, rest, y, cv, hT, hp, hcl', I, e, r, rl, hC, rv, ra, hgi, kk⟩ := hG.ex
    obtain ⟨oS, hmS, acc, c, rfl, hv⟩ := hC.2.2
    obtain ⟨⟨o, hmo, hiso⟩, _⟩ := hC
    have hTl : TR.length = pre.length + (rest.length + 1) := by rw [hT]; simp
    have hasz : acc.size = j := by
      have h1 : cvs.length = acc.size := by simpa using hv.length
      omega
    have hS1 := (I.pin _ (List.mem_append_right _ hmS)).1
    have I2 : Inv W.Y [(ga, o), (S, lsObj acc c)] W.σ0 H' s' := I.pins_of fun p hp => by
      rcases List.mem_cons.mp hp with e | hp
      · subst e
        exact I.pin _ (List.mem_append_right _ hmo)
      · have e : p = (S, lsObj acc c) := by simpa using hp
        subst e
        exact I.pin _ (List.mem_append_right _ hmS)
    show wpAny _ A'.in1 (updateSeq S (·.push v) >>= _) _ _ _
    refine wpAny_bind ?_
    refine wpAny_updateSeq hS1 rfl (wpAny_pure ⟨plainId_quiet F.plain_extend_loop _, ih (j + 1) _ (by omega) ?_⟩) (by omega) (by show (acc.push v).size ≤ sizeLine + 1; rw [Array.size_push]; omega)
    have oth : ∀ b o, b ≠ S → s'.heap.get? b = some o → (s'.heap.update S (Obj.mapSeq (·.push v))).get? b = some o := fun b o hb e => (Heap.get?_update_other _ _ (Ne.symm hb)).trans e
    have hS2 := Heap.get?_update_self (Obj.mapSeq (·.push v)) hS1 rfl
    have I3 := inv_put (t' := s'.toks) I2 hSg (by rw [W.s0]; exact hS0) hpn hcl oth hS2 (fun v z => by cases z)
    exact kk (.inr hsome) _ [(ga, o), (S, _)] I3 ⟨⟨o, by simp, hiso⟩, fun p hp z => (pins2 hp).elim (fun q => hFg _ z q) (fun q => hFe _ z q), ⟨_, List.mem_cons_of_mem _ (List.mem_singleton.mpr rfl), _, _, rfl, Vals.push hv rv⟩⟩ (fun b hb o e => oth b o (hFe b hb) e) rfl
/-- what a generator just made is ready for -/
structure Ready {S : Addr} (W : GW C X pins σ g0 TR FIN (holdsAt S FList) ga gi) (o : Obj) (H4 : Hp) (s5 : Shared) : Prop where
  gen : s5.heap.IsGen ga gi
  lt : ga < s5.heap.objs.size
  is : ∀ s : Shared, s.heap.get? ga = some o → s.heap.IsGen ga gi
  fp : ∀ b ∈ W.fp, b ≠ ga ∧ b < s5.heap.objs.size
  inv : Inv W.Y [(ga, o)] W.σ0 H4 s5
  pn : W.Y.pn = []
  go : ∀ s6 PN6, Inv W.Y PN6 W.σ0 H4 s6 → W.CONS [] PN6 → (∀ b ∈ W.fp, ∀ o, s5.heap.get? b = some o → s6.heap.get? b = some o) → s6.gens = s5.gens → W.At 0 s6
  s4 : W.s4.heap.objs.size ≤ s5.heap.objs.size
/-- filling the list at S from the generator -/
theorem extend_gw {B : Around} {res : Value} {S : Addr} {R : Result → Shared → Prop} {Qf : PySem.Fin → Shared → Prop} {E : Value → Shared → Prop} {s5 : Shared} {o : Obj} {H4 : Hp} {h' : Heap} {n t' : Nat} (W : GW C X pins σ g0 TR FIN (holdsAt S FList) ga gi) (hr : X.A.depth + 1 < recursionLimit) (hz : TR.length ≤ sizeLine) (hsome : FIN.isSome = true) (Rd : Ready W o H4 s5)
    (nx : ∀ (t : Sem (Option Value)) (Q : Option Value → Shared → Prop) (E : Value → Shared → Prop) (s : Shared), wpAny (model X.prog X.w) X.A.in4 t Q E s → wpAny (model X.prog X.w) B.in1 t Q E s)
    (hSS : S = s5.heap.objs.size) (hs : h'.get? S = some (lsObj #[] n)) (hk : ∀ b u, s5.heap.get? b = some u → h'.get? b = some u)
    (hQ : ∀ s', codeAny (model X.prog X.w) B (.builtin "list.extend.loop" ⟨[.ref S, .ref ga, res], []⟩) R s' → Qf (.again (.builtin "list.extend.loop" ⟨[.ref S, .ref ga, res], []⟩)) s')
    (hR : ∀ s', Filled C X pins σ g0 TR FIN S s' → R (.ok (.ret res)) s') :
    wpAny (model X.prog X.w) B.in1 (Builtin.List.listExtendWith (.ref S) (.ref ga) res) Qf E { s5 with heap := h', toks := t' } := by
  have hSg : S ≠ ga := by rw [hSS]; exact Nat.ne_of_gt Rd.lt
  have hsz : s5.heap.objs.size ≤ S := by rw [hSS]; exact Nat.le_refl _
  have tyG : ∀ {h : Heap}, (∀ b u, s5.heap.get? b = some u → h.get? b = some u) → h.IsGen ga gi := fun {h} q => Rd.gen.keeps q
  unfold Builtin.List.listExtendWith
  refine wpAny_bind (wpAny_typeOf (Heap.IsGen.typeIs (s := { s5 with heap := _, toks := _ }) (tyG hk)) ?_)
  have h1 : Builtin.List.listSameRef (.ref S) (.ref ga) = false := by simp [Builtin.List.listSameRef, hSg]
  have h2 : (Value.type "generator" == Value.type "list") = false := by decide
  have h3 : (Value.type "generator" == Value.type "tuple") = false := by decide
  simp only [h1, h2, h3, Bool.or_false, Bool.false_eq_true, if_false]
  refine wpAny_bind (wpAny_pyIter_gen (s := { s5 with heap := _, toks := _ }) (tyG hk) ?_)
  refine wpAny_bind (wpAny_holding ?_)
  unfold Builtin.List.listLengthHint
  refine wpAny_bind (wpAny_specialOf (Heap.IsGen.typeIs (s := { s5 with heap := _, toks := _ }) (tyG hk)) F.gen_no_len ?_)
  show wpAny _ B.in1 (specialOf (Value.ref ga) (Str.ofString "__length_hint__") >>= _) _ _ _
  refine wpAny_bind (wpAny_specialOf (Heap.IsGen.typeIs (s := { s5 with heap := _, toks := _ }) (tyG hk)) F.gen_no_hint ?_)
  refine wpAny_pure ?_
  show wpAny _ B.in1 (rule "list.extend.makes-room" >>= fun _ => Builtin.List.listTouch (.ref S) >>= fun _ =>
    again (.builtin "list.extend.loop" ⟨[.ref S, .ref ga, res], []⟩)) _ _ _
  refine wpAny_bind (wpAny_rule ?_)
  refine wpAny_bind ?_
  show wpAny _ B.in1 (updateSeq S (·.push .none) >>= fun _ => updateSeq S (·.pop)) _ _ _
  refine wpAny_bind (wpAny_updateSeq hs rfl ?_)
  have hS3 := Heap.get?_update_self (Obj.mapSeq (·.push Value.none)) hs rfl
  refine wpAny_updateSeq (hz := by seq_fits) hS3 rfl ?_
  have hS4 := Heap.get?_update_self (Obj.mapSeq (·.pop)) hS3 rfl
  have oth : ∀ b u, s5.heap.get? b = some u → ((h'.update S (Obj.mapSeq (·.push Value.none))).update S (Obj.mapSeq (·.pop))).get? b = some u := fun b u e => by
    have hne : S ≠ b := fun z => by
      have := Heap.lt_size e
      rw [← z] at this
      exact absurd (Nat.lt_of_lt_of_le this hsz) (Nat.lt_irrefl _)
    exact (Heap.get?_update_other _ _ hne).trans ((Heap.get?_update_other _ _ hne).trans (hk b u e))
  have I6 : Inv W.Y [(ga, o)] W.σ0 H4 { s5 with heap := (h'.update S (Obj.mapSeq (·.push Value.none))).update S (Obj.mapSeq (·.pop)), toks := t' } := Rd.inv.kept oth
  have hY : W.Y.s_0.heap.objs.size ≤ S := by rw [W.s0]; exact Nat.le_trans Rd.s4 hsz
  have hclS : ∀ x c, W.Y.env.cells.lookup x = some c → c ≠ S := fun x c e z => by
    obtain ⟨v, q⟩ := Rd.inv.cell x c e
    exact absurd (Nat.lt_of_lt_of_le q.lt (by rw [z]; exact hsz)) (Nat.lt_irrefl _)
  have I7 : Inv W.Y [(ga, o), (S, lsObj #[] (n + 1 + 1))] W.σ0 H4 { s5 with heap := (h'.update S (Obj.mapSeq (·.push Value.none))).update S (Obj.mapSeq (·.pop)), toks := t' } := I6.pins_of fun p hp => by
    rcases List.mem_cons.mp hp with e | hp
    · subst e
      exact I6.pin _ (List.mem_append_right _ (by simp))
    · have e : p = (S, lsObj #[] (n + 1 + 1)) := by simpa using hp
      subst e
      exact ⟨hS4, Rd.inv.hok.fresh hsz, Nat.ne_of_gt (Nat.lt_of_lt_of_le Rd.inv.lt hsz), fun z => Rd.inv.nofs hsz z, fun v z => by cases z⟩
  refine wpAny_pure (hQ _ ?_)
  refine extend_loop W hr hz hSg (by exact Nat.le_trans Rd.s4 hsz) nx hclS (fun b hb z => absurd (Rd.fp b hb).2 (by rw [z]; exact Nat.not_lt.mpr hsz)) (fun b hb => (Rd.fp b hb).1) Rd.pn hsome hR _ 0 _ rfl ?_
  refine Rd.go _ _ I7 ⟨⟨o, by simp, Rd.is⟩, fun p hp z => (pins2 hp).elim (fun q => (Rd.fp _ z).1 q) (fun q => absurd (Rd.fp _ z).2 (by rw [q]; exact Nat.not_lt.mpr hsz)), ⟨_, List.mem_cons_of_mem _ (List.mem_singleton.mpr rfl), _, _, rfl, .nil⟩⟩ (fun b hb o e => oth b o e) rfl
theorem collect_gw {B : Around} {Q : List Value → Shared → Prop} {E : Value → Shared → Prop} {s5 : Shared} {o : Obj} {H4 : Hp} (W : GW C X pins σ g0 TR FIN (holdsAt s5.heap.objs.size FList) ga gi) (hr : X.A.depth + 1 < recursionLimit) (hz : TR.length ≤ sizeLine) (hsome : FIN.isSome = true) (Rd : Ready W o H4 s5)
    (nx : ∀ (t : Sem (Option Value)) (Q : Option Value → Shared → Prop) (E : Value → Shared → Prop) (s : Shared), wpAny (model X.prog X.w) X.A.in4 t Q E s → wpAny (model X.prog X.w) B.in1 t Q E s)
    (hQ : ∀ s' H' g' h' cvs acc, FIN = some h' → Inv X pins σ H' s' → Ext g0 g' → Rep C g' h' H' → RelL C g' (TR.map (·.1)) cvs → Vals cvs acc → acc.length = TR.length → Q acc s') : wpAny (model X.prog X.w) B (collect (.ref ga)) Q E s5 := by
  unfold collect
  refine wpAny_bind (wpAny_runValue (codeAny_builtin F.entry_proto_collect ?_))
  rw [Around.under_plainId F.plain_proto_collect _]
  show wpAny _ B.in1 (newList [] >>= fun l => again (.builtin "list.__iadd__" ⟨[l, .ref ga], []⟩)) _ _ s5
  refine wpAny_bind (wpAny_newObj_type ?_)
  refine wpAny_pure ⟨plainId_quiet F.plain_list_iadd _, codeAny_builtin F.entry_list_iadd ?_⟩
  rw [Around.under_plainId F.plain_list_iadd _]
  show wpAny _ B.in1 (Builtin.List.listExtendWith (.ref s5.heap.objs.size) (.ref ga) (.ref s5.heap.objs.size)) _ _ _
  refine extend_gw (t' := s5.toks) (n := 0) W hr hz hsome Rd nx rfl (Heap.get?_push_size _ rfl) (fun b u e => Heap.get?_push_of_some _ e) (fun s' hc => ⟨plainId_quiet F.plain_extend_loop _, hc⟩) fun s' hF => ?_
  obtain ⟨H', g', h', cvs, acc, c, h1, h2, h3, h4, h5, h6, h7, h8⟩ := hF.ex
  show wpAny _ B (load s5.heap.objs.size >>= _) _ _ s'
  refine wpAny_bind (wpAny_load h6 ?_)
  exact wpAny_pure (hQ s' H' g' h' cvs acc.toList h1 h2 h3 h4 h5 h7 (by simpa using h8))
/-- tuple(generator) -/
theorem call_tuple_gw {Q : Value → Shared → Prop} {E : Value → Shared → Prop} {s5 : Shared} {o : Obj} {H4 : Hp} (W : GW C X pins σ g0 TR FIN (holdsAt s5.heap.objs.size FList) ga gi) (hr : X.A.depth + 1 < recursionLimit) (hz : TR.length ≤ sizeLine) (hsome : FIN.isSome = true) (Rd : Ready W o H4 s5)
    (hQ : ∀ s' H' g' h' cvs acc, FIN = some h' → Inv X pins σ H' s' → Ext g0 g' → Rep C g' h' H' → RelL C g' (TR.map (·.1)) cvs → Vals cvs acc → acc.length = TR.length → Q (.ref s'.heap.objs.size) { s' with heap := s'.heap.push { cls := .type "tuple", data := .seq acc.toArray } }) :
    wpAny (model X.prog X.w) X.A (call (.type "tuple") [.ref ga]) Q E s5 := by
  refine callType_codes (Q₁ := fun obj s₁ => s₁.TypeIs obj "tuple" ∧ Q obj s₁) F.called_tuple (F.typeCall_tuple_1 _) F.entry_object_init ?_ fun obj s₁ h₁ => ?_
  · refine codeAny_of_tree ?_
    show wpAny _ X.A.in1.in1 (do checkBuiltinCall "tuple.__new__" ⟨[.type "tuple", .ref ga], []⟩; again (.builtin "tuple.__new__" ⟨[.type "tuple", .ref ga], []⟩)) _ _ s5
    refine wpAny_bind (wpAny_of_eq (F.newCall_tuple_1 _) (wpAny_pure ⟨plainId_quiet F.plain_tuple_new _, codeAny_builtin F.entry_tuple_new ?_⟩))
    rw [Around.under_plainId F.plain_tuple_new _]
    have hsub := sub_tuple_self
    have hinit := init_tuple_lookup
    have hmh := madeHere_tuple
    have hTI : s5.TypeIs (.ref ga) "generator" := Rd.gen.typeIs
    wp_walk using wpAny_typeOf hTI, collect_gw W hr hz hsome Rd (fun t Q E s h => wpAny_of_in1 (A := X.A.in1.in1.in1) h)
    intro s' H' g' h' cvs acc a1 a2 a3 a4 a5 a6 a7
    show wpAny _ _ (Builtin.Tuple.tupleExact acc.toArray >>= fun v => ret v) _ _ _
    unfold Builtin.Tuple.tupleExact
    refine wpAny_bind (wpAny_newObj_type ?_ (by show acc.toArray.size ≤ sizeLine; simp only [List.size_toArray]; rw [a7]; exact hz))
    exact wpAny_pure ⟨⟨_, Heap.get?_push_size _ rfl, rfl⟩, hQ s' H' g' h' cvs acc a1 a2 a3 a4 a5 a6 a7⟩
  · exact ⟨h₁.1, F.args_object_init_2 obj _, object_init_meets F.called_tuple.init.lookup F.called_tuple.made (by decide) X.prog X.w X.A.in1 _ s₁ ⟨h₁.1, rfl, h₁.2⟩⟩
/-- sorted(generator) -/
theorem call_sorted_gw {Q : Value → Shared → Prop} {E : Value → Shared → Prop} {s5 : Shared} {o : Obj} {H4 : Hp} (W : GW C X pins σ g0 TR FIN (holdsAt s5.heap.objs.size FList) ga gi) (hr : X.A.depth + 1 < recursionLimit) (hz : TR.length ≤ sizeLine) (hsome : FIN.isSome = true) (Rd : Ready W o H4 s5)
    (hQ : ∀ s' H' g' h' cvs vs, FIN = some h' → Inv X pins σ H' s' → Ext g0 g' → Rep C g' h' H' → RelL C g' (TR.map (·.1)) cvs → Vals cvs vs → vs.length = TR.length →
      ∀ (h₁ : Heap) (a : Addr), h₁.get? a = some (seqObj "list" vs.toArray 0) → s'.heap.objs.size ≤ a → (∀ b o, s'.heap.get? b = some o → h₁.get? b = some o) → ∀ (R : PySem.Fin → Shared → Prop) (E : Value → Shared → Prop), (∀ s2, Q (.ref a) s2 → R (.done (.ret .none)) s2) →
        wpAny (model X.prog X.w) X.A.in1.in1 (Builtin.«list.sort» ⟨[.ref a], []⟩) R E { s' with heap := h₁ }) :
    wpAny (model X.prog X.w) X.A (call (.builtin "sorted") [.ref ga]) Q E s5 := by
  refine Calls.call_function_entry kind_sorted plain_sorted entry_sorted (args_sorted1 _) ?_
  unfold Builtin.«sorted»
  refine wpAny_bind (m := checkCount "sorted" 1 1 _) (wpAny_pure ?_)
  refine wpAny_bind (collect_gw W hr hz hsome Rd (fun t Q E s h => wpAny_of_in1 (A := X.A.in1.in1) (wpAny_of_in1 (A := X.A.in1.in1.in1) h)) fun s' H' g' h' cvs vs a1 a2 a3 a4 a5 a6 a7 => ?_)
  have hzv : vs.length ≤ sizeLine := by rw [a7]; exact hz
  refine wpAny_bind (wpAny_newList ?_ hzv)
  have hoL : (s'.heap.push (seqObj "list" vs.toArray 0)).get? s'.heap.objs.size = some (seqObj "list" vs.toArray 0) := Heap.get?_push_size _ rfl
  show wpAny _ _ _ _ _ { s' with heap := s'.heap.push (seqObj "list" vs.toArray 0) }
  refine wpAny_bind (wpAny_holding (wpAny_call_entry slot_list_sort ⟨_, hoL, rfl⟩ entry_list_sort (hQ s' H' g' h' cvs vs a1 a2 a3 a4 a5 a6 a7 _ _ hoL (Nat.le_refl _) (fun b o q => Heap.get?_push_of_some _ q) _ _ fun s2 hq => ⟨_, rfl, ?_⟩) (args_list_sort _)))
  exact wpAny_pure ⟨_, rfl, hq⟩
theorem lc_tr {gt : TF} {fc f : EF} {s0 : St} {gd : Gd} {h2 : AH} : ∀ (items : List AV) (h : AH) (ys : List AV), lcGo φ gt fc f s0 gd items h = .ok ys h2 → ∃ TR, LcTr φ gt fc f s0 gd items h TR (some h2) ∧ TR.map (·.1) = ys ∧ TR.length ≤ items.length
  | [], h, ys, e => by
    unfold lcGo at e
    obtain ⟨hk, e⟩ := ite_eq_ok e
    cases e
    exact ⟨[], .done hk, rfl, Nat.le_refl _⟩
  | x :: r, h, ys, e => by
    unfold lcGo at e
    obtain ⟨hk, e⟩ := ite_eq_ok e
    cases hg : gt x s0 h with
    | none => rw [hg] at e; cases e
    | some s1 =>
      rw [hg] at e
      simp only at e
      obtain ⟨bv, hb, eb, e1⟩ := bind_eq_ok e
      obtain ⟨bb, rfl, e2⟩ := tst_eq_ok e1
      cases bb with
      | false =>
        rw [if_neg Bool.false_ne_true] at e2
        obtain ⟨TR, t, e5, e6⟩ := lc_tr r hb _ e2
        exact ⟨TR, .skip hk hg eb t, e5, Nat.le_succ_of_le e6⟩
      | true =>
        rw [if_pos rfl] at e2
        obtain ⟨y, hy2, ey, e3⟩ := bind_eq_ok e2
        obtain ⟨ys', h3, er, e4⟩ := bind_eq_ok e3
        cases e4
        obtain ⟨TR, t, e5, e6⟩ := lc_tr r hy2 _ er
        exact ⟨(y, hy2) :: TR, .give hk hg eb ey t, by rw [List.map_cons, e5], Nat.succ_le_succ e6⟩
end
section
variable {C : Cfg} {φ : Fn} {X : Cx}
variable {elt tg iter : Expr} {ifs : List Expr} {scope : Scope} {own : List (Str × Nat)} {sl : List Nat} {fi : IF_} {gt : TF} {fc f : EF} {p gpos pos : Pos} {k : Nat}
theorem SZ_le : SZ ≤ sizeLine := by first | decide | (unfold SZ sizeLine; omega) | decide +kernel
/-- a generator expression, made, its run told -/
theorem gn_core {pins : List (Addr × Obj)} {σ : L2.St} {H : Hp} {s : Shared} {g : Gh} {st : St} {h : AH} {b : UB} {N : Nat → Hp → Prop} {Q : VK} {Q' : Value → Shared → Prop} (A : At C X) (hr : Room (k + 2) X.A) (G : GenM C X) (P : GnP C φ X elt tg iter ifs scope own sl fi gt fc f) (tk : Takes X (wX C N)) (I : Inv X pins σ H s) (r : Rep C g h H) (rs : RelS C g st σ)
    (ok : okG C g (eGen b (own.map (·.2)) fi gt fc f φ st h) (fun x g' _ H' => ∀ v, RelA C g' x v → Q v H') N)
    (hQ : ∀ s5 ga gi g0 TR h2 o H4 (W : GW C X pins σ g0 TR (some h2) (holdsAt s5.heap.objs.size FList) ga gi), Ext g g0 → Ready W o H4 s5 → TR.length ≤ sizeLine → okG C g (uL b (TR.map (·.1)) h2) (fun x g' _ H' => ∀ v, RelA C g' x v → Q v H') N → Q' (.ref ga) s5) :
    wpAny (model X.prog X.w) X.A (eval (.GeneratorExp elt [⟨tg, iter, ifs, 0⟩] scope gpos) X.env) Q' X.xe s := by
  refine gen_mk G hr P.hi tk P.ok P.hco P.hcell P.h0 P.hs I r rs ?_
  unfold eGen at ok
  cases z : fi φ st h with
  | exc c h1 => rw [z] at ok; exact ok
  | stuck => rw [z] at ok; exact ok
  | ok p h1 =>
    rw [z] at ok
    simp only [bind_ok] at ok
    intro g' H' e1 r1 ga s5 hG
    split at ok
    · rename_i hz
      obtain ⟨ys, h2, e2, ok2⟩ := quiet_bind ok
      obtain ⟨TR, hLc, rfl, hle⟩ := lc_tr p.1 h1 ys e2
      obtain ⟨g1, gi, e3, W, o, H4, hgen, hlt, hisg, hfo, I5, r5, hSt⟩ := gw_start (USER := holdsAt s5.heap.objs.size FList) A.calm A.nd P.ok P.hcell P.hco P.hsl rs (fun s H code fp => (P.hg s H code fp).run) P.ht (fun s H code fp => (P.he s H code fp).run N0 takesN0) hLc hG
      refine hQ s5 ga gi g1 TR h2 o H4 W e3 ⟨hgen, hlt, hisg, hfo, I5, W.hpn, hSt, ?_⟩ (Nat.le_trans hle (Nat.le_trans (Nat.le_of_lt hz) SZ_le)) ok2
      · exact Nat.le_of_lt (Nat.lt_trans W.big hlt)
    · exact ok.elim
/-- tuple(generator) -/
theorem se_genTuple (A : At C X) (hr : Room (k + 2) X.A) (G : GenM C X) (hg : L2.Gl X "tuple") (hm : X.mg "tuple" = none) (P : GnP C φ X elt tg iter ifs scope own sl fi gt fc f) :
    SE C φ X (.Call (.Name "tuple" p) [.GeneratorExp elt [⟨tg, iter, ifs, 0⟩] scope gpos] [] pos) (eGen .tuple (own.map (·.2)) fi gt fc f) := by
  have he : starEach [.GeneratorExp elt [⟨tg, iter, ifs, 0⟩] scope gpos] X.env = (false, eval (.GeneratorExp elt [⟨tg, iter, ifs, 0⟩] scope gpos) X.env) :: starEach [] X.env := rfl
  refine ⟨fun N tk => ⟨fun pins s σ H Q I ⟨g, st, h, r, rs, ok⟩ => ?_⟩⟩
  refine wpAny_Call_Name_kw (L2.ld_blt I hg hm boot_tuple ?_)
  refine PyProof.Rows.callWith_type1 ?_ he (by rfl)
  rw [he]
  show wpAny _ _ (spliced ((false, eval (.GeneratorExp elt [⟨tg, iter, ifs, 0⟩] scope gpos) X.env) :: backTo pos (starEach [] X.env))) _ _ s
  refine Calls.spliced_cons (gn_core (b := .tuple) A hr G P tk I r rs ok fun s5 ga gi g0 TR h2 o H4 W e0 Rd hz ok2 => ?_)
  refine Calls.spliced_nil ?_
  have hroom : X.A.depth + 1 < recursionLimit := by have := hr.dp; omega
  refine call_tuple_gw W hroom hz rfl Rd fun s' H' g' h' cvs acc h1 I' e' r' rl hv hl => ?_
  cases h1
  have hn := I'.hok.fresh (Nat.le_refl s'.heap.objs.size)
  refine ⟨.ref s'.heap.objs.size, upd H' s'.heap.objs.size (.tup cvs), I'.laid (t' := s'.toks) (fun b u e => Heap.get?_push_of_some _ e) (Nat.le_refl _) ⟨?_, acc, hv, ?_⟩, rfl, tup_at r' rl (okG.ext ok2 (e0.trans e')) _ hn⟩
  · rw [hv.length, hl]; exact hz
  · exact ⟨_, Heap.get?_push_size _ rfl, rfl, 0, rfl⟩
/-- the list sorted -/
theorem sort_done {pins : List (Addr × Obj)} {σ : L2.St} {H' : Hp} {s' : Shared} {g' : Gh} {h2 : AH} {m : Bool} {zs : List AV} {ws : List V} {vs : List Value} {out : Array Value} {h₁ : Heap} {a : Addr} {Q : VK} {N : Nat → Hp → Prop} (I' : Inv X pins σ H' s') (r' : Rep C g' h2 H') (ha : h₁.get? a = some (seqObj "list" vs.toArray 0)) (hsz : s'.heap.objs.size ≤ a) (hk : ∀ b o, s'.heap.get? b = some o → h₁.get? b = some o)
    (hl : ws.length ≤ sizeLine) (hv : Vals ws out.toList) (rl : RelL C g' zs ws) (ok : okG C g' (mk m zs h2) (fun x g' _ H' => ∀ v, RelA C g' x v → Q v H') N) :
    EP X pins σ Q (.ref a) { s' with heap := sortedHeap h₁ a vs out } := by
  obtain ⟨e, he⟩ := PyProof.Rows.sortedHeap_at (out := out) ha
  refine ⟨.ref a, upd H' a (.lst ws), I'.laid (t' := s'.toks) (fun b u q => ?_) hsz ⟨hl, out.toList, e, hv, he⟩, rfl, mk_at r' rl ok _ (I'.hok.fresh hsz)⟩
  have hlt := Heap.lt_size q
  rw [PyProof.Rows.sortedHeap_old (Nat.ne_of_lt (Nat.lt_of_lt_of_le hlt hsz)) (Nat.lt_of_lt_of_le hlt (Nat.le_of_lt (Nat.lt_of_le_of_lt hsz (Heap.lt_size ha))))]
  exact hk b u q
theorem paired_okS {R : Int × Int → V → Prop} {ts : List (Int × Int)} {xs : List V} (h : Paired R ts xs) : ts.length = xs.length := Paired.length h
/-- sorted(generator) -/
theorem se_genSorted (A : At C X) (m : Bool) (hr : Room (k + 2) X.A) (G : GenM C X) (hg : L2.Gl X "sorted") (hm : X.mg "sorted" = none) (P : GnP C φ X elt tg iter ifs scope own sl fi gt fc f) :
    SE C φ X (.Call (.Name "sorted" p) [.GeneratorExp elt [⟨tg, iter, ifs, 0⟩] scope gpos] [] pos) (eGen (.sorted m) (own.map (·.2)) fi gt fc f) := by
  have he : starEach [.GeneratorExp elt [⟨tg, iter, ifs, 0⟩] scope gpos] X.env = (false, eval (.GeneratorExp elt [⟨tg, iter, ifs, 0⟩] scope gpos) X.env) :: starEach [] X.env := rfl
  refine ⟨fun N tk => ⟨fun pins s σ H Q I ⟨g, st, h, r, rs, ok⟩ => ?_⟩⟩
  refine wpAny_Call_Name_kw (L2.ld_blt I hg hm boot_sorted ?_)
  refine PyProof.Rows.callWith_builtin1 ?_ he (by rfl)
  rw [he]
  show wpAny _ _ (spliced ((false, eval (.GeneratorExp elt [⟨tg, iter, ifs, 0⟩] scope gpos) X.env) :: backTo pos (starEach [] X.env))) _ _ s
  refine Calls.spliced_cons (gn_core (b := .sorted m) A hr G P tk I r rs ok fun s5 ga gi g0 TR h2 o H4 W e0 Rd hz ok2 => ?_)
  refine Calls.spliced_nil ?_
  have hroom : X.A.depth + 1 < recursionLimit := by have := hr.dp; omega
  refine call_sorted_gw W hroom hz rfl Rd fun s' H' g' h' cvs vs h1 I' e' r' rl hv hl h₁ a ha hsz hk R E hR => ?_
  cases h1
  have hzv : vs.length ≤ sizeLine := by rw [hl]; exact hz
  have ok3 := okG.ext ok2 (e0.trans e')
  simp only [uL] at ok3
  split at ok3
  · rename_i ys e
    unfold sortA at e
    split at e
    · rename_i ns en
      simp only [Option.some.injEq] at e
      rw [← e] at ok3
      rw [ints_rel rl en] at hv
      refine list_sort_treeAny ha hv.ints hzv fun out ns' q1 q2 q3 => ?_
      have ok4 := ok3
      rw [← sortI_of q2 q3] at ok4
      refine hR _ (sort_done (s' := s') (m := m) I' r' ha hsz hk ?_ (L2.vals_of_ints q1) (relL_ints _) ok4)
      rw [List.length_map, q2.length_eq]
      have := hv.length
      rw [List.length_map] at this
      omega
    · split at e
      · rename_i ss es
        split at e
        · rename_i hz64
          simp only [Option.some.injEq] at e
          rw [← e] at ok3
          have ev := strs_rel rl es
          have ev2 : cvs = (ss.map toS).map V.str := by rw [ev, List.map_map]; rfl
          rw [ev2] at hv
          have hS := hv.strs
          refine list_sort_treeKAny strKind_oneLt ha hS.keysOf (fun v₁ v₂ rest e => keyKind_strs (by rw [← e]; exact hS)) hzv fun st' hp hs => ?_
          obtain ⟨ss', q1, q2, q3⟩ := sorted_out_str hS hp hs
          refine hR _ (sort_done (s' := s') I' r' ha hsz hk ?_ (L2.vals_of_strs q1) (by rw [sortS_of q2 q3]; exact relL_strs _) ok3)
          rw [List.length_map, q2.length_eq]
          have := hv.length
          rw [List.length_map] at this
          omega
        · cases e
      · split at e
        · rename_i ts et
          simp only [Option.some.injEq] at e
          rw [← e] at ok3
          obtain ⟨_, hp⟩ := prs_rel rl et
          have hR0 : ∀ (p : Int × Int) v, (∃ t, v = V.ref t ∧ SqT C.K g'.fx t [.int p.1, .int p.2]) → IsPr X.K H' p v := fun p v ⟨t, e1, e2⟩ => ⟨t, e1, SqT.mono (fun b o q => (r'.fx b o q).1) (by rw [A.K]; exact e2)⟩
          obtain ⟨t1, t2⟩ := paired_two I' hR0 hp hv
          refine SrtO.list_sort_ord (SrtO.swo_lex (twoOf X.K H')) ha hzv (fun h2 => ?_) fun out o1 o2 => ?_
          · refine SrtO.pairs_sortableO (s := { s' with heap := h₁ }) (by omega) (fun v hm => ?_) fun o q => ?_
            · obtain ⟨_, t, e, hq⟩ := t2 v hm
              obtain ⟨js, rj, ⟨o, ho, hc, n, hdat⟩, _⟩ := I'.tuple hq
              obtain ⟨u1, u2, rfl, r1, r2⟩ := L2.vals2 rj
              obtain ⟨k1, rfl⟩ := r1
              obtain ⟨k2, rfl⟩ := r2
              exact ⟨t, o, k1, k2, n, e, hk _ _ ho, hc, hdat⟩
            · have e' : some o = some (seqObj "list" vs.toArray 0) := q.symm.trans ha
              cases e'
              intro c
              exact absurd (Value.type.inj c) (by decide)
          · have all : ∀ v ∈ out, (∃ t, L2.backV v = V.ref t ∧ SqT C.K g'.fx t [.int (twoOf X.K H' v).1, .int (twoOf X.K H' v).2]) ∧ ∃ t, v = Value.ref t := fun v hv => let ⟨z1, t, z2, _⟩ := t2 v (o2.perm.mem_iff.mp hv); ⟨z1, t, z2⟩
            obtain ⟨b1, b2⟩ := back_pairs (R := fun p v => ∃ t, v = V.ref t ∧ SqT C.K g'.fx t [.int p.1, .int p.2]) all
            refine hR _ (sort_done (s' := s') (m := m) (N := N) I' r' ha hsz hk ?_ (by rw [List.toList_toArray]; exact b2) (relL_prs b1) ?_)
            · rw [List.length_map, o2.perm.length_eq]
              exact hzv
            · have eo : out.map (twoOf X.K H') = isort plt ts := isort_of lin_pair (by rw [← t1]; exact o2.perm.map _) (List.pairwise_map.mpr (List.Pairwise.imp (fun {x y} z => (by rw [← plt_lexB]; exact z)) o1))
              rw [eo]
              exact ok3
        · cases e
  · exact ok3.elim
end
end TX

/-! TxU: sum of a generator expression -/
set_option Elab.async false
set_option linter.all false
set_option maxRecDepth 100000
set_option maxHeartbeats 2000000
set_option autoImplicit false
namespace TX
open PySem PySem.Spec PyProof.Rows
open L2 (V HO Hp Key upd upd_same upd_ne SqL SqT Rd HOk Cx Inv PE PT PTs PW PS PSs PG PGs PI PA TE TT TA TS TG TGs TI It VK XK WX Takes Ends EP SP TP OpR tOp CallR tCB tCons tNil Sp Room FnOk thn thnF Vals)
section
variable {C : Cfg} {φ : Fn} {X : Cx} {pins : List (Addr × Obj)} {σ : L2.St} {g0 : Gh} {TR : List (AV × AH)} {FIN : Option AH} {ga gi : Nat}
theorem ints_of : ∀ {xs : List AV} {is : List Int}, intsO xs = some is → xs = is.map .int
  | [], is, e => by
    unfold intsO at e
    cases e
    rfl
  | x :: r, is, e => by
    unfold intsO at e
    split at e
    · rename_i z; cases z
    · rename_i i r2 z
      cases z
      cases h : intsO r with
      | none => rw [h] at e; cases e
      | some js =>
        rw [h] at e
        cases e
        rw [ints_of h]
        rfl
    · cases e
/-- the running sum's cell -/
def FOne (cvs : List V) (o : Obj) : Prop := ∃ i t c, o = lsObj #[.int i t] c
theorem sum_loop {S : Addr} {is : List Int} {R : Result → Shared → Prop} (W : GW C X pins σ g0 TR FIN (holdsAt S FOne) ga gi) (hr : X.A.depth + 1 < recursionLimit) (hSg : S ≠ ga) (hS0 : W.s4.heap.objs.size ≤ S)
    (hcl : ∀ x c, W.Y.env.cells.lookup x = some c → c ≠ S) (hFe : ∀ b ∈ W.fp, b ≠ S) (hFg : ∀ b ∈ W.fp, b ≠ ga) (hpn : W.Y.pn = []) (hsome : FIN.isSome = true) (his : TR.map (·.1) = is.map .int)
    (hR : ∀ s' H' g' h' t, FIN = some h' → Inv X pins σ H' s' → Ext g0 g' → Rep C g' h' H' → R (.ok (.ret (.int is.sum t))) s') :
    ∀ (k j : Nat) (s : Shared) (a : Int) (tA : Tok) (c : Nat) (stage : Int), (stage = 0 ∨ stage = 2) → TR.length - j = k → a = (is.take j).sum → s.heap.get? S = some (lsObj #[.int a tA] c) → W.At j s →
      codeAny (model X.prog X.w) X.A (.builtin "sum.loop" ⟨[.ref ga, .ref S, rawInt stage, rawInt 0], []⟩) R s := by
  have hlen : TR.length = is.length := by simpa using congrArg List.length his
  intro k
  induction k with
  | zero =>
    intro j s a tA c stage hstage hk ha hS hst
    refine codeAny_builtin F.entry_sum_loop ?_
    rw [Around.under_plainId F.plain_sum_loop _]
    show wpAny _ X.A.in1 (seqItems? (.ref S) >>= _) _ _ s
    refine wpAny_bind (wpAny_seqItems hS rfl ?_)
    show wpAny _ X.A.in1 (tryCatch (pyNext (.ref ga)) _ >>= _) _ _ s
    refine wpAny_bind (wpAny_tryCatch (W.next1 hr hst (fun v s' hG => ?_) (fun s' hE hj => ?_)))
    · obtain ⟨H', g', h', PN, cvs, pre, rest, y, cv, hT, hp, _⟩ := hG.ex
      have := congrArg List.length hT
      simp at this
      omega
    · obtain ⟨H', g', h', PN, cvs, hF, I, e, r, rl, hC⟩ := hE.ex
      have e1 : a = is.sum := by rw [ha, List.take_of_length_le (by omega)]
      subst e1
      exact wpAny_pure (hR s' H' g' h' tA hF (W.back I (fun _ _ e => e) rfl I.bare) e r)
  | succ k ih =>
    intro j s a tA c stage hstage hk ha hS hst
    refine codeAny_builtin F.entry_sum_loop ?_
    rw [Around.under_plainId F.plain_sum_loop _]
    show wpAny _ X.A.in1 (seqItems? (.ref S) >>= _) _ _ s
    refine wpAny_bind (wpAny_seqItems hS rfl ?_)
    show wpAny _ X.A.in1 (tryCatch (pyNext (.ref ga)) _ >>= _) _ _ s
    refine wpAny_bind (wpAny_tryCatch (W.next1 hr hst (fun v s' hG => ?_) (fun s' hE hj => by omega)))
    obtain ⟨H', g', h', PN, cvs, pre, rest, y, cv, hT, hp, hcl', I, e, r, rl, hC, rv, ra, hgi, kk⟩ := hG.ex
    obtain ⟨oS, hmS, i0, t0, c0, rfl⟩ := hC.2.2
    obtain ⟨⟨o, hmo, hiso⟩, _⟩ := hC
    have hyj : is[j]?.map AV.int = some y := by
      have z := congrArg (fun l => l[j]?) his
      simp only [List.getElem?_map] at z
      rw [← z, hT, List.getElem?_append_right (by omega)]
      simp [hp]
    cases hij : is[j]? with
    | none => rw [hij] at hyj; cases hyj
    | some n =>
    rw [hij] at hyj
    simp only [Option.map_some, Option.some.injEq] at hyj
    subst hyj
    have ecv : cv = V.int n := ra.int
    subst ecv
    obtain ⟨t, rfl⟩ : ∃ t, v = .int n t := rv
    have hsum : a + n = (is.take (j + 1)).sum := by
      rw [ha, List.take_add_one, hij]
      simp
    have hS1 := (I.pin _ (List.mem_append_right _ hmS)).1
    have I2 : Inv W.Y [(ga, o), (S, lsObj #[.int i0 t0] c0)] W.σ0 H' s' := I.pins_of fun p hp => by
      rcases List.mem_cons.mp hp with e | hp
      · subst e
        exact I.pin _ (List.mem_append_right _ hmo)
      · have e : p = (S, lsObj #[.int i0 t0] c0) := by simpa using hp
        subst e
        exact I.pin _ (List.mem_append_right _ hmS)
    have fin : ∀ (h9 : Heap) (t9 : Nat) (tk : Tok) (c9 : Nat), (∀ b o, b ≠ S → s'.heap.get? b = some o → h9.get? b = some o) → h9.get? S = some (lsObj #[.int (a + n) tk] c9) → ∀ st9, (st9 = 0 ∨ st9 = 2) →
        codeAny (model X.prog X.w) X.A (.builtin "sum.loop" ⟨[.ref ga, .ref S, rawInt st9, rawInt 0], []⟩) R { s' with heap := h9, toks := t9 } := fun h9 t9 tk c9 oth hS2 st9 h9s => by
      refine ih (j + 1) _ (a + n) tk c9 st9 h9s (by omega) hsum hS2 ?_
      have I3 := inv_put (t' := t9) I2 hSg (by rw [W.s0]; exact hS0) hpn hcl oth hS2 (fun v z => by cases z)
      exact kk (.inr hsome) _ [(ga, o), (S, _)] I3 ⟨⟨o, by simp, hiso⟩, fun p hp z => (pins2 hp).elim (fun q => hFg _ z q) (fun q => hFe _ z q), ⟨_, List.mem_cons_of_mem _ (List.mem_singleton.mpr rfl), _, _, _, rfl⟩⟩ (fun b hb o e => oth b o (hFe b hb) e) rfl
    rcases hstage with rfl | rfl
    · show wpAny _ X.A.in1 (if (_ : Bool) = true then (mkInt (a + n) >>= _) else _) _ _ _
      split
      · refine wpAny_bind (wpAny_mkInt ?_)
        show wpAny _ X.A.in1 (updateSeq S (fun _ => #[.int (a + n) s'.toks]) >>= _) _ _ _
        refine wpAny_bind ?_
        refine wpAny_updateSeq hS1 rfl (wpAny_pure ⟨plainId_quiet F.plain_sum_loop _, fin _ _ s'.toks _ (fun b o hb e => (Heap.get?_update_other _ _ (Ne.symm hb)).trans e) (Heap.get?_update_self _ hS1 rfl) 0 (.inl rfl)⟩)
      · refine wpAny_bind (wpAny_rule ?_)
        refine wpAny_bind (wpAny_attempt (wpAny_holding (PySem.P.add_int ?_)))
        show wpAny _ X.A.in1 (updateSeq S (fun _ => #[.int (a + n) s'.toks]) >>= _) _ _ _
        refine wpAny_bind ?_
        refine wpAny_updateSeq hS1 rfl ?_
        have hS2 := Heap.get?_update_self (Obj.mapSeq fun _ => #[Value.int (a + n) s'.toks]) hS1 rfl
        refine wpAny_bind (wpAny_letGo ?_)
        refine wpAny_bind ?_
        exact wpAny_updateSeq hS2 rfl (wpAny_pure ⟨plainId_quiet F.plain_sum_loop _, fin _ _ s'.toks _ (fun b o hb e => (Heap.get?_update_other _ _ (Ne.symm hb)).trans ((Heap.get?_update_other _ _ (Ne.symm hb)).trans e)) (Heap.get?_update_self _ hS2 rfl) 2 (.inr rfl)⟩)
    · show wpAny _ X.A.in1 ((holding [Value.int n t] (binaryOp .Add (.int a tA) (.int n t))).attempt >>= _) _ _ _
      refine wpAny_bind (wpAny_attempt (wpAny_holding (PySem.P.add_int ?_)))
      show wpAny _ X.A.in1 (updateSeq S (fun _ => #[.int (a + n) s'.toks]) >>= _) _ _ _
      refine wpAny_bind ?_
      refine wpAny_updateSeq hS1 rfl ?_
      have hS2 := Heap.get?_update_self (Obj.mapSeq fun _ => #[Value.int (a + n) s'.toks]) hS1 rfl
      refine wpAny_bind (wpAny_letGo ?_)
      refine wpAny_bind ?_
      exact wpAny_updateSeq hS2 rfl (wpAny_pure ⟨plainId_quiet F.plain_sum_loop _, fin _ _ s'.toks _ (fun b o hb e => (Heap.get?_update_other _ _ (Ne.symm hb)).trans ((Heap.get?_update_other _ _ (Ne.symm hb)).trans e)) (Heap.get?_update_self _ hS2 rfl) 2 (.inr rfl)⟩)
/-- what a generator just made is ready for, whatever the user holds -/
structure ReadyF {S : Addr} {FF : List V → Obj → Prop} (W : GW C X pins σ g0 TR FIN (holdsAt S FF) ga gi) (o : Obj) (H4 : Hp) (s5 : Shared) : Prop where
  gen : s5.heap.IsGen ga gi
  lt : ga < s5.heap.objs.size
  is : ∀ s : Shared, s.heap.get? ga = some o → s.heap.IsGen ga gi
  fp : ∀ b ∈ W.fp, b ≠ ga ∧ b < s5.heap.objs.size
  inv : Inv W.Y [(ga, o)] W.σ0 H4 s5
  pn : W.Y.pn = []
  go : ∀ s6 PN6, Inv W.Y PN6 W.σ0 H4 s6 → W.CONS [] PN6 → (∀ b ∈ W.fp, ∀ o, s5.heap.get? b = some o → s6.heap.get? b = some o) → s6.gens = s5.gens → W.At 0 s6
  s4 : W.s4.heap.objs.size ≤ s5.heap.objs.size
variable {elt tg iter : Expr} {ifs : List Expr} {scope : Scope} {own : List (Str × Nat)} {sl : List Nat} {fi : IF_} {gt : TF} {fc f : EF} {p gpos pos : Pos} {k : Nat}
theorem gn_coreF (FF : List V → Obj → Prop) {pins : List (Addr × Obj)} {σ : L2.St} {H : Hp} {s : Shared} {g : Gh} {st : St} {h : AH} {b : UB} {N : Nat → Hp → Prop} {Q : VK} {Q' : Value → Shared → Prop} (A : At C X) (hr : Room (k + 2) X.A) (G : GenM C X) (P : GnP C φ X elt tg iter ifs scope own sl fi gt fc f) (tk : Takes X (wX C N)) (I : Inv X pins σ H s) (r : Rep C g h H) (rs : RelS C g st σ)
    (ok : okG C g (eGen b (own.map (·.2)) fi gt fc f φ st h) (fun x g' _ H' => ∀ v, RelA C g' x v → Q v H') N)
    (hQ : ∀ s5 ga gi g0 TR h2 o H4 (W : GW C X pins σ g0 TR (some h2) (holdsAt s5.heap.objs.size FF) ga gi), Ext g g0 → ReadyF W o H4 s5 → TR.length ≤ sizeLine → okG C g (uL b (TR.map (·.1)) h2) (fun x g' _ H' => ∀ v, RelA C g' x v → Q v H') N → Q' (.ref ga) s5) :
    wpAny (model X.prog X.w) X.A (eval (.GeneratorExp elt [⟨tg, iter, ifs, 0⟩] scope gpos) X.env) Q' X.xe s := by
  refine gen_mk G hr P.hi tk P.ok P.hco P.hcell P.h0 P.hs I r rs ?_
  unfold eGen at ok
  cases z : fi φ st h with
  | exc c h1 => rw [z] at ok; exact ok
  | stuck => rw [z] at ok; exact ok
  | ok p h1 =>
    rw [z] at ok
    simp only [bind_ok] at ok
    intro g' H' e1 r1 ga s5 hG
    split at ok
    · rename_i hz
      obtain ⟨ys, h2, e2, ok2⟩ := quiet_bind ok
      obtain ⟨TR, hLc, rfl, hle⟩ := lc_tr p.1 h1 ys e2
      obtain ⟨g1, gi, e3, W, o, H4, hgen, hlt, hisg, hfo, I5, r5, hSt⟩ := gw_start (USER := holdsAt s5.heap.objs.size FF) A.calm A.nd P.ok P.hcell P.hco P.hsl rs (fun s H code fp => (P.hg s H code fp).run) P.ht (fun s H code fp => (P.he s H code fp).run N0 takesN0) hLc hG
      refine hQ s5 ga gi g1 TR h2 o H4 W e3 ⟨hgen, hlt, hisg, hfo, I5, W.hpn, hSt, ?_⟩ (Nat.le_trans hle (Nat.le_trans (Nat.le_of_lt hz) SZ_le)) ok2
      · exact Nat.le_of_lt (Nat.lt_trans W.big hlt)
    · exact ok.elim
/-- sum(generator) -/
theorem se_genSum (A : At C X) (hr : Room (k + 2) X.A) (G : GenM C X) (hg : L2.Gl X "sum") (hm : X.mg "sum" = none) (P : GnP C φ X elt tg iter ifs scope own sl fi gt fc f) :
    SE C φ X (.Call (.Name "sum" p) [.GeneratorExp elt [⟨tg, iter, ifs, 0⟩] scope gpos] [] pos) (eGen .sum (own.map (·.2)) fi gt fc f) := by
  have he : starEach [.GeneratorExp elt [⟨tg, iter, ifs, 0⟩] scope gpos] X.env = (false, eval (.GeneratorExp elt [⟨tg, iter, ifs, 0⟩] scope gpos) X.env) :: starEach [] X.env := rfl
  refine ⟨fun N tk => ⟨fun pins s σ H Q I ⟨g, st, h, r, rs, ok⟩ => ?_⟩⟩
  refine wpAny_Call_Name_kw (L2.ld_blt I hg hm boot_sum ?_)
  refine PyProof.Rows.callWith_builtin1 ?_ he (by rfl)
  rw [he]
  show wpAny _ _ (spliced ((false, eval (.GeneratorExp elt [⟨tg, iter, ifs, 0⟩] scope gpos) X.env) :: backTo pos (starEach [] X.env))) _ _ s
  refine Calls.spliced_cons (gn_coreF FOne (b := .sum) A hr G P tk I r rs ok fun s5 ga gi g0 TR h2 o H4 W e0 Rd hz ok2 => ?_)
  refine Calls.spliced_nil ?_
  have hroom : X.A.depth + 1 < recursionLimit := by have := hr.dp; omega
  replace ok2 : okG C g (match intsO (TR.map (·.1)) with
    | some is => .ok (.int is.sum) h2
    | none => .stuck) (fun x g' _ H' => ∀ v, RelA C g' x v → Q v H') N := ok2
  cases his : intsO (TR.map (·.1)) with
  | none => rw [his] at ok2; exact ok2.elim
  | some is =>
    rw [his] at ok2
    simp only at ok2
    refine call_function_tree F.kind_sum F.plain_sum F.entry_sum (F.args_sum1 _) ?_
    unfold Builtin.«sum»
    simp only [List.length_cons, List.length_nil]
    rw [if_neg (by decide)]
    refine wpAny_bind (wpAny_of_eq (show Builtin.Builtins.bindParams "sum" ["start"] 0 { } = pure [none] from rfl) ?_)
    refine wpAny_bind (wpAny_pyIter_gen Rd.gen ?_)
    refine wpAny_bind (wpAny_mkInt ?_)
    refine wpAny_bind (wpAny_pure ?_)
    simp only [List.forIn_cons, List.forIn_nil]
    refine wpAny_bind (wpAny_bind (wpAny_bind (wpAny_isInstance (T := "int") (b := false) (typeIs_int _ _ _) PySem.sub_int_str ?_)))
    simp only [Bool.false_eq_true, if_false]
    refine wpAny_pure (wpAny_bind (wpAny_bind (wpAny_isInstance (T := "int") (b := false) (typeIs_int _ _ _) sub_int_bytes ?_)))
    simp only [Bool.false_eq_true, if_false]
    refine wpAny_pure (wpAny_bind (wpAny_bind (wpAny_isInstance (T := "int") (b := false) (typeIs_int _ _ _) sub_int_bytearray ?_)))
    simp only [Bool.false_eq_true, if_false]
    refine wpAny_pure (wpAny_pure ?_)
    refine wpAny_bind (wpAny_newObj_type ?_)
    have I7 := inv_pin (oS := lsObj #[.int 0 s5.toks] 0) (t' := s5.toks + 1) Rd.inv (fun v z => by cases z) rfl
    have hclS : ∀ x c, W.Y.env.cells.lookup x = some c → c ≠ s5.heap.objs.size := fun x c e z => by
      obtain ⟨v, q⟩ := Rd.inv.cell x c e
      exact absurd q.lt (by rw [z]; exact Nat.lt_irrefl _)
    refine wpAny_pure ⟨plainId_quiet F.plain_sum_loop _, sum_loop (S := s5.heap.objs.size) W hroom (Nat.ne_of_gt Rd.lt) Rd.s4 hclS (fun b hb => Nat.ne_of_lt (Rd.fp b hb).2) (fun b hb => (Rd.fp b hb).1) Rd.pn rfl (ints_of his)
      (fun s' H' g' h' t hF I' e' r' => ?_) _ 0 _ 0 s5.toks 0 0 (Or.inl rfl) rfl (by simp) (Heap.get?_push_size _ rfl) ?_⟩
    · cases hF
      exact ⟨.int is.sum, H', I', ⟨t, rfl⟩, ok2 g' H' (e0.trans e') r' _ .mkI⟩
    · exact Rd.go _ _ I7 ⟨⟨o, by simp, Rd.is⟩, fun p hp z => (pins2 hp).elim (fun q => (Rd.fp _ z).1 q) (fun q => Nat.ne_of_lt (Rd.fp _ z).2 q), ⟨_, List.mem_cons_of_mem _ (List.mem_singleton.mpr rfl), _, _, _, rfl⟩⟩ (fun b hb o e => Heap.get?_push_of_some _ e) rfl
end
end TX

/-! TxR: a list grows -/
set_option Elab.async false
set_option linter.all false
set_option maxRecDepth 100000
set_option maxHeartbeats 1000000
set_option autoImplicit false
namespace TX
open PySem PySem.Spec PyProof.Rows
open L2 (V HO Hp Key upd upd_same upd_ne SqL SqT Rd HOk Cx Inv PE PT PW PS PSs PG PGs PI PA TE TT TA TS TG TGs TI It VK XK WX Takes Ends EP OpR tOp CallR tCB tCons tNil Sp Room FnOk)
section
variable {C : Cfg} {φ : Fn} {X : Cx} {a b c e o i : Expr} {es : List Expr} {fa fb fc fo fi f : EF} {fs : AF} {pos p apos : Pos}
theorem app_at {g : Gh} {h h4 : AH} {H : Hp} {x v : AV} {cx cv : V} {Q : VK} (r : Rep C g h H) (rx : RelA C g x cx) (rv : RelA C g v cv) (e : appA x v h = some h4) (hQ : ∀ H', Rep C g h4 H' → Q .non H') :
    L2.rAppend cx [cv] H Q := by
  unfold appA at e
  split at e
  · rename_i q
    simp only [RelA] at rx
    obtain ⟨hq, rfl⟩ := rx
    split at e
    · rename_i xs hg
      obtain ⟨u, h1, vs, rfl, rl⟩ := r.obj q _ hg
      split at e
      · rename_i hz
        cases e
        have hl := rl.len
        exact ⟨_, vs, cv, rfl, rfl, h1, by rw [← hl]; exact hz, hQ _ (r.put hg ⟨_, rfl, RelL.append rl (.cons rv .nil)⟩)⟩
      · cases e
    · cases e
  · cases e
theorem tyV_lst {g : Gh} {h : AH} {H : Hp} {x : AV} {cx : V} {xs : List AV} (A : C.K = X.K) (r : Rep C g h H) (rx : RelA C g x cx) (e : lstOf x h = some xs) : L2.tyV X.K "list" cx H := by
  unfold lstOf at e
  split at e
  · simp only [RelA] at rx
    obtain ⟨a, vs, rfl, h1, _⟩ := rx
    exact .inl ⟨rfl, _, .inl (.inl (r.fx _ _ h1).1)⟩
  · rename_i q
    simp only [RelA] at rx
    obtain ⟨hq, rfl⟩ := rx
    split at e
    · rename_i ys hg
      obtain ⟨u, h1, vs, rfl, rl⟩ := r.obj q _ hg
      exact .inl ⟨rfl, _, .inl (.inl h1)⟩
    · cases e
  · cases e
theorem se_app (A : At C X) (ho : SE C φ X o fo) (ha : SE C φ X e f) (hs : notSuper o = true) (hn : noStar e = true) (hl : (apos.endLine == pos.line) = true) :
    SE C φ X (.Call (.Attribute o "append" apos) [e] [] pos) (eApp fo f) := by
  refine ⟨fun N tk => (L2.pe_bm PySem.F.plainAttrs_list PySem.F.slot_list_append PySem.F.type_list_append L2.mt_append (ho.run N tk) ((sa_cons ha sa_nil hn).run N tk) (mBase_by hs) (by rw [star1 hn]; rfl) hl (star_cons hn) rfl).imp fun σ H Q ⟨g, s, hh, r, rs, ok⟩ => ?_⟩
  refine go r rs ok fun g1 h1 x cx H1 e1 r1 rx ok1 => ?_
  split at ok1
  · rename_i xs hx
    refine ⟨tyV_lst A.K.symm r1 rx hx, g1, s, h1, r1, rs.mono e1, ?_⟩
    unfold aCons aNil
    cases z : f φ s h1 with
    | ok v h2 =>
      rw [z] at ok1
      simp only [bind_ok] at ok1 ⊢
      intro g2 H2 e2 r2 vs rl
      obtain ⟨cv, vs2, rfl, rv, rn⟩ := rl
      cases rn
      have ok2 := okG.ext ok1 e2
      cases w : appA x v h2 with
      | none => rw [w] at ok2; exact ok2.elim
      | some h3 =>
        rw [w] at ok2
        exact app_at r2 (rx.mono e2) rv w fun H' r' => ok2 g2 H' (Ext.refl _) r' .non (by simp [RelA])
    | exc c h2 => rw [z] at ok1; exact ok1
    | stuck => rw [z] at ok1; exact ok1
  · exact ok1.elim
end
end TX

/-! TxS: classes -/
set_option Elab.async false
set_option linter.all false
set_option maxRecDepth 100000
set_option maxHeartbeats 1000000
set_option autoImplicit false
namespace TX
open PySem PySem.Spec PyProof.Rows
open L2 (V HO Hp Key upd upd_same upd_ne SqL SqT Rd HOk Cx Inv PE PT PW PS PSs PG PGs PI PA TE TT TA TS TG TGs TI It VK XK WX Takes Ends EP OpR tOp CallR tCB tCons tNil Sp Room FnOk)
section
variable {C : Cfg} {g : Gh}
theorem lookup_key {us : List (Str × V)} {k : Str} {v : V} (f : Str) : List.lookup f ((k, v) :: us) = if f = k then some v else us.lookup f := by
  by_cases e : f = k
  · subst e; simp [List.lookup]
  · have : (f == k) = false := by simpa using e
    simp [List.lookup, this, e]
theorem RelF.get {f : Tx} : ∀ {fs : List (Tx × AV)} {us : List (Str × V)} {v : AV}, RelF C g fs us → fget f fs = some v → ∃ u, us.lookup (toS f) = some u ∧ RelA C g v u
  | [], _, _, _, e => by cases e
  | (k, x) :: r, us, v, h, e => by
    simp only [RelF] at h
    obtain ⟨w, us2, rfl, h1, h2⟩ := h
    unfold fget at e
    rw [lookup_key]
    split at e
    · rename_i hk
      cases e
      exact ⟨w, by rw [if_pos (by rw [hk])], h1⟩
    · rename_i hk
      obtain ⟨u, h3, h4⟩ := RelF.get h2 e
      exact ⟨u, by rw [if_neg (fun z => hk (toS_inj z.symm)), h3], h4⟩
theorem RelF.none {f : Tx} : ∀ {fs : List (Tx × AV)} {us : List (Str × V)}, RelF C g fs us → fget f fs = none → us.lookup (toS f) = none
  | [], us, h, _ => by
    simp only [RelF] at h
    subst h
    rfl
  | (k, x) :: r, us, h, e => by
    simp only [RelF] at h
    obtain ⟨w, us2, rfl, h1, h2⟩ := h
    unfold fget at e
    rw [lookup_key]
    split at e
    · cases e
    · rename_i hk
      rw [if_neg (fun z => hk (toS_inj z.symm))]
      exact RelF.none h2 e
theorem RelF.put {f : Tx} {v : AV} {u : V} (hv : RelA C g v u) : ∀ {fs : List (Tx × AV)} {us : List (Str × V)}, RelF C g fs us → RelF C g (fput f v fs) (L2.putF (toS f) u us)
  | [], us, h => by
    simp only [RelF] at h
    subst h
    exact ⟨u, [], rfl, hv, rfl⟩
  | (k, x) :: r, us, h => by
    simp only [RelF] at h
    obtain ⟨w, us2, rfl, h1, h2⟩ := h
    show RelF C g (if k = f then (k, v) :: r else (k, x) :: fput f v r) (if toS k = toS f then (toS k, u) :: us2 else (toS k, w) :: L2.putF (toS f) u us2)
    by_cases e : k = f
    · rw [if_pos e, if_pos (by rw [e])]
      exact ⟨u, us2, rfl, hv, h2⟩
    · rw [if_neg e, if_neg (fun z => e (toS_inj z))]
      exact ⟨w, _, rfl, h1, RelF.put hv h2⟩
theorem RelF.len : ∀ {fs : List (Tx × AV)} {us : List (Str × V)}, RelF C g fs us → fs.length = us.length
  | [], us, h => by simp only [RelF] at h; subst h; rfl
  | (k, x) :: r, us, h => by
    simp only [RelF] at h
    obtain ⟨w, us2, rfl, h1, h2⟩ := h
    simp [RelF.len h2]
theorem ins_at {h : AH} {H : Hp} {x : AV} {cx : V} {c : Nat} {fs : List (Tx × AV)} (r : Rep C g h H) (rx : RelA C g x cx) (e : insOf x h = some (c, fs)) : ∃ a dx us, cx = .ref a ∧ H a = some (.ins (C.cA c) dx us) ∧ RelF C g fs us := by
  unfold insOf at e
  split at e
  · rename_i q
    simp only [RelA] at rx
    obtain ⟨hq, rfl⟩ := rx
    split at e
    · rename_i c2 fs2 hg
      cases e
      obtain ⟨u, h1, dx, us, rfl, rl⟩ := r.obj q _ hg
      exact ⟨_, dx, us, rfl, h1, rl⟩
    · cases e
  · cases e
/-- an object laid that is no value's -/
theorem Rep.junk {h : AH} {H : Hp} (r : Rep C g h H) {p : Addr} (hp : H p = none) (o : HO) : Rep C g h (upd H p o) := by
  refine ⟨r.n, fun a w e => ?_, r.inj, r.dis, fun i w e => ?_, r.sys.new hp, fun a w e => ?_, r.kd⟩
  · obtain ⟨e1, e2⟩ := r.fx a w e
    exact ⟨by rw [upd_ne (fun z => by subst z; rw [hp] at e1; cases e1)]; exact e1, e2⟩
  · obtain ⟨u, e1, e2⟩ := r.obj i w e
    exact ⟨u, by rw [upd_ne (r.at_ne hp (by rw [r.n]; exact hget_lt e))]; exact e1, e2⟩
  · obtain ⟨e1, e2, e3⟩ := r.kx a w e
    exact ⟨by rw [upd_ne (r.kx_ne hp e)]; exact e1, e2, e3⟩
end
theorem meth_eval {o : Expr} {m : Str} {apos pos : Pos} {args : List Expr} {env : Env} (hbase : attributeBase o m env (eval o env) = eval o env)
    (hfew : methodCallForm (args.length + ([] : List Keyword).length) (backTo pos (starEach args env)) (backToKw pos (keywordEach [] env)) = true) (hline : (apos.endLine == pos.line) = true) :
    eval (.Call (.Attribute o m apos) args [] pos) env = (do
      let ov ← eval o env
      standAt apos.atName
      let (f, first) ← holding [ov] (getMethod ov m (do return (← importBound o env).getD true))
      callWith pos f first (backTo pos (starEach args env)) (backToKw pos (keywordEach [] env))) := by
  rw [arm_eval_Call, hbase]
  unfold methodCall
  have hpos : methodCallPos true o env apos pos = pure pos := by unfold methodCallPos; simp [hline]
  rw [hfew, hpos]
  rfl
theorem form_of {args : List Expr} {pos : Pos} {env : Env} (h : (backTo pos (starEach args env)).any (·.1) = false) (hl : args.length < 30) : methodCallForm (args.length + ([] : List Keyword).length) (backTo pos (starEach args env)) (backToKw pos (keywordEach [] env)) = true := by
  unfold methodCallForm
  have h1 : (backTo pos (starEach args env)).all (fun x => !x.1) = true := by
    rw [List.all_eq_true]
    intro x hx
    have := List.any_eq_false.mp h x hx
    simpa using this
  have h2 : decide (args.length + ([] : List Keyword).length + (if (backToKw pos (keywordEach [] env)).isEmpty then 0 else 1) < 30) = true := by
    have : (backToKw pos (keywordEach [] env)).isEmpty = true := rfl
    simp only [this, if_true, List.length_nil, Nat.add_zero]
    exact decide_eq_true hl
  rw [h1, h2]
  rfl
/-- what a class must have for an attribute -/
structure ClF (C : Cfg) (K : PySem.W.Frag) (c : Nat) (f : Str) : Prop where
  cls : L2.Cls K (C.cA c)
  no : L2.NoAttr K (C.cA c) f
/-- a method of a class -/
structure MeI (C : Cfg) (P : Program) (w : World) (K : PySem.W.Frag) (mg : Str → Option Value) (base : Heap) (k : Nat) (c : Nat) (m : Str) (f : List AV → AH → Out AV) : Prop where
  cls : L2.Cls K (C.cA c)
  ex : ∃ (a : Addr) (fd : FuncData) (ps : List Str), FnOk P w K mg base (L2.CX P w) k a fd ps (spOf C f) ∧ L2.Meth K (C.cA c) m a ∧ L2.Binds K fd ps []
/-- a class that is made by its name; dvs what stands for arguments that are not given -/
structure MkI (C : Cfg) (P : Program) (w : World) (K : PySem.W.Frag) (mg : Str → Option Value) (base : Heap) (k : Nat) (c : Nat) (x : Str) (dvs : List AV) (f : List AV → AH → Out AV) : Prop where
  gC : mg x = some (.ref (C.cA c))
  ex : ∃ (a : Addr) (fd : FuncData) (ps : List Str) (ds : List Value) (dcs : List V), FnOk P w K mg base (L2.CX P w) k a fd ps (spOf C f) ∧ L2.Mk K (C.cA c) a ∧ L2.Binds K fd ps ds ∧ L2.Vals dcs ds ∧ ∀ g, RelL C g dvs dcs
section
variable {C : Cfg} {φ : Fn} {X : Cx} {a b c e o i : Expr} {es : List Expr} {fa fb fc fo fi f : EF} {fs : AF} {pos p apos : Pos}
theorem se_fld {cs : List Nat} {n : Tx} {fn : Str} (hF : ∀ c ∈ cs, ClF C X.K c fn) (hn : fn = toS n) (ho : SE C φ X o fo) (hs : notSuper o = true) : SE C φ X (.Attribute o fn pos) (eFld cs n fo) := by
  refine ⟨fun N tk => (L2.pe_fld (ho.run N tk) (mBase_by hs)).imp fun σ H Q ⟨g, s, hh, r, rs, ok⟩ => ?_⟩
  refine go r rs ok fun g1 h1 x cx H1 e1 r1 rx ok1 => ?_
  unfold fldA at ok1
  split at ok1
  · rename_i v hv
    split at hv
    · rename_i c fs hi
      split at hv
      · rename_i hc
        obtain ⟨a, dx, us, rfl, h2, rl⟩ := ins_at r1 rx hi
        obtain ⟨u, h3, h4⟩ := rl.get hv
        exact ⟨a, _, dx, us, u, rfl, h2, (hF c hc).cls, (hF c hc).no, by rw [hn]; exact h3, ok1.fin r1 u h4⟩
      · cases hv
    · cases hv
  · exact ok1.elim
theorem setF_at {cs : List Nat} {n : Tx} {fn : Str} {g : Gh} {h h4 : AH} {H : Hp} {x v : AV} {cx cv : V} {Q : Hp → Prop} (hF : ∀ c ∈ cs, ClF C X.K c fn) (hn : fn = toS n) (r : Rep C g h H) (rx : RelA C g x cx) (rv : RelA C g v cv) (e : setF cs n x v h = some h4) (hQ : ∀ H', Rep C g h4 H' → Q H') :
    ∃ a c dx us, cx = .ref a ∧ H a = some (.ins (C.cA c) dx us) ∧ c ∈ cs ∧ us.length < 1000 ∧ Q (upd H a (.ins (C.cA c) dx (L2.putF fn cv us))) := by
  unfold setF at e
  split at e
  · rename_i q
    simp only [RelA] at rx
    obtain ⟨hq, rfl⟩ := rx
    split at e
    · rename_i c fs hg
      obtain ⟨u, h1, dx, us, rfl, rl⟩ := r.obj q _ hg
      split at e
      · rename_i hc
        cases e
        refine ⟨_, c, dx, us, rfl, h1, hc.1, by rw [← rl.len]; exact hc.2, hQ _ (r.put hg ⟨dx, _, by rw [hn], rl.put rv⟩)⟩
      · cases e
    · cases e
  · cases e
theorem ss_fld {cs : List Nat} {n : Tx} {fn : Str} {q : Pos} (hF : ∀ c ∈ cs, ClF C X.K c fn) (hn : fn = toS n) (ho : SE C φ X o fo) (ha : SE C φ X e f) (hs : swapsWith e (some (.Attribute o fn q)) pos.line X.env = pure false) :
    SS C φ X (.Assign [.Attribute o fn q] e pos) (sFld cs n fo f) := by
  refine ⟨fun N tk => (L2.ps_fld (ho.run N tk) (ha.run N tk) hs).imp fun D σ H ⟨g, s, hh, r, rs, ok⟩ => ?_⟩
  refine go r rs ok fun g1 h1 x cx H1 e1 r1 rx ok1 => go r1 (rs.mono e1) ok1 fun g2 h2 y cy H2 e2 r2 ry ok2 => ?_
  cases z : setF cs n y x h2 with
  | none => rw [z] at ok2; exact ok2.elim
  | some h3 =>
    rw [z] at ok2
    obtain ⟨a, c, dx, us, e3, e4, e5, e6, e7⟩ := setF_at (X := X) (Q := fun H' => D.nx σ H') hF hn r2 ry (rx.mono e2) z fun H' r' => ok2 g2 H' (Ext.refl _) r' σ ((rs.mono e1).mono e2)
    exact ⟨a, _, dx, us, e3, e4, (hF c e5).cls, (hF c e5).no, e6, e7⟩
theorem inop_of {op : BO} (h : augOp op = true) : ∃ k : Int → Int → Int, L2.InOp X (toOp op) (fun x y H Q => ∃ i j, x = .int i ∧ y = .int j ∧ Q (.int (k i j)) H) ∧ ∀ i j, intOp op i j = some (k i j) := by
  cases op <;> first | exact ⟨_, L2.in_add, fun _ _ => rfl⟩ | exact ⟨_, L2.in_sub, fun _ _ => rfl⟩ | (simp [augOp] at h)
theorem ss_fldA {cs : List Nat} {n : Tx} {fn : Str} {op : BO} {q : Pos} (hF : ∀ c ∈ cs, ClF C X.K c fn) (hn : fn = toS n) (hop : augOp op = true) (ho : SE C φ X o fo) (ha : SE C φ X e f) :
    SS C φ X (.AugAssign (.Attribute o fn q) (toOp op) e pos) (sFldA cs n fo op f) := by
  obtain ⟨kk, k1, k2⟩ := inop_of (X := X) hop
  refine ⟨fun N tk => (L2.ps_fldaug (ho.run N tk) (ha.run N tk) k1).imp fun D σ H ⟨g, s, hh, r, rs, ok⟩ => ?_⟩
  refine go r rs ok fun g1 h1 x cx H1 e1 r1 rx ok1 => ?_
  split at ok1
  · rename_i c fs hi
    split at ok1
    · rename_i hc
      split at ok1
      · rename_i av hv
        obtain ⟨a, dx, us, rfl, h2, rl⟩ := ins_at r1 rx hi
        obtain ⟨u, h3, h4⟩ := rl.get hv
        have := h4.int
        subst this
        refine ⟨a, _, dx, us, _, rfl, h2, (hF c hc).cls, (hF c hc).no, by rw [hn]; exact h3, ?_⟩
        refine go r1 (rs.mono e1) ok1 fun g2 h2' y cy H2 e2 r2 ry ok2 => ?_
        split at ok2
        · rename_i bv
          rw [k2] at ok2
          refine ⟨_, _, rfl, ry.int, ?_⟩
          simp only at ok2
          cases z : setF [c] n x (.int (kk av bv)) h2' with
          | none => rw [z] at ok2; exact ok2.elim
          | some h3' =>
            rw [z] at ok2
            obtain ⟨a', c', dx', us', e3, e4, e5, e6, e7⟩ := setF_at (X := X) (Q := fun H' => D.nx σ H') (cs := [c]) (fun c2 h => by rw [List.mem_singleton.mp h]; exact hF c hc) hn r2 (rx.mono e2) (cv := .int (kk av bv)) .mkI z fun H' r' => ok2 g2 H' (Ext.refl _) r' σ ((rs.mono e1).mono e2)
            cases e3
            have hcc : c' = c := List.mem_singleton.mp e5
            subst hcc
            exact ⟨dx', us', e4, e6, e7⟩
        · exact ok2.elim
      · exact ok1.elim
    · exact ok1.elim
  · exact ok1.elim
/-! ### calls of methods -/
theorem meth_read {N : Nat → Hp → Prop} {n : Tx} {m : Str} {ci fi : Nat} {σ : L2.St} {H : Hp} {Q : VK} (hn : m = toS n) (h : tE C φ (eMeth ci n fi fo fs) N σ H Q) {to : TE} (hto : ∀ σ H Q, tE C φ fo N σ H Q → to σ H Q) :
    L2.tMeth (C.cA ci) m (spOf C (φ 0 fi)) [] (fun cls _ H => ∃ c, cls = .ref (C.cA c) ∧ N c H) to (tAr C φ fs N) σ H Q := by
  obtain ⟨g, s, hh, r, rs, ok⟩ := h
  refine hto _ _ _ (go r rs ok fun g1 h1 x cx H1 e1 r1 rx ok1 => ?_)
  split at ok1
  · rename_i c' fs' hi
    split at ok1
    · rename_i hc
      obtain ⟨rfl, hm⟩ := hc
      obtain ⟨a, dx, us, rfl, h2, rl⟩ := ins_at r1 rx hi
      refine ⟨a, dx, us, rfl, h2, by rw [hn]; exact rl.none hm, ?_⟩
      refine goA r1 (rs.mono e1) ok1 fun g2 h2' xs vs H2 e2 r2 rl2 ok2 => ?_
      rw [List.append_nil]
      refine ⟨g2, h2', x :: xs, r2, .cons (rx.mono e2) rl2, ?_⟩
      cases z : φ 0 fi (x :: xs) h2' with
      | ok x h3 => rw [z] at ok2; exact ok2
      | exc c h3 => rw [z] at ok2; exact fun g' H' e3 r3 d => ⟨c, rfl, ok2 g' H' e3 r3⟩
      | stuck => rw [z] at ok2; exact ok2
    · exact ok1.elim
  · exact ok1.elim
theorem se_meth {k ci fi : Nat} {n : Tx} {m : Str} (F : MeI C X.prog X.w X.K X.mg X.base k ci m (φ 0 fi)) (hn : m = toS n) (hr : Room k X.A) (ho : SE C φ X o fo) (ha : SA C φ X (e :: es) fs) (hs : notSuper o = true) (hst : noStar e = true)
    (hp : (backTo pos (starEach es X.env)).any (·.1) = false) (hl : (apos.endLine == pos.line) = true) (hlen : (e :: es).length < 30) : SE C φ X (.Call (.Attribute o m apos) (e :: es) [] pos) (eMeth ci n fi fo fs) := by
  obtain ⟨a, fd, ps, F1, F2, F3⟩ := F.ex
  have hp2 : (backTo pos (starEach (e :: es) X.env)).any (·.1) = false := by
    rw [star_cons hst]
    exact hp
  refine ⟨fun N tk => (L2.pe_meth (ho.run N tk) F.cls F2 F1 hr F3 .nil (call_passes tk) (ha.run N tk) (star_cons hst) hp (meth_eval (mBase_by hs) (form_of hp2 hlen) hl)).imp fun σ H Q h => meth_read hn h fun _ _ _ h => h⟩
theorem se_meth0 {k ci fi : Nat} {n : Tx} {m : Str} (F : MeI C X.prog X.w X.K X.mg X.base k ci m (φ 0 fi)) (hn : m = toS n) (hr : Room k X.A) (ho : SE C φ X o fo) (hs : notSuper o = true)
    (hl : (apos.endLine == pos.line) = true) : SE C φ X (.Call (.Attribute o m apos) [] [] pos) (eMeth ci n fi fo aNil) := by
  obtain ⟨a, fd, ps, F1, F2, F3⟩ := F.ex
  refine ⟨fun N tk => (L2.pe_meth0 (ho.run N tk) F.cls F2 F1 hr F3 .nil (call_passes tk) (meth_eval (mBase_by hs) (form_of rfl (by decide)) hl)).imp fun σ H Q h => ?_⟩
  have z := meth_read hn h (to := tE C φ fo N) fun _ _ _ h => h
  obtain ⟨g, s, hh, r, rs, ok⟩ := z
  refine ⟨g, s, hh, r, rs, ?_⟩
  cases e : fo φ s hh with
  | exc c h1 => rw [e] at ok; exact ok
  | stuck => rw [e] at ok; exact ok
  | ok x h1 =>
    rw [e] at ok
    intro g' H' e1 r1 v rv
    obtain ⟨a, dx, us, e2, e3, e4, g2, s2, h2, r2, rs2, ok2⟩ := ok g' H' e1 r1 v rv
    exact ⟨a, dx, us, e2, e3, e4, ok2.fin r2 [] .nil⟩
/-- one reading or another -/
theorem se_alt (h1 : SE C φ X e fa) (h2 : SE C φ X e fb) : SE C φ X e (eAlt fa fb) := by
  refine ⟨fun N tk => ((h1.run N tk).or (h2.run N tk)).imp fun σ H Q ⟨g, s, hh, r, rs, ok⟩ => ?_⟩
  unfold eAlt at ok
  cases z : fa φ s hh with
  | ok x h => rw [z] at ok; exact .inl ⟨g, s, hh, r, rs, by rw [z]; exact ok⟩
  | exc c h => rw [z] at ok; exact .inl ⟨g, s, hh, r, rs, by rw [z]; exact ok⟩
  | stuck => rw [z] at ok; exact .inr ⟨g, s, hh, r, rs, ok⟩
/-! ### instances made -/
theorem make_read {N : Nat → Hp → Prop} {ci fi : Nat} {dvs : List AV} {dcs : List V} {σ : L2.St} {H : Hp} {Q : VK} (hd : ∀ g, RelL C g dvs dcs) (h : tE C φ (eMake ci fi dvs fs) N σ H Q) :
    L2.tMake (C.cA ci) (spOf C (φ 0 fi)) dcs (fun cls _ H => ∃ c, cls = .ref (C.cA c) ∧ N c H) (tAr C φ fs N) σ H Q := by
  obtain ⟨g, s, hh, r, rs, ok⟩ := h
  refine goA r rs ok fun g1 h1 xs vs H1 e1 r1 rl ok1 => ?_
  intro x dx hx hdx hne
  have r2 := r1.junk hdx (.own x)
  have hx2 : upd H1 dx (.own x) x = none := by rw [upd_ne (fun z => hne z.symm)]; exact hx
  have r3 := r2.new hx2 (o := .ins ci []) (u := .ins (C.cA ci) dx []) ⟨dx, [], rfl, rfl⟩
  have xt := r2.ext_obj (p := x)
  have hn := r1.n
  refine ⟨g1.obj x, .ins ci [] :: h1, .ref h1.length :: (xs ++ dvs), r3, .cons (by
    simp only [RelA]
    refine ⟨?_, ?_⟩
    · show h1.length < g1.n + 1
      omega
    · show V.ref x = V.ref (if h1.length = g1.n then x else g1.at_ h1.length)
      rw [if_pos hn.symm]) ((rl.mono xt).append (hd _)), ?_⟩
  unfold mkIns at ok1
  cases z : φ 0 fi (.ref h1.length :: (xs ++ dvs)) (.ins ci [] :: h1) with
  | stuck => rw [z] at ok1; exact ok1
  | exc c h3 => rw [z] at ok1; exact fun g' H' e3 r3 d => ⟨c, rfl, ok1 g' H' (xt.trans e3) r3⟩
  | ok y h3 =>
    rw [z] at ok1
    cases y <;> first | exact ok1.elim | skip
    intro g' H' e3 r4 v rv
    have : v = .non := by simpa [RelA] using rv
    refine ⟨this, ok1 g' H' (xt.trans e3) r4 _ ?_⟩
    simp only [RelA]
    have h5 := e3.n
    have h6 : (g1.obj x).n = g1.n + 1 := rfl
    refine ⟨by omega, ?_⟩
    rw [e3.at_ h1.length (by omega)]
    show V.ref x = V.ref (if h1.length = g1.n then x else g1.at_ h1.length)
    rw [if_pos hn.symm]
theorem se_make {k ci fi : Nat} {x : Str} {dvs : List AV} (F : MkI C X.prog X.w X.K X.mg X.base k ci x dvs (φ 0 fi)) (hr : Room (k + 1) X.A) (hg : L2.Gl X x) (ha : SA C φ X (e :: es) fs) (hd : (x == ("__debug__" : Str)) = false) (hst : noStar e = true)
    (hp : (backTo pos (starEach es X.env)).any (·.1) = false) : SE C φ X (.Call (.Name x p) (e :: es) [] pos) (eMake ci fi dvs fs) := by
  obtain ⟨a, fd, ps, ds, dcs, F1, F2, F3, F4, F5⟩ := F.ex
  exact ⟨fun N tk => (L2.pe_make F2 F1 hr hg F.gC F3 F4 (call_passes tk) (ha.run N tk) hd (star_cons hst) hp).imp fun σ H Q h => make_read F5 h⟩
theorem se_make0 {k ci fi : Nat} {x : Str} {dvs : List AV} (F : MkI C X.prog X.w X.K X.mg X.base k ci x dvs (φ 0 fi)) (hr : Room (k + 1) X.A) (hg : L2.Gl X x) (hd : (x == ("__debug__" : Str)) = false) : SE C φ X (.Call (.Name x p) [] [] pos) (eMake ci fi dvs aNil) := by
  obtain ⟨a, fd, ps, ds, dcs, F1, F2, F3, F4, F5⟩ := F.ex
  refine ⟨fun N tk => (L2.pe_make0 F2 F1 hr hg F.gC F3 F4 (call_passes tk) hd).imp fun σ H Q h => ?_⟩
  obtain ⟨g, s, hh, r, rs, ok⟩ := make_read F5 h
  exact ok.fin r [] .nil
end
end TX

/-! TxX: displays of dicts, min of many, tuple(range), count: sound -/
set_option Elab.async false
set_option linter.all false
set_option maxRecDepth 100000
set_option maxHeartbeats 1000000
set_option autoImplicit false
namespace TX
open PySem PySem.Spec PyProof.Rows
open L2 (V HO Hp Key upd upd_same upd_ne SqL SqT Rd HOk Cx Inv PE PT PTs PW PS PSs PG PGs PI PA TE TT TA TS TG TGs TI It VK XK WX Takes Ends EP SP TP OpR tOp CallR tCB tCons tNil Sp Room FnOk)
/-! ### a dict that is being made -/
section
variable {C : Cfg} {g : Gh} {h : AH} {H : Hp}
theorem Rep.keptD (r : Rep C g h H) {p : Addr} (hp : H p = none) (xs : List (Key × V)) : Rep C (g.keep p (some (.dK xs))) h (L2.upd H p (.dK xs)) := by
  refine ⟨r.n, fun a o e => ?_, r.inj, r.dis, fun i o e => ?_, r.sys.new hp, fun a o e => ?_, fun i hi => ?_⟩
  · obtain ⟨e1, e2⟩ := r.fx a o e
    exact ⟨by rw [upd_ne (fun z => by subst z; rw [hp] at e1; cases e1)]; exact e1, e2⟩
  · obtain ⟨u, e1, e2⟩ := r.obj i o e
    exact ⟨u, by show L2.upd H p _ (g.at_ i) = _; rw [upd_ne (r.at_ne hp (by rw [r.n]; exact hget_lt e))]; exact e1, e2.keep⟩
  · have e : (if a = p then some (HO.dK xs) else g.kx a) = some o := e
    by_cases z : a = p
    · rw [if_pos z] at e
      cases e
      subst z
      exact ⟨upd_same, r.freeFx hp, .inr (.inl ⟨xs, rfl⟩)⟩
    · rw [if_neg z] at e
      obtain ⟨e1, e2, e3⟩ := r.kx a o e
      exact ⟨by rw [upd_ne z]; exact e1, e2, e3⟩
  · show (if g.at_ i = p then _ else g.kx (g.at_ i)) = none
    rw [if_neg (r.at_ne hp hi)]
    exact r.kd i hi
theorem Rep.unkeptD (r : Rep C g h H) {p : Addr} {xs : List (Key × V)} (hp : g.kx p = some (.dK xs)) : Rep C (g.keep p none) h (fun a => if a = p then none else H a) := by
  obtain ⟨h1, h2, _⟩ := r.kx p _ hp
  have na : ∀ i, i < g.n → g.at_ i ≠ p := fun i hi z => by
    have := r.kd i hi
    rw [z, hp] at this
    cases this
  have nt : ∀ a u, H a = some u → (∀ xs, u ≠ .dK xs) → a ≠ p := fun a u e n z => by
    subst z
    rw [h1] at e
    cases e
    exact n _ rfl
  refine ⟨r.n, fun a o e => ?_, r.inj, r.dis, fun i o e => ?_, ⟨fun q hq => ?_, fun P hP => ?_⟩, fun a o e => ?_, fun i hi => ?_⟩
  · obtain ⟨e1, e2⟩ := r.fx a o e
    exact ⟨by rw [if_neg (fun z => by subst z; have e : g.fx a = some o := e; rw [h2] at e; cases e)]; exact e1, e2⟩
  · obtain ⟨u, e1, e2⟩ := r.obj i o e
    exact ⟨u, by show (if g.at_ i = p then none else H (g.at_ i)) = _; rw [if_neg (na i (by rw [r.n]; exact hget_lt e))]; exact e1, e2.keep⟩
  · obtain ⟨ps, a1, a2, a3⟩ := r.sys.1 q hq
    refine ⟨ps, (if_neg (nt _ _ a1 fun xs z => nomatch z)).trans a1, a2, fun pos cv hc => ?_⟩
    obtain ⟨c, e1, e2⟩ := a3 pos cv hc
    exact ⟨c, e1, (if_neg (nt _ _ e2 fun xs z => by unfold LamX.CodeO at z; cases z)).trans e2⟩
  · obtain ⟨ps, a1, a2⟩ := r.sys.2 P hP
    exact ⟨ps, (if_neg (nt _ _ a1 fun xs z => nomatch z)).trans a1, a2⟩
  · have e : (if a = p then none else g.kx a) = some o := e
    by_cases z : a = p
    · rw [if_pos z] at e; cases e
    · rw [if_neg z] at e
      obtain ⟨e1, e2, e3⟩ := r.kx a o e
      exact ⟨by rw [if_neg z]; exact e1, e2, e3⟩
  · show (if g.at_ i = p then none else g.kx (g.at_ i)) = none
    rw [if_neg (na i hi)]
    exact r.kd i hi
end
section
variable {C : Cfg} {φ : Fn} {X : Cx} {a b c e o i : Expr} {es : List Expr} {fa fb fc fo f : EF} {fs : AF} {pos p p2 apos : Pos}
theorem putsL_rel {g : Gh} : ∀ {more kvs : List (AV × AV)} {us ws : List (Key × V)}, RelP C g kvs us → RelP C g more ws → RelP C g (putsL kvs more) (L2.mergeK us ws)
  | [], kvs, us, ws, h1, h2 => by
    simp only [RelP] at h2
    subst h2
    exact h1
  | (k, x) :: r, kvs, us, ws, h1, h2 => by
    simp only [RelP] at h2
    obtain ⟨k', v, r', rfl, h3, h4, h5⟩ := h2
    exact putsL_rel (kvs := putK k x kvs) (us := L2.putK us k' v) (ws := r') (h1.put h3 h4) h5
/-- the pairs of a display -/
structure SDP (C : Cfg) (φ : Fn) (X : Cx) (pos : Pos) (keys : List (Option Expr)) (vals : List Expr) (ps : List (EF × EF)) : Prop where
  run : ∀ N, Takes X (wX C N) → ∃ trs, L2.PPs X pos keys vals trs ∧ ∀ σ H Q, (∃ g s h, Rep C g h H ∧ RelS C g s σ ∧ okG C g (dpGo φ s ps h) (fun kvs g' _ H' => ∀ us, RelP C g' kvs us → Q (us.map fun kv => (L2.kV kv.1, kv.2)) H') N) → L2.tPairs trs σ H Q
  len : keys.length = vals.length ∧ keys.length = ps.length
  all : keys.all (·.isSome) = true
theorem sdp_nil : SDP C φ X pos [] [] [] := ⟨fun N tk => ⟨[], L2.pps_nil, fun σ H Q ⟨g, s, h, r, rs, ok⟩ => ok.fin r [] (by simp only [RelP])⟩, ⟨rfl, rfl⟩, rfl⟩
theorem sdp_cons {k v : Expr} {fk fv : EF} {keys : List (Option Expr)} {vals : List Expr} {ps : List (EF × EF)} (hk : SE C φ X k fk) (hv : SE C φ X v fv) (hr : SDP C φ X pos keys vals ps) : SDP C φ X pos (some k :: keys) (v :: vals) ((fk, fv) :: ps) := by
  refine ⟨fun N tk => ?_, ⟨by simp [hr.len.1], by simp [hr.len.2]⟩, by simp [hr.all]⟩
  obtain ⟨trs, h1, h2⟩ := hr.run N tk
  refine ⟨_, L2.pps_cons (hk.run N tk) (hv.run N tk) h1, fun σ H Q ⟨g, s, h, r, rs, ok⟩ => ?_⟩
  unfold dpGo at ok
  show tE C φ fk N σ H _
  refine go r rs ok fun g1 hh1 x cx H1 e1 r1 rx ok1 => ?_
  refine go r1 (rs.mono e1) ok1 fun g2 hh2 y cy H2 e2 r2 ry ok2 => ?_
  split at ok2
  · rename_i hkey
    obtain ⟨kk, hk1, hk2⟩ := key_of hkey rx
    subst hk2
    refine h2 σ H2 _ ⟨g2, s, hh2, r2, (rs.mono e1).mono e2, ?_⟩
    cases z : dpGo φ s ps hh2 with
    | ok kvs h3 =>
      rw [z] at ok2
      intro g3 H3 e3 r3 us ru
      have ok3 := okG.ext ok2 e3
      have := ok3.fin r3 ((kk, cy) :: us) (by
        simp only [RelP]
        exact ⟨kk, cy, us, rfl, hk1, ry.mono e3, ru⟩)
      exact this
    | exc c h3 => rw [z] at ok2; exact ok2
    | stuck => rw [z] at ok2; exact ok2
  · exact ok2.elim
theorem se_dct0 (m : Bool) : SE C φ X (.Dict [] [] pos) (eDct m []) := by
  refine ⟨fun N tk => L2.pe_dnewK.imp fun σ H Q ⟨g, s, h, r, rs, ok⟩ => ?_⟩
  unfold eDct at ok
  rw [if_pos (by decide)] at ok
  exact mkD_at (vs := []) r (by simp only [putsL, RelP]) ok
theorem se_dct (m : Bool) {keys : List (Option Expr)} {vals : List Expr} {ps : List (EF × EF)} (hp : SDP C φ X pos keys vals ps) (h0 : keys ≠ []) (h15 : keys.length ≤ 15) : SE C φ X (.Dict keys vals pos) (eDct m ps) := by
  refine ⟨fun N tk => ?_⟩
  obtain ⟨trs, h1, h2⟩ := hp.run N tk
  refine (L2.pe_disp h1 hp.all hp.len.1 h0 h15).imp fun σ H Q ⟨g, s, h, r, rs, ok⟩ => ?_
  intro D hD
  have kD : g.kx D = none := r.freeKx hD
  unfold eDct at ok
  rw [if_pos (by rw [← hp.len.2]; exact h15)] at ok
  have eK : Ext g (g.keep D (some (.dK []))) := Rep.ext_keep kD
  refine h2 σ _ _ ⟨g.keep D (some (.dK [])), s, h, r.keptD hD [], rs.mono eK, ?_⟩
  have ok0 := ok
  have ok := okG.ext ok eK
  cases z : dpGo φ s ps h with
  | ok kvs h3 =>
    rw [z] at ok
    intro g3 H3 e3 r3 us ru
    have ok3 := okG.ext ok e3
    have kx3 : g3.kx D = some (.dK []) := e3.kx _ _ (Gh.keep_same _ _ _)
    obtain ⟨hHD, _, _⟩ := r3.kx D _ kx3
    refine ⟨hHD, us, rfl, ?_, ?_⟩
    · have l1 : ∀ {ps : List (EF × EF)} {h h3 : AH} {kvs : List (AV × AV)}, dpGo φ s ps h = .ok kvs h3 → kvs.length = ps.length := by
        intro ps
        induction ps with
        | nil => intro h h3 kvs e; unfold dpGo at e; cases e; rfl
        | cons q qs ih =>
          intro h h3 kvs e
          unfold dpGo at e
          obtain ⟨x, hx, ex, e⟩ := bind_eq_ok e
          obtain ⟨y, hy, ey, e⟩ := bind_eq_ok e
          split at e
          · obtain ⟨ps', hp', ep, e⟩ := bind_eq_ok e
            cases e
            simp [ih ep]
          · cases e
      have l2 := l1 z
      have l3 := ru.len
      have := hp.len.2
      omega
    · have rr := r3.unkeptD kx3
      have okm : okG C (g3.keep D none) (mkD m (putsL [] kvs) h3) (fun x g' _ H' => ∀ v, RelA C g' x v → Q v H') N := by
        have := okG.ext ok0 ((eK.trans e3).keepS kD none)
        rw [z] at this
        exact this
      have := mkD_at rr (putsL_rel (kvs := []) (us := []) (by simp only [RelP]) ru.keep) okm D (if_pos rfl)
      rw [show (L2.upd H3 D (HO.dK (L2.mergeK [] us))) = L2.upd (fun a => if a = D then none else H3 a) D (HO.dK (L2.mergeK [] us)) by
        funext a
        by_cases z : a = D
        · subst z; rw [upd_same, upd_same]
        · rw [upd_ne z, upd_ne z, if_neg z]]
      exact this
  | exc c h3 => rw [z] at ok; exact ok
  | stuck => rw [z] at ok; exact ok
/-! ### min of many -/
theorem minOf_snoc (lt : Int → Int → Bool) : ∀ (l : List Int) (a x : Int), minOf lt a (l ++ [x]) = if lt x (minOf lt a l) then x else minOf lt a l
  | [], a, x => rfl
  | b :: r, a, x => minOf_snoc lt r (if lt b a then b else a) x
theorem best_min {xs : Array (Int × Tok)} : ∀ (k : Nat), numAt xs (argBest (fun i j => decide (numAt xs i < numAt xs j)) k) = minOf ilt (numAt xs 0) ((List.range k).map fun i => numAt xs (i + 1))
  | 0 => rfl
  | k + 1 => by
    rw [List.range_succ, List.map_append]
    show _ = minOf ilt (numAt xs 0) (_ ++ [numAt xs (k + 1)])
    rw [minOf_snoc, ← best_min k]
    show numAt xs (if decide (numAt xs (k + 1) < numAt xs (argBest _ k)) = true then k + 1 else argBest _ k) = if ilt _ _ = true then _ else _
    unfold ilt
    split <;> rfl
end
section
variable {prog : Program} {w : World} {A : Around} {E : Value → Shared → Prop} {s : Shared}
theorem args_min7 (a b c d e f g : Value) : argsOk "min" ⟨[a, b, c, d, e, f, g], []⟩ := by unfold argsOk; kernel_rfl
theorem call_min_seven {a b c d e f g : Value} {Q : Value → Shared → Prop}
    (h : wpAny (model prog w) A.in1 (pyIter (.ref s.heap.objs.size)) (fun it s₂ => ∃ I fp wr n P St bt, it = .ref I ∧ Walks prog w A.in1 I fp wr n P St ∧ St 0 s₂.heap ∧ (∀ b ∈ fp, b < s₂.heap.objs.size) ∧ 0 < n ∧ CmpOf prog w A.in1 .Lt P bt ∧
      ∀ v h' tk, P (argBest bt (n - 1)) v → (∀ b o, b ∉ wr → s₂.heap.get? b = some o → h'.get? b = some o) → Q v { s₂ with heap := h', toks := tk }) E
      { s with heap := s.heap.push { cls := .type "tuple", data := .seq #[a, b, c, d, e, f, g] } }) :
    wpAny (model prog w) A (call (.builtin "min") [a, b, c, d, e, f, g]) Q E s := by
  have hname : (toString "min" ++ toString ".loop" : String) = "min.loop" := by decide
  refine call_function_tree PySem.F.kind_min PySem.F.plain_min PySem.F.entry_min (args_min7 _ _ _ _ _ _ _) ?_
  show wpAny _ A.in1 (Builtin.Builtins.bindParams "min" ["key", "default"] 0 ⟨[], []⟩ >>= _) _ _ s
  refine wpAny_bind (wpAny_of_eq (show Builtin.Builtins.bindParams "min" ["key", "default"] 0 ⟨[], []⟩ = pure [none, none] from rfl) ?_)
  show wpAny _ A.in1 (newTuple [a, b, c, d, e, f, g] >>= _) _ _ s
  refine wpAny_bind (wpAny_newObj_type ?_)
  refine wpAny_bind (wpAny_mono h (fun it s₂ h₂ => ?_) fun _ _ e => e)
  obtain ⟨I, fp, wr, n, P, St, bt, rfl, W, hst, hfp, hn, hcmp, hQ⟩ := h₂
  refine wpAny_bind (wpAny_newObj_type ?_)
  have hSf : s₂.heap.objs.size ∉ fp := fun hm => Nat.lt_irrefl _ (hfp _ hm)
  rw [hname]
  refine wpAny_pure ⟨plainId_quiet PySem.F.plain_min_loop _, codeAny_min_loop_first W bt hcmp s₂.heap.objs.size hSf hn (W.frame _ _ _ hst fun b _ o e => Heap.get?_push_of_some _ e) (Heap.get?_push_size _ rfl) fun v h' tk hP hk => ?_⟩
  exact hQ v h' tk hP fun b o hbw e => hk b o hbw (Nat.ne_of_lt (Heap.lt_size e)) (Heap.get?_push_of_some _ e)
theorem min_seven_ints {x0 x1 x2 x3 x4 x5 x6 : Int × Tok} {Q : Value → Shared → Prop} (hh : A.handled = none)
    (h : ∀ h' tk t, (∀ d o, s.heap.get? d = some o → h'.get? d = some o) → Q (.int (minOf ilt x0.1 [x1.1, x2.1, x3.1, x4.1, x5.1, x6.1]) t) { s with heap := h', toks := tk }) :
    wpAny (model prog w) A (call (.builtin "min") [.int x0.1 x0.2, .int x1.1 x1.2, .int x2.1 x2.2, .int x3.1 x3.2, .int x4.1 x4.2, .int x5.1 x5.2, .int x6.1 x6.2]) Q E s := by
  have hT : (s.heap.push { cls := .type "tuple", data := .seq #[.int x0.1 x0.2, .int x1.1 x1.2, .int x2.1 x2.2, .int x3.1 x3.2, .int x4.1 x4.2, .int x5.1 x5.2, .int x6.1 x6.2] }).IsTuple s.heap.objs.size (intItems #[x0, x1, x2, x3, x4, x5, x6]) := ⟨_, Heap.get?_push_size _ rfl, rfl, 0, by simp [intItems]⟩
  refine call_min_seven (wpAny_pyIter_tuple hT ?_)
  have hsz : (s.heap.push { cls := .type "tuple", data := .seq #[.int x0.1 x0.2, .int x1.1 x1.2, .int x2.1 x2.2, .int x3.1 x3.2, .int x4.1 x4.2, .int x5.1 x5.2, .int x6.1 x6.2] }).objs.size = s.heap.objs.size + 1 := Heap.size_push ..
  refine ⟨_, [_, s.heap.objs.size], [_], _, _, _, _, rfl, Walks.tuple (A := A.in1) hh _ s.heap.objs.size (by rw [hsz]; exact Nat.ne_of_lt (Nat.lt_succ_self _)) (intItems #[x0, x1, x2, x3, x4, x5, x6]),
    ⟨⟨_, Heap.get?_push_size _ rfl, rfl, rfl⟩, hT.push _⟩, fun d hd => ?_, by simp [intItems], CmpOf.ints_lt (numAt #[x0, x1, x2, x3, x4, x5, x6]) (fun _ _ => intItems_at), fun v h' tk hP hk => ?_⟩
  · show d < ((s.heap.push _).push _).objs.size
    rw [Heap.size_push, hsz]
    rcases List.mem_cons.mp hd with rfl | hd
    · rw [hsz]; exact Nat.lt_succ_self _
    · rcases List.mem_cons.mp hd with rfl | hd
      · exact Nat.lt_succ_of_lt (Nat.lt_succ_self _)
      · cases hd
  · have hold : ∀ d o, s.heap.get? d = some o → h'.get? d = some o := fun d o e => by
      refine hk d o (fun hm => ?_) (Heap.get?_push_of_some _ (Heap.get?_push_of_some _ e))
      rcases List.mem_cons.mp hm with e1 | hm
      · have := Heap.lt_size e; rw [e1, hsz] at this; exact Nat.lt_irrefl _ (Nat.lt_of_succ_lt this)
      · cases hm
    obtain ⟨t, rfl⟩ := intItems_at hP
    have hb := best_min (xs := #[x0, x1, x2, x3, x4, x5, x6]) 6
    have hsz2 : (intItems #[x0, x1, x2, x3, x4, x5, x6]).size - 1 = 6 := by simp [intItems]
    rw [hsz2, hb]
    exact h h' tk t hold
end
section
variable {C : Cfg} {φ : Fn} {X : Cx} {a b c e o i : Expr} {es : List Expr} {fa fb fc fo f : EF} {fs : AF} {pos p p2 apos : Pos}
theorem call_min7 (hc : X.calm = true) : CallR X (.builtin "min") (fun xs H Q => ∃ a ns, xs = (a :: ns).map V.int ∧ ns.length = 6 ∧ Q (.int (minOf ilt a ns)) H) := by
  intro pins s σ H xs us Q I r h
  obtain ⟨a, ns, rfl, hl, q⟩ := h
  match ns, hl with
  | [b, c, d, e, f, g], _ =>
    simp only [List.map_cons, List.map_nil] at r
    cases r with
    | cons r0 r => cases r with
      | cons r1 r => cases r with
        | cons r2 r => cases r with
          | cons r3 r => cases r with
            | cons r4 r => cases r with
              | cons r5 r => cases r with
                | cons r6 r =>
                  cases r
                  obtain ⟨t0, rfl⟩ := r0
                  obtain ⟨t1, rfl⟩ := r1
                  obtain ⟨t2, rfl⟩ := r2
                  obtain ⟨t3, rfl⟩ := r3
                  obtain ⟨t4, rfl⟩ := r4
                  obtain ⟨t5, rfl⟩ := r5
                  obtain ⟨t6, rfl⟩ := r6
                  exact min_seven_ints (x0 := (a, t0)) (x1 := (b, t1)) (x2 := (c, t2)) (x3 := (d, t3)) (x4 := (e, t4)) (x5 := (f, t5)) (x6 := (g, t6)) (I.ok.hd hc) fun h' tk t k => ⟨V.int (minOf ilt a [b, c, d, e, f, g]), H, I.kept k, ⟨t, rfl⟩, q⟩
theorem se_min7 (A : At C X) (bn : Bn X "min") (ha : SA C φ X (e :: es) fs) (hs : starEach (e :: es) X.env = (false, eval e X.env) :: starEach es X.env) (hp : (backTo pos (starEach es X.env)).any (·.1) = false) : SE C φ X (.Call (.Name "min" p) (e :: es) [] pos) (eMin7 fs) := by
  refine ⟨fun N tk => (L2.pe_callB (call_min7 A.calm) bn.gl bn.mg (by rfl) (ha.run N tk) (by decide) (by decide) hs hp).imp fun σ H Q ⟨g, s, h, r, rs, ok⟩ => ?_⟩
  refine goA r rs ok fun g1 h1 xs vs H1 e1 r1 rl ok1 => ?_
  split at ok1
  · rename_i i ns hi
    split at ok1
    · rename_i hl
      have := ints_rel rl hi
      exact ⟨i, ns, this, hl, ok1.fin r1 _ (by simp [RelA])⟩
    · exact ok1.elim
  · exact ok1.elim
/-! ### tuple(range(a, b)) -/
theorem se_trg (A : At C X) {q : Pos} (bl : Bn X "tuple") (br : Bn X "range") (ha : SE C φ X a fa) (hb : SE C φ X b fb) (hn : noStar a = true) (hn2 : noStar b = true) :
    SE C φ X (.Call (.Name "tuple" p) [.Call (.Name "range" p2) [a, b] [] q] [] pos) (eTRg fa fb) := by
  refine ⟨fun N tk => (L2.pe_tupRg A.calm bl.gl bl.mg (L2.prg_2 br.gl br.mg (ha.run N tk) (hb.run N tk) (by rw [star_cons hn]) (by rw [star_cons hn2]) (by rw [star_cons hn2]; rfl)) (by rfl)).imp fun σ H Q ⟨g, s, h, r, rs, ok⟩ => ?_⟩
  refine go r rs ok fun g1 h1 x cx H1 e1 r1 rx ok1 => go r1 (rs.mono e1) ok1 fun g2 h2 y cy H2 e2 r2 ry ok2 => ?_
  split at ok2
  · rename_i i j
    split at ok2
    · rename_i hk
      simp only [Bool.and_eq_true, decide_eq_true_eq] at hk
      obtain ⟨k1, k2⟩ := rngOk_of hk.1.1
      obtain ⟨k3, k4⟩ := rngOk_of hk.1.2
      refine ⟨i, j, (rx.mono e2).int, ry.int, ⟨k1, k2, k3, k4, Nat.le_trans hk.2 (by decide)⟩, fun q hq => ?_⟩
      exact tup_at r2 (rng_rel _ _) ok2 q hq
    · exact ok2.elim
  · exact ok2.elim
/-! ### o.count(e) -/
theorem se_count (A : At C X) (ho : SE C φ X o fo) (ha : SE C φ X e f) (hs : notSuper o = true) (hn : noStar e = true) (hl : (apos.endLine == pos.line) = true) :
    SE C φ X (.Call (.Attribute o "count" apos) [e] [] pos) (eCount fo f) := by
  refine ⟨fun N tk => (L2.pe_bm PySem.F.plainAttrs_list PySem.F.slot_list_count PySem.F.type_list_count L2.mt_lcount (ho.run N tk) ((sa_cons ha sa_nil hn).run N tk) (mBase_by hs) (by rw [star1 hn]; rfl) hl (star_cons hn) rfl).imp fun σ H Q ⟨g, s, hh, r, rs, ok⟩ => ?_⟩
  refine go r rs ok fun g1 h1 x cx H1 e1 r1 rx ok1 => ?_
  split at ok1
  · rename_i xs hx
    refine ⟨tyV_lst A.K.symm r1 rx hx, g1, s, h1, r1, rs.mono e1, ?_⟩
    unfold aCons aNil
    cases z : f φ s h1 with
    | ok v h2 =>
      rw [z] at ok1
      simp only [bind_ok] at ok1 ⊢
      intro g2 H2 e2 r2 vs rl
      obtain ⟨cv, vs2, rfl, rv, rn⟩ := rl
      cases rn
      have ok2 := okG.ext ok1 e2
      unfold cntA at ok2
      split at ok2
      · rename_i u hu
        split at hu
        · rename_i ys k hy
          obtain ⟨p, ws, rfl, rl2, h3⟩ := lst_at r2 (rx.mono e2) hy
          cases hz : intsO ys with
          | none => rw [hz] at hu; cases hu
          | some ns =>
            rw [hz] at hu
            cases hu
            have e3 := ints_rel rl2 hz
            subst e3
            refine ⟨p, ns, k, rfl, by rw [rv.int], ?_, ok2.fin r2 _ (by simp [RelA])⟩
            rw [A.K]
            exact SqL.of h3
        · cases hu
      · exact ok2.elim
    | exc c h2 => rw [z] at ok1; exact ok1
    | stuck => rw [z] at ok1; exact ok1
  · exact ok1.elim
end
end TX

/-! TxY: items, targets of all kinds, reversed lists, deep ==, sorted triples: sound -/
set_option Elab.async false
set_option linter.all false
set_option maxRecDepth 100000
set_option maxHeartbeats 1000000
set_option autoImplicit false
namespace TX
open PySem PySem.Spec PyProof.Rows
open L2 (V HO Hp Key upd upd_same upd_ne SqL SqT Rd HOk Cx Inv PE PT PTs PW PS PSs PG PGs PI PA TE TT TA TS TG TGs TI It VK XK WX Takes Ends EP SP TP OpR tOp CallR tCB tCons tNil Sp Room FnOk)
/-! ### targets of all kinds -/
section
variable {C : Cfg} {φ : Fn} {X : Cx} {a b c e o i : Expr} {es : List Expr} {fa fb fc fo fi f : EF} {fs : AF} {pos p p2 apos : Pos}
def tGE (C : Cfg) (φ : Fn) (g : GE) (N : Nat → Hp → Prop) : TG := fun v σ H Q => ∃ g0 s h y, Rep C g0 h H ∧ RelS C g0 s σ ∧ RelA C g0 y v ∧ okG C g0 (g φ y s h) (fun s1 g' _ H' => ∀ σ', RelS C g' s1 σ' → Q σ' H') N
def tGEs (C : Cfg) (φ : Fn) (g : GEs) (N : Nat → Hp → Prop) : TGs := fun vs σ H Q => ∃ g0 s h ys, Rep C g0 h H ∧ RelS C g0 s σ ∧ RelL C g0 ys vs ∧ okG C g0 (g φ ys s h) (fun s1 g' _ H' => ∀ σ', RelS C g' s1 σ' → Q σ' H') N
structure SG (C : Cfg) (φ : Fn) (X : Cx) (tg : Expr) (g : GE) : Prop where
  run : ∀ N, Takes X (wX C N) → PG X tg (tGE C φ g N)
structure SGs (C : Cfg) (φ : Fn) (X : Cx) (tg : List Expr) (g : GEs) : Prop where
  run : ∀ N, Takes X (wX C N) → PGs X tg (tGEs C φ g N)
theorem sg_name {k : Nat} {x : Str} (A : At C X) (hi : X.N[k]? = some x) (hx : L2.Loc X.env.scope x) (hf : X.fn x = true ∨ X.env.scope.names.lookup x = some .local) : SG C φ X (.Name x pos) (hN k) := by
  refine ⟨fun N tk => (L2.pg_name A.nd hi hx hf).imp fun v σ H Q ⟨g0, s, h, y, r, rs, ry, ok⟩ => ?_⟩
  exact ok.fin r _ (rs.set k ry)
theorem sg_sub (A : At C X) (ho : SE C φ X o fo) (hi : SE C φ X i fi) (hn : noSl i = true) : SG C φ X (.Subscript o i pos) (hS fo fi) := by
  have hu := A.hu
  refine ⟨fun N tk => (L2.pg_sub (ho.run N tk) (hi.run N tk) (pset_any (by omega)) (assign_sub hn)).imp fun v σ H Q ⟨g0, s, h, y, r, rs, ry, ok⟩ => ?_⟩
  refine go r rs ok fun g1 h1 x cx H1 e1 r1 rx ok1 => go r1 (rs.mono e1) ok1 fun g2 h2 k ck H2 e2 r2 rk ok2 => ?_
  cases z : setA x k y h2 with
  | none => rw [z] at ok2; exact ok2.elim
  | some h4 =>
    rw [z] at ok2
    exact set_at r2 (rx.mono e2) rk ((ry.mono e1).mono e2) z fun H' r' => ok2 g2 H' (Ext.refl _) r' σ ((rs.mono e1).mono e2)
/-- o.f as a target -/
def gFld (K : PySem.W.Frag) (ta : TE) (f : Str) : TG := fun v σ H Q => ta σ H fun x H1 => ∃ a Cl dx fs, x = .ref a ∧ H1 a = some (.ins Cl dx fs) ∧ L2.Cls K Cl ∧ L2.NoAttr K Cl f ∧ fs.length < 1000 ∧ Q σ (upd H1 a (.ins Cl dx (L2.putF f v fs)))
theorem pg_fld {fn : Str} {ta : TE} (ho : PE X o ta) : PG X (.Attribute o fn pos) (gFld X.K ta fn) := by
  refine ⟨fun pins s σ H v u Q I r h => ?_⟩
  rw [arm_assign_Attribute]
  refine wpAny_bind (wpAny_holding (L2.thn (ho.run pins s σ H _ I h) fun ov s1 ⟨x, H1, I1, rx, a, Cl, dx, fs, ex, ea, c, n, l, q⟩ => ?_))
  subst ex
  obtain rfl : ov = Value.ref a := rx
  refine wpAny_bind (wpAny_standAt (wpAny_bind (wpAny_holding ?_)))
  exact L2.setattr_ok I1 ea c n l r fun s2 I2 => wpAny_release ⟨σ, _, I2, q⟩
theorem sg_fld {cs : List Nat} {n : Tx} {fn : Str} (hF_ : ∀ c ∈ cs, ClF C X.K c fn) (hn : fn = toS n) (ho : SE C φ X o fo) : SG C φ X (.Attribute o fn pos) (hF cs n fo) := by
  refine ⟨fun N tk => (pg_fld (ho.run N tk)).imp fun v σ H Q ⟨g0, s, h, y, r, rs, ry, ok⟩ => ?_⟩
  refine go r rs ok fun g1 h1 x cx H1 e1 r1 rx ok1 => ?_
  cases z : setF cs n x y h1 with
  | none => rw [z] at ok1; exact ok1.elim
  | some h4 =>
    rw [z] at ok1
    obtain ⟨a, c, dx, us, e3, e4, e5, e6, e7⟩ := setF_at (X := X) (Q := fun H' => Q σ H') hF_ hn r1 rx (ry.mono e1) z fun H' r' => ok1 g1 H' (Ext.refl _) r' σ (rs.mono e1)
    exact ⟨a, _, dx, us, e3, e4, (hF_ c e5).cls, (hF_ c e5).no, e6, e7⟩
theorem sgs_nil : SGs C φ X [] hNil := by
  refine ⟨fun N tk => L2.pgs_nil.imp fun vs σ H Q ⟨g0, s, h, ys, r, rs, ry, ok⟩ => ?_⟩
  cases ys with
  | cons y t => exact ok.elim
  | nil =>
    rw [RelL.nil_iff] at ry
    exact ⟨ry, ok.fin r _ rs⟩
theorem sgs_cons {t : Expr} {ts : List Expr} {g : GE} {gs : GEs} (h1 : SG C φ X t g) (h2 : SGs C φ X ts gs) (hn : noStarT t = true) : SGs C φ X (t :: ts) (hCons g gs) := by
  refine ⟨fun N tk => (L2.pgs_cons (h1.run N tk) (h2.run N tk) (by rw [assign_cons hn]; rfl)).imp fun vs σ H Q ⟨g0, s, h, ys, r, rs, ry, ok⟩ => ?_⟩
  cases ys with
  | nil => exact ok.elim
  | cons y t =>
    obtain ⟨v1, vr, rfl, r1, r2⟩ := RelL.cons_iff.mp ry
    refine ⟨v1, vr, rfl, g0, s, h, y, r, rs, r1, ?_⟩
    have ok : okG C g0 ((g φ y s h).bind fun s1 h1 => gs φ t s1 h1) (fun s1 g' _ H' => ∀ σ', RelS C g' s1 σ' → Q σ' H') N := ok
    cases z : g φ y s h with
    | ok s1 h1 =>
      rw [z] at ok
      intro g1 H1 e1 r1' σ' rs'
      exact ⟨g1, s1, h1, t, r1', rs', r2.mono e1, okG.ext ok e1⟩
    | exc c h1 => rw [z] at ok; exact ok
    | stuck => rw [z] at ok; exact ok
theorem ss_mul {ts : List Expr} {kt k2 : Nat} {pt pt2 : Pos} {gs : GEs} (A : At C X) (ha : SA C φ X es fs) (hg : SGs C φ X ts gs) (hp : plainTs ts = true) (hw : swappedStores [.Tuple ts kt pt] (.Tuple es k2 pt2) X.env = pure none) :
    SS C φ X (.Assign [.Tuple ts kt pt] (.Tuple es k2 pt2) pos) (sMul ts.length gs fs) := by
  refine ⟨fun N tk => (L2.ps_asg ((se_tup (k := k2) (pos := pt2) ha).run N tk) (L2.pg_tup A.calm (hg.run N tk) (plainTs_len hp).1 (plainTs_len hp).2) rfl hw rfl).imp fun D σ H ⟨g0, s, h, r, rs, ok⟩ => ?_⟩
  refine ⟨g0, s, h, r, rs, ?_⟩
  unfold sMul at ok
  unfold eTup
  cases z : fs φ s h with
  | ok vs h1 =>
    rw [z] at ok
    simp only [bind_ok] at ok ⊢
    split at ok
    · rename_i hl
      rw [if_pos (by have := hl.1; have := hl.2; have : SZ = 16777216 := rfl; omega)]
      intro g1 H1 e1 r1 v rv
      simp only [RelA] at rv
      obtain ⟨a, us, rfl, ht, rl⟩ := rv
      have ok1 := okG.ext ok e1
      refine ⟨a, us, rfl, by rw [A.K]; exact SqT.mono (fun b o q => (r1.fx b o q).1) ht, by rw [← rl.len]; exact hl.1, g1, s, h1, vs, r1, rs.mono e1, rl, ?_⟩
      cases z2 : gs φ vs s h1 with
      | ok s1 h2 =>
        rw [z2] at ok1
        intro g2 H2 e2 r2 σ' rs'
        exact okG.ext ok1 e2 g2 H2 (Ext.refl _) r2 σ' rs'
      | exc c h2 => rw [z2] at ok1; exact ok1
      | stuck => rw [z2] at ok1; exact ok1
    · exact ok.elim
  | exc c h1 => rw [z] at ok; exact ok
  | stuck => rw [z] at ok; exact ok
end
/-! ### == of nested lists -/
section
variable {C : Cfg} {φ : Fn} {X : Cx} {a b : Expr} {fa fb : EF} {pos : Pos}
theorem allO_dp {g : Gh} {H : Hp} {f : AV → Option AV} (hf : ∀ x y v, RelA C g x v → f x = some y → y.data = true → L2.Dp C.K H v (toD y)) : ∀ {xs ys : List AV} {vs : List V}, RelL C g xs vs → allO f xs = some ys → AV.dataL ys = true → L2.DpAll C.K H vs (toDL ys)
  | [], ys, vs, rl, e, d => by
    simp only [allO, Option.some.injEq] at e
    subst e
    rw [RelL.nil_iff] at rl
    subst rl
    exact .nil
  | x :: r, ys, vs, rl, e, d => by
    obtain ⟨v, vr, rfl, h1, h2⟩ := RelL.cons_iff.mp rl
    unfold allO at e
    split at e
    · rename_i y yr e1 e2
      cases e
      simp only [AV.dataL, Bool.and_eq_true] at d
      exact .cons (hf _ _ _ h1 e1 d.1) (allO_dp hf h2 e2 d.2)
    · cases e
theorem deep_dp {g : Gh} {h : AH} {H : Hp} (r : Rep C g h H) : ∀ (n : Nat) (x y : AV) (v : V), RelA C g x v → deepA h n x = some y → y.data = true → L2.Dp C.K H v (toD y)
  | 0, x, y, v, rx, e, d => by cases e
  | n + 1, x, y, v, rx, e, d => by
    have ih := deep_dp r n
    have k : ∀ a o, g.fx a = some o → H a = some o := fun a o e => (r.fx a o e).1
    cases x with
    | ref i =>
      simp only [deepA] at e
      split at e
      · rename_i xs hg
        obtain ⟨ys, e1, rfl⟩ := Option.map_eq_some_iff.mp e
        simp only [RelA] at rx
        obtain ⟨u, h1, vs, rfl, h3⟩ := r.obj i _ hg
        rw [rx.2]
        simp only [AV.data] at d
        exact .lst (SqL.of h1) (allO_dp ih h3 e1 d)
      · cases e
    | tup xs =>
      simp only [deepA] at e
      obtain ⟨ys, e1, rfl⟩ := Option.map_eq_some_iff.mp e
      simp only [RelA] at rx
      obtain ⟨a, vs, rfl, h2, h3⟩ := rx
      simp only [AV.data] at d
      exact .tup (SqT.mono k h2) (allO_dp ih h3 e1 d)
    | lst xs =>
      simp only [deepA] at e
      obtain ⟨ys, e1, rfl⟩ := Option.map_eq_some_iff.mp e
      simp only [RelA] at rx
      obtain ⟨a, vs, rfl, h2, h3⟩ := rx
      simp only [AV.data] at d
      exact .lst (SqL.of (k _ _ h2)) (allO_dp ih h3 e1 d)
    | dct kvs => simp [deepA] at e
    | scr kvs => simp [deepA] at e
    | _ =>
      simp only [deepA, Option.some.injEq] at e
      subst e
      exact toD_dp k d rx
theorem eqDp_at {g : Gh} {h : AH} {H : Hp} {x y : AV} {cx cy : V} {c : Bool} (r : Rep C g h H) (rx : RelA C g x cx) (ry : RelA C g y cy) (e : eqDp x y h = some c) :
    ∃ d d', L2.Dp C.K H cx d ∧ L2.Dp C.K H cy d' ∧ SeqAt.shaped d = true ∧ SeqAt.shaped d' = true ∧ PyData.eqv d d' = c := by
  unfold eqDp at e
  split at e
  · rename_i p q e1 e2
    split at e
    · rename_i hz
      simp only [Option.some.injEq] at e
      simp only [Bool.and_eq_true, decide_eq_true_eq] at hz
      obtain ⟨⟨⟨z1, z2⟩, z3⟩, z4⟩ := hz
      exact ⟨_, _, deep_dp r 8 _ _ _ rx e1 z1, deep_dp r 8 _ _ _ ry e2 z2, shaped_of z1 z3, shaped_of z2 z4, (toD_eqv z1 z2).trans e⟩
    · cases e
  · cases e
theorem eqD_run (hK : X.K = C.K) : BinR C (rEqA X.K) (fun x y h => match eqDp x y h with | some c => .ok (.bl (if false = true then !c else c)) h | none => .stuck) := by
  refine ⟨fun g h H x y cx cy Q N r rx ry ok => ?_⟩
  cases z : eqDp x y h with
  | none => simp only [z] at ok; exact ok.elim
  | some c =>
    simp only [z, Bool.false_eq_true, if_false] at ok
    rw [hK]
    obtain ⟨d, d', h1, h2, h3, h4, h5⟩ := eqDp_at r rx ry z
    exact .inr ⟨d, d', h1, h2, h3, h4, by rw [h5]; exact ok.fin r _ (by simp [RelA])⟩
theorem neD_run (hK : X.K = C.K) : BinR C (rNeA X.K) (fun x y h => match eqDp x y h with | some c => .ok (.bl (if true = true then !c else c)) h | none => .stuck) := by
  refine ⟨fun g h H x y cx cy Q N r rx ry ok => ?_⟩
  cases z : eqDp x y h with
  | none => simp only [z] at ok; exact ok.elim
  | some c =>
    simp only [z, if_true] at ok
    rw [hK]
    obtain ⟨d, d', h1, h2, h3, h4, h5⟩ := eqDp_at r rx ry z
    exact .inr ⟨d, d', h1, h2, h3, h4, by rw [h5]; exact ok.fin r _ (by simp [RelA])⟩
theorem se_eqD (A : At C X) (ne : Bool) (ha : SE C φ X a fa) (hb : SE C φ X b fb) (hm : behindInMarks (if ne then CmpOp.NotEq else .Eq) b = false) : SE C φ X (.Compare a [if ne then CmpOp.NotEq else .Eq] [b] pos) (eEqD ne fa fb) := by
  have hu := A.hu
  cases ne with
  | false => exact se_op2 (fun x y => L2.pe_cmpR (op_eqA (by omega)) x y hm) (eqD_run A.K) ha hb
  | true => exact se_op2 (fun x y => L2.pe_cmpR (op_neA (by omega)) x y hm) (neD_run A.K) ha hb
theorem sb_eqD (A : At C X) (ne : Bool) (ha : SE C φ X a fa) (hb : SE C φ X b fb) (hm : behindInMarks (if ne then CmpOp.NotEq else .Eq) b = false) : SB C φ X (.Compare a [if ne then CmpOp.NotEq else .Eq] [b] pos) (eEqD ne fa fb) := by
  have hu := A.hu
  have main : ∀ {r : L2.R2} {k : AV → AV → AH → Out AV} {op : CmpOp}, OpR X (compareOp op) r → BinR C r k → behindInMarks op b = false → SB C φ X (.Compare a [op] [b] pos) (fun φ s h => (fa φ s h).bind fun x h1 => (fb φ s h1).bind fun y h2 => k x y h2) := fun h1 h2 hm => by
    refine ⟨fun N tk => (L2.pt_cmpR h1 (ha.run N tk) (hb.run N tk) hm).imp fun σ H Q ⟨g, s, h, r, rs, ok⟩ => ?_⟩
    have ok2 := okG.bools ok
    exact go r rs ok2 fun g1 h1 x cx H1 e1 r1 rx ok1 => go r1 (rs.mono e1) ok1 fun g2 hh y cy H2 e2 r2 ry ok2 => h2.run g2 hh H2 x y cx cy _ N r2 (rx.mono e2) ry ok2
  cases ne with
  | false => exact main (op_eqA (by omega)) (eqD_run A.K) hm
  | true => exact main (op_neA (by omega)) (neD_run A.K) hm
end
/-! ### items -/
section
variable {C : Cfg} {φ : Fn} {X : Cx} {a b c e o i : Expr} {es : List Expr} {fa fb fc fo fi f : EF} {fs : AF} {pos p p2 apos cpos : Pos}
theorem Rep.heap {g : Gh} {h : AH} {H H' : Hp} (r : Rep C g h H) (k : ∀ a o, H a = some o → H' a = some o) : Rep C g h H' := by
  refine ⟨r.n, fun a o e => ⟨k _ _ (r.fx a o e).1, (r.fx a o e).2⟩, r.inj, r.dis, fun i o e => ?_, ⟨fun q hq => (r.sys.1 q hq).ext k, fun P hP => ?_⟩, fun a o e => ?_, r.kd⟩
  · obtain ⟨u, e1, e2⟩ := r.obj i o e
    exact ⟨u, k _ _ e1, e2⟩
  · obtain ⟨ps, a1, a2⟩ := r.sys.2 P hP
    exact ⟨ps, k _ _ a1, a2⟩
  · obtain ⟨e1, e2, e3⟩ := r.kx a o e
    exact ⟨k _ _ e1, e2, e3⟩
/-- what is told of more addresses -/
def Gh.adds (g : Gh) (S : List Addr) (H : Hp) : Gh := { g with fx := fun a => if a ∈ S then H a else g.fx a }
theorem Rep.adds {g : Gh} {h : AH} {H H' : Hp} (r : Rep C g h H) (k : ∀ a o, H a = some o → H' a = some o) {S : List Addr} (hS : ∀ a ∈ S, H a = none ∧ ∃ o, H' a = some o ∧ Fz o) : Ext g (g.adds S H') ∧ Rep C (g.adds S H') h H' := by
  have r1 := r.heap k
  have ext : Ext g (g.adds S H') := ⟨Nat.le_refl _, fun _ _ => rfl, fun a o e => by
    show (if a ∈ S then H' a else g.fx a) = some o
    by_cases z : a ∈ S
    · rw [if_pos z]; exact (r1.fx a o e).1
    · rw [if_neg z]; exact e, fun _ _ e => e⟩
  refine ⟨ext, r1.n, fun a o e => ?_, r1.inj, fun i hi => ?_, fun i o e => ?_, r1.sys, fun a o e => ?_, r1.kd⟩
  · have e : (if a ∈ S then H' a else g.fx a) = some o := e
    by_cases z : a ∈ S
    · rw [if_pos z] at e
      obtain ⟨_, o', e1, e2⟩ := hS a z
      rw [e] at e1
      cases e1
      exact ⟨e, e2⟩
    · rw [if_neg z] at e
      exact r1.fx a o e
  · show (if g.at_ i ∈ S then H' (g.at_ i) else g.fx (g.at_ i)) = none
    rw [if_neg]
    · exact r.dis i hi
    · intro z
      exact r.at_ne (hS _ z).1 hi rfl
  · obtain ⟨u, e1, e2⟩ := r1.obj i o e
    exact ⟨u, e1, e2.mono ext⟩
  · obtain ⟨e1, e2, e3⟩ := r1.kx a o e
    refine ⟨e1, ?_, e3⟩
    show (if a ∈ S then H' a else g.fx a) = none
    rw [if_neg]
    · exact e2
    · intro z
      exact r.kx_ne (hS _ z).1 e rfl
theorem key_rel {g : Gh} {x : AV} {k : Key} (h : KeyR x k) : RelA C g x (L2.kV k) := by
  cases x <;> simp only [KeyR] at h
  · subst h; simp [RelA, L2.kV]
  · subst h; simp [RelA, L2.kV]
theorem items_rel {g g' : Gh} {H' : Hp} (e : Ext g g') (hT : ∀ a ∈ ([] : List Addr), True) : ∀ {ts : List Addr} {kvs : List (AV × AV)} {us : List (Key × V)}, RelP C g kvs us → Paired (fun (t : Addr) (q : Key × V) => H' t = some (.tup [L2.kV q.1, q.2])) ts us → (∀ t ∈ ts, g'.fx t = H' t) →
    RelL C g' (kvs.map fun p => .tup [p.1, p.2]) (ts.map V.ref)
  | [], kvs, us, rp, pa, ht => by
    cases pa
    cases kvs with
    | nil => exact .nil
    | cons p r => simp only [RelP] at rp; obtain ⟨_, _, _, z, _⟩ := rp; cases z
  | t :: ts, kvs, us, rp, pa, ht => by
    cases pa with
    | cons h1 h2 =>
      cases kvs with
      | nil => simp only [RelP] at rp; cases rp
      | cons p r =>
        obtain ⟨k, v⟩ := p
        simp only [RelP] at rp
        obtain ⟨k', v', r', z, q1, q2, q3⟩ := rp
        cases z
        refine .cons ?_ (items_rel e hT q3 h2 fun t h => ht t (List.mem_cons_of_mem _ h))
        simp only [RelA]
        refine ⟨t, [L2.kV k', v'], rfl, SqT.of (by rw [ht t List.mem_cons_self, h1]), .cons (key_rel q1) (.cons (q2.mono e) .nil)⟩
theorem se_litems (A : At C X) (bl : Bn X "list") (ha : SE C φ X e f) (hs : notSuper e = true) (hl : (apos.endLine == cpos.line) = true) :
    SE C φ X (.Call (.Name "list" p) [.Call (.Attribute e "items" apos) [] [] cpos] [] pos) (eLItems f) := by
  refine ⟨fun N tk => (LiI.pe_listItems A.calm (ha.run N tk) bl.gl bl.mg (by rfl) (mBase_by hs) hl (by rfl)).imp fun σ H Q ⟨g, s, h, r, rs, ok⟩ => ?_⟩
  refine go r rs ok fun g1 h1 x cx H1 e1 r1 rx ok1 => ?_
  cases z : itemsA x h1 with
  | none => rw [z] at ok1; exact ok1.elim
  | some xs =>
    rw [z] at ok1
    unfold itemsA at z
    obtain ⟨kvs, z1, rfl⟩ := Option.map_eq_some_iff.mp z
    obtain ⟨a, us, rfl, rp, hd⟩ := dct_at r1 rx z1
    refine ⟨a, us, rfl, hd, fun H' q ts k hq ht hqt hl' pa => ?_⟩
    have hS : ∀ b ∈ q :: ts, H1 b = none ∧ ∃ o, H' b = some o ∧ Fz o := fun b hb => by
      rcases List.mem_cons.mp hb with rfl | hb
      · exact ⟨hq, _, hl', trivial⟩
      · refine ⟨ht b hb, ?_⟩
        obtain ⟨j, y, _, _, y3⟩ := LiI.paired_ix pa hb
        exact ⟨_, y3, trivial⟩
    obtain ⟨ex, r2⟩ := r1.adds k hS
    refine ok1 _ H' ex r2 _ ?_
    simp only [RelA]
    refine ⟨q, ts.map V.ref, rfl, ?_, items_rel ex (fun _ h => nomatch h) rp pa fun t h => ?_⟩
    · show (if q ∈ q :: ts then H' q else _) = _
      rw [if_pos List.mem_cons_self]; exact hl'
    · show (if t ∈ q :: ts then H' t else _) = _
      rw [if_pos (List.mem_cons_of_mem _ h)]
end
end TX
/-! ### tuple(d.items()) -/
namespace LiT
open PySem PySem.Spec PyProof.Rows L2 LiI
section
variable {prog : Program} {w : World} {A : Around} {E : Value → Shared → Prop} {s : Shared} {K : Type} [DecidableEq K] {knd : KeyKind prog w K} {r d : Addr} {kvs : List (K × Value)} {ep : Nat}
theorem code_tuple_items {Q₁ : Value → Shared → Prop} (hh : A.handled = none) (hv : s.heap.IsItemsView r d) (hm : s.heap.DictAt knd d kvs ep) (hn : kvs.length ≤ sizeLine)
    (h : ∀ (h' : Heap) (tk : Nat) (as : List Addr), (∀ b o, s.heap.get? b = some o → h'.get? b = some o) → as.length = kvs.length → PySem.W.KdxG knd kvs s.heap.objs.size h' as →
      Q₁ (.ref h'.objs.size) { s with heap := h'.push { cls := .type "tuple", data := .seq (as.map Value.ref).toArray }, toks := tk }) :
    codeAny (model prog w) A (.call (.builtin "tuple.__new__") ⟨[.type "tuple", .ref r], []⟩) (wants Q₁ E) s := by
  refine codeAny_of_tree ?_
  show wpAny _ A.in1 (do checkBuiltinCall "tuple.__new__" ⟨[.type "tuple", .ref r], []⟩; again (.builtin "tuple.__new__" ⟨[.type "tuple", .ref r], []⟩)) _ _ s
  refine wpAny_bind (wpAny_of_eq (PySem.F.newCall_tuple_1 _) (wpAny_pure ⟨plainId_quiet PySem.F.plain_tuple_new _, codeAny_builtin PySem.F.entry_tuple_new ?_⟩))
  rw [Around.under_plainId PySem.F.plain_tuple_new _]
  have hsub := sub_tuple_self
  have hinit := init_tuple_lookup
  have hmh := madeHere_tuple
  have hTI : s.TypeIs (.ref r) "dict_items" := let ⟨o, ho, hc, _⟩ := hv; ⟨o, ho, hc⟩
  have hh1 : A.in1.handled = none := hh
  wp_walk using wpAny_typeOf hTI, PySem.W.kdx_collect (A := A.in1) hh1 hv hm hn
  intro h' tk as hk hl hG
  show wpAny _ _ (Builtin.Tuple.tupleExact (as.map Value.ref).toArray >>= fun v => ret v) _ _ _
  unfold Builtin.Tuple.tupleExact
  refine wpAny_bind (wpAny_newObj_type ?_ (by show (as.map Value.ref).toArray.size ≤ sizeLine; simp; omega))
  refine wpAny_pure ?_
  exact h h' tk as hk hl hG
theorem call_tuple_items {Q : Value → Shared → Prop} (hh : A.handled = none) (hv : s.heap.IsItemsView r d) (hm : s.heap.DictAt knd d kvs ep) (hn : kvs.length ≤ sizeLine)
    (h : ∀ (h' : Heap) (tk : Nat) (as : List Addr), (∀ b o, s.heap.get? b = some o → h'.get? b = some o) → as.length = kvs.length → PySem.W.KdxG knd kvs s.heap.objs.size h' as →
      Q (.ref h'.objs.size) { s with heap := h'.push { cls := .type "tuple", data := .seq (as.map Value.ref).toArray }, toks := tk }) :
    wpAny (model prog w) A (call (.type "tuple") [.ref r]) Q E s := by
  refine callType_codes (Q₁ := fun obj s₁ => s₁.TypeIs obj "tuple" ∧ Q obj s₁) PySem.F.called_tuple (PySem.F.typeCall_tuple_1 _) PySem.F.entry_object_init
    (code_tuple_items (A := A.in1) hh hv hm hn fun h' tk as hk hl hG => ⟨⟨_, Heap.get?_push_size _ rfl, rfl⟩, h h' tk as hk hl hG⟩) fun obj s₁ h₁ => ?_
  exact ⟨h₁.1, PySem.F.args_object_init_2 obj _, object_init_meets PySem.F.called_tuple.init.lookup PySem.F.called_tuple.made (by decide) prog w A.in1 _ s₁ ⟨h₁.1, rfl, h₁.2⟩⟩
end
section
variable {X : Cx} {e : Expr} {te : TE} {p apos cpos pos : Pos}
theorem items_laidT {pins : List (Addr × Obj)} {σ : L2.St} {H : Hp} {s : Shared} {h' : Heap} {tk : Nat} {kvs : List (Key × V)} {vs : List (Key × Value)} {as : List Addr} {L : Addr} (I : Inv X pins σ H s) (kv : KV kvs vs)
    (hk : ∀ b o, s.heap.get? b = some o → h'.get? b = some o) (hl : as.length = vs.length) (hG : PySem.W.KdxG (mixKind X.prog X.w) vs L h' as) (hL : s.heap.objs.size ≤ L) :
    ∃ H' : Hp, (∀ b o, H b = some o → H' b = some o) ∧ (∀ t ∈ as, H t = none) ∧ Paired (fun (t : Addr) (q : Key × V) => H' t = some (.tup [kV q.1, q.2])) as kvs ∧ Inv X pins σ H' { s with heap := h', toks := tk } := by
  have lk : kvs.length = vs.length := Paired.length kv
  have nd : as.Nodup := List.Pairwise.imp (fun {a b} (h : a < b) => Nat.ne_of_lt h) hG.rise
  have ab : ∀ t ∈ as, s.heap.objs.size < t := fun t ht => Nat.lt_of_le_of_lt hL (hG.above t ht)
  have new : ∀ t ∈ as, H t = none := fun t ht => I.hok.fresh (Nat.le_of_lt (ab t ht))
  have atP := putT_at as kvs H (by omega) nd
  have off : ∀ b, b ∉ as → putT H as kvs b = H b := fun b h1 => by rw [putT_off as kvs _ h1]
  have low : ∀ b o, s.heap.get? b = some o → b ∉ as := fun b o e z => absurd (Heap.lt_size e) (Nat.not_lt.mpr (Nat.le_of_lt (ab b z)))
  have kp : ∀ b u, H b = some u → (putT H as kvs) b = some u := fun b u e => by
    rw [off b (fun z => by rw [new b z] at e; cases e)]
    exact e
  refine ⟨putT H as kvs, kp, new, atP, ?_⟩
  refine I.call' (ch := []) rfl ⟨fun b o q _ _ _ => hk b o q, fun b o q _ _ _ => ⟨o.slots, hk b o q⟩, fun b o q n _ => ?_, fun b o q _ => ⟨o, hk b o q⟩, fun b xs q => kp b _ q, fun b o u q => kp b _ q, fun b ps q => ⟨#[], by rw [kp b _ q]; simp⟩⟩ (fun b u q => ?_) I.bare fun b z => by simp at z
  · rw [off b (low b o q)]
    exact n
  · by_cases hb : b ∈ as
    · obtain ⟨j, pk, e1, e2, e3⟩ := paired_ix atP hb
      rw [e3] at q
      cases q
      obtain ⟨key, k, x, f1, f2, f3⟩ := hG.pairs j b e1
      obtain ⟨qv, g1, g2, g3⟩ := LiI.paired_get kv e2
      rw [f1] at g1
      cases g1
      have rk : RelV (kV pk.1) key := by
        rw [g2]
        exact relV_key (show keyIs k key = true from f2)
      exact ⟨by show 2 ≤ sizeLine; decide, [key, x], .cons rk (.cons g3 .nil), ⟨_, f3, rfl, _, rfl⟩⟩
    · rw [off b hb] at q
      exact (I.hok b u q).stay (fun d v _ y => hk d v y) (fun d y => kp d _ y) fun d xs y => kp d _ y
def tTupItems (te : TE) : TE := fun σ H Q => te σ H fun x H1 => ∃ (d : Addr) (kvs : List (Key × V)), x = .ref d ∧ H1 d = some (.dK kvs) ∧
  ∀ (H' : Hp) (ts : List Addr) (q : Addr), (∀ b o, H1 b = some o → H' b = some o) → (∀ t ∈ ts, H1 t = none) → Paired (fun (t : Addr) (q : Key × V) => H' t = some (.tup [kV q.1, q.2])) ts kvs → H' q = none → Q (.ref q) (upd H' q (.tup (ts.map V.ref)))
theorem pe_tupItems (hc : X.calm = true) (he : PE X e te) (hg : Gl X "tuple") (hm : X.mg "tuple" = none) (hv : bootBuiltins "tuple" = some (.type "tuple")) (hbase : attributeBase e "items" X.env (eval e X.env) = eval e X.env := by rfl) (hline : (apos.endLine == cpos.line) = true := by rfl)
    (hs : starEach [.Call (.Attribute e "items" apos) [] [] cpos] X.env = (false, eval (.Call (.Attribute e "items" apos) [] [] cpos) X.env) :: starEach [] X.env := by rfl) :
    PE X (.Call (.Name "tuple" p) [.Call (.Attribute e "items" apos) [] [] cpos] [] pos) (tTupItems te) := by
  refine ⟨fun pins s σ H Q I hq => ?_⟩
  refine wpAny_Call_Name_kw (ld_blt I hg hm hv ?_)
  refine PyProof.Rows.callWith_type1 ?_ hs rfl
  rw [hs]
  show wpAny _ _ (spliced ((false, eval (.Call (.Attribute e "items" apos) [] [] cpos) X.env) :: backTo pos (starEach [] X.env))) _ _ s
  refine Calls.spliced_cons ?_
  refine wpAny_Call_method (T := "dict") (id := "dict.items") hbase rfl hline PySem.F.plainAttrs_dict PySem.F.slot_dict_items PySem.F.type_dict_items (thn (he.run pins s σ H _ I hq) fun u s1 ⟨x, H1, I1, rx, d, kvs, ex, hd, q⟩ => ?_)
  subst ex
  obtain rfl : u = Value.ref d := rx
  obtain ⟨hz, hs0, vs, kv, hdo⟩ := I1.hok d _ hd
  obtain ⟨ep, hat⟩ := hdo.dictAt
  have lk : kvs.length = vs.length := Paired.length kv
  have I2 : Inv X pins σ H1 { s1 with heap := s1.heap.push { cls := .type "dict_items", data := .fields #[.ref d] } } := I1.kept (t' := s1.toks) fun b ob q => Heap.get?_push_of_some _ q
  refine ⟨hdo.typeIs, hdo.mapOf.noDict, ?_⟩
  show wpAny _ _ (callWith cpos (.builtin "dict.items") [.ref d] [] []) _ X.xe s1
  refine method_meetsIn PySem.F.slot_dict_items PySem.F.entry_dict_items rfl (PySem.evalArgs_none ⟨rfl, hdo.typeIs, PySem.F.args_dict_items_1 _, _, meets_dict_items (mixKind X.prog X.w) d hs0, ⟨vs, hdo⟩, ?_⟩)
  refine Calls.spliced_nil ?_
  refine call_tuple_items (knd := mixKind X.prog X.w) (kvs := vs) (ep := ep) (I1.ok.hd hc) ⟨_, Heap.get?_push_size _ rfl, rfl, rfl⟩ (hat.push _) (by omega) fun h' tk as hk hl hG => ?_
  obtain ⟨H', k1, k3, k6, J⟩ := items_laidT (tk := tk) I2 kv hk hl hG (Nat.le_refl _)
  have la : as.length = kvs.length := by omega
  refine ⟨.ref h'.objs.size, upd H' h'.objs.size (.tup (as.map V.ref)), J.laid (t' := tk) (fun c o e => Heap.get?_push_of_some _ e) (Nat.le_refl _) (show ObjOk X.prog X.w _ _ _ (.tup (as.map V.ref)) from ⟨by rw [List.length_map, la]; exact hz, as.map Value.ref, LiI.vals_refs as, IsTup.new _ _⟩), rfl, q H' as _ k1 k3 k6 (J.hok.fresh (Nat.le_refl _))⟩
end
end LiT
namespace TX
open PySem PySem.Spec PyProof.Rows
open L2 (V HO Hp Key upd upd_same upd_ne SqL SqT Rd HOk Cx Inv PE PT PTs PW PS PSs PG PGs PI PA TE TT TA TS TG TGs TI It VK XK WX Takes Ends EP SP TP OpR tOp CallR tCB tCons tNil Sp Room FnOk)
section
variable {C : Cfg} {φ : Fn} {X : Cx} {a b c e o i : Expr} {es : List Expr} {fa fb fc fo fi f : EF} {fs : AF} {pos p p2 apos cpos : Pos}
theorem se_titems (A : At C X) (bl : Bn X "tuple") (ha : SE C φ X e f) (hs : notSuper e = true) (hl : (apos.endLine == cpos.line) = true) :
    SE C φ X (.Call (.Name "tuple" p) [.Call (.Attribute e "items" apos) [] [] cpos] [] pos) (eTItems f) := by
  refine ⟨fun N tk => (LiT.pe_tupItems A.calm (ha.run N tk) bl.gl bl.mg (by rfl) (mBase_by hs) hl (by rfl)).imp fun σ H Q ⟨g, s, h, r, rs, ok⟩ => ?_⟩
  refine go r rs ok fun g1 h1 x cx H1 e1 r1 rx ok1 => ?_
  cases z : itemsA x h1 with
  | none => rw [z] at ok1; exact ok1.elim
  | some xs =>
    rw [z] at ok1
    unfold itemsA at z
    obtain ⟨kvs, z1, rfl⟩ := Option.map_eq_some_iff.mp z
    obtain ⟨a, us, rfl, rp, hd⟩ := dct_at r1 rx z1
    refine ⟨a, us, rfl, hd, fun H' ts q k ht pa hq => ?_⟩
    have hS : ∀ b ∈ ts, H1 b = none ∧ ∃ o, H' b = some o ∧ Fz o := fun b hb => by
      refine ⟨ht b hb, ?_⟩
      obtain ⟨j, y, _, _, y3⟩ := LiI.paired_ix pa hb
      exact ⟨_, y3, trivial⟩
    obtain ⟨ex, r2⟩ := r1.adds k hS
    have rl := items_rel ex (fun _ h => nomatch h) rp pa fun t h => by
      show (if t ∈ ts then H' t else _) = _
      rw [if_pos h]
    exact tup_at r2 rl (okG.ext ok1 ex) q hq
/-! ### x[a:b:c] -/
theorem paired_rev {α β : Type} {F : α → β → Prop} : ∀ {xs : List α} {ys : List β}, Paired F xs ys → Paired F xs.reverse ys.reverse
  | _, _, .nil => .nil
  | _, _, .cons h t => by
    rw [List.reverse_cons, List.reverse_cons]
    have := paired_rev t
    clear t
    revert this
    generalize (List.reverse _ : List α) = as
    generalize (List.reverse _ : List β) = bs
    intro k
    induction k with
    | nil => exact .cons h .nil
    | cons h2 _ ih => exact .cons h2 ih
theorem relL_rev {g : Gh} : ∀ {xs : List AV} {vs : List V}, RelL C g xs vs → RelL C g xs.reverse vs.reverse
  | [], _, h => by rw [RelL.nil_iff] at h; subst h; exact .nil
  | x :: r, _, h => by
    obtain ⟨v, vr, rfl, h1, h2⟩ := RelL.cons_iff.mp h
    rw [List.reverse_cons, List.reverse_cons]
    exact RelL.append (relL_rev h2) (.cons h1 .nil)
def tSl3 (K : PySem.W.Frag) (te : TE) (tl th tk : L2.TO) : TE := fun σ H Q => te σ H fun x H1 => tl σ H1 fun l H2 => th σ H2 fun u H3 => tk σ H3 fun k H4 => l = none ∧ u = none ∧ k = some (-1) ∧ ∃ a xs, x = .ref a ∧ SqL K H4 a xs ∧ ∀ p, H4 p = none → Q (.ref p) (upd H4 p (.lst xs.reverse))
theorem pe_slice3 {te : TE} {tl th tk : L2.TO} {lo hi st : Option Expr} (he : PE X e te) (hl : L2.PO X lo tl) (hu : L2.PO X hi th) (hk : L2.PO X st tk) (hs0 : ∃ ops : Value → Value → List Value, ∀ o i, subscripted (.Slice lo hi st p2) false o i = operate (ops o i) (getItem o i)) : PE X (.Subscript e (.Slice lo hi st p2) pos) (tSl3 X.K te tl th tk) := by
  obtain ⟨ops, hs0⟩ := hs0
  refine ⟨fun pins s σ H Q I h => ?_⟩
  refine Subscript_ (L2.thn (he.run pins s σ H _ I h) fun v s1 ⟨x, H1, I1, r1, q1⟩ => ?_)
  refine wpAny_Slice (L2.thn (hl.run pins s1 σ H1 _ I1 q1) fun vl s2 ⟨l, H2, I2, pl, q2⟩ => L2.thn (hu.run pins s2 σ H2 _ I2 q2) fun vu s3 ⟨u, H3, I3, pu, q3⟩ => L2.thn (hk.run pins s3 σ H3 _ I3 q3) fun vk s4 ⟨k, H4, I4, pk, el, eu, ek, a, xs, ex, hs, q4⟩ => ?_)
  subst ex
  cases (show v = Value.ref a from r1)
  have I5 : Inv X pins σ H4 { s4 with heap := s4.heap.push { cls := .type "slice", data := .fields #[vl, vu, vk] } } := I4.kept (t' := s4.toks) fun b ob q => Heap.get?_push_of_some _ q
  obtain ⟨its, r, ht, hz⟩ := I5.list hs
  show wpAny (model X.prog X.w) X.A (subscriptTail e (.Slice lo hi st p2) (.ref a) (.ref s4.heap.objs.size)) (EP X pins σ Q) X.xe { s4 with heap := s4.heap.push { cls := .type "slice", data := .fields #[vl, vu, vk] } }
  refine tail_any ht.isList.typeIs slot_list_getitem.lookup ?_ (hs0 _ _)
  have hlen := r.length
  refine wpAny_getItem_list_slice ht.isList (Heap.IsSliceOf.new ..) pl pu pk (by rw [ek]; decide) ?_ (by rw [List.size_toArray]; omega)
  rw [el, eu, ek, PySem.W.krv_pick]
  refine ⟨.ref (s4.heap.push { cls := .type "slice", data := .fields #[vl, vu, vk] }).objs.size, _, I5.laid (t' := s4.toks) (o := .lst xs.reverse) (fun b ob q => Heap.get?_push_of_some _ q) (Nat.le_refl _) ?_, rfl, q4 _ (I5.hok.fresh (Nat.le_refl _))⟩
  exact ⟨by rw [List.length_reverse]; exact hz, its.reverse, 0, paired_rev r, Heap.get?_push_size _ rfl⟩
theorem se_sl3 (A : At C X) (m : Bool) {lo hi st : Option Expr} {fl fh fk : OF} (ha : SE C φ X e f) (hl : SO C φ X lo fl) (hh : SO C φ X hi fh) (hk : SO C φ X st fk) (hs0 : ∃ ops : Value → Value → List Value, ∀ o i, subscripted (.Slice lo hi st p2) false o i = operate (ops o i) (getItem o i)) : SE C φ X (.Subscript e (.Slice lo hi st p2) pos) (eSl3 m f fl fh fk) := by
  refine ⟨fun N tk => (pe_slice3 (ha.run N tk) (hl.run N tk) (hh.run N tk) (hk.run N tk) hs0).imp fun σ H Q ⟨g, s, h, r, rs, ok⟩ => ?_⟩
  refine go r rs ok fun g1 h1 x cx H1 e1 r1 rx ok1 => goO r1 (rs.mono e1) ok1 fun g2 h2 i H2 e2 r2 ok2 => goO r2 ((rs.mono e1).mono e2) ok2 fun g3 h3 j H3 e3 r3 ok3 => goO r3 (((rs.mono e1).mono e2).mono e3) ok3 fun g4 h4 k H4 e4 r4 ok4 => ?_
  have rx4 := ((rx.mono e2).mono e3).mono e4
  split at ok4
  · rename_i xs hx
    split at ok4
    · rename_i ys hy
      obtain ⟨a, vs, rfl, rl, hd⟩ := lst_at r4 rx4 hx
      have : i = none ∧ j = none ∧ k = some (-1) ∧ ys = xs.reverse := by
        unfold pick3 at hy
        split at hy
        · split at hy
          · rename_i q
            cases hy
            exact ⟨rfl, rfl, by rw [q], rfl⟩
          · cases hy
        · cases hy
      obtain ⟨rfl, rfl, rfl, rfl⟩ := this
      exact ⟨rfl, rfl, rfl, a, vs, rfl, by rw [A.K]; exact SqL.of hd, mk_at r4 (relL_rev rl) ok4⟩
    · exact ok4.elim
  · exact ok4.elim
theorem sub_rev {j : Nat} {q q2 p2 : Pos} : ∃ ops : Value → Value → List Value, ∀ o i, subscripted (.Slice none none (some (.UnaryOp .USub (.Constant (.int 1) j q) q2)) p2) false o i = operate (ops o i) (getItem o i) :=
  ⟨_, fun o i => by with_unfolding_all rfl⟩
/-! ### sorted triples -/
theorem lin_tri : Lin tlt := by
  refine ⟨fun a b c h1 h2 => ?_, fun a b h => ?_, fun a b h1 h2 => ?_⟩ <;> simp only [tlt, plt, Bool.or_eq_false_iff, Bool.and_eq_false_iff, Bool.or_eq_true, Bool.and_eq_true, decide_eq_false_iff_not, decide_eq_true_eq] at *
  · omega
  · omega
  · exact Prod.ext (by omega) (Prod.ext (by omega) (by omega))
theorem trs_rel {g : Gh} : ∀ {xs : List AV} {vs : List V} {ts : List T3}, RelL C g xs vs → trsO xs = some ts → xs = ts.map t3A ∧ Paired (fun (t : T3) v => ∃ a, v = V.ref a ∧ SqT C.K g.fx a [.int t.1, .int t.2.1, .int t.2.2]) ts vs
  | [], _, _, h, e => by
    rw [RelL.nil_iff] at h
    subst h
    cases e
    exact ⟨rfl, .nil⟩
  | x :: xs, _, ts, h, e => by
    obtain ⟨v, vr, rfl, h1, h2⟩ := RelL.cons_iff.mp h
    unfold trsO at e
    split at e
    · rename_i heq; cases heq
    · rename_i i j k r heq
      cases heq
      obtain ⟨tr, e1, rfl⟩ := Option.map_eq_some_iff.mp e
      obtain ⟨e2, e3⟩ := trs_rel h2 e1
      simp only [RelA] at h1
      obtain ⟨a, us, rfl, q1, q2⟩ := h1
      obtain ⟨v1, r1, rfl, a1, q2⟩ := RelL.cons_iff.mp q2
      obtain ⟨v2, r2, rfl, a2, q2⟩ := RelL.cons_iff.mp q2
      obtain ⟨v3, r3, rfl, a3, q2⟩ := RelL.cons_iff.mp q2
      rw [RelL.nil_iff] at q2
      subst q2
      rw [a1.int, a2.int, a3.int] at q1
      exact ⟨by rw [e2]; rfl, .cons ⟨a, rfl, q1⟩ e3⟩
    · cases e
theorem paired_flip {α β : Type} {F : α → β → Prop} : ∀ {xs : List α} {ys : List β}, Paired F xs ys → Paired (fun y x => F x y) ys xs
  | _, _, .nil => .nil
  | _, _, .cons h t => .cons h (paired_flip t)
theorem paired_perm {α β : Type} {F : α → β → Prop} {ys ys' : List β} (p : ys'.Perm ys) : ∀ {xs : List α}, Paired F xs ys → ∃ xs', xs'.Perm xs ∧ Paired F xs' ys' := by
  induction p with
  | nil => intro xs h; exact ⟨xs, .refl _, h⟩
  | cons x p ih =>
    intro xs h
    cases h with
    | cons h1 h2 =>
      obtain ⟨xs', q1, q2⟩ := ih h2
      exact ⟨_ :: xs', q1.cons _, .cons h1 q2⟩
  | swap x y l =>
    intro xs h
    cases h with
    | cons h1 h2 => cases h2 with
      | cons h3 h4 => exact ⟨_, .swap _ _ _, .cons h3 (.cons h1 h4)⟩
  | trans p q ih1 ih2 =>
    intro xs h
    obtain ⟨x1, a1, a2⟩ := ih2 h
    obtain ⟨x2, b1, b2⟩ := ih1 a2
    exact ⟨x2, b1.trans a1, b2⟩
theorem relL_trs {g : Gh} : ∀ {ts : List T3} {vs : List V}, Paired (fun (t : T3) v => ∃ a, v = V.ref a ∧ SqT C.K g.fx a [.int t.1, .int t.2.1, .int t.2.2]) ts vs → RelL C g (ts.map t3A) vs
  | [], _, h => by cases h; exact .nil
  | t :: ts, _, h => by
    cases h with
    | cons h1 h2 =>
      obtain ⟨a, rfl, q⟩ := h1
      refine .cons ?_ (relL_trs h2)
      simp only [t3A, RelA]
      exact ⟨a, _, rfl, q, .cons (by simp [RelA]) (.cons (by simp [RelA]) (.cons (by simp [RelA]) .nil))⟩
def top3 : List T3 → Int
  | [] => 1
  | t :: r => max (max (t.1 + 1) (t.2.1 + 1)) (max (t.2.2 + 1) (top3 r))
theorem top3_ge : ∀ {ts : List T3} {t : T3}, t ∈ ts → t.1 < top3 ts ∧ t.2.1 < top3 ts ∧ t.2.2 < top3 ts
  | x :: r, t, h => by
    unfold top3
    rcases List.mem_cons.mp h with rfl | h
    · omega
    · have := top3_ge h; omega
theorem code_tri (B x y z : Int) : TS.code B [x, y, z] = (x * B + y) * B + z := by
  have e2 : B ^ 2 = B * B := by rw [Int.pow_succ, Int.pow_succ, Int.pow_zero, Int.one_mul]
  have e1 : B ^ 1 = B := by rw [Int.pow_succ, Int.pow_zero, Int.one_mul]
  show x * B ^ 2 + (y * B ^ 1 + (z * B ^ 0 + 0)) = _
  rw [e2, e1, Int.pow_zero, Int.mul_one, Int.add_mul, Int.mul_assoc]
  omega
theorem code_tlt {B : Int} {a b : T3} (ha : 0 ≤ a.1 ∧ 0 ≤ a.2.1 ∧ 0 ≤ a.2.2) (hb : 0 ≤ b.1 ∧ 0 ≤ b.2.1 ∧ 0 ≤ b.2.2) (ha2 : a.1 < B ∧ a.2.1 < B ∧ a.2.2 < B) (hb2 : b.1 < B ∧ b.2.1 < B ∧ b.2.2 < B)
    (h : TS.code B [a.1, a.2.1, a.2.2] ≤ TS.code B [b.1, b.2.1, b.2.2]) : tlt b a = false := by
  rw [code_tri, code_tri] at h
  have key : ∀ {x y u v : Int}, 0 ≤ v → v < B → 0 ≤ y → y < B → x * B + y ≤ u * B + v → x < u ∨ (x = u ∧ y ≤ v) := fun {x y u v} h1 h2 h3 h4 h5 => by
    rcases Int.lt_trichotomy x u with q | q | q
    · exact .inl q
    · right; subst q; exact ⟨rfl, by omega⟩
    · exfalso
      have e : u * B + B ≤ x * B := by
        have : (u + 1) * B ≤ x * B := Int.mul_le_mul_of_nonneg_right (by omega) (by omega)
        rw [Int.add_mul, Int.one_mul] at this
        exact this
      omega
  have k1 := key hb.2.2 hb2.2.2 ha.2.2 ha2.2.2 h
  simp only [tlt, plt, Bool.or_eq_false_iff, Bool.and_eq_false_iff, decide_eq_false_iff_not]
  rcases k1 with k1 | ⟨k1, k2⟩
  · have k3 := key hb.2.1 hb2.2.1 ha.2.1 ha2.2.1 (Int.le_of_lt k1)
    rcases k3 with k3 | ⟨k3, k4⟩
    · omega
    · have : ¬ a.2.1 = b.2.1 := fun z => by rw [k3, z] at k1; omega
      omega
  · have k3 := key hb.2.1 hb2.2.1 ha.2.1 ha2.2.1 (Int.le_of_eq k1)
    have k5 := key (x := b.1) (y := b.2.1) (u := a.1) (v := a.2.1) ha.2.1 ha2.2.1 hb.2.1 hb2.2.1 (Int.le_of_eq k1.symm)
    omega
theorem se_sort3 (A : At C X) (m : Bool) (bn : Bn X "sorted") (ha : SE C φ X a fa) (hn : noStar a = true) : SE C φ X (.Call (.Name "sorted" p) [a] [] pos) (eSort3 m fa) := by
  have hc : CallR X (.builtin "sorted") (fun vs H Q => ∃ B, L2.rSortU X.K 3 B vs H Q) := fun pins s σ H xs us Q I r ⟨B, h⟩ => L2.cr_sortT (d := 3) (B := B) (by decide) pins s σ H xs us Q I r h
  refine ⟨fun N tk => (L2.pe_callB hc bn.gl bn.mg (by rfl) ((sa_cons ha sa_nil hn).run N tk) (by decide) (by decide) (star_cons hn) rfl).imp fun σ H Q ⟨g, s, h, r, rs, ok⟩ => ?_⟩
  have ok' : okG C g ((aCons fa aNil φ s h).bind fun xs h1 => match xs with | [x] => (match lstOf x h1 with | some xs => (match trsO xs with | some ts => if ts.length < 64 ∧ ts.all nn3 = true then mk m ((isort tlt ts).map t3A) h1 else .stuck | none => .stuck) | none => .stuck) | _ => .stuck) (fun x g' _ H' => ∀ v, RelA C g' x v → Q v H') N := by
    unfold eSort3 at ok
    unfold aCons aNil
    cases z : fa φ s h with
    | ok x h1 => rw [z] at ok; exact ok
    | exc c h1 => rw [z] at ok; exact ok
    | stuck => rw [z] at ok; exact ok
  refine goA r rs ok' fun g1 h1 xs cxs H1 e1 r1 rl ok1 => ?_
  split at ok1
  · rename_i x
    obtain ⟨cx, cr, rfl, rx, rn⟩ := RelL.cons_iff.mp rl
    rw [RelL.nil_iff] at rn
    subst rn
    split at ok1
    · rename_i ys hy
      split at ok1
      · rename_i ts ht
        split at ok1
        · rename_i hz
          obtain ⟨q, vs, rfl, rl2, hd⟩ := lst_at r1 rx hy
          obtain ⟨_, pr⟩ := trs_rel rl2 ht
          have kp : ∀ a o, g1.fx a = some o → H1 a = some o := fun a o e => (r1.fx a o e).1
          have nn : ∀ t ∈ ts, 0 ≤ t.1 ∧ 0 ≤ t.2.1 ∧ 0 ≤ t.2.2 := fun t h => by
            have := List.all_eq_true.mp hz.2 t h
            simp only [nn3, Bool.and_eq_true, decide_eq_true_eq] at this
            omega
          have len : vs.length = ts.length := (Paired.length pr).symm
          refine ⟨top3 ts, q, vs, rfl, by rw [A.K]; exact SqL.of hd, by omega, fun x hx => ?_, fun us l hp hpw hl => ?_⟩
          · obtain ⟨j, t, e2, e3, e4⟩ := LiI.paired_ix (paired_flip pr) hx
            obtain ⟨b, rfl, e5⟩ := e4
            have mt : t ∈ ts := List.mem_of_getElem? e3
            have := nn t mt
            have := top3_ge mt
            refine ⟨[t.1, t.2.1, t.2.2], ⟨b, rfl, by rw [A.K]; exact SqT.mono kp e5⟩, rfl, fun z hz => ?_⟩
            simp at hz
            rcases hz with rfl | rfl | rfl <;> omega
          · obtain ⟨ts', p1, p2⟩ := paired_perm hp pr
            have srt : ts'.Pairwise (fun a b => tlt b a = false) := by
              have kb : ∀ t ∈ ts', t ∈ ts := fun t h => p1.mem_iff.mp h
              have gen : ∀ {us : List V} {ts' : List T3}, Paired (fun (t : T3) v => ∃ a, v = V.ref a ∧ SqT C.K g1.fx a [.int t.1, .int t.2.1, .int t.2.2]) ts' us → (∀ t ∈ ts', t ∈ ts) →
                  us.Pairwise (fun x y => ∀ n m, L2.TupI X.K H1 x n → L2.TupI X.K H1 y m → TS.code (top3 ts) n ≤ TS.code (top3 ts) m) → ts'.Pairwise (fun a b => tlt b a = false) := by
                intro us ts' pp
                induction pp with
                | nil => intro _ _; exact .nil
                | @cons t v tr vr h1 h2 ih =>
                  intro kb pw
                  have pw2 := List.pairwise_cons.mp pw
                  refine List.pairwise_cons.mpr ⟨fun u hu => ?_, ih (fun t h => kb t (List.mem_cons_of_mem _ h)) pw2.2⟩
                  obtain ⟨j, w, e2, e3, e4⟩ := LiI.paired_ix h2 hu
                  obtain ⟨b1, rfl, f1⟩ := h1
                  obtain ⟨b2, rfl, f2⟩ := e4
                  have m1 := kb t List.mem_cons_self
                  have m2 := kb u (List.mem_cons_of_mem _ hu)
                  exact code_tlt (nn t m1) (nn u m2) (top3_ge m1) (top3_ge m2) (pw2.1 _ (List.mem_of_getElem? e3) _ _ ⟨b1, rfl, by rw [A.K]; exact SqT.mono kp f1⟩ ⟨b2, rfl, by rw [A.K]; exact SqT.mono kp f2⟩)
              exact gen p2 kb hpw
            have es := isort_of lin_tri p1 srt
            rw [← es] at ok1
            exact mk_at r1 (relL_trs p2) ok1 l hl
        · exact ok1.elim
      · exact ok1.elim
    · exact ok1.elim
  · exact ok1.elim
theorem ss_fldMod {cs : List Nat} {n : Tx} {fn : Str} {q : Pos} (hF : ∀ c ∈ cs, ClF C X.K c fn) (hn : fn = toS n) (ho : SE C φ X o fo) (ha : SE C φ X e f) :
    SS C φ X (.AugAssign (.Attribute o fn q) .Mod e pos) (sFldMod cs n fo f) := by
  refine ⟨fun N tk => (L2.ps_fldaug (ho.run N tk) (ha.run N tk) L2.iop_mod).imp fun D σ H ⟨g, s, hh, r, rs, ok⟩ => ?_⟩
  refine go r rs ok fun g1 h1 x cx H1 e1 r1 rx ok1 => ?_
  split at ok1
  · rename_i c fs hi
    split at ok1
    · rename_i hc
      split at ok1
      · rename_i av hv
        obtain ⟨a, dx, us, rfl, h2, rl⟩ := ins_at r1 rx hi
        obtain ⟨u, h3, h4⟩ := rl.get hv
        have := h4.int
        subst this
        refine ⟨a, _, dx, us, _, rfl, h2, (hF c hc).cls, (hF c hc).no, by rw [hn]; exact h3, ?_⟩
        refine go r1 (rs.mono e1) ok1 fun g2 h2' y cy H2 e2 r2 ry ok2 => ?_
        split at ok2
        · rename_i bv
          split at ok2
          · rename_i hb
            refine ⟨_, _, rfl, ry.int, hb, ?_⟩
            cases z : setF [c] n x (.int (av % bv)) h2' with
            | none => rw [z] at ok2; exact ok2.elim
            | some h3' =>
              rw [z] at ok2
              obtain ⟨a', c', dx', us', e3, e4, e5, e6, e7⟩ := setF_at (X := X) (Q := fun H' => D.nx σ H') (cs := [c]) (fun c2 h => by rw [List.mem_singleton.mp h]; exact hF c hc) hn r2 (rx.mono e2) (cv := .int (av % bv)) .mkI z fun H' r' => ok2 g2 H' (Ext.refl _) r' σ ((rs.mono e1).mono e2)
              cases e3
              have hcc : c' = c := List.mem_singleton.mp e5
              subst hcc
              exact ⟨dx', us', e4, e6, e7⟩
          · exact ok2.elim
        · exact ok2.elim
      · exact ok1.elim
    · exact ok1.elim
  · exact ok1.elim
theorem ss_augL {k : Nat} {x : Str} {q : Pos} (A : At C X) (hi : X.N[k]? = some x) (hx : L2.Loc X.env.scope x) (hf : X.fn x = true ∨ X.env.scope.names.lookup x = some .local) (ha : SE C φ X e f) : SS C φ X (.AugAssign (.Name x q) .Add e pos) (sAugL k f) := by
  refine ⟨fun N tk => (L2.ps_aug A.nd hi hx (ha.run N tk) L2.iop_ext hf).imp fun D σ H ⟨g0, s, h, r, rs, ok⟩ => ?_⟩
  unfold sAugL at ok
  split at ok
  · rename_i rr hy
    obtain ⟨v, hv, rv⟩ := rs.2 k _ hy
    refine ⟨v, hv, go r rs ok fun g1 h1 z cz H1 e1 r1 rz ok1 => ?_⟩
    split at ok1
    · rename_i xs ys hg hl
      split at ok1
      · rename_i hz
        have rv1 := rv.mono e1
        have hv1 := rv1
        simp only [RelA] at rv1
        obtain ⟨u, q1, vs, rfl, q3⟩ := r1.obj rr _ hg
        obtain ⟨b, ws, rfl, q4, q5⟩ := lst_at r1 rz hl
        refine ⟨_, b, vs, ws, rv1.2, rfl, q1, q5, by rw [← q3.len, ← q4.len]; exact hz, ?_⟩
        have r2 : Rep C g1 (hset h1 rr (.lst (xs ++ ys))) (upd H1 (g1.at_ rr) (.lst (vs ++ ws))) := r1.put hg ⟨_, rfl, RelL.append q3 q4⟩
        refine ok1 g1 _ (Ext.refl _) r2 _ ?_
        have := (rs.mono e1).set k hv1
        rw [rv1.2] at this
        have es : s.set k (some (AV.ref rr)) = s := by
          apply List.ext_getElem?
          intro j
          by_cases hj : k = j
          · subst hj
            have hlt : k < s.length := (List.getElem?_eq_some_iff.mp hy).1
            rw [List.getElem?_set_self hlt, hy]
          · rw [List.getElem?_set_ne hj]
        rw [es] at this
        exact this
      · exact ok1.elim
    · exact ok1.elim
  · exact ok.elim
end
end TX

/-! TxL: the translator: from the text to its meaning, each step with its proof -/
set_option Elab.async false
set_option linter.all false
set_option maxRecDepth 100000
set_option maxHeartbeats 1000000
set_option autoImplicit false
namespace TX
open PySem PySem.Spec PyProof.Rows
open L2 (V HO Hp Key upd upd_same upd_ne SqL SqT Rd HOk Cx Inv PE PT PTs PW PS PSs PG PGs PI PA TE TT TA TS TG TGs TI It VK XK WX Takes Ends EP SP TP OpR tOp CallR tCB tCons tNil Sp Room FnOk)
/-- what a global name is -/
inductive GI where
  | bltn
  | fn (i : Nat)
  | exc (c : Nat)
  | tell (w : List Nat) (ret : Tx)
  | val (v : AV)
  | cls (c fi : Nat) (alts : List (Nat × List AV))
  | fld (f : Str) (cs : List Nat)
  | mth (m : Str) (ms : List (Nat × Nat))
structure TC where
  N : List Str
  sc : Scope
  top : Str → Bool
  gl : List (Str × GI)
  chg : List (Nat × Nat)
  dp : Nat
  lam : Bool
  gen : Bool
def TC.ch (T : TC) (p : Pos) : Bool := T.chg.any fun q => q.1 == p.line && q.2 == p.col
/-- a place that is told apart -/
def TC.mark (T : TC) (p : Pos) : Bool := T.chg.any fun q => q.1 == p.line && q.2 == p.col + 1000
def GOk (C : Cfg) (φ : Fn) (lv : Nat) (X : Cx) (x : Str) : GI → Prop
  | .bltn => X.mg x = none
  | .fn i => FnI C X.prog X.w X.K X.mg X.base lv x (φ 0 i)
  | .exc c => ExcI C X.K X.mg x c
  | .tell w ret => TellI C X.K X.mg x (ctOf w) ret
  | .val v => ∃ u cv, X.mg x = some u ∧ L2.RelV cv u ∧ ∀ g, RelA C g v cv
  | .cls c fi alts => ∀ n dvs, alts.lookup n = some dvs → MkI C X.prog X.w X.K X.mg X.base lv c x dvs (φ 0 fi)
  | .fld f cs => ∀ c ∈ cs, ClF C X.K c f
  | .mth m ms => ∀ p ∈ ms, MeI C X.prog X.w X.K X.mg X.base lv p.1 m (φ 0 p.2)
structure Fits (C : Cfg) (φ : Fn) (lv : Nat) (T : TC) (X : Cx) : Prop where
  A : At C X
  N : X.N = T.N
  sc : X.env.scope = T.sc
  kd : T.sc.kind = .function
  own : PassesOwn (model X.prog X.w) X.A X.env X.xe
  fn : ∀ x, T.top x = true → X.fn x = true
  rm : Room (lv + T.dp) X.A
  gl : ∀ x gi, T.gl.lookup x = some gi → GOk C φ lv X x gi
  lam : T.lam = true → LamM C X
  gen : T.gen = true → GenM C X

abbrev TrE (T : TC) (e : Expr) := Option { f : EF // ∀ (C : Cfg) (φ : Fn) (lv : Nat) (X : Cx), Fits C φ lv T X → SE C φ X e f }
abbrev TrB (T : TC) (e : Expr) := Option { f : EF // ∀ (C : Cfg) (φ : Fn) (lv : Nat) (X : Cx), Fits C φ lv T X → SB C φ X e f }
abbrev TrA (T : TC) (e : List Expr) := Option { f : AF // ∀ (C : Cfg) (φ : Fn) (lv : Nat) (X : Cx), Fits C φ lv T X → SA C φ X e f }
abbrev TrO (T : TC) (e : Option Expr) := Option { f : OF // ∀ (C : Cfg) (φ : Fn) (lv : Nat) (X : Cx), Fits C φ lv T X → SO C φ X e f }
abbrev TrI (T : TC) (tg e : Expr) := Option { f : IF_ // ∀ (C : Cfg) (φ : Fn) (lv : Nat) (X : Cx), Fits C φ lv T X → SI C φ X tg e f }
abbrev TrT (T : TC) (tg : Expr) := Option { f : List Nat × TF // ∀ (C : Cfg) (φ : Fn) (lv : Nat) (X : Cx), Fits C φ lv T X → ST C X tg f.1 f.2 }
abbrev TrTs (T : TC) (tg : List Expr) := Option { f : List Nat × (List AV → St → AH → Option St) // (∀ (C : Cfg) (φ : Fn) (lv : Nat) (X : Cx), Fits C φ lv T X → STs C X tg f.1 f.2) ∧ ∀ xs s hh s1, f.2 xs s hh = some s1 → xs.length = tg.length }
abbrev TrS (T : TC) (e : Stmt) := Option { f : SF // ∀ (C : Cfg) (φ : Fn) (lv : Nat) (X : Cx), Fits C φ lv T X → SS C φ X e f }
abbrev TrSs (T : TC) (e : List Stmt) := Option { f : SF // ∀ (C : Cfg) (φ : Fn) (lv : Nat) (X : Cx), Fits C φ lv T X → SSs C φ X e f }
abbrev TrW (T : TC) (e : Expr) := Option { f : EF // ∀ (C : Cfg) (φ : Fn) (lv : Nat) (X : Cx), Fits C φ lv T X → SW C φ X e f }

/-! ### names -/
def visB (sc : Scope) (x : Str) : Bool := match sc.names.lookup x with
  | some .local => true
  | some .cell => true
  | some .free => true
  | _ => false
theorem visB_of {sc : Scope} {x : Str} (h : visB sc x = true) : L2.Vis sc x := by
  unfold visB at h
  unfold L2.Vis
  split at h <;> simp_all
def okN (x : Str) : Bool := !(x == ("__debug__" : Str)) && !(x == ("__classdict__" : Str))
theorem okN_of {x : Str} (h : okN x = true) : (x == ("__debug__" : Str)) = false ∧ (x == ("__classdict__" : Str)) = false := by
  unfold okN at h
  simp only [Bool.and_eq_true, Bool.not_eq_true'] at h
  exact h
def ixOf (T : TC) (x : Str) : Nat := T.N.findIdx fun y => y == x
def glB (sc : Scope) (x : Str) : Bool := match sc.names.lookup x with
  | some .globalImplicit => true
  | _ => false
theorem glB_of {sc : Scope} {x : Str} (h : glB sc x = true) : sc.names.lookup x = some .globalImplicit := by
  unfold glB at h
  split at h <;> simp_all
section
variable {C : Cfg} {φ : Fn} {lv : Nat} {X : Cx} {T : TC}
theorem Fits.vis (F : Fits C φ lv T X) {x : Str} (h : visB T.sc x = true) : L2.Vis X.env.scope x := by rw [F.sc]; exact visB_of h
theorem Fits.glo (F : Fits C φ lv T X) {x : Str} (h : glB T.sc x = true) : L2.Gl X x := by
  show X.env.scope.names.lookup x = _
  rw [F.sc]; exact glB_of h
theorem Fits.at_ (F : Fits C φ lv T X) {x : Str} {i : Nat} (h : T.N[i]? = some x) : X.N[i]? = some x := by rw [F.N]; exact h
theorem Fits.bn (F : Fits C φ lv T X) {x : Str} (h : glB T.sc x = true) (hg : T.gl.lookup x = some .bltn) : Bn X x := ⟨F.glo h, F.gl x _ hg⟩
end
def trName (T : TC) (x : Str) (p : Pos) : TrE T (.Name x p) :=
  if hk : okN x = true then
    if hv : visB T.sc x = true then
      if hi : T.N[ixOf T x]? = some x then some ⟨eV (ixOf T x), fun C φ lv X F => se_var (F.at_ hi) (F.vis hv) (okN_of hk).1 (okN_of hk).2⟩ else none
    else if hg : glB T.sc x = true then
      match hl : T.gl.lookup x with
      | some (.val v) => some ⟨eC v, fun C φ lv X F => by
          obtain ⟨u, cv, h1, h2, h3⟩ := F.gl x _ hl
          exact se_const (L2.pe_glob (F.glo hg) h1 h2 (okN_of hk).1) h3⟩
      | _ => none
    else none
  else none
/-! ### argument lists -/
def trA (re : ∀ T e, TrE T e) (T : TC) : (es : List Expr) → TrA T es
  | [] => some ⟨aNil, fun C φ lv X F => sa_nil⟩
  | e :: es => if hn : noStar e = true then
      match re T e, trA re T es with
      | some ⟨f, h⟩, some ⟨g, k⟩ => some ⟨aCons f g, fun C φ lv X F => sa_cons (h C φ lv X F) (k C φ lv X F) hn⟩
      | _, _ => none
    else none
def boOf : Operator → Option BO
  | .Add => some .add
  | .Sub => some .sub
  | .Mult => some .mul
  | .FloorDiv => some .div
  | .Mod => some .mod
  | .Pow => some .pow
  | _ => none
theorem boOf_toOp {o : Operator} {b : BO} (h : boOf o = some b) : o = toOp b := by
  cases o <;> simp [boOf] at h <;> subst h <;> rfl
def coOf : CmpOp → CO
  | .Eq => .eq
  | .NotEq => .ne
  | .Lt => .lt
  | .LtE => .le
  | .Gt => .gt
  | .GtE => .ge
  | .Is => .isN
  | .IsNot => .notN
  | .In => .inn
  | .NotIn => .notIn
theorem coOf_toC (o : CmpOp) : o = toC (coOf o) := by cases o <;> rfl
/-! ### and, or -/
def trWv (re : ∀ T e, TrE T e) (T : TC) (op : BoolOp) (pos : Pos) : (es : List Expr) → TrE T (.BoolOp op es pos)
  | [] => none
  | [a] => match re T a with
    | some ⟨f, h⟩ => some ⟨eB f, fun C φ lv X F => se_b1 (h C φ lv X F)⟩
    | none => none
  | a :: b :: r => match re T a, trWv re T op pos (b :: r) with
    | some ⟨f, h⟩, some ⟨g, k⟩ => (match op, k with
      | .And, k => some ⟨eAnd f g, fun C φ lv X F => se_and (h C φ lv X F) (k C φ lv X F)⟩
      | .Or, k => some ⟨eOr f g, fun C φ lv X F => se_or (h C φ lv X F) (k C φ lv X F)⟩)
    | _, _ => none
def trW (rb : ∀ T e, TrB T e) (T : TC) (op : BoolOp) (pos : Pos) : (es : List Expr) → TrW T (.BoolOp op es pos)
  | [] => none
  | [a] => match rb T a with
    | some ⟨f, h⟩ => (match op with
      | .And => some ⟨eB f, fun C φ lv X F => sw_and1 (h C φ lv X F)⟩
      | .Or => some ⟨eB f, fun C φ lv X F => sw_or1 (h C φ lv X F)⟩)
    | none => none
  | a :: b :: r => match rb T a, trW rb T op pos (b :: r) with
    | some ⟨f, h⟩, some ⟨g, k⟩ => (match op, k with
      | .And, k => some ⟨eAnd f g, fun C φ lv X F => sw_and (h C φ lv X F) (k C φ lv X F)⟩
      | .Or, k => some ⟨eOr f g, fun C φ lv X F => sw_or (h C φ lv X F) (k C φ lv X F)⟩)
    | _, _ => none
def trO (re : ∀ T e, TrE T e) (T : TC) : (e : Option Expr) → TrO T e
  | none => some ⟨oNone, fun C φ lv X F => so_none⟩
  | some e => match re T e with
    | some ⟨f, h⟩ => some ⟨oSome f, fun C φ lv X F => so_some (h C φ lv X F)⟩
    | none => none
/-! ### f-strings -/
def trFs (re : ∀ T e, TrE T e) (T : TC) : (es : List Expr) → Option { f : List EF // ∀ (C : Cfg) (φ : Fn) (lv : Nat) (X : Cx), Fits C φ lv T X → SF_ C φ X es f }
  | [] => some ⟨[], fun C φ lv X F => .nil⟩
  | .Constant (.str x) j q :: es => match trFs re T es with
    | some ⟨fs, k⟩ => some ⟨eC (.str x.cps.toList) :: fs, fun C φ lv X F => .str (toS_of x).symm (k C φ lv X F)⟩
    | none => none
  | .FormattedValue e (.negSucc 0) none q :: es => match re T e, trFs re T es with
    | some ⟨f, h⟩, some ⟨fs, k⟩ => some ⟨f :: fs, fun C φ lv X F => .val (h C φ lv X F) (k C φ lv X F)⟩
    | _, _ => none
  | _ => none
/-! ### built-ins of one argument -/
def ubOf (m : Bool) (x : Str) : Option UB :=
  if x = "len" then some .len else if x = "abs" then some .abs else if x = "int" then some .int else if x = "str" then some .str else if x = "sum" then some .sum
  else if x = "sorted" then some (.sorted m) else if x = "list" then some (.list m) else if x = "tuple" then some .tuple else if x = "dict" then some (.dict m) else if x = "max" then some .max else if x = "min" then some .min else none
def ubN : UB → Str
  | .len => "len"
  | .abs => "abs"
  | .int => "int"
  | .str => "str"
  | .sum => "sum"
  | .sorted _ => "sorted"
  | .list _ => "list"
  | .tuple => "tuple"
  | .max => "max"
  | .min => "min"
  | .dict _ => "dict"
theorem ubOf_N {m : Bool} {x : Str} {b : UB} (h : ubOf m x = some b) : x = ubN b := by
  unfold ubOf at h
  repeat (split at h; · (rename_i hx; cases h; exact hx))
  cases h
section
variable {C : Cfg} {φ : Fn} {X : Cx} {a : Expr} {fa : EF} {p pos : Pos}
theorem se_u {b : UB} (A : At C X) (bn : Bn X (ubN b)) (ha : SE C φ X a fa) (hn : noStar a = true) : SE C φ X (.Call (.Name (ubN b) p) [a] [] pos) (eU b fa) := by
  cases b with
  | max => exact se_mxl A bn ha hn
  | min => exact se_mnl A bn ha hn
  | len => exact se_callB (k := uA .len) cr_len bn (by rfl) (len_run A.K) ha hn (by decide) (by decide)
  | abs => exact se_callB (k := uA .abs) L2.call_abs bn (by rfl) abs_run ha hn (by decide) (by decide)
  | int => exact se_callT (k := uA .int) (.or L2.call_int1 L2.call_int_str) bn (by rfl) int_run ha hn (by decide) (by decide)
  | str => exact se_callT (k := uA .str) L2.call_str_int bn (by rfl) str_run ha hn (by decide) (by decide)
  | sum => exact se_callB (k := uA .sum) (cr_sum2 A.calm) bn (by rfl) (sum_run A.K) ha hn (by decide) (by decide)
  | sorted m => exact se_callB (k := uA (.sorted m)) (cr_sortA A.calm) bn (by rfl) (sorted_run A.K m) ha hn (by cases m <;> decide) (by cases m <;> decide)
  | list m => exact se_callT (k := uA (.list m)) (cr_list A.calm) bn (by rfl) (list_run A.K m) ha hn (by cases m <;> decide) (by cases m <;> decide)
  | tuple => exact se_callT (k := uA .tuple) L2.call_tuple_of bn (by rfl) (tuple_run A.K) ha hn (by decide) (by decide)
  | dict m => exact se_callT (k := uA (.dict m)) (L2.call_dictP A.calm) bn (by rfl) (dict_run A.K m) ha hn (by cases m <;> decide) (by cases m <;> decide)
end

/-! ### one step -/
def trCmp1 (re : ∀ T e, TrE T e) (T : TC) (a b : Expr) (o : CmpOp) (pos : Pos) : Option { f : EF // (∀ (C : Cfg) (φ : Fn) (lv : Nat) (X : Cx), Fits C φ lv T X → SE C φ X (.Compare a [o] [b] pos) f) ∧ ∀ (C : Cfg) (φ : Fn) (lv : Nat) (X : Cx), Fits C φ lv T X → SB C φ X (.Compare a [o] [b] pos) f } :=
  if hm : behindInMarks o b = false then
    match re T a, re T b with
    | some ⟨f, h⟩, some ⟨g, k⟩ => some ⟨eCmp (coOf o) f g, by
        have e := coOf_toC o
        generalize coOf o = c at e
        subst e
        exact ⟨fun C φ lv X F => se_cmp F.A c (h C φ lv X F) (k C φ lv X F) hm, fun C φ lv X F => sb_cmp F.A c (h C φ lv X F) (k C φ lv X F) hm⟩⟩
    | _, _ => none
  else none
def trCmp2 (re : ∀ T e, TrE T e) (T : TC) (a b c : Expr) (o o2 : CmpOp) (pos : Pos) : Option { f : EF // (∀ (C : Cfg) (φ : Fn) (lv : Nat) (X : Cx), Fits C φ lv T X → SE C φ X (.Compare a [o, o2] [b, c] pos) f) ∧ ∀ (C : Cfg) (φ : Fn) (lv : Nat) (X : Cx), Fits C φ lv T X → SB C φ X (.Compare a [o, o2] [b, c] pos) f } :=
  if hm : lastMarks [o, o2] [b, c] = false then
    match re T a, re T b, re T c with
    | some ⟨f, h⟩, some ⟨g, k⟩, some ⟨u, l⟩ => some ⟨eChain (coOf o) (coOf o2) f g u, by
        have e := coOf_toC o
        have e2 := coOf_toC o2
        generalize coOf o = c at e
        generalize coOf o2 = c2 at e2
        subst e
        subst e2
        exact ⟨fun C φ lv X F => se_chain F.A c c2 (h C φ lv X F) (k C φ lv X F) (l C φ lv X F) hm, fun C φ lv X F => sb_chain F.A c c2 (h C φ lv X F) (k C φ lv X F) (l C φ lv X F) hm⟩⟩
    | _, _, _ => none
  else none
def mmOf (x : Str) : Option Bool := if x = "max" then some true else if x = "min" then some false else none
theorem mmOf_N {x : Str} {m : Bool} (h : mmOf x = some m) : x = (if m then ("max" : Str) else "min") := by
  unfold mmOf at h
  split at h
  · rename_i hx; cases h; exact hx
  · split at h
    · rename_i hx; cases h; exact hx
    · cases h
theorem se_mm' {C : Cfg} {φ : Fn} {X : Cx} {a b : Expr} {fa fb : EF} {pos p : Pos} (A : At C X) {m : Bool} (bn : Bn X (if m then ("max" : Str) else "min")) (ha : SE C φ X a fa) (hb : SE C φ X b fb) (hn : noStar a = true) (hn2 : noStar b = true) :
    SE C φ X (.Call (.Name (if m then ("max" : Str) else "min") p) [a, b] [] pos) (eMM m fa fb) := by
  cases m
  · exact se_mm A false bn (by rfl) ha hb hn hn2 (by decide) (by decide)
  · exact se_mm A true bn (by rfl) ha hb hn hn2 (by decide) (by decide)
def plainAs : List Expr → Bool
  | [] => true
  | e :: es => noStar e && plainAs es
theorem plainAs_any {env : Env} {pos : Pos} : ∀ {es : List Expr}, plainAs es = true → (backTo pos (starEach es env)).any (·.1) = false
  | [], _ => rfl
  | e :: es, h => by
    simp only [plainAs, Bool.and_eq_true] at h
    have ih := plainAs_any (env := env) (pos := pos) h.2
    rw [star_cons h.1]
    have e1 : backTo pos ((false, eval e env) :: starEach es env) = (backTo pos [(false, eval e env)]) ++ backTo pos (starEach es env) := by
      unfold backTo; rfl
    rw [e1, List.any_append, ih]
    rfl
/-- a lambda's own frame -/
def TC.lamT (T : TC) (scope : Scope) : TC := { T with sc := scope, top := fun _ => false, dp := T.dp - 2, lam := false, gen := false }
theorem Fits.lamF {C : Cfg} {φ : Fn} {lv : Nat} {X : Cx} {T : TC} {scope : Scope} (F : Fits C φ lv T X) (L : LamX.LamS X.env.scope scope) (hd : 2 ≤ T.dp) {A : Around} {outer : List Env} {s : Shared} {H : Hp} {E : XK} {fa c' : Addr} (hr : Room (lv + (T.dp - 2)) (A.deeper (LamX.lamEnv X scope s.heap.objs.size fa c'))) :
    Fits C φ lv (T.lamT scope) (LamX.lamCx X A outer s H E scope fa c') where
  A := ⟨F.A.K, rfl, F.A.nd, by
    have := hr.un
    have e : (LamX.lamCx X A outer s H E scope fa c').A = A.deeper (LamX.lamEnv X scope s.heap.objs.size fa c') := rfl
    rw [e]
    omega⟩
  N := F.N
  sc := rfl
  kd := L.kind
  own := L2.passes_of (K := fun e s'' => L2.CX X.prog X.w outer H s E e s'') rfl
  fn := fun _ h => nomatch h
  rm := hr
  gl := fun x gi h => by
    have z := F.gl x gi h
    cases gi with
    | bltn => exact z
    | fn i => exact z
    | exc c => exact z
    | tell w ret => exact z
    | val v => exact z
    | cls c fi alts => exact z
    | fld f cs => exact z
    | mth m ms => exact z
  lam := fun h => nomatch h
  gen := fun h => nomatch h
def lamDef (params : Arguments) : Bool := match params with
  | ⟨[], [], none, [], [], none, []⟩ => true
  | _ => false
theorem lamDef_of {params : Arguments} (h : lamDef params = true) : params = ⟨[], [], none, [], [], none, []⟩ := by
  unfold lamDef at h
  split at h
  · rfl
  · cases h
theorem lam_bind (body : Expr) (scope : Scope) (q : Str) (cl : List (Str × Addr)) (pm cv ctv : Value) : bindArgs (PySem.W.kla_fn "<lambda>" q ⟨[], [], none, [], [], none, []⟩ body scope cl pm cv ctv) ⟨[], []⟩ = pure [] := by rfl
def trLam (re : ∀ T e, TrE T e) (T : TC) (params : Arguments) (body : Expr) (scope : Scope) : Option { f : EF // ∀ (C : Cfg) (φ : Fn) (lv : Nat) (X : Cx), Fits C φ lv T X → LamP C φ X (lv + (T.dp - 2)) params body scope f } :=
  if h : (lamDef params && LamX.lamSB T.sc scope && decide (2 ≤ T.dp)) = true then
    match re (T.lamT scope) body with
    | some ⟨f, k⟩ => some ⟨f, fun C φ lv X F => by
        simp only [Bool.and_eq_true, decide_eq_true_eq] at h
        have L : LamX.LamS X.env.scope scope := by rw [F.sc]; exact LamX.lamS_by h.1.2
        have e := lamDef_of h.1.1
        subst e
        exact ⟨L, rfl, lam_bind body scope, fun A outer s H E fa c' hr => k C φ lv _ (F.lamF L h.2 hr)⟩⟩
    | none => none
  else none
/-! ### targets -/
def trT : (T : TC) → (tg : Expr) → TrT T tg
  | T, .Name x p => if hi : T.N[ixOf T x]? = some x then
      if hl : T.sc.names.lookup x = some .local then some ⟨([ixOf T x], gN (ixOf T x)), fun C φ lv X F => st_name F.A (F.at_ hi) (.inl (by rw [F.sc]; exact hl)) (.inr (by rw [F.sc]; exact hl))⟩
      else if hl : T.sc.names.lookup x = some .cell ∧ T.top x = true then some ⟨([ixOf T x], gN (ixOf T x)), fun C φ lv X F => st_name F.A (F.at_ hi) (.inr (by rw [F.sc]; exact hl.1)) (.inl (F.fn x hl.2))⟩
      else none
    else none
  | T, _ => none
def trTs (T : TC) : (tg : List Expr) → TrTs T tg
  | [] => some ⟨([], gsNil), fun C φ lv X F => sts_nil, gsNil_len⟩
  | t :: ts => if hn : noStarT t = true then
      match trT T t, trTs T ts with
      | some ⟨f, h⟩, some ⟨g, k⟩ => some ⟨(f.1 ++ g.1, gsCons f.2 g.2), fun C φ lv X F => sts_cons (h C φ lv X F) (k.1 C φ lv X F) hn, gsCons_len k.2⟩
      | _, _ => none
    else none
def trTg1 (T : TC) (tg : Expr) : TrT T tg :=
  match tg with
  | .Tuple ts k p => if hp : plainTs ts = true then
      match trTs T ts with
      | some ⟨g, k⟩ => some ⟨(g.1, gT g.2), fun C φ lv X F => st_tup F.A (k.1 C φ lv X F) hp k.2⟩
      | none => none
    else none
  | tg => trT T tg
def trTs2 (T : TC) : (tg : List Expr) → TrTs T tg
  | [] => some ⟨([], gsNil), fun C φ lv X F => sts_nil, gsNil_len⟩
  | t :: ts => if hn : noStarT t = true then
      match trTg1 T t, trTs2 T ts with
      | some ⟨f, h⟩, some ⟨g, k⟩ => some ⟨(f.1 ++ g.1, gsCons f.2 g.2), fun C φ lv X F => sts_cons (h C φ lv X F) (k.1 C φ lv X F) hn, gsCons_len k.2⟩
      | _, _ => none
    else none
def trTg (T : TC) (tg : Expr) : TrT T tg :=
  match tg with
  | .Tuple ts k p => if hp : plainTs ts = true then
      match trTs2 T ts with
      | some ⟨g, k⟩ => some ⟨(g.1, gT g.2), fun C φ lv X F => st_tup F.A (k.1 C φ lv X F) hp k.2⟩
      | none => none
    else none
  | tg => trT T tg
end TX

/-! TxM: the translator, expressions -/
set_option Elab.async false
set_option linter.all false
set_option maxRecDepth 100000
set_option maxHeartbeats 1000000
set_option autoImplicit false
namespace TX
open PySem PySem.Spec PyProof.Rows
open L2 (V HO Hp Key upd upd_same upd_ne SqL SqT Rd HOk Cx Inv PE PT PTs PW PS PSs PG PGs PI PA TE TT TA TS TG TGs TI It VK XK WX Takes Ends EP SP TP OpR tOp CallR tCB tCons tNil Sp Room FnOk)
def notSet : Expr → Bool
  | .Set _ _ _ => false
  | _ => true
theorem notSet_of {e : Expr} {env : Env} (h : notSet e = true) : ∀ x, foldedSetIterable e env x = pure x := by
  intro x
  cases e <;> first | rfl | (simp [notSet] at h)
def TC.blkT (T : TC) (scope : Scope) : TC := { T with sc := L2.relS scope T.sc, top := fun x => scope.names.lookup x == some .cell, lam := false, gen := false }
theorem Fits.blkF {C : Cfg} {φ : Fn} {lv : Nat} {X : Cx} {T : TC} {scope : Scope} {own : List (Str × Nat)} (F : Fits C φ lv T X) (ok : L2.BlkOk X.N X.env.scope scope own) {s : Shared} {H : Hp} {L : Addr} {cl : List (Str × Addr)} {fp : List Addr} :
    Fits C φ lv (T.blkT scope) (X.blk s H scope (compEnvC scope cl L X.env) fp) where
  A := ⟨F.A.K, F.A.calm, F.A.nd, F.A.hu⟩
  N := F.N
  sc := by
    show L2.relS scope X.env.scope = _
    rw [F.sc]
    rfl
  kd := ok.kind
  own := PassesOwn.never
  fn := fun _ h => h
  rm := F.rm
  gl := fun x gi h => by
    have z := F.gl x gi h
    cases gi with
    | bltn => exact z
    | fn i => exact z
    | exc c => exact z
    | tell w ret => exact z
    | val v => exact z
    | cls c fi alts => exact z
    | fld f cs => exact z
    | mth m ms => exact z
  lam := fun h => nomatch h
  gen := fun h => nomatch h
def trI (re : ∀ T e, TrE T e) (T : TC) (tg : Expr) : (it : Expr) → TrI T tg it
  | .Call (.Name x p) [a] [] pos =>
    if h1 : (decide (x = "range") && glB T.sc x && noStar a) = true then
      match hl : T.gl.lookup x with
      | some .bltn => (match re T a with
        | some ⟨f, h⟩ => some ⟨iRng1 f, fun C φ lv X F => by
            simp only [Bool.and_eq_true, decide_eq_true_eq] at h1
            obtain ⟨⟨rfl, hg⟩, hn⟩ := h1
            exact si_rng1 (F.bn hg hl) (h C φ lv X F) hn⟩
        | none => none)
      | _ => none
    else if h2 : (decide (x = "enumerate") && glB T.sc x && noStar a) = true then
      match tg with
      | .Tuple elts kk tp => (match hl : T.gl.lookup x with
        | some .bltn => (match re T a with
          | some ⟨f, h⟩ => some ⟨iEnum f, fun C φ lv X F => by
              simp only [Bool.and_eq_true, decide_eq_true_eq] at h2
              obtain ⟨⟨rfl, hg⟩, hn⟩ := h2
              exact si_enum F.A (F.bn hg hl) (h C φ lv X F) hn⟩
          | none => none)
        | _ => none)
      | _ => none
    else match re T (.Call (.Name x p) [a] [] pos) with
      | some ⟨f, h⟩ => some ⟨iSeq f, fun C φ lv X F => si_seq F.A (h C φ lv X F)⟩
      | none => none
  | .Call (.Name x p) [a, b] [] pos =>
    if h1 : (decide (x = "range") && glB T.sc x && noStar a && noStar b) = true then
      match hl : T.gl.lookup x with
      | some .bltn => (match re T a, re T b with
        | some ⟨f, h⟩, some ⟨g, k⟩ => some ⟨iRng2 f g, fun C φ lv X F => by
            simp only [Bool.and_eq_true, decide_eq_true_eq] at h1
            obtain ⟨⟨⟨rfl, hg⟩, hn⟩, hn2⟩ := h1
            exact si_rng2 (F.bn hg hl) (h C φ lv X F) (k C φ lv X F) hn hn2⟩
        | _, _ => none)
      | _ => none
    else if h2 : (decide (x = "zip") && glB T.sc x && noStar a && noStar b) = true then
      match tg with
      | .Tuple elts kk tp => (match hl : T.gl.lookup x with
        | some .bltn => (match re T a, re T b with
          | some ⟨f, h⟩, some ⟨g, k⟩ => some ⟨iZip f g, fun C φ lv X F => by
              simp only [Bool.and_eq_true, decide_eq_true_eq] at h2
              obtain ⟨⟨⟨rfl, hg⟩, hn⟩, hn2⟩ := h2
              exact si_zip F.A (F.bn hg hl) (h C φ lv X F) (k C φ lv X F) hn hn2⟩
          | _, _ => none)
        | _ => none)
      | _ => none
    else match re T (.Call (.Name x p) [a, b] [] pos) with
      | some ⟨f, h⟩ => some ⟨iSeq f, fun C φ lv X F => si_seq F.A (h C φ lv X F)⟩
      | none => none
  | it => match re T it with
    | some ⟨f, h⟩ => some ⟨iSeq f, fun C φ lv X F => si_seq F.A (h C φ lv X F)⟩
    | none => none
/-! ### comprehensions -/
def ownOf (T : TC) (scope : Scope) : List (Str × Nat) := scope.names.filterMap fun y => match y.2 with
  | .local => if T.N.contains y.1 then some (y.1, ixOf T y.1) else none
  | .cell => if T.N.contains y.1 then some (y.1, ixOf T y.1) else none
  | _ => none
structure LcD where
  own : List (Str × Nat)
  sl : List Nat
  fi : IF_
  gt : TF
  fc : EF
  f : EF
def trIfs (rb : ∀ T e, TrB T e) (T : TC) : (ifs : List Expr) → Option { f : EF // ∀ (C : Cfg) (φ : Fn) (lv : Nat) (X : Cx), Fits C φ lv T X → PTs X ifs (tB C φ f N0) }
  | [] => some ⟨eYes, fun C φ lv X F => pts_yes⟩
  | [c] => match rb T c with
    | some ⟨f, h⟩ => some ⟨f, fun C φ lv X F => pts_if (h C φ lv X F)⟩
    | none => none
  | _ => none
def trLc (re : ∀ T e, TrE T e) (rb : ∀ T e, TrB T e) (T : TC) (elt tg iter : Expr) (ifs : List Expr) (scope : Scope) :
    Option { r : LcD // ∀ (C : Cfg) (φ : Fn) (lv : Nat) (X : Cx), Fits C φ lv T X → LcP C φ X elt tg iter ifs scope r.own r.sl r.fi r.gt r.fc r.f } :=
  if hb : (L2.blkC T.N T.sc scope (ownOf T scope) && notSet iter) = true then
    match trI re T tg iter, trTg (T.blkT scope) tg, trIfs rb (T.blkT scope) ifs, re (T.blkT scope) elt with
    | some ⟨fi, hi⟩, some ⟨gt, hg⟩, some ⟨fc, ht⟩, some ⟨f, he⟩ =>
      if hsl : (gt.1.all fun j => decide (j ∈ (ownOf T scope).map (·.2))) = true then
        some ⟨⟨ownOf T scope, gt.1, fi, gt.2, fc, f⟩, fun C φ lv X F => by
          simp only [Bool.and_eq_true] at hb
          have ok : L2.BlkOk X.N X.env.scope scope (ownOf T scope) := by rw [F.N, F.sc]; exact L2.blkOk_by hb.1
          refine ⟨hi C φ lv X F, ok, fun s H L cl fp => hg C φ lv _ (F.blkF ok), fun s H L cl fp => ht C φ lv _ (F.blkF ok), fun s H L cl fp => he C φ lv _ (F.blkF ok), notSet_of hb.2, fun j hj => ?_⟩
          exact of_decide_eq_true (List.all_eq_true.mp hsl j hj)⟩
      else none
    | _, _, _, _ => none
  else none
/-! ### generator expressions -/
def TC.genT (T : TC) (scope : Scope) : TC := { T with sc := scope, top := fun _ => false, dp := T.dp - 1, lam := false, gen := false }
theorem Fits.genF {C : Cfg} {φ : Fn} {lv : Nat} {X : Cx} {T : TC} {scope : Scope} {own : List (Str × Nat)} (F : Fits C φ lv T X) (ok : L2.BlkOk X.N X.env.scope scope own) (hd : 1 ≤ T.dp) {s : Shared} {H : Hp} {code : Value} {fp : List Addr} :
    Fits C φ lv (T.genT scope) (genCx X s H scope code fp) where
  A := ⟨F.A.K, rfl, F.A.nd, by
    have := F.rm.un
    show X.A.units + 5 + 3 + 65 < cLine
    omega⟩
  N := F.N
  sc := rfl
  kd := ok.kind
  own := PassesOwn.never
  fn := fun _ h => nomatch h
  rm := ⟨F.rm.hd, by
    have := F.rm.dp
    show X.A.depth + 1 + 3 * (lv + (T.dp - 1)) + 5 < _
    omega, by
    have := F.rm.un
    show X.A.units + 5 + 3 + 16 * (lv + (T.dp - 1)) + 200 < _
    omega⟩
  gl := fun x gi h => by
    have z := F.gl x gi h
    cases gi with
    | bltn => exact z
    | fn i => exact z
    | exc c => exact z
    | tell w ret => exact z
    | val v => exact z
    | cls c fi alts => exact z
    | fld f cs => exact z
    | mth m ms => exact z
  lam := fun h => nomatch h
  gen := fun h => nomatch h
def notList : Expr → Bool
  | .List _ _ => false
  | _ => true
theorem genFold_of {e : Expr} {env : Env} (h : (notSet e && notList e) = true) : ∀ v, genFold e env v = pure v := by
  intro v
  simp only [Bool.and_eq_true] at h
  unfold genFold
  split
  · simp [notList] at h
  · exact notSet_of h.1 v
def lk0 (scope : Scope) : Bool := match scope.names.lookup (".0" : Str) with
  | some .local => true
  | _ => false
theorem lk0_of {scope : Scope} (h : lk0 scope = true) : scope.names.lookup (".0" : Str) = some NameKind.local := by
  unfold lk0 at h
  split at h
  · rename_i e; exact e
  · cases h
def notCell : NameKind → Bool
  | .cell => false
  | _ => true
def trGen (re : ∀ T e, TrE T e) (rb : ∀ T e, TrB T e) (T : TC) (elt tg iter : Expr) (ifs : List Expr) (scope : Scope) :
    Option { r : LcD // ∀ (C : Cfg) (φ : Fn) (lv : Nat) (X : Cx), Fits C φ lv T X → GnP C φ X elt tg iter ifs scope r.own r.sl r.fi r.gt r.fc r.f } :=
  if hb : (L2.blkC T.N T.sc scope (ownOf T scope) && (notSet iter && notList iter) && !scope.isCoroutine && (scope.names.all fun y => notCell y.2) && lk0 scope && decide (1 ≤ T.dp)) = true then
    match trI re T tg iter, trTg (T.genT scope) tg, trIfs rb (T.genT scope) ifs, re (T.genT scope) elt with
    | some ⟨fi, hi⟩, some ⟨gt, hg⟩, some ⟨fc, ht⟩, some ⟨f, he⟩ =>
      if hsl : (gt.1.all fun j => decide (j ∈ (ownOf T scope).map (·.2))) = true then
        some ⟨⟨ownOf T scope, gt.1, fi, gt.2, fc, f⟩, fun C φ lv X F => by
          simp only [Bool.and_eq_true, decide_eq_true_eq, Bool.not_eq_true'] at hb
          obtain ⟨⟨⟨⟨⟨b1, b2⟩, b3⟩, b4⟩, b5⟩, b6⟩ := hb
          have ok : L2.BlkOk X.N X.env.scope scope (ownOf T scope) := by rw [F.N, F.sc]; exact L2.blkOk_by b1
          refine ⟨hi C φ lv X F, ok, b3, fun y hy z => ?_, lk0_of b5, fun s H code fp => hg C φ lv _ (F.genF ok b6), fun s H code fp => ht C φ lv _ (F.genF ok b6), fun s H code fp => he C φ lv _ (F.genF ok b6), genFold_of (by simp only [Bool.and_eq_true]; exact b2), fun j hj => ?_⟩
          · have := List.all_eq_true.mp b4 y hy
            rw [z] at this
            cases this
          · exact of_decide_eq_true (List.all_eq_true.mp hsl j hj)⟩
      else none
    | _, _, _, _ => none
  else none
def trGC (re : ∀ T e, TrE T e) (rb : ∀ T e, TrB T e) (T : TC) (x : Str) (p pos : Pos) : (as : List Expr) → TrE T (.Call (.Name x p) as [] pos)
  | [.GeneratorExp elt [⟨tg, iter, ifs, 0⟩] scope gpos] =>
    if hg : (glB T.sc x && T.gen && decide (2 ≤ T.dp)) = true then
      match hl : T.gl.lookup x, trGen re rb T elt tg iter ifs scope with
      | some .bltn, some ⟨r, h⟩ =>
        if ha : x = "any" then some ⟨eAny (r.own.map (·.2)) r.fi r.gt r.fc r.f, fun C φ lv X F => by
          simp only [Bool.and_eq_true, decide_eq_true_eq] at hg
          subst ha
          exact se_any (k := lv + (T.dp - 2)) F.A (F.rm.mono (by omega)) (F.gen hg.1.2) (F.bn hg.1.1 hl).1 (F.bn hg.1.1 hl).2 (h C φ lv X F)⟩
        else if ha : x = "tuple" then some ⟨eGen .tuple (r.own.map (·.2)) r.fi r.gt r.fc r.f, fun C φ lv X F => by
          simp only [Bool.and_eq_true, decide_eq_true_eq] at hg
          subst ha
          exact se_genTuple (k := lv + (T.dp - 2)) F.A (F.rm.mono (by omega)) (F.gen hg.1.2) (F.bn hg.1.1 hl).1 (F.bn hg.1.1 hl).2 (h C φ lv X F)⟩
        else if ha : x = "sum" then some ⟨eGen .sum (r.own.map (·.2)) r.fi r.gt r.fc r.f, fun C φ lv X F => by
          simp only [Bool.and_eq_true, decide_eq_true_eq] at hg
          subst ha
          exact se_genSum (k := lv + (T.dp - 2)) F.A (F.rm.mono (by omega)) (F.gen hg.1.2) (F.bn hg.1.1 hl).1 (F.bn hg.1.1 hl).2 (h C φ lv X F)⟩
        else if ha : x = "sorted" then some ⟨eGen (.sorted (T.ch pos)) (r.own.map (·.2)) r.fi r.gt r.fc r.f, fun C φ lv X F => by
          simp only [Bool.and_eq_true, decide_eq_true_eq] at hg
          subst ha
          exact se_genSorted (k := lv + (T.dp - 2)) F.A (T.ch pos) (F.rm.mono (by omega)) (F.gen hg.1.2) (F.bn hg.1.1 hl).1 (F.bn hg.1.1 hl).2 (h C φ lv X F)⟩
        else none
      | _, _ => none
    else none
  | _ => none
/-! ### calls -/
def trCall (re : ∀ T e, TrE T e) (T : TC) (x : Str) (p pos : Pos) : (as : List Expr) → TrE T (.Call (.Name x p) as [] pos)
  | [.Lambda params body scope lpos] =>
    if hg : (glB T.sc x && okN x && T.lam && decide (2 ≤ T.dp)) = true then
      match hl : T.gl.lookup x with
      | some (.tell w ret) => (match trLam re T params body scope with
        | some ⟨f, h⟩ => some ⟨eTold (ctOf w) ret f, fun C φ lv X F => by
            simp only [Bool.and_eq_true, decide_eq_true_eq] at hg
            exact se_told (F.gl x _ hl) (F.lam hg.1.2) (h C φ lv X F) (F.rm.mono (by omega)) (F.glo hg.1.1.1) (okN_of hg.1.1.2).1⟩
        | none => none)
      | _ => none
    else none
  | as => if hg : (glB T.sc x && okN x) = true then
      match hl : T.gl.lookup x with
      | some (.cls c fi alts) => (match ha : alts.lookup as.length with
        | some dvs => if hdp : 1 ≤ T.dp then (match as, ha with
          | [], ha => some ⟨eMake c fi dvs aNil, fun C φ lv X F => by
              simp only [Bool.and_eq_true] at hg
              exact se_make0 (F.gl x _ hl _ _ ha) (F.rm.mono (by omega)) (F.glo hg.1) (okN_of hg.2).1⟩
          | e :: es, ha => if hp : plainAs (e :: es) = true then
              match trA re T (e :: es) with
              | some ⟨f, h⟩ => some ⟨eMake c fi dvs f, fun C φ lv X F => by
                  simp only [Bool.and_eq_true] at hg
                  simp only [plainAs, Bool.and_eq_true] at hp
                  exact se_make (F.gl x _ hl _ _ ha) (F.rm.mono (by omega)) (F.glo hg.1) (h C φ lv X F) (okN_of hg.2).1 hp.1 (plainAs_any hp.2)⟩
              | none => none
            else none) else none
        | none => none)
      | some (.fn i) => (match as with
        | [] => some ⟨eCall i aNil, fun C φ lv X F => by
            simp only [Bool.and_eq_true] at hg
            exact se_call0 (F.gl x _ hl) (F.rm.mono (by omega)) (F.glo hg.1) (okN_of hg.2).1⟩
        | e :: es => if hp : plainAs (e :: es) = true then
            match trA re T (e :: es) with
            | some ⟨f, h⟩ => some ⟨eCall i f, fun C φ lv X F => by
                simp only [Bool.and_eq_true] at hg
                simp only [plainAs, Bool.and_eq_true] at hp
                exact se_call (F.gl x _ hl) (F.rm.mono (by omega)) (F.glo hg.1) (h C φ lv X F) (okN_of hg.2).1 hp.1 (plainAs_any hp.2)⟩
            | none => none
          else none)
      | some .bltn => (match as with
        | [a] => if hn : noStar a = true then
            match hu : ubOf (T.ch pos) x, re T a with
            | some b, some ⟨f, h⟩ => some ⟨eU b f, fun C φ lv X F => by
                simp only [Bool.and_eq_true] at hg
                have hx := ubOf_N hu
                have bn := F.bn hg.1 hl
                subst hx
                exact se_u F.A bn (h C φ lv X F) hn⟩
            | _, _ => none
          else none
        | [a, b] => if hn : (noStar a && noStar b) = true then
            match hu : mmOf x, re T a, re T b with
            | some m, some ⟨f, h⟩, some ⟨g, k⟩ => some ⟨eMM m f g, fun C φ lv X F => by
                simp only [Bool.and_eq_true] at hg hn
                have bn := F.bn hg.1 hl
                have hx := mmOf_N hu
                subst hx
                exact se_mm' F.A bn (h C φ lv X F) (k C φ lv X F) hn.1 hn.2⟩
            | _, _, _ => none
          else none
        | _ => none)
      | _ => none
    else none
/-- list(range(a, b)) -/
def trLR (re : ∀ T e, TrE T e) (T : TC) (x : Str) (p pos : Pos) : (as : List Expr) → TrE T (.Call (.Name x p) as [] pos)
  | [.Call (.Name y p2) [a, b] [] q] =>
    if h1 : (decide (x = "list") && decide (y = "range") && glB T.sc x && glB T.sc y && noStar a && noStar b) = true then
      match hl : T.gl.lookup x, hy : T.gl.lookup y, re T a, re T b with
      | some .bltn, some .bltn, some ⟨f, h⟩, some ⟨g, k⟩ => some ⟨eLRg (T.ch pos) f g, fun C φ lv X F => by
          simp only [Bool.and_eq_true, decide_eq_true_eq] at h1
          obtain ⟨⟨⟨⟨⟨rfl, rfl⟩, g1⟩, g2⟩, n1⟩, n2⟩ := h1
          exact se_lrg F.A _ (F.bn g1 hl) (F.bn g2 hy) (h C φ lv X F) (k C φ lv X F) n1 n2⟩
      | _, _, _, _ => none
    else none
  | _ => none
def orE {T : TC} {e : Expr} (a b : TrE T e) : TrE T e := match a with
  | some x => some x
  | none => b
/-- tuple(range(a, b)) -/
def trTR (re : ∀ T e, TrE T e) (T : TC) (x : Str) (p pos : Pos) : (as : List Expr) → TrE T (.Call (.Name x p) as [] pos)
  | [.Call (.Name y p2) [a, b] [] q] =>
    if h1 : (decide (x = "tuple") && decide (y = "range") && glB T.sc x && glB T.sc y && noStar a && noStar b) = true then
      match hl : T.gl.lookup x, hy : T.gl.lookup y, re T a, re T b with
      | some .bltn, some .bltn, some ⟨f, h⟩, some ⟨g, k⟩ => some ⟨eTRg f g, fun C φ lv X F => by
          simp only [Bool.and_eq_true, decide_eq_true_eq] at h1
          obtain ⟨⟨⟨⟨⟨rfl, rfl⟩, g1⟩, g2⟩, n1⟩, n2⟩ := h1
          exact se_trg F.A (F.bn g1 hl) (F.bn g2 hy) (h C φ lv X F) (k C φ lv X F) n1 n2⟩
      | _, _, _, _ => none
    else none
  | _ => none
/-- list(d.items()), tuple(d.items()) -/
def trIt (re : ∀ T e, TrE T e) (T : TC) (x : Str) (p pos : Pos) : (as : List Expr) → TrE T (.Call (.Name x p) as [] pos)
  | [.Call (.Attribute e m apos) [] [] cpos] =>
    if h1 : (decide (x = "list") && decide (m = "items") && glB T.sc x && notSuper e && (apos.endLine == cpos.line)) = true then
      match hl : T.gl.lookup x, re T e with
      | some .bltn, some ⟨f, h⟩ => some ⟨eLItems f, fun C φ lv X F => by
          simp only [Bool.and_eq_true, decide_eq_true_eq] at h1
          obtain ⟨⟨⟨⟨rfl, rfl⟩, g1⟩, g2⟩, g3⟩ := h1
          exact se_litems F.A (F.bn g1 hl) (h C φ lv X F) g2 g3⟩
      | _, _ => none
    else if h2 : (decide (x = "tuple") && decide (m = "items") && glB T.sc x && notSuper e && (apos.endLine == cpos.line)) = true then
      match hl : T.gl.lookup x, re T e with
      | some .bltn, some ⟨f, h⟩ => some ⟨eTItems f, fun C φ lv X F => by
          simp only [Bool.and_eq_true, decide_eq_true_eq] at h2
          obtain ⟨⟨⟨⟨rfl, rfl⟩, g1⟩, g2⟩, g3⟩ := h2
          exact se_titems F.A (F.bn g1 hl) (h C φ lv X F) g2 g3⟩
      | _, _ => none
    else none
  | _ => none
/-- sorted triples: told by a mark -/
def trS3 (re : ∀ T e, TrE T e) (T : TC) (x : Str) (p pos : Pos) : (as : List Expr) → TrE T (.Call (.Name x p) as [] pos)
  | [a] => if h1 : (decide (x = "sorted") && T.mark pos && glB T.sc x && noStar a) = true then
      match hl : T.gl.lookup x, re T a with
      | some .bltn, some ⟨f, h⟩ => some ⟨eSort3 (T.ch pos) f, fun C φ lv X F => by
          simp only [Bool.and_eq_true, decide_eq_true_eq] at h1
          obtain ⟨⟨⟨rfl, -⟩, g1⟩, g2⟩ := h1
          exact se_sort3 F.A _ (F.bn g1 hl) (h C φ lv X F) g2⟩
      | _, _ => none
    else none
  | _ => none
/-- deep ==, !=: told by a mark -/
def trDeep (re : ∀ T e, TrE T e) (T : TC) (a b : Expr) (o : CmpOp) (pos : Pos) : Option { f : EF // (∀ (C : Cfg) (φ : Fn) (lv : Nat) (X : Cx), Fits C φ lv T X → SE C φ X (.Compare a [o] [b] pos) f) ∧ ∀ (C : Cfg) (φ : Fn) (lv : Nat) (X : Cx), Fits C φ lv T X → SB C φ X (.Compare a [o] [b] pos) f } :=
  if T.mark pos = true then
    match re T a, re T b with
    | some ⟨f, h⟩, some ⟨g, k⟩ =>
      if ho : o = (if true = true then CmpOp.NotEq else .Eq) then
        if hm : behindInMarks (if true = true then CmpOp.NotEq else .Eq) b = false then some ⟨eEqD true f g, by subst ho; exact ⟨fun C φ lv X F => se_eqD F.A true (h C φ lv X F) (k C φ lv X F) hm, fun C φ lv X F => sb_eqD F.A true (h C φ lv X F) (k C φ lv X F) hm⟩⟩ else none
      else if ho : o = (if false = true then CmpOp.NotEq else .Eq) then
        if hm : behindInMarks (if false = true then CmpOp.NotEq else .Eq) b = false then some ⟨eEqD false f g, by subst ho; exact ⟨fun C φ lv X F => se_eqD F.A false (h C φ lv X F) (k C φ lv X F) hm, fun C φ lv X F => sb_eqD F.A false (h C φ lv X F) (k C φ lv X F) hm⟩⟩ else none
      else none
    | _, _ => none
  else none
/-- min of seven -/
def trMin7 (re : ∀ T e, TrE T e) (T : TC) (x : Str) (p pos : Pos) : (as : List Expr) → TrE T (.Call (.Name x p) as [] pos)
  | e :: es => if h1 : (decide (x = "min") && glB T.sc x && decide (es.length = 6) && plainAs (e :: es)) = true then
      match hl : T.gl.lookup x, trA re T (e :: es) with
      | some .bltn, some ⟨f, h⟩ => some ⟨eMin7 f, fun C φ lv X F => by
          simp only [Bool.and_eq_true, decide_eq_true_eq] at h1
          obtain ⟨⟨⟨rfl, g1⟩, g2⟩, n1⟩ := h1
          simp only [plainAs, Bool.and_eq_true] at n1
          exact se_min7 F.A (F.bn g1 hl) (h C φ lv X F) (star_cons n1.1) (plainAs_any n1.2)⟩
      | _, _ => none
    else none
  | _ => none
/-- the pairs of a display -/
def trDP (re : ∀ T e, TrE T e) (T : TC) (pos : Pos) : (keys : List (Option Expr)) → (vals : List Expr) → Option { ps : List (EF × EF) // ∀ (C : Cfg) (φ : Fn) (lv : Nat) (X : Cx), Fits C φ lv T X → SDP C φ X pos keys vals ps }
  | [], [] => some ⟨[], fun C φ lv X F => sdp_nil⟩
  | some k :: ks, v :: vs => match re T k, re T v, trDP re T pos ks vs with
    | some ⟨f, h⟩, some ⟨g, u⟩, some ⟨ps, w⟩ => some ⟨(f, g) :: ps, fun C φ lv X F => sdp_cons (h C φ lv X F) (u C φ lv X F) (w C φ lv X F)⟩
    | _, _, _ => none
  | _, _ => none
def trDct (re : ∀ T e, TrE T e) (T : TC) (pos : Pos) : (keys : List (Option Expr)) → (vals : List Expr) → TrE T (.Dict keys vals pos)
  | [], [] => some ⟨eDct (T.ch pos) [], fun C φ lv X F => se_dct0 _⟩
  | k :: ks, vs => if h15 : (k :: ks).length ≤ 15 then
      match trDP re T pos (k :: ks) vs with
      | some ⟨ps, h⟩ => some ⟨eDct (T.ch pos) ps, fun C φ lv X F => se_dct _ (h C φ lv X F) (by simp) h15⟩
      | none => none
    else none
  | _, _ => none
/-- o.count(a) -/
def trCnt (re : ∀ T e, TrE T e) (T : TC) (o : Expr) (m : Str) (apos pos : Pos) : (as : List Expr) → TrE T (.Call (.Attribute o m apos) as [] pos)
  | [a] => if hm : (decide (m = "count") && notSuper o && noStar a && (apos.endLine == pos.line)) = true then
      match re T o, re T a with
      | some ⟨f, h⟩, some ⟨g, k⟩ => some ⟨eCount f g, fun C φ lv X F => by
          simp only [Bool.and_eq_true, decide_eq_true_eq] at hm
          obtain ⟨⟨⟨rfl, h1⟩, h2⟩, h3⟩ := hm
          exact se_count F.A (h C φ lv X F) (k C φ lv X F) h1 h2 h3⟩
      | _, _ => none
    else none
  | _ => none
/-- methods of texts -/
def trM (re : ∀ T e, TrE T e) (T : TC) (o : Expr) (m : Str) (apos pos : Pos) : (as : List Expr) → TrE T (.Call (.Attribute o m apos) as [] pos)
  | [.Constant (.str x) j q] =>
    if hm : (decide (m = "startswith") && notSuper o && (apos.endLine == pos.line)) = true then
      match re T o with
      | some ⟨f, h⟩ => some ⟨eStarts f x.cps.toList, fun C φ lv X F => by
          simp only [Bool.and_eq_true, decide_eq_true_eq] at hm
          obtain ⟨⟨rfl, h1⟩, h2⟩ := hm
          exact se_starts (h C φ lv X F) (toS_of x).symm h1 h2⟩
      | none => none
    else match hc : x.cps.toList with
      | [c] => if hs : (decide (m = "split") && notSuper o && (apos.endLine == pos.line) && decide (c < 256)) = true then
          match re T o with
          | some ⟨f, h⟩ => some ⟨eSplit (T.ch pos) f c, fun C φ lv X F => by
              simp only [Bool.and_eq_true, decide_eq_true_eq] at hs
              obtain ⟨⟨⟨rfl, h1⟩, h2⟩, h3⟩ := hs
              exact se_split _ (h C φ lv X F) (by rw [← hc]; exact (toS_of x).symm) h3 h1 h2⟩
          | none => none
        else none
      | _ => none
  | _ => none
/-- sep.join(a) -/
def trJ (re : ∀ T e, TrE T e) (T : TC) (o : Expr) (m : Str) (apos pos : Pos) : (as : List Expr) → TrE T (.Call (.Attribute o m apos) as [] pos)
  | [a] => match o with
    | .Constant (.str x) j q => if hm : (decide (m = "join") && noStar a && (apos.endLine == pos.line)) = true then
        match re T a with
        | some ⟨f, h⟩ => some ⟨eJoin x.cps.toList f, fun C φ lv X F => by
            simp only [Bool.and_eq_true, decide_eq_true_eq] at hm
            obtain ⟨⟨rfl, h1⟩, h2⟩ := hm
            exact se_join F.A (h C φ lv X F) (toS_of x).symm h1 h2⟩
        | none => none
      else none
    | _ => none
  | _ => none
/-- o.append(a) -/
def trApp (re : ∀ T e, TrE T e) (T : TC) (o : Expr) (m : Str) (apos pos : Pos) : (as : List Expr) → TrE T (.Call (.Attribute o m apos) as [] pos)
  | [a] => if hm : (decide (m = "append") && notSuper o && noStar a && (apos.endLine == pos.line)) = true then
      match re T o, re T a with
      | some ⟨f, h⟩, some ⟨g, k⟩ => some ⟨eApp f g, fun C φ lv X F => by
          simp only [Bool.and_eq_true, decide_eq_true_eq] at hm
          obtain ⟨⟨⟨rfl, h1⟩, h2⟩, h3⟩ := hm
          exact se_app F.A (h C φ lv X F) (k C φ lv X F) h1 h2 h3⟩
      | _, _ => none
    else none
  | _ => none
/-- the key of an attribute, of a method, among the global names -/
def fldKey (f : Str) : Str := "." ++ f
def mthKey (m : Str) : Str := ":" ++ m
def trFld (re : ∀ T e, TrE T e) (T : TC) (e : Expr) (f : Str) (pos : Pos) : TrE T (.Attribute e f pos) :=
  if hs : notSuper e = true then
    match hl : T.gl.lookup (fldKey f) with
    | some (.fld f' cs) => if hf : f' = f then
        match re T e with
        | some ⟨g, h⟩ => some ⟨eFld cs f.cps.toList g, fun C φ lv X F => se_fld (by rw [← hf]; exact F.gl _ _ hl) (toS_of f).symm (h C φ lv X F) hs⟩
        | none => none
      else none
    | _ => none
  else none
/-- a method's call, by the classes that have it -/
def trMs {T : TC} {o : Expr} {m : Str} {ap pos : Pos} {as : List Expr} (fo : { f : EF // ∀ (C : Cfg) (φ : Fn) (lv : Nat) (X : Cx), Fits C φ lv T X → SE C φ X o f }) (fa : { f : AF // ∀ (C : Cfg) (φ : Fn) (lv : Nat) (X : Cx), Fits C φ lv T X → SA C φ X as f })
    (hs : notSuper o = true) (hp : plainAs as = true) (hl : (ap.endLine == pos.line) = true) (hlen : as.length < 30) :
    (ms : List (Nat × Nat)) → Option { f : EF // ∀ (C : Cfg) (φ : Fn) (lv : Nat) (X : Cx), Fits C φ lv T X → (∀ p ∈ ms, MeI C X.prog X.w X.K X.mg X.base lv p.1 m (φ 0 p.2)) → SE C φ X (.Call (.Attribute o m ap) as [] pos) f }
  | [] => none
  | (c, fi) :: r =>
    let one : { f : EF // ∀ (C : Cfg) (φ : Fn) (lv : Nat) (X : Cx), Fits C φ lv T X → (∀ p ∈ (c, fi) :: r, MeI C X.prog X.w X.K X.mg X.base lv p.1 m (φ 0 p.2)) → SE C φ X (.Call (.Attribute o m ap) as [] pos) f } :=
      match as, fa, hp, hlen with
      | [], _, _, _ => ⟨eMeth c m.cps.toList fi fo.1 aNil, fun C φ lv X F hm => se_meth0 (hm _ List.mem_cons_self) (toS_of m).symm (F.rm.mono (by omega)) (fo.2 C φ lv X F) hs hl⟩
      | e :: es, fa, hp, hlen => ⟨eMeth c m.cps.toList fi fo.1 fa.1, fun C φ lv X F hm => by
          simp only [plainAs, Bool.and_eq_true] at hp
          exact se_meth (hm _ List.mem_cons_self) (toS_of m).symm (F.rm.mono (by omega)) (fo.2 C φ lv X F) (fa.2 C φ lv X F) hs hp.1 (plainAs_any hp.2) hl hlen⟩
    match r, one, trMs fo fa hs hp hl hlen r with
    | [], one, _ => some one
    | _ :: _, one, some ⟨g, k⟩ => some ⟨eAlt one.1 g, fun C φ lv X F hm => se_alt (one.2 C φ lv X F hm) (k C φ lv X F fun p hp => hm p (List.mem_cons_of_mem _ hp))⟩
    | _, _, none => none
def trMeth (re : ∀ T e, TrE T e) (T : TC) (o : Expr) (m : Str) (ap pos : Pos) (as : List Expr) : TrE T (.Call (.Attribute o m ap) as [] pos) :=
  if hz : (notSuper o && plainAs as && (ap.endLine == pos.line) && decide (as.length < 30)) = true then
    match hl : T.gl.lookup (mthKey m) with
    | some (.mth m' ms) => if hm : m' = m then
        match re T o, trA re T as with
        | some fo, some fa =>
          have hz' := hz
          match trMs (m := m) fo fa (by simp only [Bool.and_eq_true, decide_eq_true_eq] at hz; exact hz.1.1.1) (by simp only [Bool.and_eq_true, decide_eq_true_eq] at hz; exact hz.1.1.2) (by simp only [Bool.and_eq_true, decide_eq_true_eq] at hz; exact hz.1.2) (by simp only [Bool.and_eq_true, decide_eq_true_eq] at hz; exact hz.2) ms with
          | some ⟨f, h⟩ => some ⟨f, fun C φ lv X F => h C φ lv X F (by rw [← hm]; exact F.gl _ _ hl)⟩
          | none => none
        | _, _ => none
      else none
    | _ => none
  else none
def stepE (re : ∀ T e, TrE T e) (rb : ∀ T e, TrB T e) (T : TC) : (e : Expr) → TrE T e
  | .Constant (.int i) j p => some ⟨eC (.int i), fun C φ lv X F => se_int⟩
  | .Constant (.bool b) j p => some ⟨eC (.bl b), fun C φ lv X F => se_bool⟩
  | .Constant .none j p => some ⟨eC .non, fun C φ lv X F => se_none⟩
  | .Constant (.str x) j p => some ⟨eC (.str x.cps.toList), fun C φ lv X F => se_str (toS_of x).symm⟩
  | .Name x p => trName T x p
  | .Tuple es k p => match trA re T es with
    | some ⟨f, h⟩ => some ⟨eTup f, fun C φ lv X F => se_tup (h C φ lv X F)⟩
    | none => none
  | .List es p => match trA re T es with
    | some ⟨f, h⟩ => some ⟨eLst (T.ch p) f, fun C φ lv X F => se_lst _ (h C φ lv X F)⟩
    | none => none
  | .BinOp a o b p => match ho : boOf o, re T a, re T b with
    | some op, some ⟨f, h⟩, some ⟨g, k⟩ => some ⟨eBin (T.ch p) op f g, fun C φ lv X F => by
        rw [boOf_toOp ho]
        exact se_bin F.A _ op (h C φ lv X F) (k C φ lv X F)⟩
    | _, _, _ => none
  | .UnaryOp .USub a p => match re T a with
    | some ⟨f, h⟩ => some ⟨eNeg f, fun C φ lv X F => se_neg (h C φ lv X F)⟩
    | none => none
  | .UnaryOp .Not a p => match re T a with
    | some ⟨f, h⟩ => some ⟨eNot f, fun C φ lv X F => se_not (h C φ lv X F)⟩
    | none => none
  | .Compare a [o] [b] p => match trDeep re T a b o p with
    | some ⟨f, h⟩ => some ⟨f, h.1⟩
    | none => match trCmp1 re T a b o p with
      | some ⟨f, h⟩ => some ⟨f, h.1⟩
      | none => none
  | .Compare a [o, o2] [b, c] p => match trCmp2 re T a b c o o2 p with
    | some ⟨f, h⟩ => some ⟨f, h.1⟩
    | none => none
  | .BoolOp op es p => trWv re T op p es
  | .IfExp c a b p => match rb T c, re T a, re T b with
    | some ⟨f, h⟩, some ⟨g, k⟩, some ⟨u, l⟩ => some ⟨eIf f g u, fun C φ lv X F => se_ifExp (h C φ lv X F) (k C φ lv X F) (l C φ lv X F)⟩
    | _, _, _ => none
  | .Subscript a (.Slice lo hi none p2) p => match re T a, trO re T lo, trO re T hi with
    | some ⟨f, h⟩, some ⟨g, k⟩, some ⟨u, l⟩ => some ⟨eSlc (T.ch p) f g u, fun C φ lv X F => se_slc F.A _ (h C φ lv X F) (k C φ lv X F) (l C φ lv X F)⟩
    | _, _, _ => none
  | .Subscript a (.Slice none none (some (.UnaryOp .USub (.Constant (.int 1) j q) q2)) p2) p => match re T a, re T (.UnaryOp .USub (.Constant (.int 1) j q) q2) with
    | some ⟨f, h⟩, some ⟨g, k⟩ => some ⟨eSl3 (T.ch p) f oNone oNone (oSome g), fun C φ lv X F => se_sl3 F.A _ (h C φ lv X F) so_none so_none (so_some (k C φ lv X F)) sub_rev⟩
    | _, _ => none
  | .Subscript a b p => if hn : noSl b = true then
      match re T a, re T b with
      | some ⟨f, h⟩, some ⟨g, k⟩ => some ⟨eIdx f g, fun C φ lv X F => se_idx F.A (h C φ lv X F) (k C φ lv X F) hn⟩
      | _, _ => none
    else none
  | .JoinedStr (e1 :: e2 :: es) p => match trFs re T (e1 :: e2 :: es) with
    | some ⟨fs, h⟩ => if hl : fs.length ≤ 4000 then some ⟨eFs fs, fun C φ lv X F => se_fs (h C φ lv X F) hl⟩ else none
    | none => none
  | .ListComp elt [⟨tg, iter, ifs, 0⟩] scope p => match trLc re rb T elt tg iter ifs scope with
    | some ⟨r, h⟩ => some ⟨eLc (T.ch p) (r.own.map (·.2)) r.fi r.gt r.fc r.f, fun C φ lv X F => se_lc F.A _ (h C φ lv X F)⟩
    | none => none
  | .Call (.Name x p) as [] pos => orE (trGC re rb T x p pos as) (orE (trLR re T x p pos as) (orE (trTR re T x p pos as) (orE (trIt re T x p pos as) (orE (trS3 re T x p pos as) (orE (trMin7 re T x p pos as) (trCall re T x p pos as))))))
  | .Dict ks vs p => trDct re T p ks vs
  | .Attribute e f pos => trFld re T e f pos
  | .Call (.Attribute o m ap) as [] pos => orE (trMeth re T o m ap pos as) <| orE (trApp re T o m ap pos as) <| orE (trCnt re T o m ap pos as) (orE (trJ re T o m ap pos as) (trM re T o m ap pos as))
  | _ => none
/-- a value, as a test -/
def sbV (re : ∀ T e, TrE T e) (T : TC) (e : Expr) (he : ∀ (env : Env) whole, isTrue e env whole = (do let v ← whole; standAt e.pos; holding [v] (truthy v))) : TrB T e :=
  match re T e with
  | some ⟨f, h⟩ => some ⟨f, fun C φ lv X F => sb_val (h C φ lv X F) (he X.env)⟩
  | none => none
def stepB (re : ∀ T e, TrE T e) (rb : ∀ T e, TrB T e) (T : TC) : (e : Expr) → TrB T e
  | .Compare a [o] [b] p => match trDeep re T a b o p with
    | some ⟨f, h⟩ => some ⟨f, h.2⟩
    | none => match trCmp1 re T a b o p with
      | some ⟨f, h⟩ => some ⟨f, h.2⟩
      | none => none
  | .Compare a [o, o2] [b, c] p => match trCmp2 re T a b c o o2 p with
    | some ⟨f, h⟩ => some ⟨f, h.2⟩
    | none => none
  | .BoolOp op es p => match trW rb T op p es with
    | some ⟨f, h⟩ => some ⟨f, fun C φ lv X F => (h C φ lv X F).sb⟩
    | none => none
  | .UnaryOp .Not a p => match rb T a with
    | some ⟨f, h⟩ => some ⟨eNot f, fun C φ lv X F => sb_not (h C φ lv X F)⟩
    | none => none
  | .Name x p => sbV re T _ fun _ _ => rfl
  | .Call f as ks p => sbV re T _ fun _ _ => rfl
  | .Subscript a b p => sbV re T _ fun _ _ => rfl
  | .Constant (.bool b) j p => sbV re T _ fun _ _ => rfl
  | _ => none
/-- the translator, to a depth -/
def tr : Nat → (∀ T e, TrE T e) × (∀ T e, TrB T e)
  | 0 => (fun _ _ => none, fun _ _ => none)
  | n + 1 => (fun T e => stepE (tr n).1 (tr n).2 T e, fun T e => stepB (tr n).1 (tr n).2 T e)
end TX

/-! TxN: the translator, statements -/
set_option Elab.async false
set_option linter.all false
set_option maxRecDepth 100000
set_option maxHeartbeats 1000000
set_option autoImplicit false
namespace TX
open PySem PySem.Spec PyProof.Rows
open L2 (V HO Hp Key upd upd_same upd_ne SqL SqT Rd HOk Cx Inv PE PT PTs PW PS PSs PG PGs PI PA TE TT TA TS TG TGs TI It VK XK WX Takes Ends EP SP TP OpR tOp CallR tCB tCons tNil Sp Room FnOk)
/-! ### which stores are swapped -/
def notComp : Expr → Bool
  | .ListComp .. => false
  | .SetComp .. => false
  | .DictComp .. => false
  | _ => true
def notName : Expr → Bool
  | .Name .. => false
  | _ => true
theorem sw_nocomp {e : Expr} {t : Option Expr} {l : Nat} {env : Env} (h : notComp e = true) : swapsWith e t l env = pure false := by
  cases e <;> first | rfl | (simp [notComp] at h)
theorem sw_noname {e t : Expr} {l : Nat} {env : Env} (h : notName t = true) : swapsWith e (some t) l env = pure false := by
  unfold swapsWith
  cases e <;> cases t <;> first | rfl | (simp [notName] at h)
theorem sws_of {e t : Expr} {l : Nat} {env : Env} (h : (notComp e || notName t) = true) : swapsWithSole [t] e l env = pure false := by
  show swapsWith e (some t) l env = pure false
  simp only [Bool.or_eq_true] at h
  exact h.elim sw_nocomp sw_noname
def notTup : Expr → Bool
  | .Tuple .. => false
  | .List .. => false
  | _ => true
theorem swp_of {e t : Expr} {env : Env} (h : (notTup e || notTup t) = true) : swappedStores [t] e env = pure none := by
  unfold swappedStores
  cases e <;> cases t <;> first | rfl | (simp [notTup] at h)
/-- a list comprehension stored in a name -/
def lcSw (sc : Scope) (y : Str) (py p : Pos) (scope : Scope) : Bool := decide (sc.names.lookup y = some .local) && (py.line == p.line) && !(scope.names.any fun (n, k) => n == y && (k == .local || k == .cell))
theorem blkK {env : Env} (h : env.scope.kind = .function) : env.blockKind = .function := by
  unfold Env.blockKind; rw [h]; rfl
theorem lcSw_no {env : Env} {elt : Expr} {gs : List Comprehension} {scope : Scope} {p py : Pos} {y : Str} {l : Nat} (hk : env.scope.kind = .function) (h : lcSw env.scope y py p scope = false) : swapsWith (.ListComp elt gs scope p) (some (.Name y py)) l env = pure false := by
  have e : swapsWith (.ListComp elt gs scope p) (some (.Name y py)) l env = pure (env.blockKind == .function && env.kindOf y == some .local && py.line == p.line && !(scope.names.any fun (n, k) => n == y && (k == .local || k == .cell))) := rfl
  rw [e, blkK hk]
  congr 1
  have e2 : (env.kindOf y == some .local) = decide (env.scope.names.lookup y = some .local) := by
    show (env.scope.names.lookup y == some .local) = _
    rw [Bool.eq_iff_iff, beq_iff_eq, decide_eq_true_iff]
  rw [e2]
  unfold lcSw at h
  rw [show ((ScopeKind.function == ScopeKind.function) = true) from rfl, Bool.true_and]
  exact h
/-- two, three plain names -/
def swv (vs : List Expr) : Bool := !(vs.all (foldedForSure 8)) && !(vs.all (constantsAlone 8)) && plainAs vs
theorem noStar_any {vs : List Expr} (h : plainAs vs = true) : (vs.any fun | .Starred .. => true | _ => false) = false := by
  induction vs with
  | nil => rfl
  | cons e es ih =>
    simp only [plainAs, Bool.and_eq_true] at h
    rw [List.any_cons, ih h.2, Bool.or_false]
    have h1 := h.1
    cases e <;> first | rfl | (simp [noStar] at h1)
theorem star_no (e : Expr) : noStar e = true → ¬ ((match e with | .Starred .. => true | _ => false) = true) := by
  intro h
  cases e <;> first | exact Bool.false_ne_true | (simp [noStar] at h)
theorem sw_two {env : Env} {x y : Str} {px py pt pt2 : Pos} {kt k2 : Nat} {a b : Expr} (hk : env.scope.kind = .function) (hx : env.scope.names.lookup x = some .local) (hy : env.scope.names.lookup y = some .local) (hl : (py.line == px.line) = true) (hxy : x ≠ y) (hv : swv [a, b] = true) :
    swappedStores [.Tuple [.Name x px, .Name y py] kt pt] (.Tuple [a, b] k2 pt2) env = pure (some [x, y]) := by
  simp only [swv, Bool.and_eq_true, Bool.not_eq_true'] at hv
  obtain ⟨⟨h1, h2⟩, h3⟩ := hv
  have hs := noStar_any h3
  have kx : env.kindOf x = some .local := hx
  have ky : env.kindOf y = some .local := hy
  have hb := blkK hk
  have hne : (y == x) = false := by simpa using fun e => hxy e.symm
  have hl2 : py.line = px.line := by simpa using hl
  unfold swappedStores
  simp [hs, hb, kx, ky, h1, h2, Expr.pos, hl2, List.eraseDups, List.eraseDupsBy, List.eraseDupsBy.loop, hne]
  simp only [plainAs, Bool.and_eq_true] at h3
  exact fun h => h.elim (fun z => absurd z (star_no a h3.1)) fun z => absurd z (star_no b h3.2.1)
theorem sw_three {env : Env} {x y z : Str} {px py pz pt pt2 : Pos} {kt k2 : Nat} {a b c : Expr} (hk : env.scope.kind = .function) (hx : env.scope.names.lookup x = some .local) (hy : env.scope.names.lookup y = some .local) (hz : env.scope.names.lookup z = some .local) (hl : (py.line == px.line) = true) (hlz : (pz.line == px.line) = true) (hxy : x ≠ y) (hxz : x ≠ z) (hyz : y ≠ z) (hv : swv [a, b, c] = true) :
    swappedStores [.Tuple [.Name x px, .Name y py, .Name z pz] kt pt] (.Tuple [a, b, c] k2 pt2) env = pure (some [x, y, z]) := by
  simp only [swv, Bool.and_eq_true, Bool.not_eq_true'] at hv
  obtain ⟨⟨h1, h2⟩, h3⟩ := hv
  have hs := noStar_any h3
  have kx : env.kindOf x = some .local := hx
  have ky : env.kindOf y = some .local := hy
  have kz : env.kindOf z = some .local := hz
  have hb := blkK hk
  have n1 : (y == x) = false := by simpa using fun e => hxy e.symm
  have n2 : (z == x) = false := by simpa using fun e => hxz e.symm
  have n3 : (z == y) = false := by simpa using fun e => hyz e.symm
  have hl2 : py.line = px.line := by simpa using hl
  have hl3 : pz.line = px.line := by simpa using hlz
  unfold swappedStores
  simp [hs, hb, kx, ky, kz, h1, h2, Expr.pos, hl2, hl3, List.eraseDups, List.eraseDupsBy, List.eraseDupsBy.loop, n1, n2, n3]
  simp only [plainAs, Bool.and_eq_true] at h3
  exact fun h => h.elim (fun z => absurd z (star_no a h3.1)) fun h => h.elim (fun z => absurd z (star_no b h3.2.1)) fun z => absurd z (star_no c h3.2.2.1)
/-- .. none: too many, or some no local names -/
def nameL (sc : Scope) (line : Nat) (ts : List Expr) : List Str := ts.filterMap fun
  | .Name id pos => if sc.names.lookup id == some .local && pos.line == line then some id else none
  | _ => none
def swNone (sc : Scope) (ts vs : List Expr) : Bool :=
  !(ts.length == 2 || ts.length == 3) || vs.length != ts.length || (nameL sc ((ts.head?.map (·.pos.line)).getD 0) ts).length != ts.length || (nameL sc ((ts.head?.map (·.pos.line)).getD 0) ts).eraseDups.length != (nameL sc ((ts.head?.map (·.pos.line)).getD 0) ts).length || vs.all (foldedForSure 8)
theorem sw_none {env : Env} {ts vs : List Expr} {kt k2 : Nat} {pt pt2 : Pos} (hk : env.scope.kind = .function) (h : swNone env.scope ts vs = true) : swappedStores [.Tuple ts kt pt] (.Tuple vs k2 pt2) env = pure none := by
  have hb := blkK hk
  have e : swappedStores [.Tuple ts kt pt] (.Tuple vs k2 pt2) env = (do
    if !(ts.length == 2 || ts.length == 3) || vs.length != ts.length || env.blockKind != .function then return none
    if vs.any fun | .Starred .. => true | _ => false then return none
    if (nameL env.scope ((ts.head?.map (·.pos.line)).getD 0) ts).length != ts.length || (nameL env.scope ((ts.head?.map (·.pos.line)).getD 0) ts).eraseDups.length != (nameL env.scope ((ts.head?.map (·.pos.line)).getD 0) ts).length then return none
    if vs.all (foldedForSure 8) then return none
    if vs.all (constantsAlone 8) then unsupported "assign.tuple-of-constant-expressions:order-of-the-stores"
    return some (nameL env.scope ((ts.head?.map (·.pos.line)).getD 0) ts)) := rfl
  rw [e]
  unfold swNone at h
  generalize nameL env.scope ((ts.head?.map (·.pos.line)).getD 0) ts = nl at h ⊢
  simp only [Bool.or_eq_true] at h
  rw [hb]
  split
  · rfl
  · rename_i h1
    split
    · rfl
    · split
      · rfl
      · rename_i h2
        split
        · rfl
        · rename_i h3
          exfalso
          simp only [Bool.or_eq_true, not_or] at h1 h2
          rcases h with (((h | h) | h) | h) | h
          · exact h1.1.1 h
          · exact h1.1.2 h
          · exact h2.1 h
          · exact h2.2 h
          · exact h3 h

/-! ### assignments -/
theorem Fits.fk {C : Cfg} {φ : Fn} {lv : Nat} {X : Cx} {T : TC} (F : Fits C φ lv T X) : X.env.scope.kind = .function := by rw [F.sc]; exact F.kd
def augOf : Operator → Option BO
  | .Add => some .add
  | .Sub => some .sub
  | _ => none
theorem augOf_of {o : Operator} {b : BO} (h : augOf o = some b) : o = toOp b ∧ augOp b = true := by
  cases o <;> simp [augOf] at h <;> subst h <;> exact ⟨rfl, rfl⟩
/-- the plain road: no swap -/
def trSet (re : ∀ T e, TrE T e) (T : TC) (tg e : Expr) (pos : Pos) : TrS T (.Assign [tg] e pos) :=
  if h : ((notComp e || notName tg) && (notTup e || notTup tg) && noStarT tg) = true then
    match trTg T tg, re T e with
    | some ⟨g, k⟩, some ⟨f, l⟩ => some ⟨sSet g.2 f, fun C φ lv X F => by
        simp only [Bool.and_eq_true] at h
        exact ss_set (l C φ lv X F) (k C φ lv X F) h.2 (sws_of h.1.1) (swp_of h.1.2)⟩
    | _, _ => none
  else none
/-- targets of all kinds -/
def locB0 (T : TC) (x : Str) : Bool := decide (T.sc.names.lookup x = some .local) || (decide (T.sc.names.lookup x = some .cell) && T.top x)
theorem locB0_of {C : Cfg} {φ : Fn} {lv : Nat} {X : Cx} {T : TC} (F : Fits C φ lv T X) {x : Str} (h : locB0 T x = true) : L2.Loc X.env.scope x ∧ (X.fn x = true ∨ X.env.scope.names.lookup x = some .local) := by
  simp only [locB0, Bool.or_eq_true, Bool.and_eq_true, decide_eq_true_eq] at h
  rw [F.sc]
  rcases h with h | ⟨h1, h2⟩
  · exact ⟨.inl h, .inr h⟩
  · exact ⟨.inr h1, .inl (F.fn x h2)⟩
def trG (re : ∀ T e, TrE T e) (T : TC) : (tg : Expr) → Option { g : GE // ∀ (C : Cfg) (φ : Fn) (lv : Nat) (X : Cx), Fits C φ lv T X → SG C φ X tg g }
  | .Name x p => if h : (decide (T.N[ixOf T x]? = some x) && locB0 T x) = true then some ⟨hN (ixOf T x), fun C φ lv X F => by
      simp only [Bool.and_eq_true, decide_eq_true_eq] at h
      obtain ⟨l1, l2⟩ := locB0_of F h.2
      exact sg_name F.A (F.at_ h.1) l1 l2⟩ else none
  | .Subscript o i p => if hn : noSl i = true then
      match re T o, re T i with
      | some ⟨f, h⟩, some ⟨g, k⟩ => some ⟨hS f g, fun C φ lv X F => sg_sub F.A (h C φ lv X F) (k C φ lv X F) hn⟩
      | _, _ => none
    else none
  | .Attribute o f p => match hl : T.gl.lookup (fldKey f) with
    | some (.fld f' cs) => if hf : f' = f then
        match re T o with
        | some ⟨u, k⟩ => some ⟨hF cs f.cps.toList u, fun C φ lv X F => sg_fld (by rw [← hf]; exact F.gl _ _ hl) (toS_of f).symm (k C φ lv X F)⟩
        | _ => none
      else none
    | _ => none
  | _ => none
def trGs (re : ∀ T e, TrE T e) (T : TC) : (ts : List Expr) → Option { g : GEs // ∀ (C : Cfg) (φ : Fn) (lv : Nat) (X : Cx), Fits C φ lv T X → SGs C φ X ts g }
  | [] => some ⟨hNil, fun C φ lv X F => sgs_nil⟩
  | t :: ts => if hn : noStarT t = true then
      match trG re T t, trGs re T ts with
      | some ⟨g, h⟩, some ⟨gs, k⟩ => some ⟨hCons g gs, fun C φ lv X F => sgs_cons (h C φ lv X F) (k C φ lv X F) hn⟩
      | _, _ => none
    else none
def trAsg (re : ∀ T e, TrE T e) (rb : ∀ T e, TrB T e) (T : TC) (pos : Pos) : (tg e : Expr) → TrS T (.Assign [tg] e pos)
  | .Subscript o i q, e => if hn : noSl i = true then
      match re T e, re T o, re T i with
      | some ⟨f, h⟩, some ⟨g, k⟩, some ⟨u, l⟩ => some ⟨sPut g u f, fun C φ lv X F => ss_put F.A (h C φ lv X F) (k C φ lv X F) (l C φ lv X F) hn (sws_of (by simp [notName]))⟩
      | _, _, _ => none
    else none
  | .Attribute o f q, e => match hl : T.gl.lookup (fldKey f) with
    | some (.fld f' cs) => if hf : f' = f then
        match re T e, re T o with
        | some ⟨g, h⟩, some ⟨u, k⟩ => some ⟨sFld cs f.cps.toList u g, fun C φ lv X F => ss_fld (by rw [← hf]; exact F.gl _ _ hl) (toS_of f).symm (k C φ lv X F) (h C φ lv X F) (sw_noname (by simp [notName]))⟩
        | _, _ => none
      else none
    | _ => none
  | .Name y py, .ListComp elt [⟨tg, iter, ifs, 0⟩] scope p =>
    if hs : lcSw T.sc y py p scope = true then
      if hi : T.N[ixOf T y]? = some y then
        match trLc re rb T elt tg iter ifs scope with
        | some ⟨r, h⟩ => some ⟨sSet (gN (ixOf T y)) (eLc (T.ch p) (r.own.map (·.2)) r.fi r.gt r.fc r.f), fun C φ lv X F => by
            have hs' := hs
            simp only [lcSw, Bool.and_eq_true, decide_eq_true_eq, Bool.not_eq_true'] at hs'
            have hl : X.env.scope.names.lookup y = some .local := by rw [F.sc]; exact hs'.1.1
            exact ss_setLc F.A _ (F.at_ hi) hl (L2.sw_true F.fk hl hs'.1.2 hs'.2) (h C φ lv X F)⟩
        | none => none
      else none
    else match trT T (.Name y py), trLc re rb T elt tg iter ifs scope with
      | some ⟨g, k⟩, some ⟨r, h⟩ => some ⟨sSet g.2 (eLc (T.ch p) (r.own.map (·.2)) r.fi r.gt r.fc r.f), fun C φ lv X F => by
          have hs' : lcSw X.env.scope y py p scope = false := by rw [F.sc]; simpa using hs
          exact ss_set (se_lc F.A _ (h C φ lv X F)) (k C φ lv X F) rfl (lcSw_no (l := pos.line) F.fk hs') (swp_of rfl)⟩
      | _, _ => none
  | .Tuple [.Name x px, .Name y py] kt pt, .Tuple [a, b] k2 pt2 =>
    if h : (decide (T.sc.names.lookup x = some .local) && decide (T.sc.names.lookup y = some .local) && (py.line == px.line) && decide (x ≠ y) && swv [a, b] && decide (T.N[ixOf T x]? = some x) && decide (T.N[ixOf T y]? = some y) && decide (ixOf T x ≠ ixOf T y)) = true then
      match trA re T [a, b] with
      | some ⟨f, l⟩ => some ⟨sSet (gT (gsCons (gN (ixOf T x)) (gsCons (gN (ixOf T y)) gsNil))) (eTup f), fun C φ lv X F => by
          simp only [Bool.and_eq_true, decide_eq_true_eq] at h
          obtain ⟨⟨⟨⟨⟨⟨⟨h1, h2⟩, h3⟩, h4⟩, h5⟩, h6⟩, h7⟩, h8⟩ := h
          rw [← F.sc] at h1 h2
          exact ss_par F.A (F.at_ h6) (F.at_ h7) h8 h1 h2 (l C φ lv X F) (sw_two F.fk h1 h2 h3 h4 h5)⟩
      | none => none
    else if h2 : swNone T.sc [.Name x px, .Name y py] [a, b] = true then
      match trTg T (.Tuple [.Name x px, .Name y py] kt pt), trA re T [a, b] with
      | some ⟨g, k⟩, some ⟨f, l⟩ => some ⟨sSet g.2 (eTup f), fun C φ lv X F => ss_set (se_tup (l C φ lv X F)) (k C φ lv X F) rfl (sws_of rfl) (sw_none F.fk (by rw [F.sc]; exact h2))⟩
      | _, _ => none
    else none
  | .Tuple [.Name x px, .Name y py, .Name z pz] kt pt, .Tuple [a, b, c] k2 pt2 =>
    if h : (decide (T.sc.names.lookup x = some .local) && decide (T.sc.names.lookup y = some .local) && decide (T.sc.names.lookup z = some .local) && (py.line == px.line) && (pz.line == px.line) && decide (x ≠ y) && decide (x ≠ z) && decide (y ≠ z) && swv [a, b, c] &&
        decide (T.N[ixOf T x]? = some x) && decide (T.N[ixOf T y]? = some y) && decide (T.N[ixOf T z]? = some z) && decide (ixOf T x ≠ ixOf T y) && decide (ixOf T x ≠ ixOf T z) && decide (ixOf T y ≠ ixOf T z)) = true then
      match trA re T [a, b, c] with
      | some ⟨f, l⟩ => some ⟨sSet (gT (gsCons (gN (ixOf T x)) (gsCons (gN (ixOf T y)) (gsCons (gN (ixOf T z)) gsNil)))) (eTup f), fun C φ lv X F => by
          simp only [Bool.and_eq_true, decide_eq_true_eq] at h
          obtain ⟨⟨⟨⟨⟨⟨⟨⟨⟨⟨⟨⟨⟨⟨h1, h2⟩, h3⟩, h4⟩, h5⟩, h6⟩, h7⟩, h8⟩, h9⟩, i1⟩, i2⟩, i3⟩, j1⟩, j2⟩, j3⟩ := h
          rw [← F.sc] at h1 h2 h3
          exact ss_par3 F.A (F.at_ i1) (F.at_ i2) (F.at_ i3) j1 j2 j3 h1 h2 h3 (l C φ lv X F) (sw_three F.fk h1 h2 h3 h4 h5 h6 h7 h8 h9)⟩
      | none => none
    else if h2 : swNone T.sc [.Name x px, .Name y py, .Name z pz] [a, b, c] = true then
      match trTg T (.Tuple [.Name x px, .Name y py, .Name z pz] kt pt), trA re T [a, b, c] with
      | some ⟨g, k⟩, some ⟨f, l⟩ => some ⟨sSet g.2 (eTup f), fun C φ lv X F => ss_set (se_tup (l C φ lv X F)) (k C φ lv X F) rfl (sws_of rfl) (sw_none F.fk (by rw [F.sc]; exact h2))⟩
      | _, _ => none
    else none
  | .Tuple ts kt pt, .Tuple vs k2 pt2 =>
    if h2 : swNone T.sc ts vs = true then
      match trTg T (.Tuple ts kt pt), trA re T vs with
      | some ⟨g, k⟩, some ⟨f, l⟩ => some ⟨sSet g.2 (eTup f), fun C φ lv X F => ss_set (se_tup (l C φ lv X F)) (k C φ lv X F) rfl (sws_of (by simp [notName])) (sw_none F.fk (by rw [F.sc]; exact h2))⟩
      | none, some ⟨f, l⟩ => if hp : plainTs ts = true then
          match trGs re T ts with
          | some ⟨g, k⟩ => some ⟨sMul ts.length g f, fun C φ lv X F => ss_mul F.A (l C φ lv X F) (k C φ lv X F) hp (sw_none F.fk (by rw [F.sc]; exact h2))⟩
          | none => none
        else none
      | _, _ => none
    else none
  | tg, e => trSet re T tg e pos
def locB (T : TC) (x : Str) : Bool := decide (T.sc.names.lookup x = some .local) || (decide (T.sc.names.lookup x = some .cell) && T.top x)
theorem locB_of {C : Cfg} {φ : Fn} {lv : Nat} {X : Cx} {T : TC} (F : Fits C φ lv T X) {x : Str} (h : locB T x = true) : L2.Loc X.env.scope x ∧ (X.fn x = true ∨ X.env.scope.names.lookup x = some .local) := by
  simp only [locB, Bool.or_eq_true, Bool.and_eq_true, decide_eq_true_eq] at h
  rw [F.sc]
  rcases h with h | ⟨h1, h2⟩
  · exact ⟨.inl h, .inr h⟩
  · exact ⟨.inr h1, .inl (F.fn x h2)⟩
def stepS (re : ∀ T e, TrE T e) (rb : ∀ T e, TrB T e) (rs : ∀ T st, TrSs T st) (T : TC) : (st : Stmt) → TrS T st
  | .Pass p => some ⟨sNil, fun C φ lv X F => ss_pass⟩
  | .Break p => some ⟨sBrk, fun C φ lv X F => ss_break⟩
  | .Continue p => some ⟨sCnt, fun C φ lv X F => ss_continue⟩
  | .Expr (.Constant (.str x) j q) p => some ⟨sNil, fun C φ lv X F => ss_doc⟩
  | .Expr e p => if hc : notComp e = true then
      match re T e with
      | some ⟨f, h⟩ => some ⟨sExp f, fun C φ lv X F => ss_expr (h C φ lv X F) (sw_nocomp hc)⟩
      | none => none
    else none
  | .Return (some e) p => match re T e with
    | some ⟨f, h⟩ => some ⟨sRet f, fun C φ lv X F => ss_ret (h C φ lv X F)⟩
    | none => none
  | .Return none p => some ⟨sRet (eC .non), fun C φ lv X F => ss_retN⟩
  | .If c sa sb p => match rb T c, rs T sa, rs T sb with
    | some ⟨f, h⟩, some ⟨g, k⟩, some ⟨u, l⟩ => some ⟨sIf f g u, fun C φ lv X F => ss_if (h C φ lv X F) (k C φ lv X F) (l C φ lv X F)⟩
    | _, _, _ => none
  | .For tg it sb [] p => if hs : notSet it = true then
      match trI re T tg it, trTg T tg, rs T sb with
      | some ⟨f, h⟩, some ⟨g, k⟩, some ⟨u, l⟩ => some ⟨sFor f g.2 u, fun C φ lv X F => ss_for F.A F.own (h C φ lv X F) (k C φ lv X F) (l C φ lv X F) (notSet_of hs)⟩
      | _, _, _ => none
    else none
  | .While c sb [] p => match rb T c, rs T sb with
    | some ⟨f, h⟩, some ⟨u, l⟩ => some ⟨sWhile f u, fun C φ lv X F => ss_while F.own (h C φ lv X F) (l C φ lv X F)⟩
    | _, _ => none
  | .Raise (some (.Call (.Name x p) [.Constant (.str m) j p2] [] p3)) none pos =>
    if hg : (glB T.sc x && okN x) = true then
      match hl : T.gl.lookup x with
      | some (.exc c) => some ⟨sRaise c, fun C φ lv X F => by
          simp only [Bool.and_eq_true] at hg
          exact ss_raise F.A (F.gl x _ hl) (F.glo hg.1) (okN_of hg.2).1⟩
      | _ => none
    else none
  | .AugAssign (.Name x q) o e pos =>
    if h3 : (decide (o = .Add) && T.mark pos && decide (T.N[ixOf T x]? = some x) && locB T x) = true then
      match re T e with
      | some ⟨f, l⟩ => some ⟨sAugL (ixOf T x) f, fun C φ lv X F => by
          simp only [Bool.and_eq_true, decide_eq_true_eq] at h3
          obtain ⟨⟨⟨rfl, -⟩, h1⟩, h2⟩ := h3
          obtain ⟨l1, l2⟩ := locB_of F h2
          exact ss_augL F.A (F.at_ h1) l1 l2 (l C φ lv X F)⟩
      | none => none
    else if h : (decide (T.N[ixOf T x]? = some x) && locB T x) = true then
      match ho : augOf o, re T e with
      | some op, some ⟨f, l⟩ => some ⟨sAug (ixOf T x) op f, fun C φ lv X F => by
          simp only [Bool.and_eq_true, decide_eq_true_eq] at h
          obtain ⟨e1, e2⟩ := augOf_of ho
          obtain ⟨l1, l2⟩ := locB_of F h.2
          rw [e1]
          exact ss_aug F.A (F.at_ h.1) l1 l2 e2 (l C φ lv X F)⟩
      | _, _ => none
    else none
  | .AugAssign (.Subscript a i q) o e pos =>
    if hn : noSl i = true then
      match ho : augOf o, re T a, re T i, re T e with
      | some op, some ⟨g, k⟩, some ⟨u, m⟩, some ⟨f, l⟩ => some ⟨sAugI g u op f, fun C φ lv X F => by
          obtain ⟨e1, e2⟩ := augOf_of ho
          rw [e1]
          exact ss_augI F.A (k C φ lv X F) (m C φ lv X F) hn e2 (l C φ lv X F)⟩
      | _, _, _, _ => none
    else none
  | .AugAssign (.Attribute a f q) .Mod e pos => match hl : T.gl.lookup (fldKey f) with
    | some (.fld f' cs) => if hf : f' = f then
        match re T a, re T e with
        | some ⟨g, k⟩, some ⟨u, l⟩ => some ⟨sFldMod cs f.cps.toList g u, fun C φ lv X F => ss_fldMod (by rw [← hf]; exact F.gl _ _ hl) (toS_of f).symm (k C φ lv X F) (l C φ lv X F)⟩
        | _, _ => none
      else none
    | _ => none
  | .AugAssign (.Attribute a f q) o e pos => match hl : T.gl.lookup (fldKey f) with
    | some (.fld f' cs) => if hf : f' = f then
        match ho : augOf o, re T a, re T e with
        | some op, some ⟨g, k⟩, some ⟨u, l⟩ => some ⟨sFldA cs f.cps.toList g op u, fun C φ lv X F => by
            obtain ⟨e1, e2⟩ := augOf_of ho
            rw [e1]
            exact ss_fldA (by rw [← hf]; exact F.gl _ _ hl) (toS_of f).symm e2 (k C φ lv X F) (l C φ lv X F)⟩
        | _, _, _ => none
      else none
    | _ => none
  | .Assign [tg] e pos => trAsg re rb T pos tg e
  | _ => none
/-! ### the list of lambdas -/
theorem Fits.trF {C : Cfg} {φ : Fn} {lv : Nat} {X : Cx} {T : TC} (F : Fits C φ lv T X) {pn : List (Addr × Obj)} : Fits C φ lv T (X.tr pn X.xe) where
  A := ⟨F.A.K, F.A.calm, F.A.nd, F.A.hu⟩
  N := F.N
  sc := F.sc
  kd := F.kd
  own := F.own
  fn := F.fn
  rm := F.rm
  gl := fun x gi h => by
    have z := F.gl x gi h
    cases gi with
    | bltn => exact z
    | fn i => exact z
    | exc c => exact z
    | tell w ret => exact z
    | val v => exact z
    | cls c fi alts => exact z
    | fld f cs => exact z
    | mth m ms => exact z
  lam := fun h => ⟨(F.lam h).ex⟩
  gen := fun h => ⟨(F.gen h).ex⟩
def trLams (re : ∀ T e, TrE T e) (T : TC) : (es : List Expr) → Option { fs : List EF // es.length = fs.length ∧ ∀ (C : Cfg) (φ : Fn) (lv : Nat) (X : Cx), Fits C φ lv T X → LamL C φ X (lv + (T.dp - 2)) es fs }
  | [] => some ⟨[], rfl, fun C φ lv X F => .nil⟩
  | .Lambda params body scope p :: es => match trLam re T params body scope, trLams re T es with
    | some ⟨f, h⟩, some ⟨fs, k⟩ => some ⟨f :: fs, by simp [k.1], fun C φ lv X F => .cons (h C φ lv X F) (k.2 C φ lv X F)⟩
    | _, _ => none
  | _ => none
abbrev TrBC (T : TC) (bad : Str) (e : Expr) := Option { r : Ct × Tx // ∀ (C : Cfg) (φ : Fn) (lv : Nat) (X : Cx), Fits C φ lv T X → PT X e (fun σ H Q => tKnown C φ X (lv + (T.dp - 2)) r.1 r.2 (ixOf T bad) (fun _ H' => Q false H') σ H) }
def trBadCmp (T : TC) (bad : Str) : (e : Expr) → TrBC T bad e
  | .Compare (.ListComp elt [⟨.Name fx pf, .Name bad2 pb2, [.Compare (.Call (.Name x pt) [.Name fx2 pf2] [] pc) [.NotEq] [.Constant (.str xr) jq pq] pc2], 0⟩] scope pos) [.NotEq] [.List [] pl] pcc =>
    if h : (decide (bad2 = bad) && decide (fx2 = fx) && decide (T.N[ixOf T bad]? = some bad) && visB T.sc bad && okN bad && L2.blkC T.N T.sc scope (ownOf T scope) && decide ((ownOf T scope).map (·.2) = [ixOf T fx]) && decide (T.N[ixOf T fx]? = some fx) && okN fx && okN x &&
        decide ((L2.relS scope T.sc).names.lookup fx = some .local) && decide ((L2.relS scope T.sc).names.lookup x = some .globalImplicit) && decide (2 ≤ T.dp)) = true then
      match hl : T.gl.lookup x with
      | some (.tell w ret) => if hr : xr = toS ret then some ⟨(ctOf w, ret), fun C φ lv X F => by
          simp only [Bool.and_eq_true, decide_eq_true_eq] at h
          obtain ⟨⟨⟨⟨⟨⟨⟨⟨⟨⟨⟨⟨rfl, rfl⟩, h3⟩, h4⟩, h5⟩, h6⟩, h7⟩, h8⟩, h9⟩, h10⟩, h11⟩, h12⟩, h13⟩ := h
          have ok : L2.BlkOk X.N X.env.scope scope (ownOf T scope) := by rw [F.N, F.sc]; exact L2.blkOk_by h6
          exact pt_badcmp F.A (pe_bad F.A (F.gl x _ hl) (F.rm.mono (by omega)) (F.at_ h3) (F.vis h4) (okN_of h5).1 (okN_of h5).2 ok h7 (F.at_ h8) (okN_of h9).1 (okN_of h9).2 (okN_of h10).1
            (by rw [F.sc]; exact .inl h11) (by rw [F.sc]; exact .inr h11) (by rw [F.sc]; exact h12) hr)⟩ else none
      | _ => none
    else none
  | _ => none
abbrev TrBT (T : TC) (bad : Str) (e : Expr) := Option { r : (Ct × Tx) × EF // ∀ (C : Cfg) (φ : Fn) (lv : Nat) (X : Cx), Fits C φ lv T X → ∀ N, Takes X (wX C N) → PT X e (fun σ H Q => tKnown C φ X (lv + (T.dp - 2)) r.1.1 r.1.2 (ixOf T bad) (fun σ H' => tB C φ r.2 N σ H' Q) σ H) }
def trBadT (rb : ∀ T e, TrB T e) (T : TC) (bad : Str) : (e : Expr) → TrBT T bad e
  | .BoolOp .Or (cmp :: b :: more) pos => match trBadCmp T bad cmp, trW rb T .Or pos (b :: more) with
    | some ⟨r, h⟩, some ⟨f, k⟩ => some ⟨(r, f), fun C φ lv X F N tk => pt_bad2 (h C φ lv X F) (k C φ lv X F) tk⟩
    | _, _ => none
  | e => match trBadCmp T bad e with
    | some ⟨r, h⟩ => some ⟨(r, eC (.bl false)), fun C φ lv X F N tk => pt_bad1 (h C φ lv X F)⟩
    | none => none
def isLams : List Expr → Bool
  | .Lambda .. :: _ => true
  | _ => false
/-- a loop that is told by its place: what stands behind it looks at no object made before -/
def isCl (T : TC) : Stmt → Bool
  | .For _ _ _ _ p => T.ch p
  | _ => false
def trSs (re : ∀ T e, TrE T e) (rb : ∀ T e, TrB T e) (rs : ∀ T st, TrS T st) (rss : ∀ T st, TrSs T st) (T : TC) : (sts : List Stmt) → TrSs T sts
  | [] => some ⟨sNil, fun C φ lv X F => sss_nil⟩
  | .Assign [.Name bad pb] (.List es pl) ps :: .If test sa sb pi :: rest =>
    if hL : isLams es = true then
      if hz : (decide (es.length ≤ SZ) && decide (T.N[ixOf T bad]? = some bad) && locB T bad && T.lam) = true then
        match trLams re T es, trBadT rb T bad test, rss T sa, rss T sb, trSs re rb rs rss T rest with
        | some ⟨fs, h⟩, some ⟨t, k⟩, some ⟨ba, ka⟩, some ⟨bb, kb⟩, some ⟨br, kr⟩ => some ⟨sBad (ixOf T bad) fs t.1.1 t.1.2 (sSeq (sIf t.2 ba bb) br), fun C φ lv X F => by
            simp only [Bool.and_eq_true, decide_eq_true_eq] at hz
            obtain ⟨⟨⟨h1, h2⟩, h3⟩, h4⟩ := hz
            obtain ⟨l1, l2⟩ := locB_of F h3
            exact sss_bad F.A (F.lam h4) (h.2 C φ lv X F) h1 (F.at_ h2) l1 l2 (sw_nocomp rfl) (fun pn N tk => k C φ lv _ F.trF N tk) (fun pn => ka C φ lv _ F.trF) (fun pn => kb C φ lv _ F.trF) (fun pn => kr C φ lv _ F.trF) (fun _ => h.1)⟩
        | _, _, _, _, _ => none
      else none
    else match rs T (.Assign [.Name bad pb] (.List es pl) ps), trSs re rb rs rss T (.If test sa sb pi :: rest) with
      | some ⟨f, h⟩, some ⟨g, k⟩ => some ⟨sSeq f g, fun C φ lv X F => sss_cons (h C φ lv X F) (k C φ lv X F)⟩
      | _, _ => none
  | st :: rest => match rs T st, trSs re rb rs rss T rest with
    | some ⟨f, h⟩, some ⟨g, k⟩ => if isCl T st = true then some ⟨sSeq f (sCl g), fun C φ lv X F => sss_cons (h C φ lv X F) (sss_cl (k C φ lv X F))⟩ else some ⟨sSeq f g, fun C φ lv X F => sss_cons (h C φ lv X F) (k C φ lv X F)⟩
    | _, _ => none
/-- statements, to a depth -/
def trB_ (n : Nat) : Nat → (∀ T st, TrS T st) × (∀ T st, TrSs T st)
  | 0 => (fun _ _ => none, fun _ _ => none)
  | d + 1 => (fun T st => stepS (tr n).1 (tr n).2 (trB_ n d).2 T st, fun T sts => trSs (tr n).1 (tr n).2 (trB_ n d).1 (trB_ n d).2 T sts)
end TX

/-! TxO: the whole program: every def does what it means; the end -/
set_option Elab.async false
set_option linter.all false
set_option maxRecDepth 100000
set_option maxHeartbeats 1000000
set_option autoImplicit false
namespace TX
open PySem PySem.Spec PyProof.Rows
open L2 (V HO Hp Key upd upd_same upd_ne SqL SqT Rd HOk Cx Inv PE PT PTs PW PS PSs PG PGs PI PA TE TT TA TS TG TGs TI It VK XK WX Takes Ends EP SP TP OpR tOp CallR tCB tCons tNil Sp Room FnOk)
/-- a def within a class -/
def clsStmt (s : Stmt) (j : Nat) : Stmt := match s with
  | .ClassDef _ _ _ body _ _ _ _ _ _ _ => body.getD j (.Pass ⟨0, 0, 0, 0⟩)
  | s => s
/-- a def of the text: its name, where it stands, its names (the parameters first), the displays that change, whether it makes lambdas -/
structure DD where
  x : Str
  st : Stmt
  N : List Str
  ps : List Str
  chg : List (Nat × Nat)
  lam : Bool
  gen : Bool
  q : Str
  cl : Option Nat
def DD.T (d : DD) (G : List (Str × GI)) : TC := ⟨d.N, L2.defScope d.st, fun _ => true, G, d.chg, 3, d.lam, d.gen⟩
def DD.tr (d : DD) (G : List (Str × GI)) : TrSs (d.T G) (L2.defBody d.st) := (trB_ 40 20).2 (d.T G) (L2.defBody d.st)
def DD.def (d : DD) (G : List (Str × GI)) : Option Def := (d.tr G).map fun f => ⟨d.N.length, d.ps.length, f.1⟩
def prog (D : List DD) (G : List (Str × GI)) : Prog := fun i => (D[i]?).bind fun d => d.def G
def lamName (x : Str) : Str := x ++ ".<locals>." ++ "<lambda>"
/-- a def of the text, with or without defaults -/
structure FunD (K : PySem.W.Frag) (x qual : Str) (st : Stmt) (f : Addr) (fd : FuncData) : Prop where
  ex : ∃ (oc : Value) (od : Option Addr) (dV kV doc pm : Value) (an : Option Addr) (cdv ct : Value) (osl : Array (Option Value)),
    fd = PySem.W.fnOf x qual (L2.defArgs st) (L2.defBody st) (L2.defScope st) dV kV doc pm an cdv ct ∧ K.lookup f = some ⟨oc, od, .func fd, osl⟩ ∧ PySem.W.codeIn K cdv qual = true
  kp : PySem.W.keepIn K (.ref f) = true
/-- where a def is found: among the module's names, or in its class -/
def Where (C : Cfg) (K : PySem.W.Frag) (mg : Str → Option Value) (d : DD) (f : Addr) : Prop := match d.cl with
  | none => mg d.x = some (.ref f)
  | some c => L2.Cls K (C.cA c) ∧ L2.Meth K (C.cA c) d.x f
/-- what the world's state says of a def -/
structure DefF (C : Cfg) (K : PySem.W.Frag) (mg : Str → Option Value) (cs : List (Addr × Addr)) (d : DD) : Prop where
  ex : ∃ (f : Addr) (fd : FuncData), FunD K d.x d.q d.st f fd ∧ Where C K mg d f ∧ (L2.Binds K fd d.ps [] ∧ (d.cl = none → ∀ us : List Value, us.length = d.ps.length → bindArgs fd ⟨us, []⟩ = pure (d.ps.zip us))) ∧ (d.lam = true → ∃ c Pt, fd.code = .ref c ∧ (c, Pt) ∈ cs ∧ (Pt, lamName d.q) ∈ C.tl ∧ ∀ p ∈ C.tl, p.1 = Pt → p.2 = lamName d.q) ∧
    (d.gen = true → ∃ c Pt, fd.code = .ref c ∧ (c, Pt) ∈ cs ∧ Pt ∈ C.tg ∧ ∀ p ∈ C.tl, p.1 ≠ Pt)
  sc : C8.scC d.N d.ps (L2.defScope d.st) = true
/-- what it says of a global name -/
def GlF (C : Cfg) (K : PySem.W.Frag) (mg : Str → Option Value) (D : List DD) (x : Str) : GI → Prop
  | .bltn => mg x = none
  | .fn i => ∃ d, D[i]? = some d ∧ d.x = x ∧ d.cl = none
  | .exc c => ExcI C K mg x c
  | .tell w ret => TellI C K mg x (ctOf w) ret
  | .val v => ∃ u cv, mg x = some u ∧ L2.RelV cv u ∧ ∀ g, RelA C g v cv
  | .cls c fi alts => mg x = some (.ref (C.cA c)) ∧ PySem.W.makesIn K (C.cA c) = true ∧ PySem.W.keepIn K (.ref (C.cA c)) = true ∧ ∃ d, D[fi]? = some d ∧ d.x = "__init__" ∧ d.cl = some c ∧
      ∀ n dvs, alts.lookup n = some dvs → ∃ (ds : List Value) (dcs : List V), (∀ f fd, L2.Meth K (C.cA c) "__init__" f → FunD K d.x d.q d.st f fd → L2.Binds K fd d.ps [] → L2.Binds K fd d.ps ds) ∧ L2.Vals dcs ds ∧ ∀ g, RelL C g dvs dcs
  | .fld f cs => ∀ c ∈ cs, ClF C K c f
  | .mth m ms => ∀ p ∈ ms, ∃ d, D[p.2]? = some d ∧ d.x = m ∧ d.cl = some p.1
section
variable {C : Cfg} {P : Program} {w : World} {K : PySem.W.Frag} {mg : Str → Option Value} {base : Heap} {D : List DD} {G : List (Str × GI)} {cs : List (Addr × Addr)}
theorem start_rel {g : Gh} {names : List Str} {xs : List AV} {vs : List V} (r : RelL C g xs vs) : RelS C g (start names.length xs) (L2.start names vs) := by
  have hl := r.len
  refine ⟨by simp [start, L2.start, hl], fun i x h => ?_⟩
  unfold start at h
  unfold L2.start
  by_cases hi : i < xs.length
  · rw [List.getElem?_append_left (by simpa using hi), List.getElem?_map] at h
    cases e : xs[i]? with
    | none => rw [e] at h; cases h
    | some y =>
      rw [e] at h
      cases h
      obtain ⟨u, h1, h2⟩ := r.get e
      exact ⟨u, by rw [List.getElem?_append_left (by simp; omega), List.getElem?_map, h1]; rfl, h2⟩
  · rw [List.getElem?_append_right (by simpa using hi), List.getElem?_replicate] at h
    split at h <;> cases h
theorem gcRet_ok {g : Gh} {h h1 : AH} {H : Hp} {v : AV} {Q : VK} {N : Nat → Hp → Prop} (r : Rep C g h H) (ok : okG C g (gcRet h v h1) (fun x g' _ H' => ∀ u, RelA C g' x u → Q u H') N) :
    okG C g (.ok v h1) (fun x g' _ H' => ∀ u, RelA C g' x u → Q u H') N := by
  intro g' H' e' r' u ru
  unfold gcRet at ok
  split at ok
  · rename_i hz
    simp only [Bool.and_eq_true] at hz
    exact ok _ _ (gc_ext r e') (gc_rep r e' r' _ hz.2) u (ru.cutN hz.1)
  · exact ok g' H' e' r' u ru
theorem gcExc_ok {g : Gh} {h h1 : AH} {H : Hp} {c : Nat} {K : AV → Gh → AH → Hp → Prop} {N : Nat → Hp → Prop} (r : Rep C g h H) (ok : okG C g (gcExc h c h1) K N) : ∀ g' H', Ext g g' → Rep C g' h1 H' → N c H' := by
  intro g' H' e' r'
  unfold gcExc at ok
  split at ok
  · rename_i hz
    exact ok _ _ (gc_ext r e') (gc_rep r e' r' _ hz)
  · exact ok g' H' e' r'
/-- what is known of a def at a level -/
def FnAt (C : Cfg) (P : Program) (w : World) (K : PySem.W.Frag) (mg : Str → Option Value) (base : Heap) (k : Nat) (d : DD) (f : List AV → AH → Out AV) : Prop :=
  ∃ (a : Addr) (fd : FuncData), FnOk P w K mg base (L2.CX P w) k a fd d.ps (spOf C f) ∧ Where C K mg d a ∧ PySem.W.keepIn K (.ref a) = true ∧ L2.Binds K fd d.ps [] ∧ FunD K d.x d.q d.st a fd
theorem gl_ok {n : Nat} {X : Cx} (hx : X.prog = P ∧ X.w = w ∧ X.K = K ∧ X.mg = mg ∧ X.base = base) (ih : ∀ (i : Nat) (d : DD), D[i]? = some d → FnAt C P w K mg base (4 * n) d (pg (prog D G) n 0 i)) {x : Str} {gi : GI} (h : GlF C K mg D x gi) : GOk C (pg (prog D G) n) (4 * n) X x gi := by
  obtain ⟨rfl, rfl, rfl, rfl, rfl⟩ := hx
  cases gi with
  | bltn => exact h
  | fn i =>
    obtain ⟨d, h1, h2, h3⟩ := h
    obtain ⟨a, fd, z1, z2, z3, z4, _⟩ := ih i d h1
    unfold Where at z2
    rw [h3] at z2
    rw [h2] at z2
    exact ⟨a, fd, d.ps, z1, z2, z3, z4⟩
  | exc c => exact h
  | tell w ret => exact h
  | val v => exact h
  | cls c fi alts =>
    obtain ⟨g1, g2, g3, d, h1, h2, h3, h4⟩ := h
    intro m dvs hm
    obtain ⟨ds, dcs, b1, b2, b3⟩ := h4 m dvs hm
    obtain ⟨a, fd, z1, z2, z3, z4, z5⟩ := ih fi d h1
    unfold Where at z2
    rw [h3] at z2
    obtain ⟨y1, y2⟩ := z2
    rw [h2] at y2
    exact ⟨g1, a, fd, d.ps, ds, dcs, z1, ⟨g2, y2.at_, y2.fn, g3⟩, b1 a fd y2 z5 z4, b2, b3⟩
  | fld f cs => exact h
  | mth m ms =>
    intro p hp
    obtain ⟨d, h1, h2, h3⟩ := h p hp
    obtain ⟨a, fd, z1, z2, z3, z4, _⟩ := ih p.2 d h1
    unfold Where at z2
    rw [h3] at z2
    obtain ⟨y1, y2⟩ := z2
    rw [h2] at y2
    exact ⟨y1, a, fd, d.ps, z1, y2, z4⟩
/-- every def, at every level -/
theorem fns (hK : K = C.K) (hD : ∀ (i : Nat) (d : DD), D[i]? = some d → DefF C K mg cs d) (hG : ∀ x gi, G.lookup x = some gi → GlF C K mg D x gi) (TB : ∀ p ∈ cs, LamX.TabB base mg p.1 p.2) :
    ∀ (n i : Nat) (d : DD), D[i]? = some d → FnAt C P w K mg base (4 * n) d (pg (prog D G) n 0 i) := by
  intro n
  induction n with
  | zero =>
    intro i d hi
    obtain ⟨f, fd, F, hm, b, _⟩ := (hD i d hi).ex
    have no : ∀ vs H Q E, ¬ spOf C (pg (prog D G) 0 0 i) vs H Q E := fun vs H Q E ⟨g, h, xs, r, rl, ok⟩ => ok
    exact ⟨f, fd, ⟨fun vs H Q E h => absurd h (no _ _ _ _), fun A outer s H args us vs Q E _ _ _ _ h => absurd h (no _ _ _ _)⟩, hm, F.kp, b.1, F⟩
  | succ n ih =>
    intro i d hi
    have df := hD i d hi
    obtain ⟨f, fd, F, hm, b, hlam, hgen⟩ := df.ex
    refine ⟨f, fd, ?_, hm, F.kp, b.1, F⟩
    show FnOk P w K mg base (L2.CX P w) (4 * n + 3 + 1) f fd d.ps _
    obtain ⟨oc, od, dV, kV, doc, pm, an, cdv, ct, osl, efd, lk, hcd⟩ := F.ex
    have S := C8.fnScope_by df.sc
    -- the promise's shape
    have shape : ∀ vs H Q E, spOf C (pg (prog D G) (n + 1) 0 i) vs H Q E → ∃ f, d.tr G = some f ∧ ∃ g h xs, Rep C g h H ∧ RelL C g xs vs ∧ xs.length = d.ps.length ∧
        okG C g (match f.1 (pg (prog D G) n) (start d.N.length xs) h with
          | .ok (.rt v) h1 => gcRet h v h1
          | .ok (.nx _) h1 => gcRet h .non h1
          | .exc c h1 => gcExc h c h1
          | _ => .stuck) (fun x g' _ H' => ∀ v, RelA C g' x v → Q v H') (fun c H' => ∀ d, E (.ref (C.cA c)) d H') := by
      intro vs H Q E ⟨g, h, xs, r, rl, ok⟩
      have e1 : pg (prog D G) (n + 1) 0 i xs h = match prog D G i with
        | some Dd => runDef Dd (pg (prog D G) n) xs h
        | none => .stuck := rfl
      rw [e1] at ok
      have e2 : prog D G i = d.def G := by unfold prog; rw [hi]; rfl
      rw [e2] at ok
      unfold DD.def at ok
      cases ht : d.tr G with
      | none => rw [ht] at ok; exact ok.elim
      | some f =>
        rw [ht] at ok
        simp only [Option.map_some, runDef] at ok
        split at ok
        · rename_i hl
          exact ⟨f, rfl, g, h, xs, r, rl, hl, ok⟩
        · exact ok.elim
    subst efd
    refine L2.fn_of lk hcd S (fun vs H Q E h => ?_) fun A outer s H vs Q E hr h => ?_
    · obtain ⟨f, _, g, hh, xs, r, rl, hl, _⟩ := shape _ _ _ _ h
      rw [← rl.len, hl]
    · obtain ⟨f0, ht, g, hh, xs, r, rl, hl, ok⟩ := shape _ _ _ _ h
      have FT : Fits C (pg (prog D G) n) (4 * n) (d.T G) (L2.cxOf (L2.CX P w) P w K mg base d.N d.q (L2.defScope d.st) f cdv A outer s H E) := by
        refine ⟨⟨hK, rfl, S.nd, ?_⟩, rfl, rfl, S.kind, L2.passes_of (K := fun e s'' => L2.CX P w outer H s E e s'') rfl, fun _ _ => rfl, hr, fun x gi hx => gl_ok ⟨rfl, rfl, rfl, rfl, rfl⟩ (ih) (hG x gi hx), fun hl => ?_, fun hl => ?_⟩
        · have := hr.un
          show (A.deeper _).units + 65 < cLine
          omega
        · obtain ⟨c, Pt, h1, h2, h3, h4⟩ := hlam hl
          exact ⟨c, Pt, TB _ h2, h1, h3, h4⟩
        · obtain ⟨c, Pt, h1, h2, h3, h4⟩ := hgen hl
          exact ⟨c, Pt, TB _ h2, h1, h3, h4⟩
      refine ⟨_, (f0.2 C (pg (prog D G) n) (4 * n) _ FT).run (fun c H' => ∀ d, E (.ref (C.cA c)) d H') ((L2.takes_of (X := L2.cxOf (L2.CX P w) P w K mg base d.N d.q (L2.defScope d.st) f cdv A outer s H E) (E := E) rfl rfl rfl rfl).imp fun cls d σ H ⟨c, e, q⟩ => by rw [e]; exact q d), ?_⟩
      refine ⟨g, start d.N.length xs, hh, r, start_rel rl, ?_⟩
      cases z : f0.1 (pg (prog D G) n) (start d.N.length xs) hh with
      | stuck => rw [z] at ok; exact ok
      | exc c h1 => rw [z] at ok; exact gcExc_ok r ok
      | ok fl h1 =>
        rw [z] at ok
        cases fl with
        | rt v => exact fun g' H' e' r' u ru => gcRet_ok r ok g' H' e' r' u ru
        | nx s1 => exact fun g' H' e' r' σ' _ => gcRet_ok r ok g' H' e' r' .non (by simp only [RelA])
        | bk s1 => exact ok.elim
        | ct s1 => exact ok.elim
end
/-- the code object of a def of the text -/
theorem tab_code {K : PySem.W.Frag} {x : Str} {f c Pt : Addr} {oc : Value} {od : Option Addr} {fd : FuncData} {osl : Array (Option Value)} (a : PySem.W.nsIn K mainGlobals x = some (some (.ref f))) (l : K.lookup f = some ⟨oc, od, .func fd, osl⟩) (t : PySem.W.tabIn K x = some (c, Pt)) : fd.code = .ref c := by
  unfold PySem.W.tabIn at t
  rw [a] at t
  simp only [l] at t
  split at t
  · rename_i c' hc
    split at t
    · split at t
      · cases t; exact hc
      · cases t
    · cases t
  · cases t
/-- the world ahead of the law -/
structure World0 (C : Cfg) (K : PySem.W.Frag) (mg : Str → Option Value) (h : Heap) (D : List DD) (G : List (Str × GI)) (cs : List (Addr × Addr)) : Prop where
  eK : C.K = K
  def_ : ∀ (i : Nat) (d : DD), D[i]? = some d → DefF C K mg cs d
  gl : ∀ x gi, G.lookup x = some gi → GlF C K mg D x gi
  tab : ∀ p ∈ cs, h.get? p.2 = some { cls := .none, data := .fields #[] } ∧ K.lookup p.2 = none ∧ PySem.W.CodeHd h p.1 p.2
  tl : ∀ p ∈ C.tl, ∃ c, (c, p.1) ∈ cs
  tg : ∀ p ∈ C.tg, ∃ c, (c, p) ∈ cs
theorem rep0 {C : Cfg} {H : Hp} {a : Addr} {ns : List Int} {cs : List (Addr × Addr)} (hl : ∀ p ∈ C.tl, ∃ c, (c, p.1) ∈ cs) (hg : ∀ p ∈ C.tg, ∃ c, (c, p) ∈ cs) (hT : ∀ p ∈ cs, H p.2 = some (.tbl #[])) (hS : SqL C.K H a (ns.map V.int)) :
    ∃ g, Rep C g [] H ∧ RelL C g [.scr (ns.map .int)] [.ref a] := by
  have allI : ∀ (g : Gh) (ns : List Int), RelL C g (ns.map .int) (ns.map V.int) := fun g ns => by
    induction ns with
    | nil => exact .nil
    | cons n r ih => exact .cons .mkI ih
  classical
  let g : Gh := { n := 0, at_ := fun _ => 0, fx := fun b => if b = a then (if ∃ xs, H a = some (.lst xs) ∨ ∃ ob, H a = some (.frz ob (.lst xs)) then H a else none) else none, kx := fun _ => none }
  have tbl : ∀ P, (∃ c, (c, P) ∈ cs) → H P = some (.tbl #[]) := fun P ⟨c, hc⟩ => hT _ hc
  refine ⟨g, ⟨rfl, fun b o e => ?_, fun i j hi => absurd hi (Nat.not_lt_zero _), fun i hi => absurd hi (Nat.not_lt_zero _), fun i o e => by simp [hget] at e, ⟨fun p hp => LamX.TabS.nil (tbl _ (hl p hp)), fun P hP => ⟨#[], tbl _ (hg P hP), True.intro⟩⟩, fun b o e => (nomatch e), fun i hi => absurd hi (Nat.not_lt_zero _)⟩, .cons ?_ .nil⟩
  · have e : (if b = a then (if ∃ xs, H a = some (.lst xs) ∨ ∃ ob, H a = some (.frz ob (.lst xs)) then H a else none) else none) = some o := e
    split at e
    · rename_i hb
      rw [hb]
      split at e
      · rename_i hx
        obtain ⟨xs, h1 | ⟨ob, h1⟩⟩ := hx
        · rw [h1] at e ⊢; cases e; exact ⟨rfl, trivial⟩
        · rw [h1] at e ⊢; cases e; exact ⟨rfl, trivial⟩
      · cases e
    · cases e
  · simp only [RelA]
    refine ⟨a, ns.map V.int, rfl, ?_, allI g ns⟩
    have ga : ∀ hx : ∃ xs, H a = some (.lst xs) ∨ ∃ ob, H a = some (.frz ob (.lst xs)), g.fx a = H a := fun hx => by
      show (if a = a then (if ∃ xs, H a = some (.lst xs) ∨ ∃ ob, H a = some (.frz ob (.lst xs)) then H a else none) else none) = H a
      rw [if_pos rfl, if_pos hx]
    rcases hS with (hS | ⟨ob, hS⟩) | hS
    · exact .inl (.inl ((ga ⟨_, .inl hS⟩).trans hS))
    · exact .inl (.inr ⟨ob, (ga ⟨_, .inr ⟨ob, hS⟩⟩).trans hS⟩)
    · exact .inr hS
/-- THE END -/
theorem walk_tx {l : PySem.W.OpenLaw} {n : Nat} {q : Program} {loose : List Str} {XP : (Str → Option Value) → Heap → Prop} {YP : World → Heap → Prop} {d : DefRec} {K : Params → PySem.W.Frag} {x : Str} (D : List DD) (G : List (Str × GI)) (lv iL : Nat) (dd : DD)
    (hn : l.most = some n) (hn2 : n ≤ sizeLine) (hdf : d.params.defaults = []) (hr : Room (4 * lv) callerA) (hY : ∀ (w : World) (h : Heap), YP w h → (K w.params).In h)
    (hL : D[iL]? = some dd) (hx : dd.x = d.name) (hp : dd.ps = [x])
    (law : ∀ ns : List Int, ns.length ≤ n → (∀ z ∈ ns, Builtin.Int.intBits z ≤ 1048576) → ∃ h, pg (prog D G) lv 0 iL [.scr (ns.map .int)] [] = .ok (.bl true) h)
    (ts : List Addr) (hT : ∀ (w : World) (h : Heap), YP w h → ∀ P ∈ ts, h.get? P = some (PySem.W.tabObj #[])) (hcl : dd.cl = none)
    (F : ∀ (w : World) (mg : Str → Option Value) (h : Heap), YP w h → (K w.params).In h → h.Ns mainGlobals mg → (∀ P ∈ ts, h.get? P = some (PySem.W.tabObj #[])) →
      ∃ C cs, World0 C (K w.params) mg h D G cs) :
    PySem.W.WalkO q loose XP YP l.row.toRowW d [] (fun f vs => PySem.call f vs) := by
  refine Att.attach_callB hn hdf fun w s₀ s₁ mg mb fa o pm cd doc a vs ns Gr Y ho hd hcd hmg hobj hints hlen hbits hg => ?_
  have KX := hY w _ Y
  obtain ⟨C, cs, W⟩ := F w mg _ Y KX Gr.T.g (hT w _ Y)
  obtain ⟨f0, fd, Ff, hm0, hb, _⟩ := (W.def_ iL dd hL).ex
  unfold Where at hm0
  rw [hcl] at hm0
  refine LamX.law_callTs (sp := spOf C (pg (prog D G) lv 0 iL)) (CX := L2.CX l.prog w) (x := x) (fd := fd) (cs := cs) KX Gr.T.g Gr.T.b Gr.T.builtins Gr.T.nolimit hg (fun p hp => (W.tab p hp).1) (fun p hp => (W.tab p hp).2.1) (fun p hp => (W.tab p hp).2.2) Gr.T.bmain hobj hints (Nat.le_trans hlen hn2) hr (fun base hK hNs TB => ?_) (fun s u => ?_) (fun H hH hS => ?_) (fun H e s' hc => ?_)
  · obtain ⟨f, fd2, F2, hm2, _, _, Ff2⟩ := fns (C := C) (P := l.prog) (w := w) (K := K w.params) (mg := mg) (base := base) (cs := cs) W.eK.symm W.def_ W.gl TB lv iL dd hL
    unfold Where at hm2
    rw [hcl] at hm2
    simp only at hm2 hm0
    rw [hx, hmg] at hm2
    cases hm2
    rw [hp] at F2
    rw [hx, hmg] at hm0
    cases hm0
    obtain ⟨oc, od, _, _, _, _, _, _, _, osl, _, lk, _⟩ := Ff.ex
    obtain ⟨oc2, od2, _, _, _, _, _, _, _, osl2, _, lk2, _⟩ := Ff2.ex
    rw [lk] at lk2
    cases lk2
    exact F2
  · have z := hb.2 hcl [u] (by rw [hp]; rfl)
    rw [hp] at z
    exact .of_eq z
  · rw [← W.eK] at hS
    obtain ⟨g, r, rl⟩ := rep0 W.tl W.tg hH hS
    obtain ⟨h, e⟩ := law ns hlen hbits
    refine ⟨g, [], _, r, rl, ?_⟩
    rw [e]
    exact fun g' H' e' r' v rv => rv.bl
  · obtain ⟨_, _, _, _, _, _, _, _, _, _, _, _, z⟩ := hc
    exact z
end TX

/-! TxQ: the facts of a world, collected -/
set_option Elab.async false
set_option linter.all false
set_option maxRecDepth 100000
set_option maxHeartbeats 1000000
set_option autoImplicit false
namespace TX
open PySem PySem.Spec PyProof.Rows
open L2 (V HO Hp Key SqL SqT Rd)
theorem mem_of_lookN {β : Type} {n : Nat} {b : β} : ∀ {l : List (Nat × β)}, l.lookup n = some b → (n, b) ∈ l
  | [], e => nomatch e
  | (m, c) :: l, e => by
    rw [List.lookup_cons] at e
    cases z : n == m with
    | true => rw [z] at e; cases e; rw [beq_iff_eq.mp z]; exact List.mem_cons_self ..
    | false => rw [z] at e; exact List.mem_cons_of_mem _ (mem_of_lookN e)
theorem all_nil {α : Type} {P : α → Prop} : ∀ p ∈ ([] : List α), P p := fun p hp => nomatch hp
theorem all_cons {α : Type} {P : α → Prop} {a : α} {l : List α} (h : P a) (k : ∀ p ∈ l, P p) : ∀ p ∈ a :: l, P p := fun p hp => (List.mem_cons.mp hp).elim (fun e => e ▸ h) (k p)
section
variable {C : Cfg} {K : PySem.W.Frag} {mg : Str → Option Value} {h : Heap} {cs : List (Addr × Addr)} {D : List DD} {G : List (Str × GI)}
/-- the tables of a def -/
structure TbF (C : Cfg) (cs : List (Addr × Addr)) (d : DD) (cd : Value) : Prop where
  l : d.lam = true → ∃ c Pt, cd = .ref c ∧ (c, Pt) ∈ cs ∧ (Pt, lamName d.q) ∈ C.tl ∧ ∀ p ∈ C.tl, p.1 = Pt → p.2 = lamName d.q
  g : d.gen = true → ∃ c Pt, cd = .ref c ∧ (c, Pt) ∈ cs ∧ Pt ∈ C.tg ∧ ∀ p ∈ C.tl, p.1 ≠ Pt
theorem def_mk {d : DD} {f : Addr} {od an : Option Addr} {sl : Array (Option Value)} {oc dV kV dc pm cd ct : Value} (KX : K.In h) (g : h.Ns mainGlobals mg) (hcl : d.cl = none) (a : PySem.W.nsIn K mainGlobals d.x = some (some (.ref f)))
    (l : K.lookup f = some ⟨oc, od, .func (PySem.W.fnOf d.x d.q (L2.defArgs d.st) (L2.defBody d.st) (L2.defScope d.st) dV kV dc pm an cd ct), sl⟩) (c : PySem.W.codeIn K cd d.q = true) (k : PySem.W.keepIn K (.ref f) = true)
    (b : ∀ (kV dc pm : Value) (an : Option Addr) (cd ct : Value) (us : List Value), us.length = d.ps.length → bindArgs (PySem.W.fnOf d.x d.q (L2.defArgs d.st) (L2.defBody d.st) (L2.defScope d.st) dV kV dc pm an cd ct) ⟨us, []⟩ = pure (d.ps.zip us))
    (sc : C8.scC d.N d.ps (L2.defScope d.st) = true) (t : TbF C cs d cd) : DefF C K mg cs d :=
  ⟨⟨f, _, ⟨⟨oc, od, dV, kV, dc, pm, an, cd, ct, sl, rfl, l, c⟩, k⟩, by unfold Where; rw [hcl]; exact PySem.W.mg_of KX g a, ⟨.all (b kV dc pm an cd ct), fun _ => b kV dc pm an cd ct⟩, t.l, t.g⟩, sc⟩
theorem mth_mk {d : DD} {f : Addr} {n : Nat} {od an : Option Addr} {sl : Array (Option Value)} {oc dV kV dc pm cd ct : Value} (hcl : d.cl = some n) (hc : L2.Cls K (C.cA n)) (a : PySem.W.findIn K (.ref (C.cA n)) d.x = some (some (.ref f))) (fn : PySem.W.isFn K (.ref f) = true)
    (l : K.lookup f = some ⟨oc, od, .func (PySem.W.fnOf d.x d.q (L2.defArgs d.st) (L2.defBody d.st) (L2.defScope d.st) dV kV dc pm an cd ct), sl⟩) (c : PySem.W.codeIn K cd d.q = true) (k : PySem.W.keepIn K (.ref f) = true)
    (b : ∀ (kV dc pm : Value) (an : Option Addr) (cd ct : Value) (us : List Value), us.length = d.ps.length → bindArgs (PySem.W.fnOf d.x d.q (L2.defArgs d.st) (L2.defBody d.st) (L2.defScope d.st) dV kV dc pm an cd ct) ⟨us, []⟩ = pure (d.ps.zip us))
    (sc : C8.scC d.N d.ps (L2.defScope d.st) = true) (t : TbF C cs d cd) : DefF C K mg cs d :=
  ⟨⟨f, _, ⟨⟨oc, od, dV, kV, dc, pm, an, cd, ct, sl, rfl, l, c⟩, k⟩, by unfold Where; rw [hcl]; exact ⟨hc, a, fn, k⟩, ⟨.all (b kV dc pm an cd ct), fun _ => b kV dc pm an cd ct⟩, t.l, t.g⟩, sc⟩
theorem binds_dfl {d : DD} {u : Value} {f T : Addr} {o : Obj} {m : Nat} {od an : Option Addr} {sl : Array (Option Value)} {oc kV dc pm cd ct : Value}
    (l : K.lookup f = some ⟨oc, od, .func (PySem.W.fnOf d.x d.q (L2.defArgs d.st) (L2.defBody d.st) (L2.defScope d.st) (.ref T) kV dc pm an cd ct), sl⟩) (lT : K.lookup T = some o) (oT : o.data = .seq #[u] m)
    (hb : ∀ (kV dc pm : Value) (an : Option Addr) (cd ct : Value) (us : List Value) (u : Value), us.length = d.ps.length → ∃ k, bindArgs (PySem.W.fnOf d.x d.q (L2.defArgs d.st) (L2.defBody d.st) (L2.defScope d.st) (.ref T) kV dc pm an cd ct) ⟨us, []⟩ = seqItems? (.ref T) >>= k ∧ k (some #[u]) = pure (d.ps.zip us)) :
    L2.Binds K (PySem.W.fnOf d.x d.q (L2.defArgs d.st) (L2.defBody d.st) (L2.defScope d.st) (.ref T) kV dc pm an cd ct) d.ps [] := by
  intro s us X hlen
  rw [List.append_nil] at hlen ⊢
  obtain ⟨k, e1, e2⟩ := hb kV dc pm an cd ct us u hlen
  refine L2.BindsTo.of_looks fun M => ?_
  rw [e1]
  exact L2.looks_items X lT oT (.of_pure e2)
theorem mthd_mk {d : DD} {f : Addr} {n : Nat} {od an : Option Addr} {sl : Array (Option Value)} {oc dV kV dc pm cd ct : Value} (hcl : d.cl = some n) (hc : L2.Cls K (C.cA n)) (a : PySem.W.findIn K (.ref (C.cA n)) d.x = some (some (.ref f))) (fn : PySem.W.isFn K (.ref f) = true)
    (l : K.lookup f = some ⟨oc, od, .func (PySem.W.fnOf d.x d.q (L2.defArgs d.st) (L2.defBody d.st) (L2.defScope d.st) dV kV dc pm an cd ct), sl⟩) (c : PySem.W.codeIn K cd d.q = true) (k : PySem.W.keepIn K (.ref f) = true)
    (b : L2.Binds K (PySem.W.fnOf d.x d.q (L2.defArgs d.st) (L2.defBody d.st) (L2.defScope d.st) dV kV dc pm an cd ct) d.ps []) (no : d.cl = none → False)
    (sc : C8.scC d.N d.ps (L2.defScope d.st) = true) (t : TbF C cs d cd) : DefF C K mg cs d :=
  ⟨⟨f, _, ⟨⟨oc, od, dV, kV, dc, pm, an, cd, ct, sl, rfl, l, c⟩, k⟩, by unfold Where; rw [hcl]; exact ⟨hc, a, fn, k⟩, ⟨b, fun z => (no z).elim⟩, t.l, t.g⟩, sc⟩
theorem fld_mk {f : Str} {js : List Nat} (k : ∀ c ∈ js, L2.Cls K (C.cA c) ∧ L2.NoAttr K (C.cA c) f) {x : Str} : GlF C K mg D x (.fld f js) := fun c hc => ⟨(k c hc).1, (k c hc).2⟩
theorem mg_mk {m : Str} {ms : List (Nat × Nat)} (k : ∀ p ∈ ms, ∃ d, D[p.2]? = some d ∧ d.x = m ∧ d.cl = some p.1) {x : Str} : GlF C K mg D x (.mth m ms) := k
/-- a class: its __init__ is the def fi; nn what stands ahead of the defaults -/
theorem cls_mk {x : Str} {c fi : Nat} {d : DD} {alts : List (Nat × List AV)} (KX : K.In h) (g : h.Ns mainGlobals mg) (a : PySem.W.nsIn K mainGlobals x = some (some (.ref (C.cA c)))) (m : PySem.W.makesIn K (C.cA c) = true) (k : PySem.W.keepIn K (.ref (C.cA c)) = true)
    (h1 : D[fi]? = some d) (h2 : d.x = "__init__") (h3 : d.cl = some c)
    (h4 : ∀ n dvs, alts.lookup n = some dvs → ∃ (ds : List Value) (dcs : List V), (∀ f fd, L2.Meth K (C.cA c) "__init__" f → FunD K d.x d.q d.st f fd → L2.Binds K fd d.ps [] → L2.Binds K fd d.ps ds) ∧ L2.Vals dcs ds ∧ ∀ g, RelL C g dvs dcs) :
    GlF C K mg D x (.cls c fi alts) := ⟨PySem.W.mg_of KX g a, m, k, d, h1, h2, h3, h4⟩
theorem alts_mk {c : Nat} {d : DD} {alts : List (Nat × List AV)} (k : ∀ p ∈ alts, ∃ (ds : List Value) (dcs : List V), (∀ f fd, L2.Meth K (C.cA c) "__init__" f → FunD K d.x d.q d.st f fd → L2.Binds K fd d.ps [] → L2.Binds K fd d.ps ds) ∧ L2.Vals dcs ds ∧ ∀ g, RelL C g p.2 dcs) :
    ∀ n dvs, alts.lookup n = some dvs → ∃ (ds : List Value) (dcs : List V), (∀ f fd, L2.Meth K (C.cA c) "__init__" f → FunD K d.x d.q d.st f fd → L2.Binds K fd d.ps [] → L2.Binds K fd d.ps ds) ∧ L2.Vals dcs ds ∧ ∀ g, RelL C g dvs dcs := fun n dvs e => k (n, dvs) (mem_of_lookN e)
/-- every argument is given -/
theorem alt_full {c : Nat} {d : DD} : ∃ (ds : List Value) (dcs : List V), (∀ f fd, L2.Meth K (C.cA c) "__init__" f → FunD K d.x d.q d.st f fd → L2.Binds K fd d.ps [] → L2.Binds K fd d.ps ds) ∧ L2.Vals dcs ds ∧ ∀ g, RelL C g [] dcs :=
  ⟨[], [], fun _ _ _ _ b => b, .nil, fun _ => .nil⟩
/-- the last argument is a default: n values are written -/
theorem alt_dfl {c : Nat} {d : DD} {v : AV} {cv : V} {u : Value} {f T : Addr} {o : Obj} {m : Nat} {od an : Option Addr} {sl : Array (Option Value)} {oc kV dc pm cd ct : Value} (a : PySem.W.findIn K (.ref (C.cA c)) "__init__" = some (some (.ref f)))
    (l : K.lookup f = some ⟨oc, od, .func (PySem.W.fnOf d.x d.q (L2.defArgs d.st) (L2.defBody d.st) (L2.defScope d.st) (.ref T) kV dc pm an cd ct), sl⟩) (lT : K.lookup T = some o) (oT : o.data = .seq #[u] m) (ru : L2.RelV cv u) (rv : ∀ g, RelA C g v cv) (n : Nat) (hn : d.ps.length = n + 1)
    (hb : ∀ (kV dc pm : Value) (an : Option Addr) (cd ct : Value) (us : List Value) (u : Value), us.length = n → ∃ k, bindArgs (PySem.W.fnOf d.x d.q (L2.defArgs d.st) (L2.defBody d.st) (L2.defScope d.st) (.ref T) kV dc pm an cd ct) ⟨us, []⟩ = seqItems? (.ref T) >>= k ∧ k (some #[u]) = pure (d.ps.zip (us ++ [u]))) :
    ∃ (ds : List Value) (dcs : List V), (∀ f fd, L2.Meth K (C.cA c) "__init__" f → FunD K d.x d.q d.st f fd → L2.Binds K fd d.ps [] → L2.Binds K fd d.ps ds) ∧ L2.Vals dcs ds ∧ ∀ g, RelL C g [v] dcs := by
  refine ⟨[u], [cv], fun f2 fd M F _ => ?_, .cons ru .nil, fun g => .cons (rv g) .nil⟩
  have e := M.at_
  rw [a] at e
  cases e
  obtain ⟨oc2, od2, dV2, kV2, doc2, pm2, an2, cdv2, ct2, osl2, efd, lk, hcd⟩ := F.ex
  rw [l] at lk
  cases lk
  intro s us X hlen
  have l2 : us.length = n := by simp [hn] at hlen; exact hlen
  obtain ⟨k, e1, e2⟩ := hb kV dc pm an cd ct us u l2
  refine L2.BindsTo.of_looks fun M => ?_
  rw [e1]
  exact L2.looks_items X lT oT (.of_pure e2)
theorem exc_mk {x : Str} {j : Nat} {bmB : List Value} {B newId initId : String} (F : ExcBaseFacts B newId initId bmB) (KX : K.In h) (g : h.Ns mainGlobals mg) (a : PySem.W.nsIn K mainGlobals x = some (some (.ref (C.cA j)))) (q : PySem.W.excIn K (C.cA j) bmB newId = true) (k : PySem.W.keepIn K (.ref (C.cA j)) = true)
    (s : PySem.W.subIn K (.ref (C.cA j)) (.type "BaseException") = some true) (t : PySem.W.typeIn K (.ref (C.cA j)) = some (.type "type")) : ExcI C K mg x j :=
  ⟨⟨bmB, B, newId, initId, F, q⟩, PySem.W.mg_of KX g a, k, s, t⟩
theorem tell_mk {x : Str} {w : List Nat} {ret : Tx} {st : Stmt} {f CS : Addr} {od an : Option Addr} {sl : Array (Option Value)} {oc kV dc pm cd ct : Value} {a e rt : Str} {j : Nat} {p1 p2 p3 p4 p5 p6 p7 p8 : Pos} (KX : K.In h) (g : h.Ns mainGlobals mg) (hf : PySem.W.nsIn K mainGlobals x = some (some (.ref f)))
    (l : K.lookup f = some ⟨oc, od, .func (PySem.W.fnOf x x (L2.defArgs st) (L2.defBody st) (L2.defScope st) .none kV dc pm an cd ct), sl⟩) (c : PySem.W.codeIn K cd x = true) (k : PySem.W.keepIn K (.ref f) = true)
    (hb : L2.defBody st = [.Try [.Return (some (.Call (.Name a p1) [] [] p2)) p3] [.ExceptHandler (some (.Name e p4)) none [.Return (some (.Constant (.str rt) j p5)) p6] p7] [] [] p8])
    (b : ∀ (kV dc pm : Value) (an : Option Addr) (cd ct : Value) (us : List Value), us.length = [a].length → bindArgs (PySem.W.fnOf x x (L2.defArgs st) (L2.defBody st) (L2.defScope st) .none kV dc pm an cd ct) ⟨us, []⟩ = pure ([a].zip us))
    (sc : C8.scC [a] [a] (L2.defScope st) = true) (va : visB (L2.defScope st) a = true) (ve : glB (L2.defScope st) e = true) (hC : PySem.W.nsIn K mainGlobals e = some (some (.ref CS)))
    (n1 : (e == ("__debug__" : Str)) = false) (n2 : (a == ("__debug__" : Str)) = false) (n3 : (a == ("__classdict__" : Str)) = false) (hr : rt = toS ret) (hw : ∀ c ∈ w, PySem.W.exmOne K (.ref (C.cA c)) (.ref CS) = some true) : TellI C K mg x (ctOf w) ret := by
  refine ⟨f, L2.defArgs st, L2.defScope st, .none, kV, dc, pm, cd, ct, oc, an, od, sl, [a], a, e, CS, rt, j, p1, p2, p3, p4, p5, p6, p7, p8, PySem.W.mg_of KX g hf, k, ?_, c, ?_, C8.fnScope_by sc, rfl, visB_of va, glB_of ve, PySem.W.mg_of KX g hC, n1, n2, n3, hr, fun c hc => ?_⟩
  · rw [← hb]; exact l
  · rw [← hb]; exact .all (b kV dc pm an cd ct)
  · unfold ctOf at hc
    split at hc
    · rename_i z; exact hw c z
    · cases hc
theorem tab_mk {x : Str} {f c P : Addr} {od oe : Option Addr} {oc oc2 : Value} {fd : FuncData} {sl sl2 : Array (Option Value)} {vs : Array Value} (a : PySem.W.nsIn K mainGlobals x = some (some (.ref f))) (l : K.lookup f = some ⟨oc, od, .func fd, sl⟩) (e : fd.code = .ref c)
    (lc : K.lookup c = some ⟨oc2, oe, .fields vs, sl2⟩) (hv : (vs[11]? : Option Value) = some (.ref P)) : PySem.W.tabIn K x = some (c, P) := by
  unfold PySem.W.tabIn
  rw [a]
  simp only [l, e, lc, hv]
/-- an error of the class at S is what a clause that names the class at U takes -/
theorem exm_mk {S U : Addr} (h1 : PySem.W.subIn K (.ref S) (.type "BaseException") = some true) (hU : PySem.W.subIn K (.ref U) (.type "BaseException") = some true) (h2 : PySem.W.isClsIn K U = true) (h3 : PySem.W.typeIn K (.ref U) = some (.type "type")) (h4 : PySem.W.subIn K (.ref S) (.ref U) = some true) :
    PySem.W.exmOne K (.ref S) (.ref U) = some true := by
  have e1 : (PySem.W.subIn K (.ref U) (.type "BaseException") == some true) = true := by rw [hU] <;> rfl
  have e2 : ((PySem.W.clsIn K U).isSome && PySem.W.typeIn K (.ref U) == some (.type "type")) = true := by
    have h2' : (PySem.W.clsIn K U).isSome = true := h2
    rw [h2', h3] <;> rfl
  show (if (PySem.W.subIn K (.ref U) (.type "BaseException") == some true) = true then (if ((PySem.W.clsIn K U).isSome && PySem.W.typeIn K (.ref U) == some (.type "type")) = true then PySem.W.subIn K (.ref S) (.ref U) else none) else none) = some true
  rw [if_pos e1, if_pos e2]
  exact h4
/-- a tuple of texts that the top has made -/
theorem val_mk {x : Str} {ts : List Tx} {t : Addr} {o : Obj} {its : Array Value} {n : Nat} (eK : C.K = K) (KX : K.In h) (g : h.Ns mainGlobals mg) (a : PySem.W.nsIn K mainGlobals x = some (some (.ref t))) (l : K.lookup t = some o) (hc : o.cls = .type "tuple") (hd : o.data = .seq its n)
    (hv : L2.Vals (ts.map fun y => V.str (toS y)) its.toList) (hz : its.size ≤ sizeLine) : GlF C K mg D x (.val (.tup (ts.map .str))) := by
  refine ⟨.ref t, .ref t, PySem.W.mg_of KX g a, rfl, fun gh => ?_⟩
  simp only [RelA]
  refine ⟨t, _, rfl, ?_, relL_strs ts⟩
  rw [eK]
  exact .inr ⟨o, its, n, l, hc, hd, hz, hv⟩
theorem val_mki {x : Str} {ts : List Int} {t : Addr} {o : Obj} {its : Array Value} {n : Nat} (eK : C.K = K) (KX : K.In h) (g : h.Ns mainGlobals mg) (a : PySem.W.nsIn K mainGlobals x = some (some (.ref t))) (l : K.lookup t = some o) (hc : o.cls = .type "tuple") (hd : o.data = .seq its n)
    (hv : L2.Vals (ts.map V.int) its.toList) (hz : its.size ≤ sizeLine) : GlF C K mg D x (.val (.tup (ts.map .int))) := by
  refine ⟨.ref t, .ref t, PySem.W.mg_of KX g a, rfl, fun gh => ?_⟩
  simp only [RelA]
  refine ⟨t, _, rfl, ?_, relL_ints ts⟩
  rw [eK]
  exact .inr ⟨o, its, n, l, hc, hd, hz, hv⟩
theorem val_int {x : Str} {i : Int} {t : Tok} (KX : K.In h) (g : h.Ns mainGlobals mg) (a : PySem.W.nsIn K mainGlobals x = some (some (.int i t))) : GlF C K mg D x (.val (.int i)) :=
  ⟨.int i t, .int i, PySem.W.mg_of KX g a, ⟨t, rfl⟩, fun _ => .mkI⟩
theorem val_str {x y : Str} {s : Tx} {t : Tok} (e : toS s = y) (KX : K.In h) (g : h.Ns mainGlobals mg) (a : PySem.W.nsIn K mainGlobals x = some (some (.str y t))) : GlF C K mg D x (.val (.str s)) :=
  ⟨.str y t, .str y, PySem.W.mg_of KX g a, ⟨t, rfl⟩, fun _ => by rw [← e]; exact .mkS⟩
theorem gl_mk (k : ∀ p ∈ G, GlF C K mg D p.1 p.2) : ∀ x gi, G.lookup x = some gi → GlF C K mg D x gi := fun x gi e => k (x, gi) (PySem.mem_of_lookup e)
theorem defs_mk (k : ∀ d ∈ D, DefF C K mg cs d) : ∀ (i : Nat) (d : DD), D[i]? = some d → DefF C K mg cs d := fun i d e => k d (List.mem_of_getElem? e)
theorem blt_mk {x : Str} (KX : K.In h) (g : h.Ns mainGlobals mg) (a : PySem.W.nsIn K mainGlobals x = some none) : GlF C K mg D x .bltn := PySem.W.mg_none_of KX g a
end
theorem def_eq {d : DD} {G : List (Str × GI)} {f : SF} (t : (d.tr G).map (·.1) = some f) : d.def G = some ⟨d.N.length, d.ps.length, f⟩ := by
  unfold DD.def
  cases e : d.tr G with
  | none => rw [e] at t; cases t
  | some r => rw [e] at t; cases t; rfl
theorem prog_eq {D : List DD} {G : List (Str × GI)} {P : Prog} (h : ∀ i, prog D G i = P i) : prog D G = P := funext h
end TX

set_option Elab.async false
set_option linter.all false
set_option maxRecDepth 100000
set_option maxHeartbeats 0
set_option autoImplicit false
namespace K08
open PySem PySem.Spec PyProof.Rows TX
open L2 (V HO Hp Key SqL SqT Rd)
/-! ### the defs of the text -/
def top (i : Nat) : Stmt := PySem.Challenge.pw_taxstack_k08_ledgers_day_by_day.main.body.getD i (.Pass ⟨0, 0, 0, 0⟩)
def d_rounded : TX.DD := ⟨"rounded", top 6, ["top", "bottom", "how", "low", "rest"], ["top", "bottom", "how"], [], false, false, "rounded", none⟩
def d_Ledger___init__ : TX.DD := ⟨"__init__", TX.clsStmt (top 9) 0, ["self", "rate"], ["self", "rate"], [(31, 21), (32, 24)], false, false, "Ledger.__init__", some 3⟩
def d_Ledger_check : TX.DD := ⟨"check", TX.clsStmt (top 9) 1, ["self", "day", "amount"], ["self", "day", "amount"], [], false, false, "Ledger.check", some 3⟩
def d_Ledger_owe : TX.DD := ⟨"owe", TX.clsStmt (top 9) 2, ["self", "day", "amount", "due", "part"], ["self", "day", "amount", "due"], [(47, 26)], false, false, "Ledger.owe", some 3⟩
def d_Ledger_go_to : TX.DD := ⟨"go_to", TX.clsStmt (top 9) 3, ["self", "day", "due", "amount", "left"], ["self", "day"], [], false, true, "Ledger.go_to", some 3⟩
def d_Ledger_pay : TX.DD := ⟨"pay", TX.clsStmt (top 9) 4, ["self", "day", "amount", "part", "left", "rows", "due", "number", "more", "debt"], ["self", "day", "amount"], [(68, 37)], false, true, "Ledger.pay", some 3⟩
def d_Ledger_balance : TX.DD := ⟨"balance", TX.clsStmt (top 9) 5, ["self", "due", "amount", "left"], ["self"], [], false, true, "Ledger.balance", some 3⟩
def d_Ledger_overdue : TX.DD := ⟨"overdue", TX.clsStmt (top 9) 6, ["self", "day", "rows", "number", "due", "amount", "left"], ["self", "day"], [(83, 1073)], false, true, "Ledger.overdue", some 3⟩
def d_Ledger_plan : TX.DD := ⟨"plan", TX.clsStmt (top 9) 7, ["self", "months", "how", "whole", "each", "more", "rows"], ["self", "months", "how"], [], false, false, "Ledger.plan", some 3⟩
def d_Ledger_refund : TX.DD := ⟨"refund", TX.clsStmt (top 9) 8, ["self", "day", "found"], ["self", "day"], [], false, false, "Ledger.refund", some 3⟩
def d_Ledger_statement : TX.DD := ⟨"statement", TX.clsStmt (top 9) 9, ["self", "found", "number", "due", "amount", "left", "day"], ["self"], [(101, 16), (102, 1008)], false, false, "Ledger.statement", some 3⟩
def d_compound : TX.DD := ⟨"compound", top 10, ["amount", "rate", "years", "found", "year"], ["amount", "rate", "years"], [], false, false, "compound", none⟩
def d__law_dice : TX.DD := ⟨"_law_dice", top 12, ["cell"], ["cell"], [(115, 11), (114, 15)], false, false, "_law_dice", none⟩
def d__law_roll : TX.DD := ⟨"_law_roll", top 13, ["dice", "many", "found"], ["dice", "many"], [], false, false, "_law_roll", none⟩
def d__law_rounds : TX.DD := ⟨"_law_rounds", top 14, ["script", "most", "cells", "cell"], ["script", "most"], [], false, false, "_law_rounds", none⟩
def d__law_go : TX.DD := ⟨"_law_go", top 16, ["own", "day", "step", "due", "amount", "left"], ["own", "day"], [], false, false, "_law_go", none⟩
def d__law_pay : TX.DD := ⟨"_law_pay", top 17, ["own", "amount", "rows", "part", "left", "due", "number", "more", "debt"], ["own", "amount"], [], false, false, "_law_pay", none⟩
def d__law_plain : TX.DD := ⟨"_law_plain", top 18, ["ledger", "full", "k", "bad", "still", "f"], [], [], true, false, "_law_plain", none⟩
def d__law_tells : TX.DD := ⟨"_law_tells", top 19, ["dice", "ledger", "own", "today", "late", "lines", "months", "how", "rows", "amount", "rate", "years", "now", "year", "number", "due", "one", "left", "day", "k"], ["dice", "ledger", "own"], [(190, 1011)], true, false, "_law_tells", none⟩
def d_law : TX.DD := ⟨"law", top 20, ["script", "dice", "own", "ledger", "whole", "step", "sort", "day", "amount", "good", "due", "part", "told", "one", "left"], ["script"], [(209, 14), (222, 58), (222, 105), (230, 42), (209, 56), (209, 68), (245, 1015), (208, 4)], true, false, "law", none⟩
def D : List TX.DD := [d_rounded, d_Ledger___init__, d_Ledger_check, d_Ledger_owe, d_Ledger_go_to, d_Ledger_pay, d_Ledger_balance, d_Ledger_overdue, d_Ledger_plan, d_Ledger_refund, d_Ledger_statement, d_compound, d__law_dice, d__law_roll, d__law_rounds, d__law_go, d__law_pay, d__law_plain, d__law_tells, d_law]
def G : List (PySem.Str × TX.GI) := ([("rounded", .fn 0), ("compound", .fn 11), ("_law_dice", .fn 12), ("_law_roll", .fn 13), ("_law_rounds", .fn 14), ("_law_go", .fn 15), ("_law_pay", .fn 16), ("_law_plain", .fn 17), ("_law_tells", .fn 18), ("law", .fn 19), ("TaxError", .exc 0), ("MoneyError", .exc 1), ("LedgerError", .exc 2), ("Ledger", .cls 3 1 [(1, [])]), (".rate", .fld "rate" [3]), (".debts", .fld "debts" [3]), (".payments", .fld "payments" [3]), (".credit", .fld "credit" [3]), (".interest", .fld "interest" [3]), (".day", .fld "day" [3])] : List (PySem.Str × TX.GI)) ++ ([(".rest", .fld "rest" [3]), (":check", .mth "check" [(3, 2)]), (":owe", .mth "owe" [(3, 3)]), (":go_to", .mth "go_to" [(3, 4)]), (":pay", .mth "pay" [(3, 5)]), (":balance", .mth "balance" [(3, 6)]), (":overdue", .mth "overdue" [(3, 7)]), (":plan", .mth "plan" [(3, 8)]), (":refund", .mth "refund" [(3, 9)]), (":statement", .mth "statement" [(3, 10)]), ("_law_told", .tell [2] [76, 101, 100, 103, 101, 114, 69, 114, 114, 111, 114]), ("len", .bltn), ("abs", .bltn), ("int", .bltn), ("str", .bltn), ("sum", .bltn), ("sorted", .bltn), ("list", .bltn), ("tuple", .bltn), ("max", .bltn)] : List (PySem.Str × TX.GI)) ++ ([("min", .bltn), ("range", .bltn), ("enumerate", .bltn), ("any", .bltn), ("zip", .bltn), ("dict", .bltn), ("ROUNDINGS", .val (.tup [.str [100, 111, 119, 110], .str [117, 112], .str [110, 101, 97, 114], .str [101, 118, 101, 110]])), ("MOST_ENTRIES", .val (.int 300))] : List (PySem.Str × TX.GI))
theorem t_rounded : (d_rounded.tr G).map (·.1) = some f_rounded := by kernel_rfl
theorem t_Ledger___init__ : (d_Ledger___init__.tr G).map (·.1) = some f_Ledger___init__ := by kernel_rfl
theorem t_Ledger_check : (d_Ledger_check.tr G).map (·.1) = some f_Ledger_check := by kernel_rfl
theorem t_Ledger_owe : (d_Ledger_owe.tr G).map (·.1) = some f_Ledger_owe := by kernel_rfl
theorem t_Ledger_go_to : (d_Ledger_go_to.tr G).map (·.1) = some f_Ledger_go_to := by kernel_rfl
theorem t_Ledger_pay : (d_Ledger_pay.tr G).map (·.1) = some f_Ledger_pay := by kernel_rfl
theorem t_Ledger_balance : (d_Ledger_balance.tr G).map (·.1) = some f_Ledger_balance := by kernel_rfl
theorem t_Ledger_overdue : (d_Ledger_overdue.tr G).map (·.1) = some f_Ledger_overdue := by kernel_rfl
theorem t_Ledger_plan : (d_Ledger_plan.tr G).map (·.1) = some f_Ledger_plan := by kernel_rfl
theorem t_Ledger_refund : (d_Ledger_refund.tr G).map (·.1) = some f_Ledger_refund := by kernel_rfl
theorem t_Ledger_statement : (d_Ledger_statement.tr G).map (·.1) = some f_Ledger_statement := by kernel_rfl
theorem t_compound : (d_compound.tr G).map (·.1) = some f_compound := by kernel_rfl
theorem t__law_dice : (d__law_dice.tr G).map (·.1) = some f__law_dice := by kernel_rfl
theorem t__law_roll : (d__law_roll.tr G).map (·.1) = some f__law_roll := by kernel_rfl
theorem t__law_rounds : (d__law_rounds.tr G).map (·.1) = some f__law_rounds := by kernel_rfl
theorem t__law_go : (d__law_go.tr G).map (·.1) = some f__law_go := by kernel_rfl
theorem t__law_pay : (d__law_pay.tr G).map (·.1) = some f__law_pay := by kernel_rfl
theorem t__law_plain : (d__law_plain.tr G).map (·.1) = some f__law_plain := by kernel_rfl
theorem t__law_tells : (d__law_tells.tr G).map (·.1) = some f__law_tells := by kernel_rfl
theorem t_law : (d_law.tr G).map (·.1) = some f_law := by kernel_rfl
theorem prog_P : prog D G = P := prog_eq (fun i => by
  match i with
  | 0 => exact def_eq t_rounded
  | 1 => exact def_eq t_Ledger___init__
  | 2 => exact def_eq t_Ledger_check
  | 3 => exact def_eq t_Ledger_owe
  | 4 => exact def_eq t_Ledger_go_to
  | 5 => exact def_eq t_Ledger_pay
  | 6 => exact def_eq t_Ledger_balance
  | 7 => exact def_eq t_Ledger_overdue
  | 8 => exact def_eq t_Ledger_plan
  | 9 => exact def_eq t_Ledger_refund
  | 10 => exact def_eq t_Ledger_statement
  | 11 => exact def_eq t_compound
  | 12 => exact def_eq t__law_dice
  | 13 => exact def_eq t__law_roll
  | 14 => exact def_eq t__law_rounds
  | 15 => exact def_eq t__law_go
  | 16 => exact def_eq t__law_pay
  | 17 => exact def_eq t__law_plain
  | 18 => exact def_eq t__law_tells
  | 19 => exact def_eq t_law
  | n + 20 => rfl)
end K08

set_option Elab.async false
set_option linter.all false
set_option maxRecDepth 100000
set_option maxHeartbeats 0
set_option autoImplicit false
namespace K08
open PySem PySem.Spec PyProof.Rows TX
open L2 (V HO Hp Key SqL SqT Rd)
/-! ### the world -/
theorem world_mk {K : PySem.W.Frag} {mg : Str → Option Value} {h : Heap}
    {A0 : Addr}
    {A1 : Addr}
    {A2 : Addr}
    {A3 : Addr}
    {f0 : Addr} {od0 an0 : Option Addr} {sl0 : Array (Option Value)} {oc0 kV0 dc0 pm0 cd0 ct0 : Value}
    {f1 : Addr} {od1 an1 : Option Addr} {sl1 : Array (Option Value)} {oc1 kV1 dc1 pm1 cd1 ct1 : Value}
    {f2 : Addr} {od2 an2 : Option Addr} {sl2 : Array (Option Value)} {oc2 kV2 dc2 pm2 cd2 ct2 : Value}
    {f3 : Addr} {od3 an3 : Option Addr} {sl3 : Array (Option Value)} {oc3 kV3 dc3 pm3 cd3 ct3 : Value}
    {f4 : Addr} {od4 an4 : Option Addr} {sl4 : Array (Option Value)} {oc4 kV4 dc4 pm4 cd4 ct4 : Value}
    {f5 : Addr} {od5 an5 : Option Addr} {sl5 : Array (Option Value)} {oc5 kV5 dc5 pm5 cd5 ct5 : Value}
    {f6 : Addr} {od6 an6 : Option Addr} {sl6 : Array (Option Value)} {oc6 kV6 dc6 pm6 cd6 ct6 : Value}
    {f7 : Addr} {od7 an7 : Option Addr} {sl7 : Array (Option Value)} {oc7 kV7 dc7 pm7 cd7 ct7 : Value}
    {f8 : Addr} {od8 an8 : Option Addr} {sl8 : Array (Option Value)} {oc8 kV8 dc8 pm8 cd8 ct8 : Value}
    {f9 : Addr} {od9 an9 : Option Addr} {sl9 : Array (Option Value)} {oc9 kV9 dc9 pm9 cd9 ct9 : Value}
    {f10 : Addr} {od10 an10 : Option Addr} {sl10 : Array (Option Value)} {oc10 kV10 dc10 pm10 cd10 ct10 : Value}
    {f11 : Addr} {od11 an11 : Option Addr} {sl11 : Array (Option Value)} {oc11 kV11 dc11 pm11 cd11 ct11 : Value}
    {f12 : Addr} {od12 an12 : Option Addr} {sl12 : Array (Option Value)} {oc12 kV12 dc12 pm12 cd12 ct12 : Value}
    {f13 : Addr} {od13 an13 : Option Addr} {sl13 : Array (Option Value)} {oc13 kV13 dc13 pm13 cd13 ct13 : Value}
    {f14 : Addr} {od14 an14 : Option Addr} {sl14 : Array (Option Value)} {oc14 kV14 dc14 pm14 cd14 ct14 : Value}
    {f15 : Addr} {od15 an15 : Option Addr} {sl15 : Array (Option Value)} {oc15 kV15 dc15 pm15 cd15 ct15 : Value}
    {f16 : Addr} {od16 an16 : Option Addr} {sl16 : Array (Option Value)} {oc16 kV16 dc16 pm16 cd16 ct16 : Value}
    {f17 : Addr} {od17 an17 : Option Addr} {sl17 : Array (Option Value)} {oc17 kV17 dc17 pm17 cd17 ct17 : Value}
    {f18 : Addr} {od18 an18 : Option Addr} {sl18 : Array (Option Value)} {oc18 kV18 dc18 pm18 cd18 ct18 : Value}
    {f19 : Addr} {od19 an19 : Option Addr} {sl19 : Array (Option Value)} {oc19 kV19 dc19 pm19 cd19 ct19 : Value}
    {e4 P4 : Addr}
    {oc2_4 : Value} {oe4 : Option Addr} {vs4 : Array Value} {sl2_4 : Array (Option Value)}
    {e5 P5 : Addr}
    {oc2_5 : Value} {oe5 : Option Addr} {vs5 : Array Value} {sl2_5 : Array (Option Value)}
    {e6 P6 : Addr}
    {oc2_6 : Value} {oe6 : Option Addr} {vs6 : Array Value} {sl2_6 : Array (Option Value)}
    {e7 P7 : Addr}
    {oc2_7 : Value} {oe7 : Option Addr} {vs7 : Array Value} {sl2_7 : Array (Option Value)}
    {e17 P17 : Addr}
    {oc2_17 : Value} {oe17 : Option Addr} {vs17 : Array Value} {sl2_17 : Array (Option Value)}
    {e18 P18 : Addr}
    {oc2_18 : Value} {oe18 : Option Addr} {vs18 : Array Value} {sl2_18 : Array (Option Value)}
    {e19 P19 : Addr}
    {oc2_19 : Value} {oe19 : Option Addr} {vs19 : Array Value} {sl2_19 : Array (Option Value)}
    {f99 : Addr} {od99 an99 : Option Addr} {sl99 : Array (Option Value)} {oc99 kV99 dc99 pm99 cd99 ct99 : Value}
    {vt0 : Addr} {vo0 : Obj} {vi0 : Array Value} {vn0 : Nat}
    {vt1 : Tok}
    {ts : List Addr} (KX : K.In h) (g : h.Ns mainGlobals mg) (tb : ∀ P ∈ ts, h.get? P = some (PySem.W.tabObj #[]))
    (xa0 : PySem.W.nsIn K mainGlobals "TaxError" = some (some (.ref A0)))
    (xq0 : PySem.W.excIn K A0 [.type "ValueError", .type "Exception", .type "BaseException", .type "object"] "ValueError.__new__" = true)
    (xk0 : PySem.W.keepIn K (.ref A0) = true)
    (xs0 : PySem.W.subIn K (.ref A0) (.type "BaseException") = some true)
    (xt0 : PySem.W.typeIn K (.ref A0) = some (.type "type"))
    (xa1 : PySem.W.nsIn K mainGlobals "MoneyError" = some (some (.ref A1)))
    (xq1 : PySem.W.excIn K A1 [.type "ValueError", .type "Exception", .type "BaseException", .type "object"] "ValueError.__new__" = true)
    (xk1 : PySem.W.keepIn K (.ref A1) = true)
    (xs1 : PySem.W.subIn K (.ref A1) (.type "BaseException") = some true)
    (xt1 : PySem.W.typeIn K (.ref A1) = some (.type "type"))
    (xa2 : PySem.W.nsIn K mainGlobals "LedgerError" = some (some (.ref A2)))
    (xq2 : PySem.W.excIn K A2 [.type "ValueError", .type "Exception", .type "BaseException", .type "object"] "ValueError.__new__" = true)
    (xk2 : PySem.W.keepIn K (.ref A2) = true)
    (xs2 : PySem.W.subIn K (.ref A2) (.type "BaseException") = some true)
    (xt2 : PySem.W.typeIn K (.ref A2) = some (.type "type"))
    (xa3 : PySem.W.nsIn K mainGlobals "Ledger" = some (some (.ref A3)))
    (xm3 : PySem.W.makesIn K A3 = true)
    (xk3 : PySem.W.keepIn K (.ref A3) = true)
    (xp3 : PySem.W.plainGet K A3 Str.empty = true)
    (xh3 : PySem.W.hasDictIn K A3 = true)
    (xo3 : PySem.W.plainOver K A3 = true)
    (xs3 : PySem.W.findIn K (.ref A3) "__setattr__" = some (some (.builtin "object.__setattr__")))
    (nf0_3 : PySem.W.findIn K (.ref A3) "rate" = some none)
    (nf1_3 : PySem.W.findIn K (.ref A3) "debts" = some none)
    (nf2_3 : PySem.W.findIn K (.ref A3) "payments" = some none)
    (nf3_3 : PySem.W.findIn K (.ref A3) "credit" = some none)
    (nf4_3 : PySem.W.findIn K (.ref A3) "interest" = some none)
    (nf5_3 : PySem.W.findIn K (.ref A3) "day" = some none)
    (nf6_3 : PySem.W.findIn K (.ref A3) "rest" = some none)
    (a0 : PySem.W.nsIn K mainGlobals d_rounded.x = some (some (.ref f0)))
    (l0 : K.lookup f0 = some ⟨oc0, od0, .func (PySem.W.fnOf d_rounded.x d_rounded.q (L2.defArgs d_rounded.st) (L2.defBody d_rounded.st) (L2.defScope d_rounded.st) .none kV0 dc0 pm0 an0 cd0 ct0), sl0⟩)
    (c0 : PySem.W.codeIn K cd0 d_rounded.q = true)
    (k0 : PySem.W.keepIn K (.ref f0) = true)
    (a1 : PySem.W.findIn K (.ref A3) d_Ledger___init__.x = some (some (.ref f1)))
    (fn1 : PySem.W.isFn K (.ref f1) = true)
    (l1 : K.lookup f1 = some ⟨oc1, od1, .func (PySem.W.fnOf d_Ledger___init__.x d_Ledger___init__.q (L2.defArgs d_Ledger___init__.st) (L2.defBody d_Ledger___init__.st) (L2.defScope d_Ledger___init__.st) .none kV1 dc1 pm1 an1 cd1 ct1), sl1⟩)
    (c1 : PySem.W.codeIn K cd1 d_Ledger___init__.q = true)
    (k1 : PySem.W.keepIn K (.ref f1) = true)
    (a2 : PySem.W.findIn K (.ref A3) d_Ledger_check.x = some (some (.ref f2)))
    (fn2 : PySem.W.isFn K (.ref f2) = true)
    (l2 : K.lookup f2 = some ⟨oc2, od2, .func (PySem.W.fnOf d_Ledger_check.x d_Ledger_check.q (L2.defArgs d_Ledger_check.st) (L2.defBody d_Ledger_check.st) (L2.defScope d_Ledger_check.st) .none kV2 dc2 pm2 an2 cd2 ct2), sl2⟩)
    (c2 : PySem.W.codeIn K cd2 d_Ledger_check.q = true)
    (k2 : PySem.W.keepIn K (.ref f2) = true)
    (a3 : PySem.W.findIn K (.ref A3) d_Ledger_owe.x = some (some (.ref f3)))
    (fn3 : PySem.W.isFn K (.ref f3) = true)
    (l3 : K.lookup f3 = some ⟨oc3, od3, .func (PySem.W.fnOf d_Ledger_owe.x d_Ledger_owe.q (L2.defArgs d_Ledger_owe.st) (L2.defBody d_Ledger_owe.st) (L2.defScope d_Ledger_owe.st) .none kV3 dc3 pm3 an3 cd3 ct3), sl3⟩)
    (c3 : PySem.W.codeIn K cd3 d_Ledger_owe.q = true)
    (k3 : PySem.W.keepIn K (.ref f3) = true)
    (a4 : PySem.W.findIn K (.ref A3) d_Ledger_go_to.x = some (some (.ref f4)))
    (fn4 : PySem.W.isFn K (.ref f4) = true)
    (l4 : K.lookup f4 = some ⟨oc4, od4, .func (PySem.W.fnOf d_Ledger_go_to.x d_Ledger_go_to.q (L2.defArgs d_Ledger_go_to.st) (L2.defBody d_Ledger_go_to.st) (L2.defScope d_Ledger_go_to.st) .none kV4 dc4 pm4 an4 cd4 ct4), sl4⟩)
    (c4 : PySem.W.codeIn K cd4 d_Ledger_go_to.q = true)
    (k4 : PySem.W.keepIn K (.ref f4) = true)
    (a5 : PySem.W.findIn K (.ref A3) d_Ledger_pay.x = some (some (.ref f5)))
    (fn5 : PySem.W.isFn K (.ref f5) = true)
    (l5 : K.lookup f5 = some ⟨oc5, od5, .func (PySem.W.fnOf d_Ledger_pay.x d_Ledger_pay.q (L2.defArgs d_Ledger_pay.st) (L2.defBody d_Ledger_pay.st) (L2.defScope d_Ledger_pay.st) .none kV5 dc5 pm5 an5 cd5 ct5), sl5⟩)
    (c5 : PySem.W.codeIn K cd5 d_Ledger_pay.q = true)
    (k5 : PySem.W.keepIn K (.ref f5) = true)
    (a6 : PySem.W.findIn K (.ref A3) d_Ledger_balance.x = some (some (.ref f6)))
    (fn6 : PySem.W.isFn K (.ref f6) = true)
    (l6 : K.lookup f6 = some ⟨oc6, od6, .func (PySem.W.fnOf d_Ledger_balance.x d_Ledger_balance.q (L2.defArgs d_Ledger_balance.st) (L2.defBody d_Ledger_balance.st) (L2.defScope d_Ledger_balance.st) .none kV6 dc6 pm6 an6 cd6 ct6), sl6⟩)
    (c6 : PySem.W.codeIn K cd6 d_Ledger_balance.q = true)
    (k6 : PySem.W.keepIn K (.ref f6) = true)
    (a7 : PySem.W.findIn K (.ref A3) d_Ledger_overdue.x = some (some (.ref f7)))
    (fn7 : PySem.W.isFn K (.ref f7) = true)
    (l7 : K.lookup f7 = some ⟨oc7, od7, .func (PySem.W.fnOf d_Ledger_overdue.x d_Ledger_overdue.q (L2.defArgs d_Ledger_overdue.st) (L2.defBody d_Ledger_overdue.st) (L2.defScope d_Ledger_overdue.st) .none kV7 dc7 pm7 an7 cd7 ct7), sl7⟩)
    (c7 : PySem.W.codeIn K cd7 d_Ledger_overdue.q = true)
    (k7 : PySem.W.keepIn K (.ref f7) = true)
    (a8 : PySem.W.findIn K (.ref A3) d_Ledger_plan.x = some (some (.ref f8)))
    (fn8 : PySem.W.isFn K (.ref f8) = true)
    (l8 : K.lookup f8 = some ⟨oc8, od8, .func (PySem.W.fnOf d_Ledger_plan.x d_Ledger_plan.q (L2.defArgs d_Ledger_plan.st) (L2.defBody d_Ledger_plan.st) (L2.defScope d_Ledger_plan.st) .none kV8 dc8 pm8 an8 cd8 ct8), sl8⟩)
    (c8 : PySem.W.codeIn K cd8 d_Ledger_plan.q = true)
    (k8 : PySem.W.keepIn K (.ref f8) = true)
    (a9 : PySem.W.findIn K (.ref A3) d_Ledger_refund.x = some (some (.ref f9)))
    (fn9 : PySem.W.isFn K (.ref f9) = true)
    (l9 : K.lookup f9 = some ⟨oc9, od9, .func (PySem.W.fnOf d_Ledger_refund.x d_Ledger_refund.q (L2.defArgs d_Ledger_refund.st) (L2.defBody d_Ledger_refund.st) (L2.defScope d_Ledger_refund.st) .none kV9 dc9 pm9 an9 cd9 ct9), sl9⟩)
    (c9 : PySem.W.codeIn K cd9 d_Ledger_refund.q = true)
    (k9 : PySem.W.keepIn K (.ref f9) = true)
    (a10 : PySem.W.findIn K (.ref A3) d_Ledger_statement.x = some (some (.ref f10)))
    (fn10 : PySem.W.isFn K (.ref f10) = true)
    (l10 : K.lookup f10 = some ⟨oc10, od10, .func (PySem.W.fnOf d_Ledger_statement.x d_Ledger_statement.q (L2.defArgs d_Ledger_statement.st) (L2.defBody d_Ledger_statement.st) (L2.defScope d_Ledger_statement.st) .none kV10 dc10 pm10 an10 cd10 ct10), sl10⟩)
    (c10 : PySem.W.codeIn K cd10 d_Ledger_statement.q = true)
    (k10 : PySem.W.keepIn K (.ref f10) = true)
    (a11 : PySem.W.nsIn K mainGlobals d_compound.x = some (some (.ref f11)))
    (l11 : K.lookup f11 = some ⟨oc11, od11, .func (PySem.W.fnOf d_compound.x d_compound.q (L2.defArgs d_compound.st) (L2.defBody d_compound.st) (L2.defScope d_compound.st) .none kV11 dc11 pm11 an11 cd11 ct11), sl11⟩)
    (c11 : PySem.W.codeIn K cd11 d_compound.q = true)
    (k11 : PySem.W.keepIn K (.ref f11) = true)
    (a12 : PySem.W.nsIn K mainGlobals d__law_dice.x = some (some (.ref f12)))
    (l12 : K.lookup f12 = some ⟨oc12, od12, .func (PySem.W.fnOf d__law_dice.x d__law_dice.q (L2.defArgs d__law_dice.st) (L2.defBody d__law_dice.st) (L2.defScope d__law_dice.st) .none kV12 dc12 pm12 an12 cd12 ct12), sl12⟩)
    (c12 : PySem.W.codeIn K cd12 d__law_dice.q = true)
    (k12 : PySem.W.keepIn K (.ref f12) = true)
    (a13 : PySem.W.nsIn K mainGlobals d__law_roll.x = some (some (.ref f13)))
    (l13 : K.lookup f13 = some ⟨oc13, od13, .func (PySem.W.fnOf d__law_roll.x d__law_roll.q (L2.defArgs d__law_roll.st) (L2.defBody d__law_roll.st) (L2.defScope d__law_roll.st) .none kV13 dc13 pm13 an13 cd13 ct13), sl13⟩)
    (c13 : PySem.W.codeIn K cd13 d__law_roll.q = true)
    (k13 : PySem.W.keepIn K (.ref f13) = true)
    (a14 : PySem.W.nsIn K mainGlobals d__law_rounds.x = some (some (.ref f14)))
    (l14 : K.lookup f14 = some ⟨oc14, od14, .func (PySem.W.fnOf d__law_rounds.x d__law_rounds.q (L2.defArgs d__law_rounds.st) (L2.defBody d__law_rounds.st) (L2.defScope d__law_rounds.st) .none kV14 dc14 pm14 an14 cd14 ct14), sl14⟩)
    (c14 : PySem.W.codeIn K cd14 d__law_rounds.q = true)
    (k14 : PySem.W.keepIn K (.ref f14) = true)
    (a15 : PySem.W.nsIn K mainGlobals d__law_go.x = some (some (.ref f15)))
    (l15 : K.lookup f15 = some ⟨oc15, od15, .func (PySem.W.fnOf d__law_go.x d__law_go.q (L2.defArgs d__law_go.st) (L2.defBody d__law_go.st) (L2.defScope d__law_go.st) .none kV15 dc15 pm15 an15 cd15 ct15), sl15⟩)
    (c15 : PySem.W.codeIn K cd15 d__law_go.q = true)
    (k15 : PySem.W.keepIn K (.ref f15) = true)
    (a16 : PySem.W.nsIn K mainGlobals d__law_pay.x = some (some (.ref f16)))
    (l16 : K.lookup f16 = some ⟨oc16, od16, .func (PySem.W.fnOf d__law_pay.x d__law_pay.q (L2.defArgs d__law_pay.st) (L2.defBody d__law_pay.st) (L2.defScope d__law_pay.st) .none kV16 dc16 pm16 an16 cd16 ct16), sl16⟩)
    (c16 : PySem.W.codeIn K cd16 d__law_pay.q = true)
    (k16 : PySem.W.keepIn K (.ref f16) = true)
    (a17 : PySem.W.nsIn K mainGlobals d__law_plain.x = some (some (.ref f17)))
    (l17 : K.lookup f17 = some ⟨oc17, od17, .func (PySem.W.fnOf d__law_plain.x d__law_plain.q (L2.defArgs d__law_plain.st) (L2.defBody d__law_plain.st) (L2.defScope d__law_plain.st) .none kV17 dc17 pm17 an17 cd17 ct17), sl17⟩)
    (c17 : PySem.W.codeIn K cd17 d__law_plain.q = true)
    (k17 : PySem.W.keepIn K (.ref f17) = true)
    (a18 : PySem.W.nsIn K mainGlobals d__law_tells.x = some (some (.ref f18)))
    (l18 : K.lookup f18 = some ⟨oc18, od18, .func (PySem.W.fnOf d__law_tells.x d__law_tells.q (L2.defArgs d__law_tells.st) (L2.defBody d__law_tells.st) (L2.defScope d__law_tells.st) .none kV18 dc18 pm18 an18 cd18 ct18), sl18⟩)
    (c18 : PySem.W.codeIn K cd18 d__law_tells.q = true)
    (k18 : PySem.W.keepIn K (.ref f18) = true)
    (a19 : PySem.W.nsIn K mainGlobals d_law.x = some (some (.ref f19)))
    (l19 : K.lookup f19 = some ⟨oc19, od19, .func (PySem.W.fnOf d_law.x d_law.q (L2.defArgs d_law.st) (L2.defBody d_law.st) (L2.defScope d_law.st) .none kV19 dc19 pm19 an19 cd19 ct19), sl19⟩)
    (c19 : PySem.W.codeIn K cd19 d_law.q = true)
    (k19 : PySem.W.keepIn K (.ref f19) = true)
    (tc4 : cd4 = .ref e4)
    (tl4 : K.lookup e4 = some ⟨oc2_4, oe4, .fields vs4, sl2_4⟩)
    (tv4 : (vs4[11]? : Option Value) = some (.ref P4))
    (th4 : PySem.W.codeHdIn K e4 P4 = true)
    (ts4 : P4 ∈ ts)
    (n4 : K.lookup P4 = none)
    (tc5 : cd5 = .ref e5)
    (tl5 : K.lookup e5 = some ⟨oc2_5, oe5, .fields vs5, sl2_5⟩)
    (tv5 : (vs5[11]? : Option Value) = some (.ref P5))
    (th5 : PySem.W.codeHdIn K e5 P5 = true)
    (ts5 : P5 ∈ ts)
    (n5 : K.lookup P5 = none)
    (tc6 : cd6 = .ref e6)
    (tl6 : K.lookup e6 = some ⟨oc2_6, oe6, .fields vs6, sl2_6⟩)
    (tv6 : (vs6[11]? : Option Value) = some (.ref P6))
    (th6 : PySem.W.codeHdIn K e6 P6 = true)
    (ts6 : P6 ∈ ts)
    (n6 : K.lookup P6 = none)
    (tc7 : cd7 = .ref e7)
    (tl7 : K.lookup e7 = some ⟨oc2_7, oe7, .fields vs7, sl2_7⟩)
    (tv7 : (vs7[11]? : Option Value) = some (.ref P7))
    (th7 : PySem.W.codeHdIn K e7 P7 = true)
    (ts7 : P7 ∈ ts)
    (n7 : K.lookup P7 = none)
    (tc17 : cd17 = .ref e17)
    (tl17 : K.lookup e17 = some ⟨oc2_17, oe17, .fields vs17, sl2_17⟩)
    (tv17 : (vs17[11]? : Option Value) = some (.ref P17))
    (th17 : PySem.W.codeHdIn K e17 P17 = true)
    (ts17 : P17 ∈ ts)
    (n17 : K.lookup P17 = none)
    (tc18 : cd18 = .ref e18)
    (tl18 : K.lookup e18 = some ⟨oc2_18, oe18, .fields vs18, sl2_18⟩)
    (tv18 : (vs18[11]? : Option Value) = some (.ref P18))
    (th18 : PySem.W.codeHdIn K e18 P18 = true)
    (ts18 : P18 ∈ ts)
    (n18 : K.lookup P18 = none)
    (tc19 : cd19 = .ref e19)
    (tl19 : K.lookup e19 = some ⟨oc2_19, oe19, .fields vs19, sl2_19⟩)
    (tv19 : (vs19[11]? : Option Value) = some (.ref P19))
    (th19 : PySem.W.codeHdIn K e19 P19 = true)
    (ts19 : P19 ∈ ts)
    (n19 : K.lookup P19 = none)
    (ne4_17 : P17 ≠ P4)
    (ne4_18 : P18 ≠ P4)
    (ne4_19 : P19 ≠ P4)
    (ne5_17 : P17 ≠ P5)
    (ne5_18 : P18 ≠ P5)
    (ne5_19 : P19 ≠ P5)
    (ne6_17 : P17 ≠ P6)
    (ne6_18 : P18 ≠ P6)
    (ne6_19 : P19 ≠ P6)
    (ne7_17 : P17 ≠ P7)
    (ne7_18 : P18 ≠ P7)
    (ne7_19 : P19 ≠ P7)
    (ne17_18 : P18 ≠ P17)
    (ne17_19 : P19 ≠ P17)
    (ne18_17 : P17 ≠ P18)
    (ne18_19 : P19 ≠ P18)
    (ne19_17 : P17 ≠ P19)
    (ne19_18 : P18 ≠ P19)
    (a99 : PySem.W.nsIn K mainGlobals "_law_told" = some (some (.ref f99)))
    (l99 : K.lookup f99 = some ⟨oc99, od99, .func (PySem.W.fnOf "_law_told" "_law_told" (L2.defArgs (top 15)) (L2.defBody (top 15)) (L2.defScope (top 15)) .none kV99 dc99 pm99 an99 cd99 ct99), sl99⟩)
    (c99 : PySem.W.codeIn K cd99 "_law_told" = true)
    (k99 : PySem.W.keepIn K (.ref f99) = true)
    (ti : PySem.W.isClsIn K A2 = true)
    (te2 : PySem.W.subIn K (.ref A2) (.ref A2) = some true)
    (b0 : PySem.W.nsIn K mainGlobals "len" = some none)
    (b1 : PySem.W.nsIn K mainGlobals "abs" = some none)
    (b2 : PySem.W.nsIn K mainGlobals "int" = some none)
    (b3 : PySem.W.nsIn K mainGlobals "str" = some none)
    (b4 : PySem.W.nsIn K mainGlobals "sum" = some none)
    (b5 : PySem.W.nsIn K mainGlobals "sorted" = some none)
    (b6 : PySem.W.nsIn K mainGlobals "list" = some none)
    (b7 : PySem.W.nsIn K mainGlobals "tuple" = some none)
    (b8 : PySem.W.nsIn K mainGlobals "max" = some none)
    (b9 : PySem.W.nsIn K mainGlobals "min" = some none)
    (b10 : PySem.W.nsIn K mainGlobals "range" = some none)
    (b11 : PySem.W.nsIn K mainGlobals "enumerate" = some none)
    (b12 : PySem.W.nsIn K mainGlobals "any" = some none)
    (b13 : PySem.W.nsIn K mainGlobals "zip" = some none)
    (b14 : PySem.W.nsIn K mainGlobals "dict" = some none)
    (va0 : PySem.W.nsIn K mainGlobals "ROUNDINGS" = some (some (.ref vt0)))
    (vl0 : K.lookup vt0 = some vo0)
    (vc0 : vo0.cls = .type "tuple")
    (vd0 : vo0.data = .seq vi0 vn0)
    (vv0 : L2.Vals (([[100, 111, 119, 110], [117, 112], [110, 101, 97, 114], [101, 118, 101, 110]] : List Tx).map fun y => L2.V.str (toS y)) vi0.toList)
    (vz0 : vi0.size ≤ sizeLine)
    (va1 : PySem.W.nsIn K mainGlobals "MOST_ENTRIES" = some (some (.int 300 vt1)))
    : ∃ C cs, World0 C K mg h D G cs := by
  refine ⟨⟨K, fun n => if n = 0 then A0 else if n = 1 then A1 else if n = 2 then A2 else A3, [(P17, lamName "_law_plain"), (P18, lamName "_law_tells"), (P19, lamName "law")], [P4, P5, P6, P7]⟩, [(e4, P4), (e5, P5), (e6, P6), (e7, P7), (e17, P17), (e18, P18), (e19, P19)], rfl, ?_, ?_, ?_, ?_, ?_⟩
  · refine defs_mk ?_
    show ∀ d ∈ [d_rounded, d_Ledger___init__, d_Ledger_check, d_Ledger_owe, d_Ledger_go_to, d_Ledger_pay, d_Ledger_balance, d_Ledger_overdue, d_Ledger_plan, d_Ledger_refund, d_Ledger_statement, d_compound, d__law_dice, d__law_roll, d__law_rounds, d__law_go, d__law_pay, d__law_plain, d__law_tells, d_law], _
    refine all_cons (def_mk KX g rfl a0 l0 c0 k0 (fun _ _ _ _ _ _ us hl => match us, hl with | [_, _, _], _ => rfl) (by decide +kernel) ⟨(fun z => nomatch z), (fun z => nomatch z)⟩) ?_
    refine all_cons (mth_mk (n := 3) rfl ⟨xp3, xh3, xo3, xs3⟩ a1 fn1 l1 c1 k1 (fun _ _ _ _ _ _ us hl => match us, hl with | [_, _], _ => rfl) (by decide +kernel) ⟨(fun z => nomatch z), (fun z => nomatch z)⟩) ?_
    refine all_cons (mth_mk (n := 3) rfl ⟨xp3, xh3, xo3, xs3⟩ a2 fn2 l2 c2 k2 (fun _ _ _ _ _ _ us hl => match us, hl with | [_, _, _], _ => rfl) (by decide +kernel) ⟨(fun z => nomatch z), (fun z => nomatch z)⟩) ?_
    refine all_cons (mth_mk (n := 3) rfl ⟨xp3, xh3, xo3, xs3⟩ a3 fn3 l3 c3 k3 (fun _ _ _ _ _ _ us hl => match us, hl with | [_, _, _, _], _ => rfl) (by decide +kernel) ⟨(fun z => nomatch z), (fun z => nomatch z)⟩) ?_
    refine all_cons (mth_mk (n := 3) rfl ⟨xp3, xh3, xo3, xs3⟩ a4 fn4 l4 c4 k4 (fun _ _ _ _ _ _ us hl => match us, hl with | [_, _], _ => rfl) (by decide +kernel) ⟨(fun z => nomatch z), (fun _ => ⟨e4, P4, tc4, by simp, by simp, fun p hp => by (refine (List.mem_cons.mp hp).elim (fun z => by subst z; exact ne4_17) fun hp => ?_); (refine (List.mem_cons.mp hp).elim (fun z => by subst z; exact ne4_18) fun hp => ?_); (refine (List.mem_cons.mp hp).elim (fun z => by subst z; exact ne4_19) fun hp => ?_); exact nomatch hp⟩)⟩) ?_
    refine all_cons (mth_mk (n := 3) rfl ⟨xp3, xh3, xo3, xs3⟩ a5 fn5 l5 c5 k5 (fun _ _ _ _ _ _ us hl => match us, hl with | [_, _, _], _ => rfl) (by decide +kernel) ⟨(fun z => nomatch z), (fun _ => ⟨e5, P5, tc5, by simp, by simp, fun p hp => by (refine (List.mem_cons.mp hp).elim (fun z => by subst z; exact ne5_17) fun hp => ?_); (refine (List.mem_cons.mp hp).elim (fun z => by subst z; exact ne5_18) fun hp => ?_); (refine (List.mem_cons.mp hp).elim (fun z => by subst z; exact ne5_19) fun hp => ?_); exact nomatch hp⟩)⟩) ?_
    refine all_cons (mth_mk (n := 3) rfl ⟨xp3, xh3, xo3, xs3⟩ a6 fn6 l6 c6 k6 (fun _ _ _ _ _ _ us hl => match us, hl with | [_], _ => rfl) (by decide +kernel) ⟨(fun z => nomatch z), (fun _ => ⟨e6, P6, tc6, by simp, by simp, fun p hp => by (refine (List.mem_cons.mp hp).elim (fun z => by subst z; exact ne6_17) fun hp => ?_); (refine (List.mem_cons.mp hp).elim (fun z => by subst z; exact ne6_18) fun hp => ?_); (refine (List.mem_cons.mp hp).elim (fun z => by subst z; exact ne6_19) fun hp => ?_); exact nomatch hp⟩)⟩) ?_
    refine all_cons (mth_mk (n := 3) rfl ⟨xp3, xh3, xo3, xs3⟩ a7 fn7 l7 c7 k7 (fun _ _ _ _ _ _ us hl => match us, hl with | [_, _], _ => rfl) (by decide +kernel) ⟨(fun z => nomatch z), (fun _ => ⟨e7, P7, tc7, by simp, by simp, fun p hp => by (refine (List.mem_cons.mp hp).elim (fun z => by subst z; exact ne7_17) fun hp => ?_); (refine (List.mem_cons.mp hp).elim (fun z => by subst z; exact ne7_18) fun hp => ?_); (refine (List.mem_cons.mp hp).elim (fun z => by subst z; exact ne7_19) fun hp => ?_); exact nomatch hp⟩)⟩) ?_
    refine all_cons (mth_mk (n := 3) rfl ⟨xp3, xh3, xo3, xs3⟩ a8 fn8 l8 c8 k8 (fun _ _ _ _ _ _ us hl => match us, hl with | [_, _, _], _ => rfl) (by decide +kernel) ⟨(fun z => nomatch z), (fun z => nomatch z)⟩) ?_
    refine all_cons (mth_mk (n := 3) rfl ⟨xp3, xh3, xo3, xs3⟩ a9 fn9 l9 c9 k9 (fun _ _ _ _ _ _ us hl => match us, hl with | [_, _], _ => rfl) (by decide +kernel) ⟨(fun z => nomatch z), (fun z => nomatch z)⟩) ?_
    refine all_cons (mth_mk (n := 3) rfl ⟨xp3, xh3, xo3, xs3⟩ a10 fn10 l10 c10 k10 (fun _ _ _ _ _ _ us hl => match us, hl with | [_], _ => rfl) (by decide +kernel) ⟨(fun z => nomatch z), (fun z => nomatch z)⟩) ?_
    refine all_cons (def_mk KX g rfl a11 l11 c11 k11 (fun _ _ _ _ _ _ us hl => match us, hl with | [_, _, _], _ => rfl) (by decide +kernel) ⟨(fun z => nomatch z), (fun z => nomatch z)⟩) ?_
    refine all_cons (def_mk KX g rfl a12 l12 c12 k12 (fun _ _ _ _ _ _ us hl => match us, hl with | [_], _ => rfl) (by decide +kernel) ⟨(fun z => nomatch z), (fun z => nomatch z)⟩) ?_
    refine all_cons (def_mk KX g rfl a13 l13 c13 k13 (fun _ _ _ _ _ _ us hl => match us, hl with | [_, _], _ => rfl) (by decide +kernel) ⟨(fun z => nomatch z), (fun z => nomatch z)⟩) ?_
    refine all_cons (def_mk KX g rfl a14 l14 c14 k14 (fun _ _ _ _ _ _ us hl => match us, hl with | [_, _], _ => rfl) (by decide +kernel) ⟨(fun z => nomatch z), (fun z => nomatch z)⟩) ?_
    refine all_cons (def_mk KX g rfl a15 l15 c15 k15 (fun _ _ _ _ _ _ us hl => match us, hl with | [_, _], _ => rfl) (by decide +kernel) ⟨(fun z => nomatch z), (fun z => nomatch z)⟩) ?_
    refine all_cons (def_mk KX g rfl a16 l16 c16 k16 (fun _ _ _ _ _ _ us hl => match us, hl with | [_, _], _ => rfl) (by decide +kernel) ⟨(fun z => nomatch z), (fun z => nomatch z)⟩) ?_
    refine all_cons (def_mk KX g rfl a17 l17 c17 k17 (fun _ _ _ _ _ _ us hl => match us, hl with | [], _ => rfl) (by decide +kernel) ⟨(fun _ => ⟨e17, P17, tc17, by simp, by simp [d__law_plain], fun p hp e => by (refine (List.mem_cons.mp hp).elim (fun z => by subst z; rfl) fun hp => ?_); (refine (List.mem_cons.mp hp).elim (fun z => by subst z; exact absurd e ne17_18) fun hp => ?_); (refine (List.mem_cons.mp hp).elim (fun z => by subst z; exact absurd e ne17_19) fun hp => ?_); exact nomatch hp⟩), (fun z => nomatch z)⟩) ?_
    refine all_cons (def_mk KX g rfl a18 l18 c18 k18 (fun _ _ _ _ _ _ us hl => match us, hl with | [_, _, _], _ => rfl) (by decide +kernel) ⟨(fun _ => ⟨e18, P18, tc18, by simp, by simp [d__law_tells], fun p hp e => by (refine (List.mem_cons.mp hp).elim (fun z => by subst z; exact absurd e ne18_17) fun hp => ?_); (refine (List.mem_cons.mp hp).elim (fun z => by subst z; rfl) fun hp => ?_); (refine (List.mem_cons.mp hp).elim (fun z => by subst z; exact absurd e ne18_19) fun hp => ?_); exact nomatch hp⟩), (fun z => nomatch z)⟩) ?_
    refine all_cons (def_mk KX g rfl a19 l19 c19 k19 (fun _ _ _ _ _ _ us hl => match us, hl with | [_], _ => rfl) (by decide +kernel) ⟨(fun _ => ⟨e19, P19, tc19, by simp, by simp [d_law], fun p hp e => by (refine (List.mem_cons.mp hp).elim (fun z => by subst z; exact absurd e ne19_17) fun hp => ?_); (refine (List.mem_cons.mp hp).elim (fun z => by subst z; exact absurd e ne19_18) fun hp => ?_); (refine (List.mem_cons.mp hp).elim (fun z => by subst z; rfl) fun hp => ?_); exact nomatch hp⟩), (fun z => nomatch z)⟩) ?_
    exact all_nil
  · refine gl_mk ?_
    unfold G
    refine all_cons ⟨d_rounded, rfl, rfl, rfl⟩ ?_
    refine all_cons ⟨d_compound, rfl, rfl, rfl⟩ ?_
    refine all_cons ⟨d__law_dice, rfl, rfl, rfl⟩ ?_
    refine all_cons ⟨d__law_roll, rfl, rfl, rfl⟩ ?_
    refine all_cons ⟨d__law_rounds, rfl, rfl, rfl⟩ ?_
    refine all_cons ⟨d__law_go, rfl, rfl, rfl⟩ ?_
    refine all_cons ⟨d__law_pay, rfl, rfl, rfl⟩ ?_
    refine all_cons ⟨d__law_plain, rfl, rfl, rfl⟩ ?_
    refine all_cons ⟨d__law_tells, rfl, rfl, rfl⟩ ?_
    refine all_cons ⟨d_law, rfl, rfl, rfl⟩ ?_
    refine all_cons (exc_mk PySem.F.excBase_ValueError KX g xa0 xq0 xk0 xs0 xt0) ?_
    refine all_cons (exc_mk PySem.F.excBase_ValueError KX g xa1 xq1 xk1 xs1 xt1) ?_
    refine all_cons (exc_mk PySem.F.excBase_ValueError KX g xa2 xq2 xk2 xs2 xt2) ?_
    refine all_cons (cls_mk (c := 3) (fi := 1) (d := d_Ledger___init__) KX g xa3 xm3 xk3 rfl rfl rfl (alts_mk (all_cons alt_full (all_nil)))) ?_
    refine all_cons (fld_mk (all_cons ⟨⟨xp3, xh3, xo3, xs3⟩, by exact nf0_3⟩ (all_nil))) ?_
    refine all_cons (fld_mk (all_cons ⟨⟨xp3, xh3, xo3, xs3⟩, by exact nf1_3⟩ (all_nil))) ?_
    refine all_cons (fld_mk (all_cons ⟨⟨xp3, xh3, xo3, xs3⟩, by exact nf2_3⟩ (all_nil))) ?_
    refine all_cons (fld_mk (all_cons ⟨⟨xp3, xh3, xo3, xs3⟩, by exact nf3_3⟩ (all_nil))) ?_
    refine all_cons (fld_mk (all_cons ⟨⟨xp3, xh3, xo3, xs3⟩, by exact nf4_3⟩ (all_nil))) ?_
    refine all_cons (fld_mk (all_cons ⟨⟨xp3, xh3, xo3, xs3⟩, by exact nf5_3⟩ (all_nil))) ?_
    refine all_cons (fld_mk (all_cons ⟨⟨xp3, xh3, xo3, xs3⟩, by exact nf6_3⟩ (all_nil))) ?_
    refine all_cons (mg_mk (all_cons ⟨d_Ledger_check, rfl, rfl, rfl⟩ (all_nil))) ?_
    refine all_cons (mg_mk (all_cons ⟨d_Ledger_owe, rfl, rfl, rfl⟩ (all_nil))) ?_
    refine all_cons (mg_mk (all_cons ⟨d_Ledger_go_to, rfl, rfl, rfl⟩ (all_nil))) ?_
    refine all_cons (mg_mk (all_cons ⟨d_Ledger_pay, rfl, rfl, rfl⟩ (all_nil))) ?_
    refine all_cons (mg_mk (all_cons ⟨d_Ledger_balance, rfl, rfl, rfl⟩ (all_nil))) ?_
    refine all_cons (mg_mk (all_cons ⟨d_Ledger_overdue, rfl, rfl, rfl⟩ (all_nil))) ?_
    refine all_cons (mg_mk (all_cons ⟨d_Ledger_plan, rfl, rfl, rfl⟩ (all_nil))) ?_
    refine all_cons (mg_mk (all_cons ⟨d_Ledger_refund, rfl, rfl, rfl⟩ (all_nil))) ?_
    refine all_cons (mg_mk (all_cons ⟨d_Ledger_statement, rfl, rfl, rfl⟩ (all_nil))) ?_
    refine all_cons (tell_mk (st := top 15) KX g a99 l99 c99 k99 (by rfl) (fun _ _ _ _ _ _ us hl => match us, hl with | [_], _ => rfl) (by decide +kernel) (by decide +kernel) (by decide +kernel) xa2 (by decide +kernel) (by decide +kernel) (by decide +kernel) (by rfl) (all_cons (by exact exm_mk xs2 xs2 ti xt2 te2) (all_nil))) ?_
    refine all_cons (blt_mk KX g b0) ?_
    refine all_cons (blt_mk KX g b1) ?_
    refine all_cons (blt_mk KX g b2) ?_
    refine all_cons (blt_mk KX g b3) ?_
    refine all_cons (blt_mk KX g b4) ?_
    refine all_cons (blt_mk KX g b5) ?_
    refine all_cons (blt_mk KX g b6) ?_
    refine all_cons (blt_mk KX g b7) ?_
    refine all_cons (blt_mk KX g b8) ?_
    refine all_cons (blt_mk KX g b9) ?_
    refine all_cons (blt_mk KX g b10) ?_
    refine all_cons (blt_mk KX g b11) ?_
    refine all_cons (blt_mk KX g b12) ?_
    refine all_cons (blt_mk KX g b13) ?_
    refine all_cons (blt_mk KX g b14) ?_
    refine all_cons (val_mk (ts := [[100, 111, 119, 110], [117, 112], [110, 101, 97, 114], [101, 118, 101, 110]]) rfl KX g va0 vl0 vc0 vd0 vv0 vz0) ?_
    refine all_cons (val_int KX g va1) ?_
    exact all_nil
  · exact all_cons ⟨tb _ ts4, n4, PySem.W.codeHd_of_K KX th4⟩ (all_cons ⟨tb _ ts5, n5, PySem.W.codeHd_of_K KX th5⟩ (all_cons ⟨tb _ ts6, n6, PySem.W.codeHd_of_K KX th6⟩ (all_cons ⟨tb _ ts7, n7, PySem.W.codeHd_of_K KX th7⟩ (all_cons ⟨tb _ ts17, n17, PySem.W.codeHd_of_K KX th17⟩ (all_cons ⟨tb _ ts18, n18, PySem.W.codeHd_of_K KX th18⟩ (all_cons ⟨tb _ ts19, n19, PySem.W.codeHd_of_K KX th19⟩ (all_nil)))))))
  · exact all_cons ⟨e17, by simp⟩ (all_cons ⟨e18, by simp⟩ (all_cons ⟨e19, by simp⟩ (all_nil)))
  · exact all_cons ⟨e4, by simp⟩ (all_cons ⟨e5, by simp⟩ (all_cons ⟨e6, by simp⟩ (all_cons ⟨e7, by simp⟩ (all_nil))))
theorem law2 : ∀ ns : List Int, ns.length ≤ 63 → (∀ z ∈ ns, Builtin.Int.intBits z ≤ 1048576) → ∃ h, pg (prog D G) 9 0 19 [.scr (ns.map .int)] [] = .ok (.bl true) h := fun ns h1 h2 => by
  rw [prog_P]
  exact law ns
end K08
abbrev TX.kmH (K : PySem.Params → PySem.W.Frag) (as : List PySem.Addr) (e : ∀ P, as = (K P).map (·.1)) (ts : List PySem.Addr) (_ : Unit) := PySem.W.kmHook K as e ts
local macro_rules | `(tactic| o_head ($_f:ident $K $a $e $_ts)) => `(tactic| o_head (TX.kmH $K $a $e [89, 96, 103, 110, 184, 189, 194] ()))
set_option maxRecDepth 100000 in
set_option maxHeartbeats 0 in
theorem PySem.Challenge.cw_taxstack_k08_ledgers_day_by_day_holds : PySem.Challenge.rw_taxstack_k08_ledgers_day_by_day.Holds := by
  w_on; o_law; k_head; (case hw => w_witness2)
  k_fill
  refine TX.walk_tx (x := "script") K08.D K08.G 9 19 K08.d_law (by rfl) (by decide) (by rfl) ⟨by rfl, by decide, by decide⟩ (fun w h Y => PySem.W.km_in_of Y) (by rfl) (by rfl) (by rfl) K08.law2 [89, 96, 103, 110, 184, 189, 194] (fun w h Y => PySem.W.km_tabs_of Y) (by rfl) (fun w mg h Y KX G tb => ?_)
  refine' K08.world_mk KX G tb ?xa0 ?xq0 ?xk0 ?xs0 ?xt0 ?xa1 ?xq1 ?xk1 ?xs1 ?xt1 ?xa2 ?xq2 ?xk2 ?xs2 ?xt2 ?xa3 ?xm3 ?xk3 ?xp3 ?xh3 ?xo3 ?xs3 ?nf0_3 ?nf1_3 ?nf2_3 ?nf3_3 ?nf4_3 ?nf5_3 ?nf6_3 ?a0 ?l0 ?c0 ?k0 ?a1 ?fn1 ?l1 ?c1 ?k1 ?a2 ?fn2 ?l2 ?c2 ?k2 ?a3 ?fn3 ?l3 ?c3 ?k3 ?a4 ?fn4 ?l4 ?c4 ?k4 ?a5 ?fn5 ?l5 ?c5 ?k5 ?a6 ?fn6 ?l6 ?c6 ?k6 ?a7 ?fn7 ?l7 ?c7 ?k7 ?a8 ?fn8 ?l8 ?c8 ?k8 ?a9 ?fn9 ?l9 ?c9 ?k9 ?a10 ?fn10 ?l10 ?c10 ?k10 ?a11 ?l11 ?c11 ?k11 ?a12 ?l12 ?c12 ?k12 ?a13 ?l13 ?c13 ?k13 ?a14 ?l14 ?c14 ?k14 ?a15 ?l15 ?c15 ?k15 ?a16 ?l16 ?c16 ?k16 ?a17 ?l17 ?c17 ?k17 ?a18 ?l18 ?c18 ?k18 ?a19 ?l19 ?c19 ?k19 ?tc4 ?tl4 ?tv4 ?th4 ?ts4 ?n4 ?tc5 ?tl5 ?tv5 ?th5 ?ts5 ?n5 ?tc6 ?tl6 ?tv6 ?th6 ?ts6 ?n6 ?tc7 ?tl7 ?tv7 ?th7 ?ts7 ?n7 ?tc17 ?tl17 ?tv17 ?th17 ?ts17 ?n17 ?tc18 ?tl18 ?tv18 ?th18 ?ts18 ?n18 ?tc19 ?tl19 ?tv19 ?th19 ?ts19 ?n19 ?ne4_17 ?ne4_18 ?ne4_19 ?ne5_17 ?ne5_18 ?ne5_19 ?ne6_17 ?ne6_18 ?ne6_19 ?ne7_17 ?ne7_18 ?ne7_19 ?ne17_18 ?ne17_19 ?ne18_17 ?ne18_19 ?ne19_17 ?ne19_18 ?a99 ?l99 ?c99 ?k99 ?ti ?te2 ?b0 ?b1 ?b2 ?b3 ?b4 ?b5 ?b6 ?b7 ?b8 ?b9 ?b10 ?b11 ?b12 ?b13 ?b14 ?va0 ?vl0 ?vc0 ?vd0 ?vv0 ?vz0 ?va1
  (case xa0 => k_is)
  (case xq0 => first | k_is | k_exc)
  (case xk0 => k_is)
  (case xs0 => k_is)
  (case xt0 => k_is)
  (case xa1 => k_is)
  (case xq1 => first | k_is | k_exc)
  (case xk1 => k_is)
  (case xs1 => k_is)
  (case xt1 => k_is)
  (case xa2 => k_is)
  (case xq2 => first | k_is | k_exc)
  (case xk2 => k_is)
  (case xs2 => k_is)
  (case xt2 => k_is)
  (case xa3 => k_is)
  (case xm3 => k_is)
  (case xk3 => k_is)
  (case xp3 => k_is)
  (case xh3 => k_is)
  (case xo3 => k_is)
  (case xs3 => k_is)
  (case nf0_3 => k_is)
  (case nf1_3 => k_is)
  (case nf2_3 => k_is)
  (case nf3_3 => k_is)
  (case nf4_3 => k_is)
  (case nf5_3 => k_is)
  (case nf6_3 => k_is)
  (case a0 => k_is)
  (case l0 => k_is)
  (case c0 => k_is)
  (case k0 => k_is)
  (case a1 => k_is)
  (case fn1 => k_is)
  (case l1 => k_is)
  (case c1 => k_is)
  (case k1 => k_is)
  (case a2 => k_is)
  (case fn2 => k_is)
  (case l2 => k_is)
  (case c2 => k_is)
  (case k2 => k_is)
  (case a3 => k_is)
  (case fn3 => k_is)
  (case l3 => k_is)
  (case c3 => k_is)
  (case k3 => k_is)
  (case a4 => k_is)
  (case fn4 => k_is)
  (case l4 => k_is)
  (case c4 => k_is)
  (case k4 => k_is)
  (case a5 => k_is)
  (case fn5 => k_is)
  (case l5 => k_is)
  (case c5 => k_is)
  (case k5 => k_is)
  (case a6 => k_is)
  (case fn6 => k_is)
  (case l6 => k_is)
  (case c6 => k_is)
  (case k6 => k_is)
  (case a7 => k_is)
  (case fn7 => k_is)
  (case l7 => k_is)
  (case c7 => k_is)
  (case k7 => k_is)
  (case a8 => k_is)
  (case fn8 => k_is)
  (case l8 => k_is)
  (case c8 => k_is)
  (case k8 => k_is)
  (case a9 => k_is)
  (case fn9 => k_is)
  (case l9 => k_is)
  (case c9 => k_is)
  (case k9 => k_is)
  (case a10 => k_is)
  (case fn10 => k_is)
  (case l10 => k_is)
  (case c10 => k_is)
  (case k10 => k_is)
  (case a11 => k_is)
  (case l11 => k_is)
  (case c11 => k_is)
  (case k11 => k_is)
  (case a12 => k_is)
  (case l12 => k_is)
  (case c12 => k_is)
  (case k12 => k_is)
  (case a13 => k_is)
  (case l13 => k_is)
  (case c13 => k_is)
  (case k13 => k_is)
  (case a14 => k_is)
  (case l14 => k_is)
  (case c14 => k_is)
  (case k14 => k_is)
  (case a15 => k_is)
  (case l15 => k_is)
  (case c15 => k_is)
  (case k15 => k_is)
  (case a16 => k_is)
  (case l16 => k_is)
  (case c16 => k_is)
  (case k16 => k_is)
  (case a17 => k_is)
  (case l17 => k_is)
  (case c17 => k_is)
  (case k17 => k_is)
  (case a18 => k_is)
  (case l18 => k_is)
  (case c18 => k_is)
  (case k18 => k_is)
  (case a19 => k_is)
  (case l19 => k_is)
  (case c19 => k_is)
  (case k19 => k_is)
  (case tc4 => rfl)
  (case tl4 => k_is)
  (case tv4 => rfl)
  (case th4 => kernel_rfl)
  (case ts4 => k_mem)
  (case n4 => first | rfl | kernel_rfl | decide +kernel)
  (case tc5 => rfl)
  (case tl5 => k_is)
  (case tv5 => rfl)
  (case th5 => kernel_rfl)
  (case ts5 => k_mem)
  (case n5 => first | rfl | kernel_rfl | decide +kernel)
  (case tc6 => rfl)
  (case tl6 => k_is)
  (case tv6 => rfl)
  (case th6 => kernel_rfl)
  (case ts6 => k_mem)
  (case n6 => first | rfl | kernel_rfl | decide +kernel)
  (case tc7 => rfl)
  (case tl7 => k_is)
  (case tv7 => rfl)
  (case th7 => kernel_rfl)
  (case ts7 => k_mem)
  (case n7 => first | rfl | kernel_rfl | decide +kernel)
  (case tc17 => rfl)
  (case tl17 => k_is)
  (case tv17 => rfl)
  (case th17 => kernel_rfl)
  (case ts17 => k_mem)
  (case n17 => first | rfl | kernel_rfl | decide +kernel)
  (case tc18 => rfl)
  (case tl18 => k_is)
  (case tv18 => rfl)
  (case th18 => kernel_rfl)
  (case ts18 => k_mem)
  (case n18 => first | rfl | kernel_rfl | decide +kernel)
  (case tc19 => rfl)
  (case tl19 => k_is)
  (case tv19 => rfl)
  (case th19 => kernel_rfl)
  (case ts19 => k_mem)
  (case n19 => first | rfl | kernel_rfl | decide +kernel)
  (case ne4_17 => first | decide | k_is | (intro z; cases z))
  (case ne4_18 => first | decide | k_is | (intro z; cases z))
  (case ne4_19 => first | decide | k_is | (intro z; cases z))
  (case ne5_17 => first | decide | k_is | (intro z; cases z))
  (case ne5_18 => first | decide | k_is | (intro z; cases z))
  (case ne5_19 => first | decide | k_is | (intro z; cases z))
  (case ne6_17 => first | decide | k_is | (intro z; cases z))
  (case ne6_18 => first | decide | k_is | (intro z; cases z))
  (case ne6_19 => first | decide | k_is | (intro z; cases z))
  (case ne7_17 => first | decide | k_is | (intro z; cases z))
  (case ne7_18 => first | decide | k_is | (intro z; cases z))
  (case ne7_19 => first | decide | k_is | (intro z; cases z))
  (case ne17_18 => first | decide | k_is | (intro z; cases z))
  (case ne17_19 => first | decide | k_is | (intro z; cases z))
  (case ne18_17 => first | decide | k_is | (intro z; cases z))
  (case ne18_19 => first | decide | k_is | (intro z; cases z))
  (case ne19_17 => first | decide | k_is | (intro z; cases z))
  (case ne19_18 => first | decide | k_is | (intro z; cases z))
  (case a99 => k_is)
  (case l99 => k_is)
  (case c99 => k_is)
  (case k99 => k_is)
  (case ti => k_is)
  (case te2 => first | rfl | k_is)
  (case b0 => k_is)
  (case b1 => k_is)
  (case b2 => k_is)
  (case b3 => k_is)
  (case b4 => k_is)
  (case b5 => k_is)
  (case b6 => k_is)
  (case b7 => k_is)
  (case b8 => k_is)
  (case b9 => k_is)
  (case b10 => k_is)
  (case b11 => k_is)
  (case b12 => k_is)
  (case b13 => k_is)
  (case b14 => k_is)
  (case va0 => k_is)
  (case vl0 => k_is)
  (case vc0 => rfl)
  (case vd0 => rfl)
  (case vv0 => exact .cons ⟨_, rfl⟩ (.cons ⟨_, rfl⟩ (.cons ⟨_, rfl⟩ (.cons ⟨_, rfl⟩ (.nil)))))
  (case vz0 => decide)
  (case va1 => k_is)
