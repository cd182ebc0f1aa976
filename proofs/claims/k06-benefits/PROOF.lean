import PyProof.Rows.All
import Wide.All
import OpenK.AllK
import Wide.FinOn
import HandS.ForMost
import HandS.ForExc
import HandS.EndOwn
import HandS.TupAny
import HandS.TupLe
import HandS.Conv
import HandS.SortInts
import HandS.SortRule
import HandS.FStr
import HandS.Style
import HandS.Codes
import HandS.More
import HandS.Defaults
import HandS.Small
import HandS.Iter
import HandS.Zip
import KE.GoesMore
import KE.GoesEnum
import HandS.Lambda
import HandS.MapJoin
import KE.DataMinMax
import HandS.GenList
import HandS.AnyAll
import PyProof.Rows.SortShellAny
import PyProof.SumWalkG
import HandS.SetFor
import HandS.Words
import HandS.WordsExc
import KE.KNest
import PySem.Challenge.RW_taxstack_k06_benefits_and_cliffs
/-! TxA: the pure domain: values, abstract heaps, what a piece of the text means (combinators) -/
set_option autoImplicit false
namespace TX

abbrev Tx := List Nat

/-- a value; tuples, and lists that never change, are values -/
inductive AV where
  | non
  | bl (b : Bool)
  | int (i : Int)
  | str (s : Tx)
  | tup (xs : List AV)
  | lst (xs : List AV)
  | dct (kvs : List (AV × AV))
  | ref (i : Nat)
  | scr (xs : List AV)
  deriving Inhabited

mutual
def AV.beq : AV → AV → Bool
  | .non, .non => true
  | .bl a, .bl b => a == b
  | .int a, .int b => decide (a = b)
  | .str a, .str b => decide (a = b)
  | .tup a, .tup b => AV.beqL a b
  | .lst a, .lst b => AV.beqL a b
  | .dct a, .dct b => AV.beqP a b
  | .ref a, .ref b => decide (a = b)
  | .scr a, .scr b => AV.beqL a b
  | _, _ => false
def AV.beqL : List AV → List AV → Bool
  | [], [] => true
  | x :: xs, y :: ys => AV.beq x y && AV.beqL xs ys
  | _, _ => false
def AV.beqP : List (AV × AV) → List (AV × AV) → Bool
  | [], [] => true
  | (k, v) :: xs, (l, w) :: ys => AV.beq k l && (AV.beq v w && AV.beqP xs ys)
  | _, _ => false
end

mutual
theorem AV.beq_iff : ∀ (x y : AV), AV.beq x y = true ↔ x = y
  | .non, y => by cases y <;> simp [AV.beq]
  | .bl a, y => by cases y <;> simp [AV.beq]
  | .int a, y => by cases y <;> simp [AV.beq]
  | .str a, y => by cases y <;> simp [AV.beq]
  | .tup a, y => by cases y <;> simp [AV.beq, AV.beqL_iff a]
  | .lst a, y => by cases y <;> simp [AV.beq, AV.beqL_iff a]
  | .dct a, y => by cases y <;> simp [AV.beq, AV.beqP_iff a]
  | .ref a, y => by cases y <;> simp [AV.beq]
  | .scr a, y => by cases y <;> simp [AV.beq, AV.beqL_iff a]
theorem AV.beqL_iff : ∀ (x y : List AV), AV.beqL x y = true ↔ x = y
  | [], y => by cases y <;> simp [AV.beqL]
  | x :: xs, y => by cases y <;> simp [AV.beqL, AV.beq_iff x, AV.beqL_iff xs]
theorem AV.beqP_iff : ∀ (x y : List (AV × AV)), AV.beqP x y = true ↔ x = y
  | [], y => by cases y <;> simp [AV.beqP]
  | (k, v) :: xs, y => by
    cases y with
    | nil => simp [AV.beqP]
    | cons p ys => obtain ⟨l, w⟩ := p; simp [AV.beqP, AV.beq_iff k, AV.beq_iff v, AV.beqP_iff xs, and_assoc]
end
instance : DecidableEq AV := fun x y => decidable_of_iff _ (AV.beq_iff x y)

/-- a changing object -/
inductive AO where
  | lst (xs : List AV)
  | dct (kvs : List (AV × AV))
  | ins (c : Nat) (fs : List (Tx × AV))
  deriving DecidableEq, Inhabited

/-- the changing objects, the newest first; object i is the i-th that was made -/
abbrev AH := List AO
def hget : AH → Nat → Option AO
  | [], _ => none
  | o :: h, i => if i = h.length then some o else hget h i
def hset : AH → Nat → AO → AH
  | [], _, _ => []
  | o :: h, i, u => if i = h.length then u :: h else o :: hset h i u

inductive Out (α : Type) where
  | ok (a : α) (h : AH)
  | exc (c : Nat) (h : AH)
  | stuck
def Out.bind {α β : Type} (o : Out α) (f : α → AH → Out β) : Out β :=
  match o with
  | .ok a h => f a h
  | .exc c h => .exc c h
  | .stuck => .stuck
@[simp] theorem bind_ok {α β : Type} (a : α) (h : AH) (f : α → AH → Out β) : (Out.ok a h).bind f = f a h := rfl
@[simp] theorem bind_exc {α β : Type} (c : Nat) (h : AH) (f : α → AH → Out β) : (Out.exc c h : Out α).bind f = .exc c h := rfl
@[simp] theorem bind_stuck {α β : Type} (f : α → AH → Out β) : (Out.stuck : Out α).bind f = .stuck := rfl
@[simp] theorem bind_ite {α β : Type} (c : Prop) [Decidable c] (a b : Out α) (f : α → AH → Out β) : (if c then a else b).bind f = if c then a.bind f else b.bind f := by split <;> rfl

abbrev St := List (Option AV)
/-- the calls: how many levels below, which def, the arguments -/
abbrev Fn := Nat → Nat → List AV → AH → Out AV
abbrev EF := Fn → St → AH → Out AV
abbrev AF := Fn → St → AH → Out (List AV)
inductive Fl where
  | nx (s : St)
  | rt (v : AV)
  | bk (s : St)
  | ct (s : St)
abbrev SF := Fn → St → AH → Out Fl

def SZ : Nat := 16777216
def shift (φ : Fn) : Fn := fun i => φ (i + 1)

/-! ### values -/
mutual
/-- data without truths and changing things: == is = -/
def AV.data : AV → Bool
  | .non => true
  | .int _ => true
  | .str s => s.all fun c => decide (c < 1114112)
  | .tup xs => AV.dataL xs
  | .lst xs => AV.dataL xs
  | _ => false
def AV.dataL : List AV → Bool
  | [] => true
  | x :: xs => AV.data x && AV.dataL xs
end
mutual
def AV.dep : AV → Nat
  | .tup xs => AV.depL xs + 1
  | .lst xs => AV.depL xs + 1
  | _ => 0
def AV.depL : List AV → Nat
  | [] => 0
  | x :: xs => max (AV.dep x) (AV.depL xs)
end
mutual
/-- no changing object from n on is named -/
def AV.under (n : Nat) : AV → Bool
  | .ref i => decide (i < n)
  | .scr xs => AV.underL n xs
  | .tup xs => AV.underL n xs
  | .lst xs => AV.underL n xs
  | .dct kvs => AV.underP n kvs
  | _ => true
def AV.underL (n : Nat) : List AV → Bool
  | [] => true
  | x :: xs => AV.under n x && AV.underL n xs
def AV.underP (n : Nat) : List (AV × AV) → Bool
  | [] => true
  | (k, v) :: xs => AV.under n k && (AV.under n v && AV.underP n xs)
end
def AV.underF (n : Nat) : List (Tx × AV) → Bool
  | [] => true
  | (_, v) :: xs => AV.under n v && AV.underF n xs
def AO.under (n : Nat) : AO → Bool
  | .lst xs => AV.underL n xs
  | .dct kvs => AV.underP n kvs
  | .ins _ fs => AV.underF n fs

/-- a list, a tuple, as it stands -/
def seqOf (v : AV) (h : AH) : Option (List AV) :=
  match v with
  | .tup xs => some xs
  | .lst xs => some xs
  | .ref i => match hget h i with
    | some (.lst xs) => some xs
    | _ => none
  | _ => none
/-- a list alone -/
def lstOf (v : AV) (h : AH) : Option (List AV) :=
  match v with
  | .lst xs => some xs
  | .ref i => match hget h i with
    | some (.lst xs) => some xs
    | _ => none
  | _ => none
/-- a list made: it changes (m), or it never does -/
def mk (m : Bool) (xs : List AV) (h : AH) : Out AV := if m then .ok (.ref h.length) (.lst xs :: h) else .ok (.lst xs) h
/-- .. as long as a list may be -/
def mkLst (m : Bool) (xs : List AV) (h : AH) : Out AV :=
  if xs.length ≤ SZ then mk m xs h else .stuck

/-- the value with lists that change read once -/
def still (v : AV) (h : AH) : Option AV :=
  match v with
  | .ref i => match hget h i with
    | some (.lst xs) => some (.lst xs)
    | _ => none
  | v => some v
/-- None, a number, a text -/
def AV.flat : AV → Bool
  | .non => true
  | .int _ => true
  | .str _ => true
  | _ => false
def eqA (x y : AV) : Option Bool :=
  match x, y with
  | .bl a, .bl b => some (a == b)
  | .bl _, .str _ => some false
  | .str _, .bl _ => some false
  | .bl _, .non => some false
  | .non, .bl _ => some false
  | x, y => if (x.flat && y.flat) || (x.data && y.data && decide (x.dep ≤ 64) && decide (y.dep ≤ 64)) then some (decide (x = y)) else none

def txLt (a b : Tx) : Bool := decide (a < b)
def intLL : List AV → Bool
  | [] => true
  | .int _ :: r => intLL r
  | _ => false
def ltLL : List AV → List AV → Bool
  | [], [] => false
  | [], _ :: _ => true
  | _ :: _, [] => false
  | .int x :: xs, .int y :: ys => if x = y then ltLL xs ys else decide (x < y)
  | _, _ => false
def ltA (x y : AV) : Option Bool :=
  match x, y with
  | .int a, .int b => some (decide (a < b))
  | .str a, .str b => some (txLt a b)
  | .tup a, .tup b => if intLL a && intLL b then some (ltLL a b) else none
  | _, _ => none

/-- numbers and texts alone -/
def ltS (x y : AV) : Option Bool :=
  match x, y with
  | .int a, .int b => some (decide (a < b))
  | .str a, .str b => some (txLt a b)
  | _, _ => none

/-! ### operators -/
inductive BO where | add | sub | mul | div | mod | pow
def small (i : Int) : Bool := decide (-(2 ^ 64) < i ∧ i < 2 ^ 64)
def intOp (op : BO) (i j : Int) : Option Int :=
  match op with
  | .add => some (i + j)
  | .sub => some (i - j)
  | .mul => if small i || small j then some (i * j) else none
  | .div => if j ≠ 0 ∧ j.natAbs < 1073741824 then some (i.fdiv j) else none
  | .mod => if j ≠ 0 then some (i.fmod j) else none
  | .pow => if 0 ≤ j ∧ j ≤ 1000000 ∧ i.natAbs < 2 ^ 64 then some (i ^ j.toNat) else none
def binA (m : Bool) (op : BO) (x y : AV) (h : AH) : Out AV :=
  match x, y with
  | .int i, .int j => match intOp op i j with
    | some k => .ok (.int k) h
    | none => .stuck
  | .str a, .str b => match op with
    | .add => if a.length + b.length ≤ SZ then .ok (.str (a ++ b)) h else .stuck
    | _ => .stuck
  | .tup a, .tup b => match op with
    | .add => if a.length ≤ SZ ∧ b.length ≤ SZ ∧ a.length + b.length ≤ SZ then .ok (.tup (a ++ b)) h else .stuck
    | _ => .stuck
  | x, .int k => match op with
    | .mul => match lstOf x h with
      | some xs => if -(2 ^ 63) ≤ k ∧ k < 2 ^ 63 ∧ xs.length * k.toNat ≤ SZ then mkLst m (List.replicate k.toNat xs).flatten h else .stuck
      | none => .stuck
    | _ => .stuck
  | x, y => match op with
    | .add => match lstOf x h, lstOf y h with
      | some a, some b => if a.length + b.length ≤ SZ then mkLst m (a ++ b) h else .stuck
      | _, _ => .stuck
    | _ => .stuck

inductive CO where | lt | le | gt | ge | eq | ne | isN | notN | inn | notIn
def someB (o : Option Bool) (h : AH) : Out AV :=
  match o with
  | some b => .ok (.bl b) h
  | none => .stuck
def notO (o : Option Bool) : Option Bool := o.map (!·)
/-- x stands among the keys -/
def hasK (k : AV) (kvs : List (AV × AV)) : Bool := kvs.any fun p => decide (p.1 = k)
def getK (k : AV) : List (AV × AV) → Option AV
  | [] => none
  | (l, v) :: r => if l = k then some v else getK k r
def putK (k v : AV) (kvs : List (AV × AV)) : List (AV × AV) :=
  if hasK k kvs then kvs.map (fun p => if p.1 = k then (p.1, v) else p) else kvs ++ [(k, v)]
def isKey : AV → Bool
  | .int _ => true
  | .str _ => true
  | _ => false
def dctOf (v : AV) (h : AH) : Option (List (AV × AV)) :=
  match v with
  | .dct kvs => some kvs
  | .ref i => match hget h i with
    | some (.dct kvs) => some kvs
    | _ => none
  | _ => none
/-- the text b begins at some place of a -/
def txAt (b : Tx) : Tx → Bool
  | [] => b.isEmpty
  | c :: a => b.isPrefixOf (c :: a) || txAt b a
def inA (x y : AV) (h : AH) : Option Bool :=
  match x, y with
  | .str a, .str b => match a with
    | [c] => some (decide (c ∈ b))
    | _ => none
  | x, y => match dctOf y h with
    | some kvs => if isKey x then some (hasK x kvs) else none
    | none => match seqOf y h with
      | some ys => if x.flat && ys.all AV.flat then some (ys.any fun z => decide (z = x)) else none
      | none => none
def cmpA (op : CO) (x y : AV) (h : AH) : Out AV :=
  match op with
  | .lt => someB (ltA x y) h
  | .gt => someB (ltS y x) h
  | .le => someB (notO (ltA y x)) h
  | .ge => someB (notO (ltS x y)) h
  | .eq => match still x h, still y h with
    | some a, some b => someB (eqA a b) h
    | _, _ => .stuck
  | .ne => match still x h, still y h with
    | some a, some b => someB (notO (eqA a b)) h
    | _, _ => .stuck
  | .isN => match y with
    | .non => .ok (.bl (decide (x = .non))) h
    | _ => .stuck
  | .notN => match y with
    | .non => .ok (.bl (!decide (x = .non))) h
    | _ => .stuck
  | .inn => someB (inA x y h) h
  | .notIn => someB (notO (inA x y h)) h

/-! ### expressions -/
def eC (v : AV) : EF := fun _ _ h => .ok v h
def eV (i : Nat) : EF := fun _ s h => match s[i]? with
  | some (some v) => .ok v h
  | _ => .stuck
def aNil : AF := fun _ _ h => .ok [] h
def aCons (e : EF) (a : AF) : AF := fun φ s h => (e φ s h).bind fun x h1 => (a φ s h1).bind fun xs h2 => .ok (x :: xs) h2
def eTup (a : AF) : EF := fun φ s h => (a φ s h).bind fun xs h1 => if xs.length ≤ SZ then .ok (.tup xs) h1 else .stuck
def eLst (m : Bool) (a : AF) : EF := fun φ s h => (a φ s h).bind fun xs h1 => mkLst m xs h1
def eBin (m : Bool) (op : BO) (a b : EF) : EF := fun φ s h => (a φ s h).bind fun x h1 => (b φ s h1).bind fun y h2 => binA m op x y h2
def eNeg (a : EF) : EF := fun φ s h => (a φ s h).bind fun x h1 => match x with
  | .int i => .ok (.int (-i)) h1
  | _ => .stuck
def eCmp (op : CO) (a b : EF) : EF := fun φ s h => (a φ s h).bind fun x h1 => (b φ s h1).bind fun y h2 => cmpA op x y h2
/-- by a truth -/
def tst {α : Type} (x : AV) (a b : Out α) : Out α :=
  match x with
  | .bl true => a
  | .bl false => b
  | _ => .stuck
@[simp] theorem tst_bl {α : Type} (c : Bool) (a b : Out α) : tst (.bl c) a b = if c = true then a else b := by cases c <;> rfl
def eChain (op op' : CO) (a b c : EF) : EF := fun φ s h => (a φ s h).bind fun x h1 => (b φ s h1).bind fun y h2 => (cmpA op x y h2).bind fun z h3 =>
  tst z ((c φ s h3).bind fun u h4 => cmpA op' y u h4) (.ok (.bl false) h3)
def eAnd (a b : EF) : EF := fun φ s h => (a φ s h).bind fun x h1 => tst x (b φ s h1) (.ok (.bl false) h1)
def eOr (a b : EF) : EF := fun φ s h => (a φ s h).bind fun x h1 => tst x (.ok (.bl true) h1) (b φ s h1)
/-- the last of and, or: a truth -/
def eB (a : EF) : EF := fun φ s h => (a φ s h).bind fun x h1 => tst x (.ok (.bl true) h1) (.ok (.bl false) h1)
def eNot (a : EF) : EF := fun φ s h => (a φ s h).bind fun x h1 => tst x (.ok (.bl false) h1) (.ok (.bl true) h1)
def eIf (c a b : EF) : EF := fun φ s h => (c φ s h).bind fun x h1 => tst x (a φ s h1) (b φ s h1)
def eCall (f : Nat) (a : AF) : EF := fun φ s h => (a φ s h).bind fun xs h1 => φ 0 f xs h1

/-! ### places -/
def ixN (n : Nat) (i : Int) : Option Nat := if 0 ≤ i then (if i < n then some i.toNat else none) else if -(n : Int) ≤ i then some (i + n).toNat else none
def atI {α : Type} (xs : List α) (i : Int) : Option α := (ixN xs.length i).bind fun j => xs[j]?
/-- an end of a slice, as a place -/
def sIx (n d : Nat) : Option Int → Nat
  | none => d
  | some i => if 0 ≤ i then min i.toNat n else (i + n).toNat
def cut {α : Type} (xs : List α) (lo hi : Option Int) : List α := (xs.drop (sIx xs.length 0 lo)).take (sIx xs.length xs.length hi - sIx xs.length 0 lo)
def idxA (x i : AV) (h : AH) : Option AV :=
  match x, i with
  | .str a, .int i => if a.length ≤ SZ then (atI a i).map fun c => .str [c] else none
  | x, .int i => match seqOf x h with
    | some xs => atI xs i
    | none => match dctOf x h with
      | some kvs => getK (.int i) kvs
      | none => none
  | x, .str k => match dctOf x h with
    | some kvs => getK (.str k) kvs
    | none => none
  | _, _ => none
def eIdx (a i : EF) : EF := fun φ s h => (a φ s h).bind fun x h1 => (i φ s h1).bind fun y h2 => match idxA x y h2 with
  | some v => .ok v h2
  | none => .stuck
abbrev OF := Fn → St → AH → Out (Option Int)
def oNone : OF := fun _ _ h => .ok none h
def oSome (e : EF) : OF := fun φ s h => (e φ s h).bind fun x h1 => match x with
  | .int i => .ok (some i) h1
  | _ => .stuck
def sliceA (m : Bool) (x : AV) (lo hi : Option Int) (h : AH) : Out AV :=
  match x with
  | .str a => if a.length ≤ SZ then .ok (.str (cut a lo hi)) h else .stuck
  | .tup xs => .ok (.tup (cut xs lo hi)) h
  | .scr xs => mk m (cut xs lo hi) h
  | x => match seqOf x h with
    | some xs => mk m (cut xs lo hi) h
    | none => .stuck
def eSlc (m : Bool) (a : EF) (lo hi : OF) : EF := fun φ s h => (a φ s h).bind fun x h1 => (lo φ s h1).bind fun i h2 => (hi φ s h2).bind fun j h3 => sliceA m x i j h3

/-! ### builtins -/
def intsO : List AV → Option (List Int)
  | [] => some []
  | .int i :: r => (intsO r).map (i :: ·)
  | _ => none
def strsO : List AV → Option (List Tx)
  | [] => some []
  | .str i :: r => (strsO r).map (i :: ·)
  | _ => none
/-- pairs of numbers alone -/
def prsO : List AV → Option (List (Int × Int))
  | [] => some []
  | .tup [.int i, .int j] :: r => (prsO r).map ((i, j) :: ·)
  | _ => none
def prA (p : Int × Int) : AV := .tup [.int p.1, .int p.2]
def ins {α : Type} (lt : α → α → Bool) (x : α) : List α → List α
  | [] => [x]
  | y :: r => if lt y x then y :: ins lt x r else x :: y :: r
/-- sorted by inserting -/
def isort {α : Type} (lt : α → α → Bool) : List α → List α
  | [] => []
  | x :: r => ins lt x (isort lt r)
def ilt (a b : Int) : Bool := decide (a < b)
def plt (a b : Int × Int) : Bool := decide (a.1 < b.1) || (decide (a.1 = b.1) && decide (a.2 < b.2))
def sortA (xs : List AV) : Option (List AV) :=
  match intsO xs with
  | some is => some ((isort ilt is).map .int)
  | none => match strsO xs with
    | some ss => if ss.length < 64 then some ((isort txLt ss).map .str) else none
    | none => match prsO xs with
      | some ts => some ((isort plt ts).map prA)
      | none => none
/-- the first of the greatest -/
def maxOf {α : Type} (lt : α → α → Bool) : α → List α → α
  | a, [] => a
  | a, b :: r => maxOf lt (if lt a b then b else a) r
def minOf {α : Type} (lt : α → α → Bool) : α → List α → α
  | a, [] => a
  | a, b :: r => minOf lt (if lt b a then b else a) r
def maxA (xs : List AV) : Option AV :=
  match intsO xs with
  | some (i :: is) => some (.int (maxOf ilt i is))
  | some [] => none
  | none => match prsO xs with
    | some (t :: ts) => some (prA (maxOf plt t ts))
    | _ => none
def minA (xs : List AV) : Option AV :=
  match intsO xs with
  | some (i :: is) => some (.int (minOf ilt i is))
  | some [] => none
  | none => match prsO xs with
    | some (t :: ts) => some (prA (minOf plt t ts))
    | _ => none
/-- the signs of a number -/
def natTx (n : Nat) : Tx := (Nat.toDigits 10 n).map Char.toNat
def intTx (i : Int) : Tx := if i < 0 then 45 :: natTx i.natAbs else natTx i.natAbs
def numTx (acc : Nat) : Tx → Option Nat
  | [] => some acc
  | c :: r => if 48 ≤ c ∧ c ≤ 57 then numTx (acc * 10 + (c - 48)) r else none

inductive UB where | len | abs | int | str | sum | sorted (m : Bool) | list (m : Bool) | tuple | max | min | dict (m : Bool)
def mkD (m : Bool) (kvs : List (AV × AV)) (h : AH) : Out AV := if m then .ok (.ref h.length) (.dct kvs :: h) else .ok (.dct kvs) h
/-- pairs laid one after another; a key told again keeps its place -/
def putAll : List (AV × AV) → List AV → Option (List (AV × AV))
  | kvs, [] => some kvs
  | kvs, .tup [k, v] :: r => if isKey k then putAll (putK k v kvs) r else none
  | _, _ => none
/-- of the items themselves -/
def uL (b : UB) (xs : List AV) (h : AH) : Out AV :=
  match b with
  | .sum => match intsO xs with
    | some is => .ok (.int is.sum) h
    | none => .stuck
  | .sorted m => match sortA xs with
    | some ys => mk m ys h
    | none => .stuck
  | .max => match maxA xs with
    | some v => .ok v h
    | none => .stuck
  | .min => match minA xs with
    | some v => .ok v h
    | none => .stuck
  | .list m => mk m xs h
  | .tuple => .ok (.tup xs) h
  | _ => .stuck
def uA (b : UB) (x : AV) (h : AH) : Out AV :=
  match b with
  | .len => match x with
    | .str a => if a.length ≤ SZ then .ok (.int a.length) h else .stuck
    | x => match seqOf x h with
      | some xs => .ok (.int xs.length) h
      | none => match dctOf x h with
        | some kvs => .ok (.int kvs.length) h
        | none => .stuck
  | .abs => match x with
    | .int i => .ok (.int (if i < 0 then -i else i)) h
    | _ => .stuck
  | .int => match x with
    | .int i => .ok (.int i) h
    | .bl b => .ok (.int (if b then 1 else 0)) h
    | .str (c :: a) => if (c :: a).length ≤ 640 then (match numTx 0 (c :: a) with
      | some n => .ok (.int n) h
      | none => .stuck) else .stuck
    | _ => .stuck
  | .str => match x with
    | .int i => if i.natAbs.log2 < 1920 then .ok (.str (intTx i)) h else .stuck
    | _ => .stuck
  | .list m => match seqOf x h with
    | some xs => mk m xs h
    | none => match dctOf x h with
      | some kvs => mk m (kvs.map (·.1)) h
      | none => .stuck
  | .tuple => match seqOf x h with
    | some xs => .ok (.tup xs) h
    | none => .stuck
  | .dict m => match lstOf x h with
    | some xs => match putAll [] xs with
      | some kvs => mkD m kvs h
      | none => .stuck
    | none => .stuck
  | .sum => match seqOf x h with
    | some xs => uL .sum xs h
    | none => .stuck
  | .sorted m => match lstOf x h with
    | some xs => uL (.sorted m) xs h
    | none => match dctOf x h with
      | some kvs => if kvs.length < 64 then uL (.sorted m) (kvs.map (·.1)) h else .stuck
      | none => .stuck
  | b => match lstOf x h with
    | some xs => uL b xs h
    | none => .stuck
def eU (b : UB) (a : EF) : EF := fun φ s h => (a φ s h).bind fun x h1 => uA b x h1
def mmA (mx : Bool) (x y : AV) : Option AV :=
  match x, y with
  | .int i, .int j => some (.int (if mx then (if j > i then j else i) else (if j < i then j else i)))
  | _, _ => none
/-- max(a, b), min(a, b) -/
def eMM (mx : Bool) (a b : EF) : EF := fun φ s h => (a φ s h).bind fun x h1 => (b φ s h1).bind fun y h2 => match mmA mx x y with
  | some v => .ok v h2
  | none => .stuck

/-! ### texts -/
def splitGo (c : Nat) : Tx → Tx → List Tx
  | acc, [] => [acc]
  | acc, d :: r => if d = c then acc :: splitGo c [] r else splitGo c (acc ++ [d]) r
/-- a text parted by one sign -/
def splitTx (a : Tx) (c : Nat) : List Tx := splitGo c [] a
def joinTx (sep : Tx) : List Tx → Tx
  | [] => []
  | [a] => a
  | a :: b :: r => a ++ sep ++ joinTx sep (b :: r)
def eStarts (a : EF) (p : Tx) : EF := fun φ s h => (a φ s h).bind fun x h1 => match x with
  | .str t => .ok (.bl (p.isPrefixOf t)) h1
  | _ => .stuck
def eSplit (m : Bool) (a : EF) (c : Nat) : EF := fun φ s h => (a φ s h).bind fun x h1 => match x with
  | .str t => if t.length + 2 ≤ SZ then mkLst m ((splitTx t c).map .str) h1 else .stuck
  | _ => .stuck
def eJoin (sep : Tx) (a : EF) : EF := fun φ s h => (a φ s h).bind fun x h1 => match seqOf x h1 with
  | some xs => match strsO xs with
    | some ss => if (ss.map List.length).sum + ss.length * sep.length ≤ SZ then .ok (.str (joinTx sep ss)) h1 else .stuck
    | none => .stuck
  | none => .stuck
/-- the parts of an f-string: texts and whole numbers -/
def fsPart : AV → Option Tx
  | .str a => if a.length ≤ 4000 then some a else none
  | .int i => if i.natAbs.log2 < 1920 then some (intTx i) else none
  | _ => none
def fsGo (φ : Fn) (s : St) : List EF → Tx → AH → Out AV
  | [], acc, h => .ok (.str acc) h
  | e :: es, acc, h => (e φ s h).bind fun x h1 => match fsPart x with
    | some t => fsGo φ s es (acc ++ t) h1
    | none => .stuck
def eFs (es : List EF) : EF := fun φ s h => fsGo φ s es [] h

def rng (lo : Int) : Nat → List AV
  | 0 => []
  | n + 1 => .int lo :: rng (lo + 1) n
def rngOk (i : Int) : Bool := decide (-(2 ^ 62) ≤ i ∧ i < 2 ^ 62)
/-- list(range(a, b)) -/
def eLRg (m : Bool) (a b : EF) : EF := fun φ s h => (a φ s h).bind fun x h1 => (b φ s h1).bind fun y h2 => match x, y with
  | .int i, .int j => if rngOk i && rngOk j && decide ((j - i).toNat ≤ SZ) then mk m (rng i (j - i).toNat) h2 else .stuck
  | _, _ => .stuck
/-! ### what is walked: the items, and what must stay as it is meanwhile -/
abbrev Gd := List (Nat × AO)
def gOk (g : Gd) (h : AH) : Bool := g.all fun p => decide (hget h p.1 = some p.2)
abbrev IF_ := Fn → St → AH → Out (List AV × Gd)
def gdOf (v : AV) (h : AH) : Gd :=
  match v with
  | .ref i => match hget h i with
    | some o => [(i, o)]
    | none => []
  | _ => []
def iSeq (a : EF) : IF_ := fun φ s h => (a φ s h).bind fun x h1 => match x with
  | .str t => .ok (t.map fun c => .str [c], []) h1
  | x => match seqOf x h1 with
    | some xs => .ok (xs, gdOf x h1) h1
    | none => .stuck
def iRng1 (a : EF) : IF_ := fun φ s h => (a φ s h).bind fun x h1 => match x with
  | .int j => if rngOk j then .ok (rng 0 j.toNat, []) h1 else .stuck
  | _ => .stuck
def iRng2 (a b : EF) : IF_ := fun φ s h => (a φ s h).bind fun x h1 => (b φ s h1).bind fun y h2 => match x, y with
  | .int i, .int j => if rngOk i && rngOk j then .ok (rng i (j - i).toNat, []) h2 else .stuck
  | _, _ => .stuck
def enumL (k : Int) : List AV → List AV
  | [] => []
  | x :: r => .tup [.int k, x] :: enumL (k + 1) r
def iEnum (a : EF) : IF_ := fun φ s h => (a φ s h).bind fun x h1 => match seqOf x h1 with
  | some xs => .ok (enumL 0 xs, gdOf x h1) h1
  | none => .stuck
def zipL : List AV → List AV → List AV
  | x :: r, y :: u => .tup [x, y] :: zipL r u
  | _, _ => []
def iZip (a b : EF) : IF_ := fun φ s h => (a φ s h).bind fun x h1 => (b φ s h1).bind fun y h2 => match seqOf x h2, seqOf y h2 with
  | some xs, some ys => match x, y with
    | .tup _, .tup _ => .ok (zipL xs ys, []) h2
    | .tup _, _ => .stuck
    | _, .tup _ => .stuck
    | x, y => .ok (zipL xs ys, gdOf x h2 ++ gdOf y h2) h2
  | _, _ => .stuck

/-! ### targets -/
abbrev TF := AV → St → Option St
def gN (i : Nat) : TF := fun v s => some (s.set i (some v))
def gsNil : List AV → St → Option St
  | [], s => some s
  | _, _ => none
def gsCons (g : TF) (gs : List AV → St → Option St) : List AV → St → Option St
  | v :: r, s => (g v s).bind fun s1 => gs r s1
  | [], _ => none
def gT (gs : List AV → St → Option St) : TF := fun v s => match v with
  | .tup xs => gs xs s
  | _ => none

/-! ### comprehensions -/
def wipe (s : St) : List Nat → St
  | [] => s
  | v :: vs => (wipe s vs).set v none
def lcGo (φ : Fn) (g : TF) (c e : EF) (s0 : St) (gd : Gd) : List AV → AH → Out (List AV)
  | [], h => if gOk gd h then .ok [] h else .stuck
  | x :: r, h => if gOk gd h then (match g x s0 with
    | none => .stuck
    | some s1 => (c φ s1 h).bind fun b h1 => tst b ((e φ s1 h1).bind fun y h2 => (lcGo φ g c e s0 gd r h2).bind fun ys h3 => .ok (y :: ys) h3) (lcGo φ g c e s0 gd r h1)) else .stuck
/-- what a comprehension lets out: no error -/
def quiet {α : Type} (o : Out α) : Out α :=
  match o with
  | .ok a h => .ok a h
  | _ => .stuck
@[simp] theorem quiet_ok {α : Type} (a : α) (h : AH) : quiet (.ok a h) = .ok a h := rfl
def eLc (m : Bool) (own : List Nat) (it : IF_) (g : TF) (c e : EF) : EF := fun φ s h => (it φ s h).bind fun p h1 =>
  if p.1.length < SZ then (quiet (lcGo φ g c e (wipe s own) p.2 p.1 h1)).bind fun ys h2 => mkLst m ys h2 else .stuck
def eYes : EF := eC (.bl true)

/-! generator expressions, used up at once; s0 the slots -/
def anyGo (φ : Fn) (g : TF) (c e : EF) (s0 : St) (gd : Gd) : List AV → AH → Out Bool
  | [], h => if gOk gd h then .ok false h else .stuck
  | x :: r, h => if gOk gd h then (match g x s0 with
    | none => .stuck
    | some s1 => (c φ s1 h).bind fun b h1 => tst b ((e φ s1 h1).bind fun y h2 => tst y (.ok true h2) (anyGo φ g c e s0 gd r h2)) (anyGo φ g c e s0 gd r h1)) else .stuck
def eAny (own : List Nat) (it : IF_) (g : TF) (c e : EF) : EF := fun φ s h => (it φ s h).bind fun p h1 =>
  (quiet (anyGo φ g c e (wipe s own) p.2 p.1 h1)).bind fun b h2 => .ok (.bl b) h2
/-- the other uses: sum, tuple, sorted, min of all that comes -/
def eGen (b : UB) (own : List Nat) (it : IF_) (g : TF) (c e : EF) : EF := fun φ s h => (it φ s h).bind fun p h1 =>
  if p.1.length < SZ then (quiet (lcGo φ g c e (wipe s own) p.2 p.1 h1)).bind fun ys h2 => uL b ys h2 else .stuck

/-! ### statements -/
def sNil : SF := fun _ s h => .ok (.nx s) h
def seqK (φ : Fn) (b : SF) (f : Fl) (h1 : AH) : Out Fl := match f with
  | .nx s1 => b φ s1 h1
  | f => .ok f h1
def sSeq (a b : SF) : SF := fun φ s h => (a φ s h).bind (seqK φ b)
def sSet (g : TF) (e : EF) : SF := fun φ s h => (e φ s h).bind fun v h1 => match g v s with
  | some s1 => .ok (.nx s1) h1
  | none => .stuck
def setA (o i v : AV) (h : AH) : Option AH :=
  match o with
  | .ref r => match hget h r with
    | some (.lst xs) => match i with
      | .int k => (ixN xs.length k).map fun j => hset h r (.lst (xs.set j v))
      | _ => none
    | some (.dct kvs) => if isKey i && decide (kvs.length < SZ) then some (hset h r (.dct (putK i v kvs))) else none
    | _ => none
  | _ => none
/-- o[i] = e -/
def sPut (o i e : EF) : SF := fun φ s h => (e φ s h).bind fun v h1 => (o φ s h1).bind fun x h2 => (i φ s h2).bind fun k h3 => match setA x k v h3 with
  | some h4 => .ok (.nx s) h4
  | none => .stuck
/-- a name op= e -/
def sAug (i : Nat) (op : BO) (e : EF) : SF := fun φ s h => match s[i]? with
  | some (some x) => (e φ s h).bind fun y h1 => match x, y with
    | .int a, .int b => match intOp op a b with
      | some k => .ok (.nx (s.set i (some (.int k)))) h1
      | none => .stuck
    | _, _ => .stuck
  | _ => .stuck
/-- o[i] op= e -/
def sAugI (o i : EF) (op : BO) (e : EF) : SF := fun φ s h => (o φ s h).bind fun x h1 => (i φ s h1).bind fun k h2 => match idxA x k h2 with
  | some (.int a) => (e φ s h2).bind fun y h3 => match y with
    | .int b => match intOp op a b with
      | some c => match setA x k (.int c) h3 with
        | some h4 => .ok (.nx s) h4
        | none => .stuck
      | none => .stuck
    | _ => .stuck
  | _ => .stuck
def sExp (e : EF) : SF := fun φ s h => (e φ s h).bind fun _ h1 => .ok (.nx s) h1
def sRet (e : EF) : SF := fun φ s h => (e φ s h).bind fun v h1 => .ok (.rt v) h1
def sIf (c : EF) (a b : SF) : SF := fun φ s h => (c φ s h).bind fun x h1 => tst x (a φ s h1) (b φ s h1)
def sBrk : SF := fun _ s h => .ok (.bk s) h
def sCnt : SF := fun _ s h => .ok (.ct s) h
def sRaise (c : Nat) : SF := fun _ _ h => .exc c h
def forGo (φ : Fn) (g : TF) (b : SF) (gd : Gd) : List AV → St → AH → Out Fl
  | [], s, h => if gOk gd h then .ok (.nx s) h else .stuck
  | x :: r, s, h => if gOk gd h then (match g x s with
    | none => .stuck
    | some s1 => (b φ s1 h).bind fun f h1 => match f with
      | .nx s2 => forGo φ g b gd r s2 h1
      | .ct s2 => forGo φ g b gd r s2 h1
      | .bk s2 => .ok (.nx s2) h1
      | .rt v => .ok (.rt v) h1) else .stuck
def sFor (it : IF_) (g : TF) (b : SF) : SF := fun φ s h => (it φ s h).bind fun p h1 => forGo φ g b p.2 p.1 s h1
def WF : Nat := 1000000000000
def whGo (φ : Fn) (c : EF) (b : SF) : Nat → St → AH → Out Fl
  | 0, _, _ => .stuck
  | n + 1, s, h => (c φ s h).bind fun x h1 => tst x ((b φ s h1).bind fun f h2 => match f with
      | .nx s2 => whGo φ c b n s2 h2
      | .ct s2 => whGo φ c b n s2 h2
      | .bk s2 => .ok (.nx s2) h2
      | .rt v => .ok (.rt v) h2) (.ok (.nx s) h1)
def sWhile (c : EF) (b : SF) : SF := fun φ s h => whGo φ c b WF s h

/-! ### a def's call -/
/-- behind a call: what was made meanwhile and is named by nothing is let go -/
def gcOk (n : Nat) : AH → AH → Bool
  | [], [] => true
  | o :: r, u :: v => (u.under n || decide (o = u)) && gcOk n r v
  | _, _ => false
def gcRet (h : AH) (v : AV) (h' : AH) : Out AV :=
  if v.under h.length && gcOk h.length h (h'.drop (h'.length - h.length)) then .ok v (h'.drop (h'.length - h.length)) else .ok v h'
def gcExc (h : AH) (c : Nat) (h' : AH) : Out AV :=
  if gcOk h.length h (h'.drop (h'.length - h.length)) then .exc c (h'.drop (h'.length - h.length)) else .exc c h'
structure Def where
  names : Nat
  pars : Nat
  body : SF
def start (n : Nat) (vs : List AV) : St := vs.map some ++ List.replicate (n - vs.length) none
def runDef (d : Def) (φ : Fn) (vs : List AV) (h : AH) : Out AV :=
  if vs.length = d.pars then (match d.body φ (start d.names vs) h with
    | .ok (.rt v) h1 => gcRet h v h1
    | .ok (.nx _) h1 => gcRet h .non h1
    | .exc c h1 => gcExc h c h1
    | _ => .stuck) else .stuck
abbrev Prog := Nat → Option Def
def pg (P : Prog) : Nat → Fn
  | 0 => fun _ _ _ _ => .stuck
  | d + 1 => fun i => match i with
    | 0 => fun f vs h => match P f with
      | some D => runDef D (pg P d) vs h
      | none => .stuck
    | i + 1 => pg P d i
/-! ### heaps as lists -/
theorem hget_lt : ∀ {h : AH} {i : Nat} {o : AO}, hget h i = some o → i < h.length
  | [], _, _, e => by simp [hget] at e
  | o :: h, i, u, e => by
    unfold hget at e
    split at e
    · simp; omega
    · have := hget_lt e; simp; omega
theorem hget_of_lt : ∀ {h : AH} {i : Nat}, i < h.length → ∃ o, hget h i = some o
  | [], _, e => by simp at e
  | o :: h, i, e => by
    unfold hget
    split
    · exact ⟨_, rfl⟩
    · refine hget_of_lt ?_
      simp at e
      omega
@[simp] theorem hset_length : ∀ (h : AH) (i : Nat) (u : AO), (hset h i u).length = h.length
  | [], _, _ => rfl
  | o :: h, i, u => by
    unfold hset
    split
    · rfl
    · simp [hset_length h i u]
theorem hget_hset : ∀ {h : AH} {i j : Nat} {u : AO}, i < h.length → hget (hset h i u) j = if j = i then some u else hget h j
  | [], _, _, _, e => by simp at e
  | o :: h, i, j, u, e => by
    unfold hset
    split
    · rename_i hi
      subst hi
      unfold hget
      split <;> rfl
    · rename_i hi
      have hi2 : i < h.length := by simp at e; omega
      show (if j = (hset h i u).length then some o else hget (hset h i u) j) = _
      rw [hset_length, hget_hset hi2]
      by_cases hj : j = h.length
      · rw [if_pos hj, if_neg (by omega)]
        subst hj
        simp [hget]
      · rw [if_neg hj]
        split
        · rfl
        · simp [hget, hj]
/-! ### what is told of a lambda -/
/-- which classes the clause names -/
abbrev Ct := Nat → Option Bool
def told (w : Ct) (ret : Tx) (o : Out AV) : Out AV :=
  match o with
  | .ok v h => .ok v h
  | .exc c h => if w c = some true then .ok (.str ret) h else .stuck
  | .stuck => .stuck
def eTold (w : Ct) (ret : Tx) (e : EF) : EF := fun φ s h => told w ret (e φ s h)
def ctOf (w : List Nat) : Ct := fun c => if c ∈ w then some true else none
/-- each is told of, each is refused -/
def toldAll (w : Ct) (ret : Tx) (φ : Fn) (s : St) : List EF → AH → Option AH
  | [], h => some h
  | f :: fs, h => match told w ret (f φ s h) with
    | .ok (.str t) h1 => if t = ret then toldAll w ret φ s fs h1 else none
    | _ => none
/-- bad = [lambda: .., ..], then what stands behind it with the answer «nothing was let through» -/
def sBad (kb : Nat) (es : List EF) (w : Ct) (ret : Tx) (b : SF) : SF := fun φ s h => match s[kb]? with
  | some none => (match toldAll w ret φ s es h with
    | some h1 => b φ s h1
    | none => .stuck)
  | _ => .stuck
/-! ### a list grows -/
def appA (x v : AV) (h : AH) : Option AH :=
  match x with
  | .ref r => match hget h r with
    | some (.lst xs) => if xs.length < SZ then some (hset h r (.lst (xs ++ [v]))) else none
    | _ => none
  | _ => none
/-- o.append(e) -/
def eApp (o e : EF) : EF := fun φ s h => (o φ s h).bind fun x h1 => match lstOf x h1 with
  | some _ => (e φ s h1).bind fun v h2 => match appA x v h2 with
    | some h3 => .ok .non h3
    | none => .stuck
  | none => .stuck
/-! ### classes: c the class's number, f an attribute's name -/
def fget (f : Tx) : List (Tx × AV) → Option AV
  | [] => none
  | (g, v) :: r => if g = f then some v else fget f r
def fput (f : Tx) (v : AV) : List (Tx × AV) → List (Tx × AV)
  | [] => [(f, v)]
  | (g, x) :: r => if g = f then (g, v) :: r else (g, x) :: fput f v r
def insOf (x : AV) (h : AH) : Option (Nat × List (Tx × AV)) :=
  match x with
  | .ref i => match hget h i with
    | some (.ins c fs) => some (c, fs)
    | _ => none
  | _ => none
/-- an attribute of an instance of one of the classes cs -/
def fldA (cs : List Nat) (f : Tx) (x : AV) (h : AH) : Option AV := match insOf x h with
  | some (c, fs) => if c ∈ cs then fget f fs else none
  | none => none
def eFld (cs : List Nat) (f : Tx) (o : EF) : EF := fun φ s h => (o φ s h).bind fun x h1 => match fldA cs f x h1 with
  | some v => .ok v h1
  | none => .stuck
def setF (cs : List Nat) (f : Tx) (x v : AV) (h : AH) : Option AH := match x with
  | .ref i => match hget h i with
    | some (.ins c fs) => if c ∈ cs ∧ fs.length < 1000 then some (hset h i (.ins c (fput f v fs))) else none
    | _ => none
  | _ => none
/-- o.f = e -/
def sFld (cs : List Nat) (f : Tx) (o e : EF) : SF := fun φ s h => (e φ s h).bind fun v h1 => (o φ s h1).bind fun x h2 => match setF cs f x v h2 with
  | some h3 => .ok (.nx s) h3
  | none => .stuck
/-- o.f op= e, whole numbers -/
def sFldA (cs : List Nat) (f : Tx) (o : EF) (op : BO) (e : EF) : SF := fun φ s h => (o φ s h).bind fun x h1 => match insOf x h1 with
  | some (c, fs) => if c ∈ cs then (match fget f fs with
    | some (.int a) => (e φ s h1).bind fun y h2 => match y with
      | .int b => match intOp op a b with
        | some k => match setF [c] f x (.int k) h2 with
          | some h3 => .ok (.nx s) h3
          | none => .stuck
        | none => .stuck
      | _ => .stuck
    | _ => .stuck) else .stuck
  | none => .stuck
/-- o.m(..): of an instance of class c, the def fi -/
def eMeth (c : Nat) (m : Tx) (fi : Nat) (o : EF) (a : AF) : EF := fun φ s h => (o φ s h).bind fun x h1 => match insOf x h1 with
  | some (c', fs) => if c' = c ∧ fget m fs = none then (a φ s h1).bind fun vs h2 => φ 0 fi (x :: vs) h2 else .stuck
  | none => .stuck
/-- one reading, or another -/
def eAlt (a b : EF) : EF := fun φ s h => match a φ s h with
  | .stuck => b φ s h
  | r => r
/-- C(..): fi its __init__, dvs what stands for arguments that are not given -/
def mkIns (φ : Fn) (c fi : Nat) (vs : List AV) (h : AH) : Out AV := match φ 0 fi (.ref h.length :: vs) (.ins c [] :: h) with
  | .ok .non h2 => .ok (.ref h.length) h2
  | .exc e h2 => .exc e h2
  | _ => .stuck
def eMake (c fi : Nat) (dvs : List AV) (a : AF) : EF := fun φ s h => (a φ s h).bind fun vs h1 => mkIns φ c fi (vs ++ dvs) h1
/-! ### a tail that looks at no object made before -/
/-- the rest, run on no objects at all -/
def sCl (b : SF) : SF := fun φ s h => match b φ (List.replicate s.length none) [] with
  | .ok (.rt v) _ => if v.under 0 then .ok (.rt v) h else .stuck
  | .exc c _ => .exc c h
  | _ => .stuck
end TX

/-! TxA2: more pieces of the pure domain: displays of dicts, min of many, tuple(range), count -/
set_option autoImplicit false
namespace TX
/-- the pairs of a display, from the left -/
def dpGo (φ : Fn) (s : St) : List (EF × EF) → AH → Out (List (AV × AV))
  | [], h => .ok [] h
  | (k, v) :: r, h => (k φ s h).bind fun x h1 => (v φ s h1).bind fun y h2 => if isKey x then (dpGo φ s r h2).bind fun ps h3 => .ok ((x, y) :: ps) h3 else .stuck
def putsL : List (AV × AV) → List (AV × AV) → List (AV × AV)
  | kvs, [] => kvs
  | kvs, (k, v) :: r => putsL (putK k v kvs) r
/-- {k: v, ..} -/
def eDct (m : Bool) (ps : List (EF × EF)) : EF := fun φ s h => if ps.length ≤ 15 then (dpGo φ s ps h).bind fun kvs h1 => mkD m (putsL [] kvs) h1 else .stuck
/-- min of seven -/
def eMin7 (a : AF) : EF := fun φ s h => (a φ s h).bind fun xs h1 => match intsO xs with
  | some (i :: ns) => if ns.length = 6 then .ok (.int (minOf ilt i ns)) h1 else .stuck
  | _ => .stuck
/-- tuple(range(a, b)) -/
def eTRg (a b : EF) : EF := fun φ s h => (a φ s h).bind fun x h1 => (b φ s h1).bind fun y h2 => match x, y with
  | .int i, .int j => if rngOk i && rngOk j && decide ((j - i).toNat ≤ SZ) then .ok (.tup (rng i (j - i).toNat)) h2 else .stuck
  | _, _ => .stuck
/-- o.count(e): whole numbers -/
def cntA (x y : AV) (h : AH) : Option AV := match lstOf x h, y with
  | some xs, .int k => (intsO xs).map fun ns => .int (ns.count k)
  | _, _ => none
def eCount (o e : EF) : EF := fun φ s h => (o φ s h).bind fun x h1 => match lstOf x h1 with
  | some _ => (e φ s h1).bind fun y h2 => match cntA x y h2 with
    | some v => .ok v h2
    | none => .stuck
  | none => .stuck
end TX

/-! LawA: plain lemmas about the interpreter, for plain laws -/
set_option Elab.async false
set_option linter.all false
set_option autoImplicit false
namespace TL
open TX
theorem pg_one {P : Prog} {n i : Nat} {d : Def} {xs : List AV} {h : AH} (e : P i = some d) : pg P (n + 1) 0 i xs h = runDef d (pg P n) xs h := by
  show (match P i with | some D => runDef D (pg P n) xs h | none => .stuck) = _
  rw [e]
@[simp] theorem out_bind_ok {α β : Type} (a : α) (h : AH) (f : α → AH → Out β) : (Out.ok a h).bind f = f a h := rfl
@[simp] theorem out_bind_exc {α β : Type} (c : Nat) (h : AH) (f : α → AH → Out β) : (Out.exc c h : Out α).bind f = .exc c h := rfl
@[simp] theorem gcRet_same (h : AH) (v : AV) : gcRet h v h = .ok v h := by
  unfold gcRet
  split
  · rw [Nat.sub_self, List.drop_zero]
  · rfl
@[simp] theorem gcExc_same (h : AH) (c : Nat) : gcExc h c h = .exc c h := by
  unfold gcExc
  split
  · rw [Nat.sub_self, List.drop_zero]
  · rfl
/-- what a def's end makes of it -/
def finO (h : AH) (o : Out Fl) : Out AV := match o with
  | .ok (.rt v) h1 => gcRet h v h1
  | .ok (.nx _) h1 => gcRet h .non h1
  | .exc c h1 => gcExc h c h1
  | _ => .stuck
theorem runDef_fin {d : Def} {φ : Fn} {vs : List AV} {h : AH} (e : vs.length = d.pars) : runDef d φ vs h = finO h (d.body φ (start d.names vs) h) := by
  unfold runDef
  rw [if_pos e]
  rfl
@[simp] theorem finO_rt (h h1 : AH) (v : AV) : finO h (.ok (.rt v) h1) = gcRet h v h1 := rfl
@[simp] theorem finO_nx (h h1 : AH) (s : St) : finO h (.ok (.nx s) h1) = gcRet h .non h1 := rfl
@[simp] theorem finO_exc (h h1 : AH) (c : Nat) : finO h (.exc c h1) = gcExc h c h1 := rfl
theorem finO_ite (h : AH) (c : Prop) [Decidable c] (a b : Out Fl) : finO h (if c then a else b) = if c then finO h a else finO h b := by split <;> rfl
/-- a comprehension that leaves the heap as it is -/
theorem lc_pure {φ : Fn} {g : TF} {c e : EF} {s0 : St} {gd : Gd} {h : AH} (hk : gOk gd h = true) (st : AV → St) (p : AV → Bool) (F : AV → AV) : ∀ (items : List AV),
    (∀ x ∈ items, g x s0 = some (st x) ∧ c φ (st x) h = .ok (.bl (p x)) h ∧ (p x = true → e φ (st x) h = .ok (F x) h)) → lcGo φ g c e s0 gd items h = .ok ((items.filter p).map F) h
  | [], _ => by unfold lcGo; rw [if_pos hk]; rfl
  | x :: r, hx => by
    obtain ⟨h1, h2, h3⟩ := hx x List.mem_cons_self
    have ih := lc_pure hk st p F r fun y hy => hx y (List.mem_cons_of_mem _ hy)
    unfold lcGo
    rw [if_pos hk, h1]
    simp only [h2, out_bind_ok, tst_bl]
    cases hp : p x with
    | true => simp [h3 hp, ih, hp]
    | false => simp [ih, hp]
theorem rng_map : ∀ (n : Nat) (lo : Int), rng lo n = (List.range n).map fun (i : Nat) => AV.int (lo + i)
  | 0, _ => rfl
  | n + 1, lo => by
    rw [rng, rng_map n (lo + 1), List.range_succ_eq_map, List.map_cons, List.map_map]
    congr 1
    · simp
    · refine List.map_congr_left fun i _ => ?_
      show AV.int (lo + 1 + i) = AV.int (lo + ((i + 1 : Nat) : Int))
      congr 1
      push_cast
      omega
theorem ints_of (is : List Int) : intsO (is.map .int) = some is := by
  induction is with
  | nil => rfl
  | cons a r ih => simp [intsO, ih]
theorem strs_of (ss : List Tx) : strsO (ss.map .str) = some ss := by
  induction ss with
  | nil => rfl
  | cons a r ih => simp [strsO, ih]
theorem prs_of (ts : List (Int × Int)) : prsO (ts.map prA) = some ts := by
  induction ts with
  | nil => rfl
  | cons a r ih => simp [prsO, prA] at ih ⊢; simp [ih]
end TL

/-! LawS: how simp walks through combinators: outermost first, and behind a bind nothing is looked at before its turn -/
set_option Elab.async false
set_option linter.all false
set_option autoImplicit false
namespace TL
open TX
theorem bind_cg {α β : Type} {o o' : Out α} {f : α → AH → Out β} (e : o = o') : o.bind f = o'.bind f := by rw [e]
@[simp ↓] theorem bind_ok' {α β : Type} (a : α) (h : AH) (f : α → AH → Out β) : (Out.ok a h).bind f = f a h := rfl
@[simp ↓] theorem ap_eC (v : AV) (z0 : Fn) (z1 : St) (h : AH) : eC v z0 z1 h = .ok v h := rfl
@[simp ↓] theorem ap_eV (i : Nat) (z0 : Fn) (s : St) (h : AH) : eV i z0 s h = match s[i]? with
  | some (some v) => .ok v h
  | _ => .stuck := rfl
@[simp ↓] theorem ap_aNil (z0 : Fn) (z1 : St) (h : AH) : aNil z0 z1 h = .ok [] h := rfl
@[simp ↓] theorem ap_aCons (e : EF) (a : AF) (φ : Fn) (s : St) (h : AH) : aCons e a φ s h = (e φ s h).bind fun x h1 => (a φ s h1).bind fun xs h2 => .ok (x :: xs) h2 := rfl
@[simp ↓] theorem ap_eTup (a : AF) (φ : Fn) (s : St) (h : AH) : eTup a φ s h = (a φ s h).bind fun xs h1 => if xs.length ≤ SZ then .ok (.tup xs) h1 else .stuck := rfl
@[simp ↓] theorem ap_eLst (m : Bool) (a : AF) (φ : Fn) (s : St) (h : AH) : eLst m a φ s h = (a φ s h).bind fun xs h1 => mkLst m xs h1 := rfl
@[simp ↓] theorem ap_eBin (m : Bool) (op : BO) (a b : EF) (φ : Fn) (s : St) (h : AH) : eBin m op a b φ s h = (a φ s h).bind fun x h1 => (b φ s h1).bind fun y h2 => binA m op x y h2 := rfl
@[simp ↓] theorem ap_eNeg (a : EF) (φ : Fn) (s : St) (h : AH) : eNeg a φ s h = (a φ s h).bind fun x h1 => match x with
  | .int i => .ok (.int (-i)) h1
  | _ => .stuck := rfl
@[simp ↓] theorem ap_eCmp (op : CO) (a b : EF) (φ : Fn) (s : St) (h : AH) : eCmp op a b φ s h = (a φ s h).bind fun x h1 => (b φ s h1).bind fun y h2 => cmpA op x y h2 := rfl
@[simp ↓] theorem ap_eChain (op op' : CO) (a b c : EF) (φ : Fn) (s : St) (h : AH) : eChain op op' a b c φ s h = (a φ s h).bind fun x h1 => (b φ s h1).bind fun y h2 => (cmpA op x y h2).bind fun z h3 =>
  tst z ((c φ s h3).bind fun u h4 => cmpA op' y u h4) (.ok (.bl false) h3) := rfl
@[simp ↓] theorem ap_eAnd (a b : EF) (φ : Fn) (s : St) (h : AH) : eAnd a b φ s h = (a φ s h).bind fun x h1 => tst x (b φ s h1) (.ok (.bl false) h1) := rfl
@[simp ↓] theorem ap_eOr (a b : EF) (φ : Fn) (s : St) (h : AH) : eOr a b φ s h = (a φ s h).bind fun x h1 => tst x (.ok (.bl true) h1) (b φ s h1) := rfl
@[simp ↓] theorem ap_eB (a : EF) (φ : Fn) (s : St) (h : AH) : eB a φ s h = (a φ s h).bind fun x h1 => tst x (.ok (.bl true) h1) (.ok (.bl false) h1) := rfl
@[simp ↓] theorem ap_eNot (a : EF) (φ : Fn) (s : St) (h : AH) : eNot a φ s h = (a φ s h).bind fun x h1 => tst x (.ok (.bl false) h1) (.ok (.bl true) h1) := rfl
@[simp ↓] theorem ap_eIf (c a b : EF) (φ : Fn) (s : St) (h : AH) : eIf c a b φ s h = (c φ s h).bind fun x h1 => tst x (a φ s h1) (b φ s h1) := rfl
@[simp ↓] theorem ap_eCall (f : Nat) (a : AF) (φ : Fn) (s : St) (h : AH) : eCall f a φ s h = (a φ s h).bind fun xs h1 => φ 0 f xs h1 := rfl
@[simp ↓] theorem ap_eIdx (a i : EF) (φ : Fn) (s : St) (h : AH) : eIdx a i φ s h = (a φ s h).bind fun x h1 => (i φ s h1).bind fun y h2 => match idxA x y h2 with
  | some v => .ok v h2
  | none => .stuck := rfl
@[simp ↓] theorem ap_oNone (z0 : Fn) (z1 : St) (h : AH) : oNone z0 z1 h = .ok none h := rfl
@[simp ↓] theorem ap_oSome (e : EF) (φ : Fn) (s : St) (h : AH) : oSome e φ s h = (e φ s h).bind fun x h1 => match x with
  | .int i => .ok (some i) h1
  | _ => .stuck := rfl
@[simp ↓] theorem ap_eSlc (m : Bool) (a : EF) (lo hi : OF) (φ : Fn) (s : St) (h : AH) : eSlc m a lo hi φ s h = (a φ s h).bind fun x h1 => (lo φ s h1).bind fun i h2 => (hi φ s h2).bind fun j h3 => sliceA m x i j h3 := rfl
@[simp ↓] theorem ap_eU (b : UB) (a : EF) (φ : Fn) (s : St) (h : AH) : eU b a φ s h = (a φ s h).bind fun x h1 => uA b x h1 := rfl
@[simp ↓] theorem ap_eMM (mx : Bool) (a b : EF) (φ : Fn) (s : St) (h : AH) : eMM mx a b φ s h = (a φ s h).bind fun x h1 => (b φ s h1).bind fun y h2 => match mmA mx x y with
  | some v => .ok v h2
  | none => .stuck := rfl
@[simp ↓] theorem ap_eStarts (a : EF) (p : Tx) (φ : Fn) (s : St) (h : AH) : eStarts a p φ s h = (a φ s h).bind fun x h1 => match x with
  | .str t => .ok (.bl (p.isPrefixOf t)) h1
  | _ => .stuck := rfl
@[simp ↓] theorem ap_eSplit (m : Bool) (a : EF) (c : Nat) (φ : Fn) (s : St) (h : AH) : eSplit m a c φ s h = (a φ s h).bind fun x h1 => match x with
  | .str t => if t.length + 2 ≤ SZ then mkLst m ((splitTx t c).map .str) h1 else .stuck
  | _ => .stuck := rfl
@[simp ↓] theorem ap_eJoin (sep : Tx) (a : EF) (φ : Fn) (s : St) (h : AH) : eJoin sep a φ s h = (a φ s h).bind fun x h1 => match seqOf x h1 with
  | some xs => match strsO xs with
    | some ss => if (ss.map List.length).sum + ss.length * sep.length ≤ SZ then .ok (.str (joinTx sep ss)) h1 else .stuck
    | none => .stuck
  | none => .stuck := rfl
@[simp ↓] theorem ap_eFs (es : List EF) (φ : Fn) (s : St) (h : AH) : eFs es φ s h = fsGo φ s es [] h := rfl
@[simp ↓] theorem ap_eLRg (m : Bool) (a b : EF) (φ : Fn) (s : St) (h : AH) : eLRg m a b φ s h = (a φ s h).bind fun x h1 => (b φ s h1).bind fun y h2 => match x, y with
  | .int i, .int j => if rngOk i && rngOk j && decide ((j - i).toNat ≤ SZ) then mk m (rng i (j - i).toNat) h2 else .stuck
  | _, _ => .stuck := rfl
@[simp ↓] theorem ap_iSeq (a : EF) (φ : Fn) (s : St) (h : AH) : iSeq a φ s h = (a φ s h).bind fun x h1 => match x with
  | .str t => .ok (t.map fun c => .str [c], []) h1
  | x => match seqOf x h1 with
    | some xs => .ok (xs, gdOf x h1) h1
    | none => .stuck := rfl
@[simp ↓] theorem ap_iRng1 (a : EF) (φ : Fn) (s : St) (h : AH) : iRng1 a φ s h = (a φ s h).bind fun x h1 => match x with
  | .int j => if rngOk j then .ok (rng 0 j.toNat, []) h1 else .stuck
  | _ => .stuck := rfl
@[simp ↓] theorem ap_iRng2 (a b : EF) (φ : Fn) (s : St) (h : AH) : iRng2 a b φ s h = (a φ s h).bind fun x h1 => (b φ s h1).bind fun y h2 => match x, y with
  | .int i, .int j => if rngOk i && rngOk j then .ok (rng i (j - i).toNat, []) h2 else .stuck
  | _, _ => .stuck := rfl
@[simp ↓] theorem ap_iEnum (a : EF) (φ : Fn) (s : St) (h : AH) : iEnum a φ s h = (a φ s h).bind fun x h1 => match seqOf x h1 with
  | some xs => .ok (enumL 0 xs, gdOf x h1) h1
  | none => .stuck := rfl
@[simp ↓] theorem ap_iZip (a b : EF) (φ : Fn) (s : St) (h : AH) : iZip a b φ s h = (a φ s h).bind fun x h1 => (b φ s h1).bind fun y h2 => match seqOf x h2, seqOf y h2 with
  | some xs, some ys => match x, y with
    | .tup _, .tup _ => .ok (zipL xs ys, []) h2
    | .tup _, _ => .stuck
    | _, .tup _ => .stuck
    | x, y => .ok (zipL xs ys, gdOf x h2 ++ gdOf y h2) h2
  | _, _ => .stuck := rfl
@[simp ↓] theorem ap_gN (i : Nat) (v : AV) (s : St) : gN i v s = some (s.set i (some v)) := rfl
@[simp ↓] theorem ap_gT (gs : List AV → St → Option St) (v : AV) (s : St) : gT gs v s = match v with
  | .tup xs => gs xs s
  | _ => none := rfl
@[simp ↓] theorem ap_eLc (m : Bool) (own : List Nat) (it : IF_) (g : TF) (c e : EF) (φ : Fn) (s : St) (h : AH) : eLc m own it g c e φ s h = (it φ s h).bind fun p h1 =>
  if p.1.length < SZ then (quiet (lcGo φ g c e (wipe s own) p.2 p.1 h1)).bind fun ys h2 => mkLst m ys h2 else .stuck := rfl
@[simp ↓] theorem ap_eAny (own : List Nat) (it : IF_) (g : TF) (c e : EF) (φ : Fn) (s : St) (h : AH) : eAny own it g c e φ s h = (it φ s h).bind fun p h1 =>
  (quiet (anyGo φ g c e (wipe s own) p.2 p.1 h1)).bind fun b h2 => .ok (.bl b) h2 := rfl
@[simp ↓] theorem ap_eGen (b : UB) (own : List Nat) (it : IF_) (g : TF) (c e : EF) (φ : Fn) (s : St) (h : AH) : eGen b own it g c e φ s h = (it φ s h).bind fun p h1 =>
  if p.1.length < SZ then (quiet (lcGo φ g c e (wipe s own) p.2 p.1 h1)).bind fun ys h2 => uL b ys h2 else .stuck := rfl
@[simp ↓] theorem ap_sNil (z0 : Fn) (s : St) (h : AH) : sNil z0 s h = .ok (.nx s) h := rfl
@[simp ↓] theorem ap_sSeq (a b : SF) (φ : Fn) (s : St) (h : AH) : sSeq a b φ s h = (a φ s h).bind (seqK φ b) := rfl
@[simp ↓] theorem ap_sSet (g : TF) (e : EF) (φ : Fn) (s : St) (h : AH) : sSet g e φ s h = (e φ s h).bind fun v h1 => match g v s with
  | some s1 => .ok (.nx s1) h1
  | none => .stuck := rfl
@[simp ↓] theorem ap_sPut (o i e : EF) (φ : Fn) (s : St) (h : AH) : sPut o i e φ s h = (e φ s h).bind fun v h1 => (o φ s h1).bind fun x h2 => (i φ s h2).bind fun k h3 => match setA x k v h3 with
  | some h4 => .ok (.nx s) h4
  | none => .stuck := rfl
@[simp ↓] theorem ap_sAug (i : Nat) (op : BO) (e : EF) (φ : Fn) (s : St) (h : AH) : sAug i op e φ s h = match s[i]? with
  | some (some x) => (e φ s h).bind fun y h1 => match x, y with
    | .int a, .int b => match intOp op a b with
      | some k => .ok (.nx (s.set i (some (.int k)))) h1
      | none => .stuck
    | _, _ => .stuck
  | _ => .stuck := rfl
@[simp ↓] theorem ap_sAugI (o i : EF) (op : BO) (e : EF) (φ : Fn) (s : St) (h : AH) : sAugI o i op e φ s h = (o φ s h).bind fun x h1 => (i φ s h1).bind fun k h2 => match idxA x k h2 with
  | some (.int a) => (e φ s h2).bind fun y h3 => match y with
    | .int b => match intOp op a b with
      | some c => match setA x k (.int c) h3 with
        | some h4 => .ok (.nx s) h4
        | none => .stuck
      | none => .stuck
    | _ => .stuck
  | _ => .stuck := rfl
@[simp ↓] theorem ap_sExp (e : EF) (φ : Fn) (s : St) (h : AH) : sExp e φ s h = (e φ s h).bind fun _ h1 => .ok (.nx s) h1 := rfl
@[simp ↓] theorem ap_sRet (e : EF) (φ : Fn) (s : St) (h : AH) : sRet e φ s h = (e φ s h).bind fun v h1 => .ok (.rt v) h1 := rfl
@[simp ↓] theorem ap_sIf (c : EF) (a b : SF) (φ : Fn) (s : St) (h : AH) : sIf c a b φ s h = (c φ s h).bind fun x h1 => tst x (a φ s h1) (b φ s h1) := rfl
@[simp ↓] theorem ap_sBrk (z0 : Fn) (s : St) (h : AH) : sBrk z0 s h = .ok (.bk s) h := rfl
@[simp ↓] theorem ap_sCnt (z0 : Fn) (s : St) (h : AH) : sCnt z0 s h = .ok (.ct s) h := rfl
@[simp ↓] theorem ap_sRaise (c : Nat) (z0 : Fn) (z1 : St) (h : AH) : sRaise c z0 z1 h = .exc c h := rfl
@[simp ↓] theorem ap_sFor (it : IF_) (g : TF) (b : SF) (φ : Fn) (s : St) (h : AH) : sFor it g b φ s h = (it φ s h).bind fun p h1 => forGo φ g b p.2 p.1 s h1 := rfl
@[simp ↓] theorem ap_sWhile (c : EF) (b : SF) (φ : Fn) (s : St) (h : AH) : sWhile c b φ s h = whGo φ c b WF s h := rfl
@[simp ↓] theorem ap_eTold (w : Ct) (ret : Tx) (e : EF) (φ : Fn) (s : St) (h : AH) : eTold w ret e φ s h = told w ret (e φ s h) := rfl
@[simp ↓] theorem ap_sBad (kb : Nat) (es : List EF) (w : Ct) (ret : Tx) (b : SF) (φ : Fn) (s : St) (h : AH) : sBad kb es w ret b φ s h = match s[kb]? with
  | some none => (match toldAll w ret φ s es h with
    | some h1 => b φ s h1
    | none => .stuck)
  | _ => .stuck := rfl
@[simp ↓] theorem ap_eApp (o e : EF) (φ : Fn) (s : St) (h : AH) : eApp o e φ s h = (o φ s h).bind fun x h1 => match lstOf x h1 with
  | some _ => (e φ s h1).bind fun v h2 => match appA x v h2 with
    | some h3 => .ok .non h3
    | none => .stuck
  | none => .stuck := rfl
@[simp ↓] theorem ap_eFld (cs : List Nat) (f : Tx) (o : EF) (φ : Fn) (s : St) (h : AH) : eFld cs f o φ s h = (o φ s h).bind fun x h1 => match fldA cs f x h1 with
  | some v => .ok v h1
  | none => .stuck := rfl
@[simp ↓] theorem ap_sFld (cs : List Nat) (f : Tx) (o e : EF) (φ : Fn) (s : St) (h : AH) : sFld cs f o e φ s h = (e φ s h).bind fun v h1 => (o φ s h1).bind fun x h2 => match setF cs f x v h2 with
  | some h3 => .ok (.nx s) h3
  | none => .stuck := rfl
@[simp ↓] theorem ap_sFldA (cs : List Nat) (f : Tx) (o : EF) (op : BO) (e : EF) (φ : Fn) (s : St) (h : AH) : sFldA cs f o op e φ s h = (o φ s h).bind fun x h1 => match insOf x h1 with
  | some (c, fs) => if c ∈ cs then (match fget f fs with
    | some (.int a) => (e φ s h1).bind fun y h2 => match y with
      | .int b => match intOp op a b with
        | some k => match setF [c] f x (.int k) h2 with
          | some h3 => .ok (.nx s) h3
          | none => .stuck
        | none => .stuck
      | _ => .stuck
    | _ => .stuck) else .stuck
  | none => .stuck := rfl
@[simp ↓] theorem ap_eMeth (c : Nat) (m : Tx) (fi : Nat) (o : EF) (a : AF) (φ : Fn) (s : St) (h : AH) : eMeth c m fi o a φ s h = (o φ s h).bind fun x h1 => match insOf x h1 with
  | some (c', fs) => if c' = c ∧ fget m fs = none then (a φ s h1).bind fun vs h2 => φ 0 fi (x :: vs) h2 else .stuck
  | none => .stuck := rfl
@[simp ↓] theorem ap_eAlt (a b : EF) (φ : Fn) (s : St) (h : AH) : eAlt a b φ s h = match a φ s h with
  | .stuck => b φ s h
  | r => r := rfl
@[simp ↓] theorem ap_eMake (c fi : Nat) (dvs : List AV) (a : AF) (φ : Fn) (s : St) (h : AH) : eMake c fi dvs a φ s h = (a φ s h).bind fun vs h1 => mkIns φ c fi (vs ++ dvs) h1 := rfl
@[simp ↓] theorem ap_eYes (φ : Fn) (s : St) (h : AH) : eYes φ s h = .ok (.bl true) h := rfl
@[simp] theorem seqK_nx (φ : Fn) (b : SF) (s : St) (h : AH) : seqK φ b (.nx s) h = b φ s h := rfl
@[simp] theorem seqK_rt (φ : Fn) (b : SF) (v : AV) (h : AH) : seqK φ b (.rt v) h = .ok (.rt v) h := rfl
@[simp] theorem seqK_bk (φ : Fn) (b : SF) (s : St) (h : AH) : seqK φ b (.bk s) h = .ok (.bk s) h := rfl
@[simp] theorem seqK_ct (φ : Fn) (b : SF) (s : St) (h : AH) : seqK φ b (.ct s) h = .ok (.ct s) h := rfl
/-! values -/
@[simp] theorem SZ_eq : SZ = 16777216 := rfl
@[simp] theorem small_lit (n : Nat) : small (no_index (OfNat.ofNat n : Int)) = decide (n < 18446744073709551616) := by
  unfold small
  have e : (OfNat.ofNat n : Int) = (n : Int) := rfl
  rw [e]
  congr 1
  apply propext
  omega
@[simp] theorem small_neg (i : Int) : small (-i) = small i := by
  unfold small
  congr 1
  apply propext
  omega
theorem small_of {i : Int} (h1 : -18446744073709551616 < i) (h2 : i < 18446744073709551616) : small i = true := by
  unfold small
  simp
  omega
@[simp] theorem add_int (m : Bool) (i j : Int) (h : AH) : binA m .add (.int i) (.int j) h = .ok (.int (i + j)) h := rfl
@[simp] theorem sub_int (m : Bool) (i j : Int) (h : AH) : binA m .sub (.int i) (.int j) h = .ok (.int (i - j)) h := rfl
@[simp] theorem mul_int (m : Bool) {i j : Int} (h : AH) (e : (small i || small j) = true) : binA m .mul (.int i) (.int j) h = .ok (.int (i * j)) h := by
  show (match intOp .mul i j with | some k => Out.ok (AV.int k) h | none => .stuck) = _
  unfold intOp
  rw [if_pos e]
@[simp] theorem mod_int (m : Bool) {i j : Int} (h : AH) (e : j ≠ 0) : binA m .mod (.int i) (.int j) h = .ok (.int (i.fmod j)) h := by
  show (match intOp .mod i j with | some k => Out.ok (AV.int k) h | none => .stuck) = _
  unfold intOp
  rw [if_pos e]
@[simp] theorem div_int (m : Bool) {i j : Int} (h : AH) (e : j ≠ 0) (e2 : j.natAbs < 1073741824) : binA m .div (.int i) (.int j) h = .ok (.int (i.fdiv j)) h := by
  show (match intOp .div i j with | some k => Out.ok (AV.int k) h | none => .stuck) = _
  unfold intOp
  rw [if_pos (show j ≠ 0 ∧ j.natAbs < 1073741824 from ⟨e, e2⟩)]
@[simp] theorem add_str (m : Bool) (a b : Tx) (h : AH) : binA m .add (.str a) (.str b) h = if a.length + b.length ≤ 16777216 then .ok (.str (a ++ b)) h else .stuck := rfl
@[simp] theorem lt_int (i j : Int) (h : AH) : cmpA .lt (.int i) (.int j) h = .ok (.bl (decide (i < j))) h := rfl
@[simp] theorem gt_int (i j : Int) (h : AH) : cmpA .gt (.int i) (.int j) h = .ok (.bl (decide (j < i))) h := rfl
@[simp] theorem le_int (i j : Int) (h : AH) : cmpA .le (.int i) (.int j) h = .ok (.bl (decide (i ≤ j))) h := by
  show Out.ok (AV.bl (!decide (j < i))) h = _
  congr 2
  by_cases e : j < i
  · simp [e]
  · simp [e]; omega
@[simp] theorem ge_int (i j : Int) (h : AH) : cmpA .ge (.int i) (.int j) h = .ok (.bl (decide (j ≤ i))) h := by
  show Out.ok (AV.bl (!decide (i < j))) h = _
  congr 2
  by_cases e : i < j
  · simp [e]
  · simp [e]; omega
@[simp] theorem eq_int (i j : Int) (h : AH) : cmpA .eq (.int i) (.int j) h = .ok (.bl (decide (i = j))) h := by
  show someB (eqA (.int i) (.int j)) h = _
  simp [someB, eqA, AV.flat]
@[simp] theorem ne_int (i j : Int) (h : AH) : cmpA .ne (.int i) (.int j) h = .ok (.bl (!decide (i = j))) h := by
  show someB (notO (eqA (.int i) (.int j))) h = _
  simp [someB, eqA, AV.flat, notO]
@[simp] theorem eq_str (a b : Tx) (h : AH) : cmpA .eq (.str a) (.str b) h = .ok (.bl (decide (a = b))) h := by
  show someB (eqA (.str a) (.str b)) h = _
  simp [someB, eqA, AV.flat]
@[simp] theorem ne_str (a b : Tx) (h : AH) : cmpA .ne (.str a) (.str b) h = .ok (.bl (!decide (a = b))) h := by
  show someB (notO (eqA (.str a) (.str b))) h = _
  simp [someB, eqA, AV.flat, notO]
@[simp] theorem eq_int_str (a : Int) (b : Tx) (h : AH) : cmpA .eq (.int a) (.str b) h = .ok (.bl false) h := by
  show someB (eqA (.int a) (.str b)) h = _
  simp [someB, eqA, AV.flat]
@[simp] theorem ne_int_str (a : Int) (b : Tx) (h : AH) : cmpA .ne (.int a) (.str b) h = .ok (.bl true) h := by
  show someB (notO (eqA (.int a) (.str b))) h = _
  simp [someB, eqA, AV.flat, notO]
@[simp] theorem is_non (x : AV) (h : AH) : cmpA .isN x .non h = .ok (.bl (decide (x = .non))) h := rfl
@[simp] theorem isnt_non (x : AV) (h : AH) : cmpA .notN x .non h = .ok (.bl (!decide (x = .non))) h := rfl
theorem in_flat {x : AV} {ys : List AV} {h : AH} (e1 : x.flat = true) (e2 : ys.all AV.flat = true) : inA x (.tup ys) h = some (ys.any fun z => decide (z = x)) := by
  have : inA x (.tup ys) h = (if x.flat && ys.all AV.flat then some (ys.any fun z => decide (z = x)) else none) := by
    cases x <;> rfl
  rw [this]
  simp [e1, e2]
@[simp] theorem in_tup {x : AV} {ys : List AV} {h : AH} (e : (x.flat && ys.all AV.flat) = true) : cmpA .inn x (.tup ys) h = .ok (.bl (ys.any fun z => decide (z = x))) h := by
  show someB (inA x (.tup ys) h) h = _
  simp only [Bool.and_eq_true] at e
  rw [in_flat e.1 e.2]
  rfl
@[simp] theorem notin_tup {x : AV} {ys : List AV} {h : AH} (e : (x.flat && ys.all AV.flat) = true) : cmpA .notIn x (.tup ys) h = .ok (.bl (!(ys.any fun z => decide (z = x)))) h := by
  show someB (notO (inA x (.tup ys) h)) h = _
  simp only [Bool.and_eq_true] at e
  rw [in_flat e.1 e.2]
  rfl
@[simp] theorem in_sign (c : Nat) (b : Tx) (h : AH) : cmpA .inn (.str [c]) (.str b) h = .ok (.bl (decide (c ∈ b))) h := rfl
@[simp] theorem notin_sign (c : Nat) (b : Tx) (h : AH) : cmpA .notIn (.str [c]) (.str b) h = .ok (.bl (!decide (c ∈ b))) h := rfl
@[simp] theorem flat_int (i : Int) : (AV.int i).flat = true := rfl
@[simp] theorem flat_str (a : Tx) : (AV.str a).flat = true := rfl
@[simp] theorem flat_non : AV.non.flat = true := rfl
@[simp] theorem seq_tup (xs : List AV) (h : AH) : seqOf (.tup xs) h = some xs := rfl
@[simp] theorem seq_lst (xs : List AV) (h : AH) : seqOf (.lst xs) h = some xs := rfl
@[simp] theorem lst_lst (xs : List AV) (h : AH) : lstOf (.lst xs) h = some xs := rfl
@[simp] theorem seq_ref (i : Nat) (h : AH) : seqOf (.ref i) h = match hget h i with | some (.lst xs) => some xs | _ => none := rfl
@[simp] theorem lst_ref (i : Nat) (h : AH) : lstOf (.ref i) h = match hget h i with | some (.lst xs) => some xs | _ => none := rfl
@[simp] theorem gd_lst (xs : List AV) (h : AH) : gdOf (.lst xs) h = [] := rfl
@[simp] theorem gd_tup (xs : List AV) (h : AH) : gdOf (.tup xs) h = [] := rfl
@[simp] theorem gOk_nil (h : AH) : gOk [] h = true := rfl
@[simp] theorem mk_f (xs : List AV) (h : AH) : mk false xs h = .ok (.lst xs) h := rfl
@[simp] theorem mk_t (xs : List AV) (h : AH) : mk true xs h = .ok (.ref h.length) (.lst xs :: h) := rfl
@[simp] theorem mkLst_eq (m : Bool) (xs : List AV) (h : AH) : mkLst m xs h = if xs.length ≤ 16777216 then mk m xs h else .stuck := rfl
@[simp] theorem len_str (a : Tx) (h : AH) : uA .len (.str a) h = if a.length ≤ 16777216 then .ok (.int a.length) h else .stuck := rfl
@[simp] theorem len_lst (xs : List AV) (h : AH) : uA .len (.lst xs) h = .ok (.int xs.length) h := rfl
@[simp] theorem len_tup (xs : List AV) (h : AH) : uA .len (.tup xs) h = .ok (.int xs.length) h := rfl
@[simp] theorem abs_int (i : Int) (h : AH) : uA .abs (.int i) h = .ok (.int (if i < 0 then -i else i)) h := rfl
@[simp] theorem int_int (i : Int) (h : AH) : uA .int (.int i) h = .ok (.int i) h := rfl
@[simp] theorem int_bl (b : Bool) (h : AH) : uA .int (.bl b) h = .ok (.int (if b then 1 else 0)) h := rfl
theorem ap_runDef {P : Prog} {n i : Nat} {d : Def} {xs : List AV} {h : AH} (e : P i = some d) (e2 : xs.length = d.pars) : pg P (n + 1) 0 i xs h = finO h (d.body (pg P n) (start d.names xs) h) := by
  rw [pg_one e, runDef_fin e2]
@[simp] theorem finO_ite' (h : AH) (c : Prop) [Decidable c] (a b : Out Fl) : finO h (if c then a else b) = if c then finO h a else finO h b := by split <;> rfl
theorem finO_cg {h : AH} {o o' : Out Fl} (e : o = o') : finO h o = finO h o' := by rw [e]
end TL

/-! LawR: the dice, the rolls, the rounds: alike in every law -/
set_option Elab.async false
set_option linter.all false
set_option autoImplicit false
set_option maxRecDepth 100000
set_option maxHeartbeats 2000000
namespace TL
open TX
def rollF (q : Nat) : SF :=
  (sSeq (sIf (eOr (eCmp .eq (eIdx (eV 0) (eC (.int 2))) (eC (.int 2))) (eB (eAnd (eCmp .eq (eIdx (eV 0) (eC (.int 2))) (eC (.int 1))) (eB (eCmp .gt (eIdx (eV 0) (eC (.int 0))) (eC (.int 0))))))) (sSeq (sSet (gN 2) (eBin false .mod (eU .int (eIdx (eV 0) (eC (.int 0)))) (eV 1))) (sSeq (sPut (eV 0) (eC (.int 0)) (eBin false .div (eIdx (eV 0) (eC (.int 0))) (eV 1))) (sSeq (sRet (eV 2)) sNil))) sNil) (sSeq (sPut (eV 0) (eC (.int 2)) (eC (.int 0))) (sSeq (sIf (eCmp .gt (eV 1) (eC (.int 100000000))) (sSeq (sRet (eBin false .mod (eU .int (eBin false .add (eBin false .mul (eCall q (aCons (eV 0) (aCons (eBin false .add (eBin false .div (eV 1) (eC (.int 100000000))) (eC (.int 1))) aNil))) (eC (.int 100000000))) (eCall q (aCons (eV 0) (aCons (eC (.int 100000000)) aNil))))) (eV 1))) sNil) sNil) (sSeq (sPut (eV 0) (eC (.int 0)) (eBin false .mod (eU .int (eBin false .add (eBin false .add (eBin false .mul (eIdx (eV 0) (eC (.int 0))) (eC (.int 48271))) (eBin false .mul (eIdx (eV 0) (eC (.int 1))) (eC (.int 69621)))) (eC (.int 11)))) (eC (.int 2147483647)))) (sSeq (sPut (eV 0) (eC (.int 1)) (eBin false .add (eIdx (eV 0) (eC (.int 1))) (eC (.int 1)))) (sSeq (sRet (eBin false .mod (eU .int (eBin false .div (eIdx (eV 0) (eC (.int 0))) (eC (.int 7)))) (eV 1))) sNil))))))
def diceF : SF :=
  (sSeq (sIf (eChain .lt .lt (eBin false .sub (eC (.int 0)) (eC (.int 10))) (eV 0) (eC (.int 10))) (sSeq (sRet (eLst true (aCons (eU .abs (eV 0)) (aCons (eC (.int 0)) (aCons (eC (.int 2)) aNil))))) sNil) sNil) (sSeq (sRet (eLst true (aCons (eV 0) (aCons (eBin false .add (eC (.int 1)) (eBin false .mod (eU .int (eV 0)) (eC (.int 1009)))) (aCons (eU .int (eCmp .ge (eV 0) (eBin false .pow (eC (.int 10)) (eC (.int 18))))) aNil))))) sNil))
def roundsF (q : Nat) : SF :=
  (sSeq (sSet (gN 2) (eSlc false (eV 0) oNone (oSome (eV 1)))) (sSeq (sIf (eCmp .eq (eV 2) (eLst false aNil)) (sSeq (sSet (gN 2) (eLst false (aCons (eC (.int 0)) aNil))) sNil) sNil) (sSeq (sRet (eLc false [3] (iSeq (eV 2)) (gN 3) eYes (eCall q (aCons (eV 3) aNil)))) sNil)))
theorem gcRet_len {h h' : AH} (v : AV) (e : h'.length = h.length) : gcRet h v h' = .ok v h' := by
  unfold gcRet
  split
  · rw [e, Nat.sub_self, List.drop_zero]
  · rfl
theorem hset_hset : ∀ (h : AH) (i : Nat) (u w : AO), hset (hset h i u) i w = hset h i w
  | [], _, _, _ => rfl
  | o :: h, i, u, w => by
    by_cases e : i = h.length
    · simp [hset, e]
    · simp [hset, e, hset_hset h i u w]
theorem hget_same {h : AH} {i : Nat} {u : AO} (hi : i < h.length) : hget (hset h i u) i = some u := by rw [hget_hset hi, if_pos rfl]
/-- the dice: a list of three whole numbers -/
def Dice (h : AH) (r : Nat) : Prop := ∃ a c f : Int, hget h r = some (.lst [.int a, .int c, .int f])
theorem roll_ok {P : Prog} {q n r : Nat} (pq : P q = some ⟨3, 2, rollF q⟩) {h : AH} {m : Int} (hd : Dice h r) (hm : 1 ≤ m) (hm2 : m ≤ 100000000) :
    ∃ v a c f : Int, pg P (n + 1) 0 q [.ref r, .int m] h = .ok (.int v) (hset h r (.lst [.int a, .int c, .int f])) ∧ 0 ≤ v ∧ v < m := by
  obtain ⟨a, c, f, e⟩ := hd
  have hl := hget_lt e
  have m0 : m ≠ 0 := by omega
  have mA : m.natAbs < 1073741824 := by omega
  have g1 : ¬ 100000000 < m := by omega
  have s1 : small 48271 = true := by decide
  have s2 : small 69621 = true := by decide
  have fm : ∀ x : Int, 0 ≤ x.fmod m ∧ x.fmod m < m := fun x => ⟨Int.fmod_nonneg_of_pos x (by omega), Int.fmod_lt_of_pos x (by omega)⟩
  have b1 : (2147483647 : Int) ≠ 0 := by decide
  have b7 : (7 : Int).natAbs < 1073741824 := by decide
  rw [pg_one pq, runDef_fin rfl]
  by_cases c1 : f = 2 ∨ (f = 1 ∧ 0 < a)
  · refine ⟨a.fmod m, a.fdiv m, c, f, ?_, fm a⟩
    have q : (if f = 2 then true else if f = 1 then decide (0 < a) else false) = true := by
      rcases c1 with h1 | ⟨h1, h2⟩
      · simp [h1]
      · simp [h1, h2]
    rcases c1 with h1 | ⟨h1, h2⟩
    · simp [TX.start, rollF, sSeq, sIf, eOr, eAnd, eB, eCmp, cmpA, eIdx, idxA, seqOf, atI, ixN, eV, eC, ltS, ltA, someB, still, eqA, e, h1, AV.flat, seqK, sNil, sSet, gN, eBin, binA, intOp, m0, mA, eU, uA, sPut, setA, sRet, hget_same hl, gcRet_len]
    · simp [TX.start, rollF, sSeq, sIf, eOr, eAnd, eB, eCmp, cmpA, eIdx, idxA, seqOf, atI, ixN, eV, eC, ltS, ltA, someB, still, eqA, e, h1, h2, AV.flat, seqK, sNil, sSet, gN, eBin, binA, intOp, m0, mA, eU, uA, sPut, setA, sRet, hget_same hl, gcRet_len]
  · refine ⟨(((a * 48271 + c * 69621 + 11).fmod 2147483647).fdiv 7).fmod m, (a * 48271 + c * 69621 + 11).fmod 2147483647, c + 1, 0, ?_, fm _⟩
    have h1 : ¬ f = 2 := fun z => c1 (.inl z)
    by_cases h3 : f = 1
    · have h2 : ¬ 0 < a := fun z => c1 (.inr ⟨h3, z⟩)
      simp [TX.start, rollF, sSeq, sIf, eOr, eAnd, eB, eCmp, cmpA, eIdx, idxA, seqOf, atI, ixN, eV, eC, ltS, ltA, someB, still, eqA, e, h1, h2, h3, AV.flat, seqK, sNil, sSet, gN, eBin, binA, intOp, m0, mA, eU, uA, sPut, setA, sRet, hget_same, hl, gcRet_len, g1, s1, s2, hset_hset]
    · simp [TX.start, rollF, sSeq, sIf, eOr, eAnd, eB, eCmp, cmpA, eIdx, idxA, seqOf, atI, ixN, eV, eC, ltS, ltA, someB, still, eqA, e, h1, h3, AV.flat, seqK, sNil, sSet, gN, eBin, binA, intOp, m0, mA, eU, uA, sPut, setA, sRet, hget_same, hl, gcRet_len, g1, s1, s2, hset_hset]
theorem gcRet_up {h : AH} {v : AV} {h' : AH} (e : v.under h.length = false) : gcRet h v h' = .ok v h' := by
  unfold gcRet
  simp [e]
theorem dice_ok {P : Prog} {q n : Nat} (pq : P q = some ⟨1, 1, diceF⟩) (z : Int) (h : AH) : ∃ a c f : Int, pg P (n + 1) 0 q [.int z] h = .ok (.ref h.length) (.lst [.int a, .int c, .int f] :: h) := by
  rw [pg_one pq, runDef_fin rfl]
  by_cases h1 : -10 < z
  · by_cases h2 : z < 10
    · simp [TX.start, diceF, sSeq, sIf, eChain, cmpA, ltA, eV, eC, eBin, binA, intOp, someB, sRet, eLst, aCons, aNil, mkLst, mk, eU, uA, SZ, h1, h2, seqK, gcRet_up, AV.under]
    · simp [TX.start, diceF, sSeq, sIf, eChain, eCmp, cmpA, ltA, ltS, notO, eV, eC, eBin, binA, intOp, someB, sRet, eLst, aCons, aNil, mkLst, mk, eU, uA, SZ, h1, h2, seqK, sNil, gcRet_up, AV.under]
  · simp [TX.start, diceF, sSeq, sIf, eChain, eCmp, cmpA, ltA, ltS, notO, eV, eC, eBin, binA, intOp, someB, sRet, eLst, aCons, aNil, mkLst, mk, eU, uA, SZ, h1, seqK, sNil, gcRet_up, AV.under]
theorem cut_one {α : Type} (xs : List α) : cut xs none (some 1) = xs.take 1 := by
  cases xs with
  | nil => simp [cut, sIx]
  | cons a r => simp [cut, sIx]
theorem rounds_ok {P : Prog} {q qd n : Nat} (pd : P qd = some ⟨1, 1, diceF⟩) (pr : P q = some ⟨4, 2, roundsF qd⟩) (ns : List Int) (h : AH) :
    ∃ a c f : Int, pg P (n + 2) 0 q [.scr (ns.map .int), .int 1] h = .ok (.lst [.ref h.length]) (.lst [.int a, .int c, .int f] :: h) := by
  have key : ∀ z : Int, ∃ a c f : Int, _ := fun z => dice_ok (n := n) pd z h
  cases ns with
  | nil =>
    obtain ⟨a, c, f, e⟩ := key 0
    refine ⟨a, c, f, ?_⟩
    rw [pg_one pr, runDef_fin rfl]
    simp [TX.start, roundsF, sSeq, sIf, eCmp, cmpA, eV, eC, someB, still, eqA, AV.data, AV.dataL, AV.dep, AV.depL, AV.flat, sSet, gN, eSlc, oNone, oSome, sliceA, mk, mkLst, eLst, aCons, aNil, cut_one, SZ, seqK, sRet, eLc, iSeq, seqOf, gdOf, wipe, lcGo, eYes, eCall, gOk, e, quiet, sNil, gcRet_up, AV.under, AV.underL]
  | cons z r =>
    obtain ⟨a, c, f, e⟩ := key z
    refine ⟨a, c, f, ?_⟩
    rw [pg_one pr, runDef_fin rfl]
    simp [TX.start, roundsF, sSeq, sIf, eCmp, cmpA, eV, eC, someB, still, eqA, AV.data, AV.dataL, AV.dep, AV.depL, AV.flat, sSet, gN, eSlc, oNone, oSome, sliceA, mk, mkLst, eLst, aCons, aNil, cut_one, SZ, seqK, sRet, eLc, iSeq, seqOf, gdOf, wipe, lcGo, eYes, eCall, gOk, e, quiet, sNil, gcRet_up, AV.under, AV.underL]
end TL

/-! LawT: lists, loops, heaps, for plain laws -/
set_option Elab.async false
set_option linter.all false
set_option autoImplicit false
set_option maxRecDepth 100000
namespace TL
open TX
/-- the items of a loop, told by a list of anything -/
theorem lc_map {β : Type} {φ : Fn} {g : TF} {c e : EF} {s0 : St} {gd : Gd} {h : AH} (f : β → AV) (F : β → AV) : ∀ {xs : List β}, gOk gd h = true →
    (∀ x ∈ xs, ∃ st, g (f x) s0 = some st ∧ c φ st h = .ok (.bl true) h ∧ e φ st h = .ok (F x) h) → lcGo φ g c e s0 gd (xs.map f) h = .ok (xs.map F) h
  | [], hk, _ => by
    show lcGo φ g c e s0 gd [] h = _
    unfold lcGo; rw [if_pos hk]; rfl
  | x :: r, hk, hx => by
    obtain ⟨st, h1, h2, h3⟩ := hx x List.mem_cons_self
    have ih := lc_map f F (xs := r) hk fun y hy => hx y (List.mem_cons_of_mem _ hy)
    show lcGo φ g c e s0 gd (f x :: r.map f) h = _
    unfold lcGo
    rw [if_pos hk, h1]
    simp only [h2, out_bind_ok, tst_bl, h3, ih, if_true, List.map_cons]
/-- with a test -/
theorem lc_filter {β : Type} {φ : Fn} {g : TF} {c e : EF} {s0 : St} {gd : Gd} {h : AH} (f : β → AV) (p : β → Bool) (F : β → AV) : ∀ {xs : List β}, gOk gd h = true →
    (∀ x ∈ xs, ∃ st, g (f x) s0 = some st ∧ c φ st h = .ok (.bl (p x)) h ∧ (p x = true → e φ st h = .ok (F x) h)) → lcGo φ g c e s0 gd (xs.map f) h = .ok ((xs.filter p).map F) h
  | [], hk, _ => by
    show lcGo φ g c e s0 gd [] h = _
    unfold lcGo; rw [if_pos hk]; rfl
  | x :: r, hk, hx => by
    obtain ⟨st, h1, h2, h3⟩ := hx x List.mem_cons_self
    have ih := lc_filter f p F (xs := r) hk fun y hy => hx y (List.mem_cons_of_mem _ hy)
    show lcGo φ g c e s0 gd (f x :: r.map f) h = _
    unfold lcGo
    rw [if_pos hk, h1]
    simp only [h2, out_bind_ok, tst_bl]
    cases hp : p x with
    | true => simp [h3 hp, ih, hp]
    | false => simp [ih, hp]
theorem any_map {β : Type} {φ : Fn} {g : TF} {c e : EF} {s0 : St} {gd : Gd} {h : AH} (f : β → AV) (p q : β → Bool) : ∀ {xs : List β}, gOk gd h = true →
    (∀ x ∈ xs, ∃ st, g (f x) s0 = some st ∧ c φ st h = .ok (.bl (p x)) h ∧ (p x = true → e φ st h = .ok (.bl (q x)) h)) → anyGo φ g c e s0 gd (xs.map f) h = .ok (xs.any fun x => p x && q x) h
  | [], hk, _ => by
    show anyGo φ g c e s0 gd [] h = _
    unfold anyGo; rw [if_pos hk]; rfl
  | x :: r, hk, hx => by
    obtain ⟨st, h1, h2, h3⟩ := hx x List.mem_cons_self
    have ih := any_map f p q (xs := r) hk fun y hy => hx y (List.mem_cons_of_mem _ hy)
    show anyGo φ g c e s0 gd (f x :: r.map f) h = _
    unfold anyGo
    rw [if_pos hk, h1]
    simp only [h2, out_bind_ok, tst_bl]
    cases hp : p x with
    | true => cases hq : q x <;> simp [h3 hp, ih, hp, hq]
    | false => simp [ih, hp]
/-- a for loop that goes through: what holds of the state, step by step -/
theorem for_rel {β γ : Type} {φ : Fn} {g : TF} {b : SF} {gd : Gd} (f : β → AV) (step : γ → β → γ) (R : γ → St → AH → Prop) (hk : ∀ c s h, R c s h → gOk gd h = true) : ∀ {xs : List β} {c : γ} {s : St} {h : AH},
    (∀ x ∈ xs, ∀ c s h, R c s h → ∃ s1 s2 h2, g (f x) s = some s1 ∧ (b φ s1 h = .ok (.nx s2) h2 ∨ b φ s1 h = .ok (.ct s2) h2) ∧ R (step c x) s2 h2) → R c s h →
    ∃ s2 h2, forGo φ g b gd (xs.map f) s h = .ok (.nx s2) h2 ∧ R (xs.foldl step c) s2 h2
  | [], c, s, h, _, hr => ⟨s, h, by show forGo φ g b gd [] s h = _; unfold forGo; rw [if_pos (hk c s h hr)], hr⟩
  | x :: r, c, s, h, hx, hr => by
    obtain ⟨s1, s2, h2, e1, e2, hr2⟩ := hx x List.mem_cons_self c s h hr
    obtain ⟨s3, h3, e3, hr3⟩ := for_rel f step R hk (fun y hy => hx y (List.mem_cons_of_mem _ hy)) hr2
    refine ⟨s3, h3, ?_, hr3⟩
    show forGo φ g b gd (f x :: r.map f) s h = _
    unfold forGo
    rw [if_pos (hk c s h hr), e1]
    rcases e2 with e2 | e2 <;> simp only [e2, out_bind_ok, e3]
/-- places and items -/
def zi {β : Type} (k : Int) : List β → List (Int × β)
  | [] => []
  | x :: r => (k, x) :: zi (k + 1) r
theorem enum_map {β : Type} (f : β → AV) : ∀ (xs : List β) (k : Int), enumL k (xs.map f) = (zi k xs).map fun p => .tup [.int p.1, f p.2]
  | [], _ => rfl
  | x :: r, k => by
    show AV.tup [.int k, f x] :: enumL (k + 1) (r.map f) = _
    rw [enum_map f r (k + 1)]
    rfl
theorem zi_mem {β : Type} {p : Int × β} : ∀ {xs : List β} {k : Int}, p ∈ zi k xs → ∃ i : Nat, xs[i]? = some p.2 ∧ p.1 = k + i
  | [], _, h => by cases h
  | x :: r, k, h => by
    rcases List.mem_cons.mp h with rfl | h
    · exact ⟨0, rfl, by simp⟩
    · obtain ⟨i, h1, h2⟩ := zi_mem h
      exact ⟨i + 1, by simpa using h1, by rw [h2]; push_cast; omega⟩
theorem zi_length {β : Type} : ∀ (xs : List β) (k : Int), (zi k xs).length = xs.length
  | [], _ => rfl
  | x :: r, k => by simp [zi, zi_length r]
theorem isort_length {α : Type} (lt : α → α → Bool) : ∀ xs : List α, (isort lt xs).length = xs.length := by
  have h : ∀ (x : α) (xs : List α), (ins lt x xs).length = xs.length + 1 := by
    intro x xs
    induction xs with
    | nil => rfl
    | cons y r ih => unfold ins; split <;> simp [ih]
  intro xs
  induction xs with
  | nil => rfl
  | cons x r ih => rw [isort, h, ih]; rfl
theorem ins_perm {α : Type} (lt : α → α → Bool) (x : α) : ∀ xs : List α, (ins lt x xs).Perm (x :: xs)
  | [] => .refl _
  | y :: r => by
    unfold ins
    split
    · exact (List.Perm.cons y (ins_perm lt x r)).trans (.swap x y r)
    · exact .refl _
theorem isort_perm {α : Type} (lt : α → α → Bool) : ∀ xs : List α, (isort lt xs).Perm xs
  | [] => .refl _
  | x :: r => (ins_perm lt x _).trans (List.Perm.cons x (isort_perm lt r))
theorem gcOk_refl (n : Nat) : ∀ h : AH, gcOk n h h = true
  | [] => rfl
  | o :: r => by simp [gcOk, gcOk_refl n r]
/-- what was made and is named by nothing is let go -/
theorem gcRet_drop {h : AH} {v : AV} (as : AH) (e : v.under h.length = true) : gcRet h v (as ++ h) = .ok v h := by
  unfold gcRet
  have e2 : ((as ++ h).drop ((as ++ h).length - h.length)) = h := by
    simp
  rw [e2, e, gcOk_refl]
  rfl
@[simp] theorem gcRet_one {h : AH} {v : AV} (o : AO) (e : v.under h.length = true) : gcRet h v (o :: h) = .ok v h := gcRet_drop [o] e
theorem underL_ints (n : Nat) : ∀ xs : List Int, AV.underL n (xs.map .int) = true
  | [] => rfl
  | x :: r => by show (AV.under n (.int x) && AV.underL n (r.map .int)) = true; rw [underL_ints n r]; rfl
@[simp] theorem under_tup_ints (n : Nat) (xs : List Int) : (AV.tup (xs.map .int)).under n = true := underL_ints n xs
@[simp] theorem sum_ints_lst (xs : List Int) (h : AH) : uA .sum (.lst (xs.map .int)) h = .ok (.int xs.sum) h := by
  show (match intsO (xs.map .int) with | some is => Out.ok (AV.int is.sum) h | none => .stuck) = _
  rw [ints_of]
@[simp] theorem sum_ints_tup (xs : List Int) (h : AH) : uA .sum (.tup (xs.map .int)) h = .ok (.int xs.sum) h := by
  show (match intsO (xs.map .int) with | some is => Out.ok (AV.int is.sum) h | none => .stuck) = _
  rw [ints_of]
theorem sum_ref {i : Nat} {h : AH} {xs : List Int} (e : hget h i = some (.lst (xs.map .int))) : uA .sum (.ref i) h = .ok (.int xs.sum) h := by
  show (match seqOf (.ref i) h with | some xs => uL .sum xs h | none => .stuck) = _
  have : seqOf (.ref i) h = some (xs.map .int) := by
    show (match hget h i with | some (.lst xs) => some xs | _ => none) = _
    rw [e]
  rw [this]
  show (match intsO (xs.map .int) with | some is => Out.ok (AV.int is.sum) h | none => .stuck) = _
  rw [ints_of]
@[simp] theorem hget_top (o : AO) (h : AH) : hget (o :: h) h.length = some o := by simp [hget]
@[simp] theorem hset_top (o u : AO) (h : AH) : hset (o :: h) h.length u = u :: h := by simp [hset]
theorem atI_nat {α : Type} {xs : List α} {i : Nat} (h : i < xs.length) : atI xs (i : Int) = xs[i]? := by
  unfold atI ixN
  simp [h]
theorem sort_ints (m : Bool) (xs : List Int) (h : AH) : uL (.sorted m) (xs.map .int) h = mk m ((isort ilt xs).map .int) h := by
  show (match sortA (xs.map .int) with | some ys => mk m ys h | none => .stuck) = _
  unfold sortA
  rw [ints_of]
theorem intsO_prs : ∀ (ts : List (Int × Int)), ts ≠ [] → intsO (ts.map prA) = none
  | [], h => absurd rfl h
  | t :: r, _ => rfl
theorem strsO_prs : ∀ (ts : List (Int × Int)), ts ≠ [] → strsO (ts.map prA) = none
  | [], h => absurd rfl h
  | t :: r, _ => rfl
theorem sort_prs (m : Bool) (ts : List (Int × Int)) (h : AH) : uL (.sorted m) (ts.map prA) h = mk m ((isort plt ts).map prA) h := by
  show (match sortA (ts.map prA) with | some ys => mk m ys h | none => .stuck) = _
  unfold sortA
  cases ts with
  | nil => rfl
  | cons t r =>
    rw [intsO_prs (t :: r) (by simp), strsO_prs (t :: r) (by simp), prs_of]
/-- cut at the end alone, at the front alone -/
theorem cut_to {α : Type} (xs : List α) {k : Int} (h : 0 ≤ k) : cut xs none (some k) = xs.take k.toNat := by
  unfold cut sIx
  simp [h]
theorem cut_map {α β : Type} (f : α → β) (xs : List α) (lo hi : Option Int) : cut (xs.map f) lo hi = (cut xs lo hi).map f := by
  unfold cut
  simp [List.map_drop, List.map_take]

@[simp] theorem atI_lit {α : Type} (xs : List α) (n : Nat) : atI xs (no_index (OfNat.ofNat n : Int)) = xs[n]? := by
  have e : (OfNat.ofNat n : Int) = (n : Int) := rfl
  rw [e]
  by_cases h : n < xs.length
  · exact atI_nat h
  · unfold atI ixN
    simp [h]
theorem atI_neg {α : Type} (xs : List α) {n : Nat} (h : 0 < n) (h2 : n ≤ xs.length) : atI xs (-(n : Int)) = xs[xs.length - n]? := by
  unfold atI ixN
  rw [if_neg (by omega), if_pos (by omega)]
  have : (-(n : Int) + (xs.length : Int)).toNat = xs.length - n := by omega
  simp [this]
@[simp] theorem idx_lst (xs : List AV) (i : Int) (h : AH) : idxA (.lst xs) (.int i) h = atI xs i := rfl
@[simp] theorem idx_tup (xs : List AV) (i : Int) (h : AH) : idxA (.tup xs) (.int i) h = atI xs i := rfl
@[simp] theorem idx_str (a : Tx) (i : Int) (h : AH) : idxA (.str a) (.int i) h = if a.length ≤ 16777216 then (atI a i).map (fun c => .str [c]) else none := rfl
theorem idx_ref {r : Nat} {h : AH} {xs : List AV} (e : hget h r = some (.lst xs)) (i : Int) : idxA (.ref r) (.int i) h = atI xs i := by
  show (match seqOf (.ref r) h with | some xs => atI xs i | none => _) = _
  rw [seq_ref, e]

theorem cut_to_neg {α : Type} (xs : List α) (k : Nat) (h : 0 < k) : cut xs none (some (-(k : Int))) = xs.take (xs.length - k) := by
  unfold cut sIx
  simp only
  rw [if_neg (by omega)]
  have : (-(k : Int) + (xs.length : Int)).toNat = xs.length - k := by omega
  rw [this]
  simp
theorem cut_from_neg {α : Type} (xs : List α) (k : Nat) (h : 0 < k) : cut xs (some (-(k : Int))) none = xs.drop (xs.length - k) := by
  unfold cut sIx
  simp only
  rw [if_neg (by omega)]
  have : (-(k : Int) + (xs.length : Int)).toNat = xs.length - k := by omega
  rw [this]
  rw [List.take_of_length_le]
  simp

/-! lists compared -/
theorem eqA_lst {xs ys : List AV} (h1 : AV.dataL xs = true) (h2 : AV.dataL ys = true) (h3 : AV.depL xs ≤ 63) (h4 : AV.depL ys ≤ 63) : eqA (.lst xs) (.lst ys) = some (decide (xs = ys)) := by
  have e : eqA (.lst xs) (.lst ys) = if ((AV.lst xs).flat && (AV.lst ys).flat) || ((AV.lst xs).data && (AV.lst ys).data && decide ((AV.lst xs).dep ≤ 64) && decide ((AV.lst ys).dep ≤ 64)) then some (decide (AV.lst xs = AV.lst ys)) else none := rfl
  have d1 : (AV.lst xs).data = true := h1
  have d2 : (AV.lst ys).data = true := h2
  have p1 : (AV.lst xs).dep ≤ 64 := by show AV.depL xs + 1 ≤ 64; omega
  have p2 : (AV.lst ys).dep ≤ 64 := by show AV.depL ys + 1 ≤ 64; omega
  rw [e, d1, d2]
  simp [p1, p2]
theorem eqA_tup {xs ys : List AV} (h1 : AV.dataL xs = true) (h2 : AV.dataL ys = true) (h3 : AV.depL xs ≤ 63) (h4 : AV.depL ys ≤ 63) : eqA (.tup xs) (.tup ys) = some (decide (xs = ys)) := by
  have e : eqA (.tup xs) (.tup ys) = if ((AV.tup xs).flat && (AV.tup ys).flat) || ((AV.tup xs).data && (AV.tup ys).data && decide ((AV.tup xs).dep ≤ 64) && decide ((AV.tup ys).dep ≤ 64)) then some (decide (AV.tup xs = AV.tup ys)) else none := rfl
  have d1 : (AV.tup xs).data = true := h1
  have d2 : (AV.tup ys).data = true := h2
  have p1 : (AV.tup xs).dep ≤ 64 := by show AV.depL xs + 1 ≤ 64; omega
  have p2 : (AV.tup ys).dep ≤ 64 := by show AV.depL ys + 1 ≤ 64; omega
  rw [e, d1, d2]
  simp [p1, p2]
theorem eq_lst {xs ys : List AV} (h : AH) (h1 : AV.dataL xs = true) (h2 : AV.dataL ys = true) (h3 : AV.depL xs ≤ 63) (h4 : AV.depL ys ≤ 63) : cmpA .eq (.lst xs) (.lst ys) h = .ok (.bl (decide (xs = ys))) h := by
  show someB (eqA (.lst xs) (.lst ys)) h = _
  rw [eqA_lst h1 h2 h3 h4]
  rfl
theorem ne_lst {xs ys : List AV} (h : AH) (h1 : AV.dataL xs = true) (h2 : AV.dataL ys = true) (h3 : AV.depL xs ≤ 63) (h4 : AV.depL ys ≤ 63) : cmpA .ne (.lst xs) (.lst ys) h = .ok (.bl (!decide (xs = ys))) h := by
  show someB (notO (eqA (.lst xs) (.lst ys))) h = _
  rw [eqA_lst h1 h2 h3 h4]
  rfl
theorem eq_tup {xs ys : List AV} (h : AH) (h1 : AV.dataL xs = true) (h2 : AV.dataL ys = true) (h3 : AV.depL xs ≤ 63) (h4 : AV.depL ys ≤ 63) : cmpA .eq (.tup xs) (.tup ys) h = .ok (.bl (decide (xs = ys))) h := by
  show someB (eqA (.tup xs) (.tup ys)) h = _
  rw [eqA_tup h1 h2 h3 h4]
  rfl
theorem ne_tup {xs ys : List AV} (h : AH) (h1 : AV.dataL xs = true) (h2 : AV.dataL ys = true) (h3 : AV.depL xs ≤ 63) (h4 : AV.depL ys ≤ 63) : cmpA .ne (.tup xs) (.tup ys) h = .ok (.bl (!decide (xs = ys))) h := by
  show someB (notO (eqA (.tup xs) (.tup ys))) h = _
  rw [eqA_tup h1 h2 h3 h4]
  rfl
theorem dataL_map {β : Type} (f : β → AV) : ∀ {xs : List β}, (∀ x ∈ xs, (f x).data = true) → AV.dataL (xs.map f) = true
  | [], _ => rfl
  | x :: r, h => by
    show ((f x).data && AV.dataL (r.map f)) = true
    rw [h x List.mem_cons_self, dataL_map f fun y hy => h y (List.mem_cons_of_mem _ hy)]
    rfl
theorem depL_map {β : Type} (f : β → AV) {n : Nat} : ∀ {xs : List β}, (∀ x ∈ xs, (f x).dep ≤ n) → AV.depL (xs.map f) ≤ n
  | [], _ => Nat.zero_le _
  | x :: r, h => by
    show max (f x).dep (AV.depL (r.map f)) ≤ n
    have h1 := h x List.mem_cons_self
    have h2 := depL_map f fun y hy => h y (List.mem_cons_of_mem _ hy)
    omega
theorem dataL_ints (xs : List Int) : AV.dataL (xs.map .int) = true := dataL_map _ fun _ _ => rfl
theorem depL_ints (xs : List Int) : AV.depL (xs.map .int) ≤ 63 := depL_map _ fun _ _ => Nat.zero_le _
theorem inj_map {α β : Type} {f : α → β} (hf : ∀ a b, f a = f b → a = b) : ∀ {xs ys : List α}, xs.map f = ys.map f → xs = ys
  | [], [], _ => rfl
  | [], _ :: _, h => by cases h
  | _ :: _, [], h => by cases h
  | x :: r, y :: u, h => by
    simp only [List.map_cons, List.cons.injEq] at h
    rw [hf _ _ h.1, inj_map hf h.2]
theorem ne_ints (xs ys : List Int) (h : AH) : cmpA .ne (.lst (xs.map .int)) (.lst (ys.map .int)) h = .ok (.bl (!decide (xs = ys))) h := by
  rw [ne_lst h (dataL_ints _) (dataL_ints _) (depL_ints _) (depL_ints _)]
  congr 4
  exact propext ⟨fun e => inj_map (fun _ _ z => by cases z; rfl) e, fun e => by rw [e]⟩
theorem data_str {a : Tx} (h : ∀ c ∈ a, c < 1114112) : (AV.str a).data = true := by
  show (a.all fun c => decide (c < 1114112)) = true
  rw [List.all_eq_true]
  intro c hc
  simpa using h c hc
@[simp] theorem sorted_lst (m : Bool) (xs : List AV) (h : AH) : uA (.sorted m) (.lst xs) h = uL (.sorted m) xs h := rfl
theorem sum_lst_ints {xs : List Int} {h : AH} : uA .sum (.lst (xs.map .int)) h = .ok (.int xs.sum) h := sum_ints_lst xs h
@[simp] theorem add_lst (m : Bool) (xs ys : List AV) (h : AH) : binA m .add (.lst xs) (.lst ys) h = if xs.length + ys.length ≤ 16777216 then mkLst m (xs ++ ys) h else .stuck := rfl
@[simp] theorem list_tup (m : Bool) (xs : List AV) (h : AH) : uA (.list m) (.tup xs) h = mk m xs h := rfl
@[simp] theorem list_lst (m : Bool) (xs : List AV) (h : AH) : uA (.list m) (.lst xs) h = mk m xs h := rfl
theorem drop_one {α : Type} (t : List α) : cut t (some 1) none = t.drop 1 := by
  cases t with
  | nil => rfl
  | cons c r => simp [cut, sIx]
end TL

/-! LawN: numbers as texts, texts that are parted -/
set_option Elab.async false
set_option linter.all false
set_option autoImplicit false
set_option maxRecDepth 100000
namespace TL
open TX
theorem natTx_lt {n : Nat} (h : n < 10) : natTx n = [48 + n] := by
  unfold natTx
  rw [Nat.toDigits_of_lt_base h]
  have : ∀ d < 10, (Nat.digitChar d).toNat = 48 + d := by decide
  simp [this n h]
theorem natTx_ge {n : Nat} (h : 10 ≤ n) : natTx n = natTx (n / 10) ++ [48 + n % 10] := by
  unfold natTx
  rw [Nat.toDigits_of_base_le (by decide) h]
  have : ∀ d < 10, (Nat.digitChar d).toNat = 48 + d := by decide
  simp [this (n % 10) (Nat.mod_lt _ (by decide))]
def digit (c : Nat) : Bool := decide (48 ≤ c) && decide (c ≤ 57)
theorem mem_digits (c : Nat) : decide (c ∈ [48, 49, 50, 51, 52, 53, 54, 55, 56, 57]) = digit c := by
  unfold digit
  rw [← Bool.decide_and]
  congr 1
  apply propext
  simp
  omega
theorem natTx_digits : ∀ (n : Nat), (natTx n).all digit = true := by
  intro n
  induction n using Nat.strongRecOn with
  | _ n ih =>
    by_cases h : n < 10
    · rw [natTx_lt h]
      simp [digit]
      omega
    · rw [natTx_ge (by omega)]
      simp only [List.all_append, ih (n / 10) (by omega), List.all_cons, List.all_nil, Bool.true_and, Bool.and_true]
      have := Nat.mod_lt n (show 0 < 10 by decide)
      simp [digit]
      omega
theorem natTx_ne (n : Nat) : natTx n ≠ [] := by
  by_cases h : n < 10
  · rw [natTx_lt h]; simp
  · rw [natTx_ge (by omega)]; simp
theorem natTx_length {n k : Nat} (hk : 0 < k) (h : n < 10 ^ k) : (natTx n).length ≤ k := by
  induction k generalizing n with
  | zero => omega
  | succ k ih =>
    by_cases h1 : n < 10
    · rw [natTx_lt h1]; simp
    · rw [natTx_ge (by omega)]
      have hk2 : 0 < k := by
        cases k with
        | zero => simp at h; omega
        | succ k => omega
      have := ih hk2 (n := n / 10) (by rw [Nat.pow_succ] at h; omega)
      simp
      exact this
theorem natTx_head {n : Nat} (h : 0 < n) : ∃ c r, natTx n = c :: r ∧ c ≠ 48 := by
  induction n using Nat.strongRecOn with
  | _ n ih =>
    by_cases h1 : n < 10
    · exact ⟨48 + n, [], natTx_lt h1, by omega⟩
    · obtain ⟨c, r, e, hc⟩ := ih (n / 10) (by omega) (by omega)
      exact ⟨c, r ++ [48 + n % 10], by rw [natTx_ge (by omega), e]; rfl, hc⟩
theorem numTx_app {d : Nat} (hd : d < 10) : ∀ (a : Tx) (acc : Nat), numTx acc (a ++ [48 + d]) = (numTx acc a).map fun n => n * 10 + d
  | [], acc => by
    show (if 48 ≤ 48 + d ∧ 48 + d ≤ 57 then numTx (acc * 10 + (48 + d - 48)) [] else none) = _
    rw [if_pos (by omega)]
    simp [numTx]
  | c :: r, acc => by
    show (if 48 ≤ c ∧ c ≤ 57 then numTx (acc * 10 + (c - 48)) (r ++ [48 + d]) else none) = Option.map _ (if 48 ≤ c ∧ c ≤ 57 then numTx (acc * 10 + (c - 48)) r else none)
    split
    · exact numTx_app hd r _
    · rfl
theorem numTx_natTx (n : Nat) : numTx 0 (natTx n) = some n := by
  induction n using Nat.strongRecOn with
  | _ n ih =>
    by_cases h : n < 10
    · rw [natTx_lt h]
      simp [numTx]
      omega
    · rw [natTx_ge (by omega), numTx_app (Nat.mod_lt _ (by decide)), ih (n / 10) (by omega)]
      simp
      omega
theorem natTx_100 : ∀ {r : Nat}, r < 100 → natTx (r + 100) = [49, 48 + r / 10, 48 + r % 10] := by
  intro r h
  rw [natTx_ge (by omega), natTx_ge (by omega), natTx_lt (by omega)]
  have e1 : (r + 100) / 10 / 10 = 1 := by omega
  have e2 : (r + 100) / 10 % 10 = r / 10 := by omega
  have e3 : (r + 100) % 10 = r % 10 := by omega
  rw [e1, e2, e3]
  rfl
theorem digit_dot {a : Tx} (h : a.all digit = true) {c : Nat} (hc : digit c = false) : c ∉ a := by
  intro m
  have := List.all_eq_true.mp h c m
  rw [hc] at this
  cases this
/-! parted by a sign -/
theorem splitGo_none {c : Nat} : ∀ {r acc : Tx}, c ∉ r → splitGo c acc r = [acc ++ r]
  | [], acc, _ => by simp [splitGo]
  | d :: r, acc, h => by
    have h1 : d ≠ c := fun e => h (by simp [e])
    have h2 : c ∉ r := fun e => h (List.mem_cons_of_mem _ e)
    unfold splitGo
    rw [if_neg h1, splitGo_none h2]
    simp
theorem splitGo_mid {c : Nat} : ∀ {a acc b : Tx}, c ∉ a → splitGo c acc (a ++ c :: b) = (acc ++ a) :: splitGo c [] b
  | [], acc, b, _ => by simp [splitGo]
  | d :: r, acc, b, h => by
    have h1 : d ≠ c := fun e => h (by simp [e])
    have h2 : c ∉ r := fun e => h (List.mem_cons_of_mem _ e)
    show (if d = c then acc :: splitGo c [] (r ++ c :: b) else splitGo c (acc ++ [d]) (r ++ c :: b)) = _
    rw [if_neg h1, splitGo_mid h2]
    simp
theorem splitTx_none {c : Nat} {a : Tx} (h : c ∉ a) : splitTx a c = [a] := by
  unfold splitTx
  rw [splitGo_none h]
  rfl
theorem splitTx_mid {c : Nat} {a b : Tx} (h : c ∉ a) : splitTx (a ++ c :: b) c = a :: splitTx b c := by
  unfold splitTx
  rw [splitGo_mid h]
  rfl
/-- a text: no such sign, or all up to the first one -/
theorem first_sign (c : Nat) : ∀ a : Tx, c ∉ a ∨ ∃ p q, a = p ++ c :: q ∧ c ∉ p
  | [] => .inl (by simp)
  | d :: r => by
    by_cases e : d = c
    · exact .inr ⟨[], r, by rw [e]; rfl, by simp⟩
    · rcases first_sign c r with h | ⟨p, q, h1, h2⟩
      · exact .inl (by simp [h]; exact fun x => e x.symm)
      · exact .inr ⟨d :: p, q, by rw [h1]; rfl, by simp [h2]; exact fun x => e x.symm⟩

/-! numbers told as they stand -/
theorem fdiv_lit (k n : Nat) : (k : Int).fdiv (no_index (OfNat.ofNat n : Int)) = ((k / n : Nat) : Int) := by
  have e : (OfNat.ofNat n : Int) = (n : Int) := rfl
  rw [e, Int.fdiv_eq_ediv_of_nonneg _ (by omega)]
  rfl
theorem fmod_lit (k n : Nat) : (k : Int).fmod (no_index (OfNat.ofNat n : Int)) = ((k % n : Nat) : Int) := by
  have e : (OfNat.ofNat n : Int) = (n : Int) := rfl
  rw [e, Int.fmod_eq_emod_of_nonneg _ (by omega)]
  rfl
@[simp] theorem intTx_nat (k : Nat) : intTx (k : Int) = natTx k := by
  unfold intTx
  rw [if_neg (by omega)]
  rfl
theorem intTx_neg {k : Nat} (h : 0 < k) : intTx (-(k : Int)) = 45 :: natTx k := by
  unfold intTx
  rw [if_pos (by omega)]
  simp
theorem log2_small {k : Nat} (h : k < 1000000000000000000) : k.log2 < 1920 := by
  by_cases h0 : k = 0
  · subst h0; decide
  · rw [Nat.log2_lt h0]
    exact Nat.lt_of_lt_of_le h (by decide +kernel)
theorem fsPart_nat {k : Nat} (h : k < 1000000000000000000) : fsPart (.int (k : Int)) = some (natTx k) := by
  show (if (k : Int).natAbs.log2 < 1920 then some (intTx k) else none) = _
  rw [if_pos (by simpa using log2_small h), intTx_nat]
theorem fsPart_int {i : Int} (h : i.natAbs < 1000000000000000000) : fsPart (.int i) = some (intTx i) := by
  show (if i.natAbs.log2 < 1920 then some (intTx i) else none) = _
  rw [if_pos (log2_small h)]
theorem str_nat {k : Nat} (g : AH) (h : k < 1000000000000000000) : uA .str (.int (k : Int)) g = .ok (.str (natTx k)) g := by
  show (if (k : Int).natAbs.log2 < 1920 then Out.ok (AV.str (intTx k)) g else .stuck) = _
  rw [if_pos (by simpa using log2_small h), intTx_nat]
theorem str_int {i : Int} (g : AH) (h : i.natAbs < 1000000000000000000) : uA .str (.int i) g = .ok (.str (intTx i)) g := by
  show (if i.natAbs.log2 < 1920 then Out.ok (AV.str (intTx i)) g else .stuck) = _
  rw [if_pos (log2_small h)]
theorem fsPart_str {a : Tx} (h : a.length ≤ 4000) : fsPart (.str a) = some a := by
  show (if a.length ≤ 4000 then some a else none) = _
  rw [if_pos h]
theorem int_digits {a : Tx} {n : Nat} (g : AH) (h : numTx 0 a = some n) (ne : a ≠ []) (hl : a.length ≤ 640) : uA .int (.str a) g = .ok (.int n) g := by
  cases a with
  | nil => exact absurd rfl ne
  | cons c r =>
    show (if (c :: r).length ≤ 640 then (match numTx 0 (c :: r) with | some n => Out.ok (AV.int n) g | none => .stuck) else .stuck) = _
    rw [if_pos hl, h]
/-- the number that figures tell -/
def numV (acc : Nat) : Tx → Nat
  | [] => acc
  | c :: r => numV (acc * 10 + (c - 48)) r
theorem numTx_digits : ∀ {a : Tx} {acc : Nat}, a.all digit = true → numTx acc a = some (numV acc a)
  | [], _, _ => rfl
  | c :: r, acc, h => by
    simp only [List.all_cons, Bool.and_eq_true] at h
    have h1 := h.1
    simp [digit] at h1
    unfold numTx
    rw [if_pos h1]
    exact numTx_digits h.2
theorem numV_app : ∀ (a b : Tx) (acc : Nat), numV acc (a ++ b) = numV (numV acc a) b
  | [], _, _ => rfl
  | c :: r, b, acc => numV_app r b _

theorem splitGo_len (c : Nat) : ∀ (r acc : Tx), (splitGo c acc r).length ≤ r.length + 1
  | [], acc => by simp [splitGo]
  | d :: r, acc => by
    show (if d = c then acc :: splitGo c [] r else splitGo c (acc ++ [d]) r).length ≤ r.length + 1 + 1
    split
    · have := splitGo_len c r []
      simp
      omega
    · have := splitGo_len c r (acc ++ [d])
      omega
theorem splitTx_len (a : Tx) (c : Nat) : (splitTx a c).length ≤ a.length + 1 := splitGo_len c a []
/-- two parts: what they are of -/
theorem split_two {a p q : Tx} {c : Nat} (h : splitTx a c = [p, q]) : a = p ++ c :: q ∧ c ∉ p ∧ c ∉ q := by
  rcases first_sign c a with h1 | ⟨u, v, rfl, h2⟩
  · rw [splitTx_none h1] at h
    cases h
  · rw [splitTx_mid h2] at h
    rcases first_sign c v with h3 | ⟨u2, v2, rfl, h4⟩
    · rw [splitTx_none h3] at h
      cases h
      exact ⟨rfl, h2, h3⟩
    · rw [splitTx_mid h4] at h
      cases h5 : splitTx v2 c with
      | nil =>
        unfold splitTx at h5
        have : ∀ (r acc : Tx), splitGo c acc r ≠ [] := by
          intro r
          induction r with
          | nil => intro acc; simp [splitGo]
          | cons d r ih =>
            intro acc
            show (if d = c then acc :: splitGo c [] r else splitGo c (acc ++ [d]) r) ≠ []
            split
            · simp
            · exact ih _
        exact absurd h5 (this _ _)
      | cons x y => rw [h5] at h; cases h
end TL

/-! LawD: the dice as a value; heaps with the dice at the bottom -/
set_option Elab.async false
set_option linter.all false
set_option autoImplicit false
set_option maxRecDepth 100000
set_option maxHeartbeats 2000000
namespace TL
open TX
abbrev D3 := Int × Int × Int
def dO (d : D3) : AO := .lst [.int d.1, .int d.2.1, .int d.2.2]
/-- a heap: the dice first, the others behind (the newest first) -/
def hd (os : AH) (d : D3) : AH := os ++ [dO d]
def rollV (d : D3) (m : Int) : Int :=
  if d.2.2 = 2 ∨ (d.2.2 = 1 ∧ 0 < d.1) then d.1.fmod m else (((d.1 * 48271 + d.2.1 * 69621 + 11).fmod 2147483647).fdiv 7).fmod m
def rollN (d : D3) (m : Int) : D3 :=
  if d.2.2 = 2 ∨ (d.2.2 = 1 ∧ 0 < d.1) then (d.1.fdiv m, d.2.1, d.2.2) else ((d.1 * 48271 + d.2.1 * 69621 + 11).fmod 2147483647, d.2.1 + 1, 0)
theorem roll_lo (d : D3) {m : Int} (h : 1 ≤ m) : 0 ≤ rollV d m := by
  unfold rollV
  split <;> exact Int.fmod_nonneg_of_pos _ (by omega)
theorem roll_hi (d : D3) {m : Int} (h : 1 ≤ m) : rollV d m < m := by
  unfold rollV
  split <;> exact Int.fmod_lt_of_pos _ (by omega)
/-- a roll, told as a whole number -/
theorem roll_ex (d : D3) (m : Int) (h : 1 ≤ m) : ∃ k : Nat, rollV d m = k ∧ (k : Int) < m := by
  have h1 := roll_lo d h
  have h2 := roll_hi d h
  exact ⟨(rollV d m).toNat, by omega, by omega⟩
@[simp] theorem hd_cons (o : AO) (os : AH) (d : D3) : o :: hd os d = hd (o :: os) d := rfl
@[simp] theorem hd_length (os : AH) (d : D3) : (hd os d).length = os.length + 1 := by simp [hd]
@[simp] theorem hget_hd (o : AO) (os : AH) (d : D3) (i : Nat) : hget (hd (o :: os) d) i = if i = os.length + 1 then some o else hget (hd os d) i := by
  show hget (o :: (os ++ [dO d])) i = _
  simp [hget, hd]
@[simp] theorem hget_hd0 (d : D3) (i : Nat) : hget (hd [] d) i = if i = 0 then some (dO d) else none := rfl
theorem hget_dice : ∀ (os : AH) (d : D3), hget (hd os d) 0 = some (dO d)
  | [], d => rfl
  | o :: os, d => by rw [hget_hd, if_neg (by omega), hget_dice os d]
theorem hset_dice : ∀ (os : AH) (d e : D3), hset (hd os d) 0 (dO e) = hd os e
  | [], d, e => rfl
  | o :: os, d, e => by
    show hset (o :: (os ++ [dO d])) 0 (dO e) = _
    have ih := hset_dice os d e
    unfold hd at ih
    simp [hset, ih, hd]
@[simp] theorem hset_hd (o u : AO) (os : AH) (d : D3) (i : Nat) : hset (hd (o :: os) d) i u = if i = os.length + 1 then hd (u :: os) d else o :: hset (hd os d) i u := by
  show hset (o :: (os ++ [dO d])) i u = _
  simp [hset, hd]
theorem roll_hd {P : Prog} {q n : Nat} (pq : P q = some ⟨3, 2, rollF q⟩) (os : AH) (d : D3) {m : Int} (hm : 1 ≤ m) (hm2 : m ≤ 100000000) :
    pg P (n + 1) 0 q [.ref 0, .int m] (hd os d) = .ok (.int (rollV d m)) (hd os (rollN d m)) := by
  obtain ⟨a, c, f⟩ := d
  have e := hget_dice os (a, c, f)
  simp only [dO] at e
  have hs : ∀ (x y z : Int), hset (hd os (a, c, f)) 0 (.lst [.int x, .int y, .int z]) = hd os (x, y, z) := fun x y z => hset_dice os (a, c, f) (x, y, z)
  have m0 : m ≠ 0 := by omega
  have mA : m.natAbs < 1073741824 := by omega
  have g1 : ¬ 100000000 < m := by omega
  have hl := hget_lt e
  have hl2 : ∀ d' : D3, (hd os d').length = (hd os (a, c, f)).length := fun d' => by simp
  rw [ap_runDef pq rfl]
  unfold rollV rollN
  by_cases c1 : f = 2 ∨ (f = 1 ∧ 0 < a)
  · rw [if_pos c1, if_pos c1]
    rcases c1 with h1 | ⟨h1, h2⟩
    · subst h1
      simp [TX.start, rollF, idxA, e, gN, m0, mA, setA, ixN, hs, gcRet_len]
    · subst h1
      simp [TX.start, rollF, idxA, e, gN, m0, mA, setA, ixN, hs, gcRet_len, h2]
  · rw [if_neg c1, if_neg c1]
    have h1 : ¬ f = 2 := fun z => c1 (.inl z)
    have e2 : ∀ x y z : Int, hget (hd os (x, y, z)) 0 = some (.lst [.int x, .int y, .int z]) := fun x y z => hget_dice os (x, y, z)
    have hs2 : ∀ (d' : D3) (x y z : Int), hset (hd os d') 0 (.lst [.int x, .int y, .int z]) = hd os (x, y, z) := fun d' x y z => hset_dice os d' (x, y, z)
    by_cases h3 : f = 1
    · have h2 : ¬ 0 < a := fun z => c1 (.inr ⟨h3, z⟩)
      simp [TX.start, rollF, idxA, e2, h1, h2, h3, gN, m0, mA, setA, ixN, hs2, gcRet_len, g1]
    · simp [TX.start, rollF, idxA, e2, h1, h3, gN, m0, mA, setA, ixN, hs2, gcRet_len, g1]
/-- behind a call that has rolled: what it made is let go -/
theorem gcOk_hd (n : Nat) (d e : D3) : ∀ os : AH, gcOk n (hd os d) (hd os e) = true
  | [] => by
    show (((dO e).under n || decide (dO d = dO e)) && true) = true
    have : (dO e).under n = true := rfl
    simp [this]
  | o :: os => by
    have ih := gcOk_hd n d e os
    show ((o.under n || decide (o = o)) && gcOk n (hd os d) (hd os e)) = true
    rw [ih]
    simp
theorem gcRet_hd (as : AH) {os : AH} {d e : D3} {v : AV} (hv : v.under (os.length + 1) = true) : gcRet (hd os d) v (hd (as ++ os) e) = .ok v (hd os e) := by
  unfold gcRet
  have e2 : (hd (as ++ os) e).drop ((hd (as ++ os) e).length - (hd os d).length) = hd os e := by
    have e4 : (hd (as ++ os) e).length - (hd os d).length = as.length := by simp
    rw [e4]
    have e3 : hd (as ++ os) e = as ++ hd os e := by simp [hd]
    rw [e3, List.drop_left]
  rw [e2, hd_length, hv, gcOk_hd]
  rfl
@[simp] theorem gcRet_hd0 {os : AH} {d e : D3} {v : AV} : gcRet (hd os d) v (hd os e) = .ok v (hd os e) := by
  unfold gcRet
  split
  · have e4 : (hd os e).length - (hd os d).length = 0 := by simp
    rw [e4, List.drop_zero]
  · rfl
theorem rounds_hd {P : Prog} {q qd n : Nat} (pd : P qd = some ⟨1, 1, diceF⟩) (pr : P q = some ⟨4, 2, roundsF qd⟩) (ns : List Int) : ∃ d : D3, pg P (n + 2) 0 q [.scr (ns.map .int), .int 1] [] = .ok (.lst [.ref 0]) (hd [] d) := by
  obtain ⟨a, c, f, e⟩ := rounds_ok (n := n) pd pr ns []
  exact ⟨(a, c, f), e⟩
/-- a closed tail that tells True -/
def saysTrue (o : Out Fl) : Bool := match o with
  | .ok (.rt (.bl true)) _ => true
  | _ => false
theorem cl_true {b : SF} {φ : Fn} {s : St} {n : Nat} (h : AH) (e : saysTrue (b φ (List.replicate n none) []) = true) (hn : s.length = n) : sCl b φ s h = .ok (.rt (.bl true)) h := by
  unfold sCl
  rw [hn]
  unfold saysTrue at e
  split at e
  · rename_i z; rw [z]; rfl
  · cases e
/-- a roll, with names for what comes -/
theorem roll_all {P : Prog} {q n : Nat} (pq : P q = some ⟨3, 2, rollF q⟩) (d : D3) (m : Int) (hm : 1 ≤ m) (hm2 : m ≤ 100000000) :
    ∃ v d', (∀ os, pg P (n + 1) 0 q [.ref 0, .int m] (hd os d) = .ok (.int v) (hd os d')) ∧ 0 ≤ v ∧ v < m :=
  ⟨_, _, fun os => roll_hd pq os d hm hm2, roll_lo d hm, roll_hi d hm⟩
/-- a comprehension that rolls for each item -/
theorem lc_roll {β : Type} {φ : Fn} {g : TF} {c e : EF} {s0 : St} {os : AH} (F : β → AV) (Q : β → Prop) : ∀ {items : List AV} {d : D3},
    (∀ x ∈ items, ∃ st, g x s0 = some st ∧ (∀ h, c φ st h = .ok (.bl true) h) ∧ ∀ d, ∃ v d', e φ st (hd os d) = .ok (F v) (hd os d') ∧ Q v) →
    ∃ (vs : List β) (d' : D3), lcGo φ g c e s0 [] items (hd os d) = .ok (vs.map F) (hd os d') ∧ vs.length = items.length ∧ ∀ v ∈ vs, Q v
  | [], d, _ => ⟨[], d, by unfold lcGo; rfl, rfl, fun v hv => nomatch hv⟩
  | x :: r, d, hx => by
    obtain ⟨st, h1, h2, h3⟩ := hx x List.mem_cons_self
    obtain ⟨v, d1, h4, h5⟩ := h3 d
    obtain ⟨vs, d2, h6, h7, h8⟩ := lc_roll F Q (items := r) (d := d1) fun y hy => hx y (List.mem_cons_of_mem _ hy)
    refine ⟨v :: vs, d2, ?_, by simp [h7], fun w hw => ?_⟩
    · unfold lcGo
      simp [h1, h2, h4, h6]
    · rcases List.mem_cons.mp hw with rfl | hw
      · exact h5
      · exact h8 w hw
theorem rng_length : ∀ (n : Nat) (lo : Int), (rng lo n).length = n
  | 0, _ => rfl
  | n + 1, lo => by simp [rng, rng_length n]
/-- a for loop that goes through: what holds behind the first so many items -/
theorem for_pre {β : Type} {φ : Fn} {g : TF} {b : SF} {gd : Gd} (f : β → AV) (R : List β → St → AH → Prop) : ∀ {todo done : List β} {s : St} {h : AH},
    (∀ dn s h, R dn s h → gOk gd h = true) →
    (∀ dn x rest, done ++ todo = dn ++ x :: rest → ∀ s h, R dn s h → ∃ s1 s2 h2, g (f x) s = some s1 ∧ (b φ s1 h = .ok (.nx s2) h2 ∨ b φ s1 h = .ok (.ct s2) h2) ∧ R (dn ++ [x]) s2 h2) → R done s h →
    ∃ s2 h2, forGo φ g b gd (todo.map f) s h = .ok (.nx s2) h2 ∧ R (done ++ todo) s2 h2
  | [], done, s, h, hk, _, hr => ⟨s, h, by show forGo φ g b gd [] s h = _; unfold forGo; rw [if_pos (hk _ s h hr)], by simpa using hr⟩
  | x :: r, done, s, h, hk, hx, hr => by
    obtain ⟨s1, s2, h2, e1, e2, hr2⟩ := hx done x r rfl s h hr
    obtain ⟨s3, h3, e3, hr3⟩ := for_pre f R (todo := r) (done := done ++ [x]) hk (fun dn y rest he => hx dn y rest (by rw [← he]; simp)) hr2
    refine ⟨s3, h3, ?_, by simpa using hr3⟩
    show forGo φ g b gd (f x :: r.map f) s h = _
    unfold forGo
    rw [if_pos (hk _ s h hr), e1]
    rcases e2 with e2 | e2 <;> simp only [e2, out_bind_ok, e3]
@[simp] theorem gcRet_nil (b : Bool) (h : AH) : gcRet [] (.bl b) h = .ok (.bl b) [] := by
  unfold gcRet
  simp [AV.under, gcOk]
def Yes (o : Out AV) : Prop := ∃ h, o = .ok (.bl true) h
@[simp] theorem yes_true (h : AH) : Yes (.ok (.bl true) h) := ⟨h, rfl⟩
theorem yes_of {o : Out AV} (h : Yes o) : ∃ h, o = .ok (.bl true) h := h
end TL

/-! LawE: loops over numbers, while loops -/
set_option Elab.async false
set_option linter.all false
set_option autoImplicit false
set_option maxRecDepth 100000
set_option maxHeartbeats 2000000
namespace TL
open TX
theorem for_rng {φ : Fn} {g : TF} {b : SF} {lo : Int} (R : Nat → St → AH → Prop) : ∀ {k : Nat} {s : St} {h : AH},
    (∀ i, i < k → ∀ s h, R i s h → ∃ s1 s2 h2, g (.int (lo + i)) s = some s1 ∧ (b φ s1 h = .ok (.nx s2) h2 ∨ b φ s1 h = .ok (.ct s2) h2) ∧ R (i + 1) s2 h2) → R 0 s h →
    ∃ s2 h2, forGo φ g b [] (rng lo k) s h = .ok (.nx s2) h2 ∧ R k s2 h2 := by
  intro k s h hx hr
  have key : ∀ (m j : Nat) (s : St) (h : AH), j + m = k → R j s h → ∃ s2 h2, forGo φ g b [] (rng (lo + j) m) s h = .ok (.nx s2) h2 ∧ R k s2 h2 := by
    intro m
    induction m with
    | zero =>
      intro j s h e hr
      have : j = k := by omega
      subst this
      exact ⟨s, h, by unfold rng forGo; rfl, hr⟩
    | succ m ih =>
      intro j s h e hr
      obtain ⟨s1, s2, h2, e1, e2, hr2⟩ := hx j (by omega) s h hr
      obtain ⟨s3, h3, e3, hr3⟩ := ih (j + 1) s2 h2 (by omega) hr2
      refine ⟨s3, h3, ?_, hr3⟩
      have e4 : lo + ((j + 1 : Nat) : Int) = lo + j + 1 := by push_cast; omega
      rw [e4] at e3
      unfold rng forGo
      rw [if_pos (gOk_nil h), e1]
      rcases e2 with e2 | e2 <;> simp only [e2, out_bind_ok, e3]
  have := key k 0 s h (by omega) hr
  simpa using this
/-- a while loop: what holds each time around, and what falls -/
theorem wh_run {γ : Type} {φ : Fn} {cnd : EF} {b : SF} (R : γ → St → AH → Prop) (cond : γ → Bool) (step : γ → γ) (μ : γ → Nat)
    (hx : ∀ c s h, R c s h → cnd φ s h = .ok (.bl (cond c)) h ∧ (cond c = true → ∃ s2 h2, (b φ s h = .ok (.nx s2) h2 ∨ b φ s h = .ok (.ct s2) h2) ∧ R (step c) s2 h2 ∧ μ (step c) < μ c)) :
    ∀ {n : Nat} {c : γ} {s : St} {h : AH}, R c s h → μ c < n → ∃ c' s' h', whGo φ cnd b n s h = .ok (.nx s') h' ∧ R c' s' h' ∧ cond c' = false := by
  intro n
  induction n with
  | zero => intro c s h _ h2; omega
  | succ n ih =>
    intro c s h hr hm
    obtain ⟨e1, e2⟩ := hx c s h hr
    unfold whGo
    simp only [e1, out_bind_ok, tst_bl]
    cases hc : cond c with
    | false => exact ⟨c, s, h, by simp, hr, hc⟩
    | true =>
      obtain ⟨s2, h2, e3, hr2, hm2⟩ := e2 hc
      obtain ⟨c', s', h', e4, hr', hc'⟩ := ih hr2 (by omega)
      refine ⟨c', s', h', ?_, hr', hc'⟩
      simp only [if_true]
      rcases e3 with e3 | e3 <;> simp only [e3, out_bind_ok, e4]
theorem rngOk_of {i : Int} (h1 : -1000000000000 ≤ i) (h2 : i ≤ 1000000000000) : rngOk i = true := by
  unfold rngOk
  simp
  omega
/-- a comprehension over numbers -/
theorem lc_rng {φ : Fn} {g : TF} {c e : EF} {s0 : St} {h : AH} (lo : Int) (k : Nat) (p : Int → Bool) (F : Int → AV)
    (hx : ∀ i : Int, lo ≤ i → i < lo + k → ∃ st, g (.int i) s0 = some st ∧ c φ st h = .ok (.bl (p i)) h ∧ (p i = true → e φ st h = .ok (F i) h)) :
    lcGo φ g c e s0 [] (rng lo k) h = .ok ((((List.range k).map fun (i : Nat) => lo + (i : Int)).filter p).map F) h := by
  have e1 : rng lo k = ((List.range k).map fun (i : Nat) => lo + (i : Int)).map AV.int := by
    rw [rng_map, List.map_map]
    rfl
  rw [e1]
  refine lc_filter AV.int p F rfl fun x hx2 => ?_
  obtain ⟨i, hi, rfl⟩ := List.mem_map.mp hx2
  have := List.mem_range.mp hi
  exact hx _ (by omega) (by omega)
theorem lc_rngA {φ : Fn} {g : TF} {c e : EF} {s0 : St} {h : AH} (lo : Int) (k : Nat) (F : Int → AV)
    (hx : ∀ i : Int, lo ≤ i → i < lo + k → ∃ st, g (.int i) s0 = some st ∧ c φ st h = .ok (.bl true) h ∧ e φ st h = .ok (F i) h) :
    lcGo φ g c e s0 [] (rng lo k) h = .ok (((List.range k).map fun (i : Nat) => lo + (i : Int)).map F) h := by
  rw [lc_rng lo k (fun _ => true) F (fun i i1 i2 => let ⟨st, h1, h2, h3⟩ := hx i i1 i2; ⟨st, h1, h2, fun _ => h3⟩), List.filter_eq_self.mpr (fun _ _ => rfl)]
end TL

/-! LawF: loops by places, sums, lists that grow, instances -/
set_option Elab.async false
set_option linter.all false
set_option autoImplicit false
set_option maxRecDepth 100000
set_option maxHeartbeats 2000000
namespace TL
open TX
/-- a for loop by places: what holds behind the first so many items -/
theorem for_ix {φ : Fn} {g : TF} {b : SF} {gd : Gd} (R : Nat → St → AH → Prop) {items : List AV} {s : St} {h : AH} (hk : ∀ i s h, R i s h → gOk gd h = true)
    (hx : ∀ i x, items[i]? = some x → ∀ s h, R i s h → ∃ s1 s2 h2, g x s = some s1 ∧ (b φ s1 h = .ok (.nx s2) h2 ∨ b φ s1 h = .ok (.ct s2) h2) ∧ R (i + 1) s2 h2) (hr : R 0 s h) :
    ∃ s2 h2, forGo φ g b gd items s h = .ok (.nx s2) h2 ∧ R items.length s2 h2 := by
  have key : ∀ (todo : List AV) (j : Nat) (s : St) (h : AH), (∀ i, todo[i]? = items[j + i]?) → j + todo.length = items.length → R j s h → ∃ s2 h2, forGo φ g b gd todo s h = .ok (.nx s2) h2 ∧ R items.length s2 h2 := by
    intro todo
    induction todo with
    | nil =>
      intro j s h _ hl hr
      have e : j = items.length := by simpa using hl
      subst e
      exact ⟨s, h, by unfold forGo; rw [if_pos (hk _ s h hr)], hr⟩
    | cons x r ih =>
      intro j s h hi hl hr
      have h0 := hi 0
      simp at h0
      obtain ⟨s1, s2, h2, e1, e2, hr2⟩ := hx j x h0.symm s h hr
      obtain ⟨s3, h3, e3, hr3⟩ := ih (j + 1) s2 h2 (fun i => by have := hi (i + 1); simp at this; rw [this]; congr 1; omega) (by simp at hl; omega) hr2
      refine ⟨s3, h3, ?_, hr3⟩
      unfold forGo
      rw [if_pos (hk _ s h hr), e1]
      rcases e2 with e2 | e2 <;> simp only [e2, out_bind_ok, e3]
  exact key items 0 s h (fun i => by simp) (by simp) hr
theorem enumL_get : ∀ (xs : List AV) (k : Int) (i : Nat), (enumL k xs)[i]? = (xs[i]?).map fun x => .tup [.int (k + i), x]
  | [], _, _ => by simp [enumL]
  | x :: r, k, 0 => by simp [enumL]
  | x :: r, k, i + 1 => by
    simp only [enumL, List.getElem?_cons_succ, enumL_get r]
    have : k + 1 + (i : Int) = k + ((i + 1 : Nat) : Int) := by push_cast; omega
    rw [this]
theorem enumL_len : ∀ (xs : List AV) (k : Int), (enumL k xs).length = xs.length
  | [], _ => rfl
  | x :: r, k => by simp [enumL, enumL_len r]
/-- .. over a list with its places -/
theorem for_en {β : Type} {φ : Fn} {g : TF} {b : SF} {gd : Gd} (f : β → AV) (R : Nat → St → AH → Prop) {xs : List β} {s : St} {h : AH} (hk : ∀ i s h, R i s h → gOk gd h = true)
    (hx : ∀ i x, xs[i]? = some x → ∀ s h, R i s h → ∃ s1 s2 h2, g (.tup [.int i, f x]) s = some s1 ∧ (b φ s1 h = .ok (.nx s2) h2 ∨ b φ s1 h = .ok (.ct s2) h2) ∧ R (i + 1) s2 h2) (hr : R 0 s h) :
    ∃ s2 h2, forGo φ g b gd (enumL 0 (xs.map f)) s h = .ok (.nx s2) h2 ∧ R xs.length s2 h2 := by
  have := for_ix (φ := φ) (b := b) (g := g) (gd := gd) R (items := enumL 0 (xs.map f)) hk (fun i y e => by
    rw [enumL_get, List.getElem?_map] at e
    cases hxi : xs[i]? with
    | none => rw [hxi] at e; cases e
    | some x =>
      rw [hxi] at e
      cases e
      have := hx i x hxi
      simpa using this) hr
  rw [enumL_len, List.length_map] at this
  exact this
theorem zipL_map {β γ : Type} (f : β → AV) (g : γ → AV) : ∀ (xs : List β) (ys : List γ), zipL (xs.map f) (ys.map g) = (xs.zip ys).map fun p => .tup [f p.1, g p.2]
  | [], ys => by cases ys <;> rfl
  | x :: r, [] => rfl
  | x :: r, y :: u => by
    show AV.tup [f x, g y] :: zipL (r.map f) (u.map g) = _
    rw [zipL_map f g r u]
    rfl
/-- a comprehension over places and items -/
theorem lc_en {β : Type} {φ : Fn} {g : TF} {c e : EF} {s0 : St} {gd : Gd} {h : AH} (f : β → AV) (p : Int × β → Bool) (F : Int × β → AV) {xs : List β} (hk : gOk gd h = true)
    (hx : ∀ y ∈ zi 0 xs, ∃ st, g (.tup [.int y.1, f y.2]) s0 = some st ∧ c φ st h = .ok (.bl (p y)) h ∧ (p y = true → e φ st h = .ok (F y) h)) :
    lcGo φ g c e s0 gd (enumL 0 (xs.map f)) h = .ok (((zi 0 xs).filter p).map F) h := by
  rw [enum_map]
  exact lc_filter _ p F hk hx
theorem sum_append (a b : List Int) : (a ++ b).sum = a.sum + b.sum := by
  induction a with
  | nil => simp
  | cons x r ih => simp [ih]; omega
@[simp] theorem ne_nil (h : AH) : cmpA .ne (.lst []) (.lst []) h = .ok (.bl false) h := rfl
@[simp] theorem eq_nil (h : AH) : cmpA .eq (.lst []) (.lst []) h = .ok (.bl true) h := rfl
@[simp] theorem mul_one_lst (m : Bool) (x : AV) (h : AH) : binA m .mul (.lst [x]) (.int 1) h = mk m [x] h := rfl
@[simp] theorem mul_zero_lst (m : Bool) (x : AV) (h : AH) : binA m .mul (.lst [x]) (.int 0) h = mk m [] h := rfl
/-! instances -/
theorem ins_of {r c : Nat} {fs : List (Tx × AV)} {h : AH} (e : hget h r = some (.ins c fs)) : insOf (.ref r) h = some (c, fs) := by
  show (match hget h r with | some (.ins c fs) => some (c, fs) | _ => none) = _
  rw [e]
theorem fld_of {r c : Nat} {fs : List (Tx × AV)} {h : AH} (cs : List Nat) (f : Tx) (e : hget h r = some (.ins c fs)) (hc : c ∈ cs) : fldA cs f (.ref r) h = fget f fs := by
  unfold fldA
  rw [ins_of e]
  exact if_pos hc
theorem hget_cons_lt {h : AH} {r : Nat} {o u : AO} (e : hget h r = some o) : hget (u :: h) r = some o := by
  have := hget_lt e
  unfold hget
  rw [if_neg (by omega), e]
theorem app_of {r : Nat} {xs : List AV} {v : AV} {h : AH} (e : hget h r = some (.lst xs)) (hl : xs.length < 16777216) : appA (.ref r) v h = some (hset h r (.lst (xs ++ [v]))) := by
  show (match hget h r with | some (.lst xs) => if xs.length < SZ then some (hset h r (.lst (xs ++ [v]))) else none | _ => none) = _
  rw [e]
  exact if_pos hl
theorem tuple_any (x : AV) (h : AH) : uA .tuple x h = match seqOf x h with | some xs => .ok (.tup xs) h | none => .stuck := rfl
theorem tuple_ref {i : Nat} {h : AH} {xs : List AV} (e : hget h i = some (.lst xs)) : uA .tuple (.ref i) h = .ok (.tup xs) h := by
  rw [tuple_any, seq_ref, e]
theorem list_ref {m : Bool} {i : Nat} {h : AH} {xs : List AV} (e : hget h i = some (.lst xs)) : uA (.list m) (.ref i) h = mk m xs h := by
  show (match seqOf (.ref i) h with | some xs => mk m xs h | none => _) = _
  rw [seq_ref, e]
theorem len_ref {i : Nat} {h : AH} {xs : List AV} (e : hget h i = some (.lst xs)) : uA .len (.ref i) h = .ok (.int xs.length) h := by
  show (match seqOf (.ref i) h with | some xs => Out.ok (AV.int xs.length) h | none => _) = _
  rw [seq_ref, e]
theorem sorted_ref {m : Bool} {i : Nat} {h : AH} {xs : List AV} (e : hget h i = some (.lst xs)) : uA (.sorted m) (.ref i) h = uL (.sorted m) xs h := by
  show (match lstOf (.ref i) h with | some xs => uL (.sorted m) xs h | none => _) = _
  rw [lst_ref, e]
end TL
namespace TL
open TX
/-- a comprehension that rolls for each item, and keeps the item -/
theorem lc_rollk {β γ : Type} {φ : Fn} {g : TF} {c e : EF} {s0 : St} {os : AH} (f : γ → AV) (F : β → AV) (k : β → γ) (Q : β → Prop) : ∀ {xs : List γ} {d : D3},
    (∀ x ∈ xs, ∃ st, g (f x) s0 = some st ∧ (∀ h, c φ st h = .ok (.bl true) h) ∧ ∀ d, ∃ v d', e φ st (hd os d) = .ok (F v) (hd os d') ∧ k v = x ∧ Q v) →
    ∃ (vs : List β) (d' : D3), lcGo φ g c e s0 [] (xs.map f) (hd os d) = .ok (vs.map F) (hd os d') ∧ vs.map k = xs ∧ ∀ v ∈ vs, Q v
  | [], d, _ => ⟨[], d, by show lcGo φ g c e s0 [] [] _ = _; unfold lcGo; rfl, rfl, fun v hv => nomatch hv⟩
  | x :: r, d, hx => by
    obtain ⟨st, h1, h2, h3⟩ := hx x List.mem_cons_self
    obtain ⟨v, d1, h4, h5, h5'⟩ := h3 d
    obtain ⟨vs, d2, h6, h7, h8⟩ := lc_rollk f F k Q (xs := r) (d := d1) fun y hy => hx y (List.mem_cons_of_mem _ hy)
    refine ⟨v :: vs, d2, ?_, by simp [h7, h5], fun w hw => ?_⟩
    · show lcGo φ g c e s0 [] (f x :: r.map f) _ = _
      unfold lcGo
      simp [h1, h2, h4, h6]
    · rcases List.mem_cons.mp hw with rfl | hw
      · exact h5'
      · exact h8 w hw
/-- whole numbers in order -/
theorem ins_sorted (x : Int) : ∀ {xs : List Int}, xs.Pairwise (· ≤ ·) → (ins ilt x xs).Pairwise (· ≤ ·)
  | [], _ => by simp [ins]
  | y :: r, h => by
    have h1 : ∀ z ∈ r, y ≤ z := fun z hz => List.rel_of_pairwise_cons h hz
    have h2 := List.Pairwise.of_cons h
    unfold ins
    by_cases c : y < x
    · rw [if_pos (by simp [ilt, c])]
      refine List.Pairwise.cons (fun z hz => ?_) (ins_sorted x h2)
      have := (ins_perm ilt x r).mem_iff.mp hz
      rcases List.mem_cons.mp this with rfl | hz
      · omega
      · exact h1 z hz
    · rw [if_neg (by simp [ilt, c])]
      refine List.Pairwise.cons (fun z hz => ?_) h
      rcases List.mem_cons.mp hz with rfl | hz
      · omega
      · have := h1 z hz; omega
theorem isort_sorted : ∀ xs : List Int, (isort ilt xs).Pairwise (· ≤ ·)
  | [] => by simp [isort]
  | x :: r => ins_sorted x (isort_sorted r)
theorem isort_strict {xs : List Int} (h : xs.Nodup) : (isort ilt xs).Pairwise (· < ·) := by
  have h1 := isort_sorted xs
  have h2 : (isort ilt xs).Pairwise (· ≠ ·) := (isort_perm ilt xs).nodup_iff.mpr h
  exact (h1.and h2).imp fun ⟨a, b⟩ => by omega
/-- keys that are put one after another, all with one value -/
theorem put_keys {w : AV} : ∀ (xs ks : List Int), ks.Nodup → ∃ ks2 : List Int, putAll (ks.map fun k => (AV.int k, w)) (xs.map fun x => .tup [.int x, w]) = some (ks2.map fun k => (AV.int k, w)) ∧ ks2.Nodup ∧ (∀ k ∈ ks2, k ∈ ks ∨ k ∈ xs) ∧ ks2.length ≤ ks.length + xs.length
  | [], ks, h => ⟨ks, rfl, h, fun k hk => .inl hk, by simp⟩
  | x :: r, ks, h => by
    have e : putAll (ks.map fun k => (AV.int k, w)) ((x :: r).map fun x => .tup [.int x, w]) = putAll (putK (.int x) w (ks.map fun k => (AV.int k, w))) (r.map fun x => .tup [.int x, w]) := rfl
    by_cases hx : x ∈ ks
    · have e2 : putK (.int x) w (ks.map fun k => (AV.int k, w)) = ks.map fun k => (AV.int k, w) := by
        unfold putK hasK
        rw [if_pos (by simp; exact hx), List.map_map]
        refine List.map_congr_left fun k hk => ?_
        show (if AV.int k = AV.int x then (AV.int k, w) else (AV.int k, w)) = _
        split <;> rfl
      obtain ⟨ks2, h1, h2, h3, h4⟩ := put_keys r ks h
      exact ⟨ks2, by rw [e, e2, h1], h2, fun k hk => (h3 k hk).imp id (List.mem_cons_of_mem _), by simp; omega⟩
    · have e2 : putK (.int x) w (ks.map fun k => (AV.int k, w)) = (ks ++ [x]).map fun k => (AV.int k, w) := by
        unfold putK hasK
        rw [if_neg (by simp; exact hx)]
        simp
      obtain ⟨ks2, h1, h2, h3, h4⟩ := put_keys r (ks ++ [x]) (by
        rw [List.nodup_append]
        refine ⟨h, by simp, fun a ha b hb => ?_⟩
        simp at hb
        subst hb
        rintro rfl
        exact hx ha)
      refine ⟨ks2, by rw [e, e2, h1], h2, fun k hk => ?_, by simp at h4 ⊢; omega⟩
      rcases h3 k hk with h5 | h5
      · rcases List.mem_append.mp h5 with h6 | h6
        · exact .inl h6
        · simp at h6; subst h6; exact .inr List.mem_cons_self
      · exact .inr (List.mem_cons_of_mem _ h5)
end TL
namespace TL
open TX
/-- a piece of text that is gone through; k slots -/
def Thru (k : Nat) (o : Out Fl) : Prop := ∃ s2 os2 d2, o = .ok (.nx s2) (hd os2 d2) ∧ s2.length = k
@[simp] theorem thru_nx (k : Nat) (s : St) (os : AH) (d : D3) : Thru k (.ok (.nx s) (hd os d)) ↔ s.length = k := by
  constructor
  · rintro ⟨s2, os2, d2, e, h⟩
    have e1 : Fl.nx s = Fl.nx s2 := congrArg (fun o => match o with | Out.ok a _ => a | _ => Fl.nx s) e
    injection e1 with e1
    rw [e1]
    exact h
  · exact fun h => ⟨s, os, d, rfl, h⟩
end TL

/-! LawG: how simp walks through the pieces of TxA2 -/
set_option Elab.async false
set_option linter.all false
set_option autoImplicit false
set_option maxRecDepth 100000
namespace TL
open TX
@[simp ↓] theorem ap_eDct (m : Bool) (ps : List (EF × EF)) (φ : Fn) (s : St) (h : AH) : eDct m ps φ s h = if ps.length ≤ 15 then (dpGo φ s ps h).bind fun kvs h1 => mkD m (putsL [] kvs) h1 else .stuck := rfl
@[simp ↓] theorem dpGo_nil (φ : Fn) (s : St) (h : AH) : dpGo φ s [] h = .ok [] h := rfl
@[simp ↓] theorem dpGo_cons (φ : Fn) (s : St) (k v : EF) (r : List (EF × EF)) (h : AH) : dpGo φ s ((k, v) :: r) h = (k φ s h).bind fun x h1 => (v φ s h1).bind fun y h2 => if isKey x then (dpGo φ s r h2).bind fun ps h3 => .ok ((x, y) :: ps) h3 else .stuck := rfl
@[simp] theorem isKey_str (t : Tx) : isKey (.str t) = true := rfl
@[simp] theorem isKey_int (i : Int) : isKey (.int i) = true := rfl
@[simp ↓] theorem ap_eMin7 (a : AF) (φ : Fn) (s : St) (h : AH) : eMin7 a φ s h = (a φ s h).bind fun xs h1 => match intsO xs with
  | some (i :: ns) => if ns.length = 6 then .ok (.int (minOf ilt i ns)) h1 else .stuck
  | _ => .stuck := rfl
@[simp ↓] theorem ap_eTRg (a b : EF) (φ : Fn) (s : St) (h : AH) : eTRg a b φ s h = (a φ s h).bind fun x h1 => (b φ s h1).bind fun y h2 => match x, y with
  | .int i, .int j => if rngOk i && rngOk j && decide ((j - i).toNat ≤ SZ) then .ok (.tup (rng i (j - i).toNat)) h2 else .stuck
  | _, _ => .stuck := rfl
@[simp ↓] theorem ap_eCount (o e : EF) (φ : Fn) (s : St) (h : AH) : eCount o e φ s h = (o φ s h).bind fun x h1 => match lstOf x h1 with
  | some _ => (e φ s h1).bind fun y h2 => match cntA x y h2 with
    | some v => .ok v h2
    | none => .stuck
  | none => .stuck := rfl
@[simp] theorem tuple_lst (xs : List AV) (h : AH) : uA .tuple (.lst xs) h = .ok (.tup xs) h := rfl
@[simp] theorem tuple_tup (xs : List AV) (h : AH) : uA .tuple (.tup xs) h = .ok (.tup xs) h := rfl
theorem cnt_ints (xs : List Int) (k : Int) (h : AH) : cntA (.lst (xs.map .int)) (.int k) h = some (.int (xs.count k)) := by
  show (intsO (xs.map .int)).map (fun ns => AV.int (ns.count k)) = _
  rw [ints_of]
  rfl
theorem minOf_nn : ∀ (l : List Int) (a : Int), 0 ≤ a → (∀ x ∈ l, 0 ≤ x) → 0 ≤ minOf ilt a l
  | [], a, h, _ => h
  | b :: r, a, h, hl => by
    show 0 ≤ minOf ilt (if ilt b a then b else a) r
    refine minOf_nn r _ ?_ fun x hx => hl x (List.mem_cons_of_mem _ hx)
    split
    · exact hl b List.mem_cons_self
    · exact h
theorem min_prs (t : Int × Int) (ts : List (Int × Int)) (h : AH) : uA .min (.lst ((t :: ts).map prA)) h = .ok (prA (minOf plt t ts)) h := by
  show (match minA ((t :: ts).map prA) with | some v => Out.ok v h | none => .stuck) = _
  unfold minA
  rw [intsO_prs (t :: ts) (by simp), prs_of]
theorem in_ints (x : Int) (ys : List Int) (h : AH) : cmpA .inn (.int x) (.lst (ys.map .int)) h = .ok (.bl (decide (x ∈ ys))) h := by
  show someB (inA (.int x) (.lst (ys.map .int)) h) h = _
  have e : inA (.int x) (.lst (ys.map .int)) h = if (AV.int x).flat && (ys.map AV.int).all AV.flat then some ((ys.map AV.int).any fun z => decide (z = .int x)) else none := rfl
  rw [e, if_pos (by simp)]
  show Out.ok (AV.bl _) h = _
  congr 2
  rw [Bool.eq_iff_iff]
  simp
theorem mul_one (m : Bool) (x : AV) (k : Int) (h : AH) (h0 : 0 ≤ k) (h1 : k ≤ 1000000) : binA m .mul (.lst [x]) (.int k) h = mk m (List.replicate k.toNat x) h := by
  have e : binA m .mul (.lst [x]) (.int k) h = if -(2 ^ 63) ≤ k ∧ k < 2 ^ 63 ∧ [x].length * k.toNat ≤ SZ then mkLst m (List.replicate k.toNat [x]).flatten h else .stuck := rfl
  rw [e, if_pos ⟨by omega, by omega, by simp [SZ]; omega⟩]
  have e2 : (List.replicate k.toNat [x]).flatten = List.replicate k.toNat x := by
    generalize k.toNat = n
    induction n with
    | zero => rfl
    | succ n ih => rw [List.replicate_succ, List.flatten_cons, ih]; rfl
  rw [e2]
  unfold mkLst
  rw [if_pos (by simp [SZ]; omega)]
end TL

set_option Elab.async false
set_option linter.all false
set_option maxRecDepth 100000
set_option maxHeartbeats 0
set_option autoImplicit false
namespace K06
open TX
def f__wall_1 : SF := (sSeq sNil sNil)
def f__wall : SF := (sSeq (sWhile (eC (.bl true)) f__wall_1) sNil)
def f_rounded_1 : SF := (sSeq (sRet (eIf (eCmp .gt (eV 0) (eC (.int 0))) (eBin false .add (eV 3) (eC (.int 1))) (eV 3))) sNil)
def f_rounded_2 : SF := (sSeq (sIf (eCmp .eq (eV 2) (eC (.str [101, 118, 101, 110]))) (sSeq (sRet (eIf (eCmp .eq (eBin false .mod (eV 3) (eC (.int 2))) (eC (.int 0))) (eV 3) (eBin false .add (eV 3) (eC (.int 1))))) sNil) sNil) f_rounded_1)
def f_rounded_3 : SF := (sSeq (sIf (eCmp .lt (eBin false .mul (eC (.int 2)) (eV 4)) (eV 1)) (sSeq (sRet (eV 3)) sNil) sNil) f_rounded_2)
def f_rounded_4 : SF := (sSeq (sIf (eOr (eCmp .eq (eV 2) (eC (.str [117, 112]))) (eB (eCmp .gt (eBin false .mul (eC (.int 2)) (eV 4)) (eV 1)))) (sSeq (sRet (eBin false .add (eV 3) (eC (.int 1)))) sNil) sNil) f_rounded_3)
def f_rounded_5 : SF := (sSeq (sIf (eOr (eCmp .eq (eV 4) (eC (.int 0))) (eB (eCmp .eq (eV 2) (eC (.str [100, 111, 119, 110]))))) (sSeq (sRet (eV 3)) sNil) sNil) f_rounded_4)
def f_rounded_6 : SF := (sSeq (sSet (gT (gsCons (gN 3) (gsCons (gN 4) gsNil))) (eTup (aCons (eBin false .div (eV 0) (eV 1)) (aCons (eBin false .mod (eV 0) (eV 1)) aNil)))) f_rounded_5)
def f_rounded : SF := (sSeq (sIf (eOr (eCmp .lt (eV 1) (eC (.int 1))) (eB (eCmp .notIn (eV 2) (eC (.tup [.str [100, 111, 119, 110], .str [117, 112], .str [110, 101, 97, 114], .str [101, 118, 101, 110]]))))) (sSeq (sRaise 1) sNil) sNil) f_rounded_6)
def f_Benefit___init___1 : SF := (sSeq (sFld [4] [108, 101, 97, 115, 116] (eV 0) (eV 7)) sNil)
def f_Benefit___init___2 : SF := (sSeq (sFld [4] [108, 105, 109, 105, 116] (eV 0) (eV 6)) f_Benefit___init___1)
def f_Benefit___init___3 : SF := (sSeq (sFld [4] [116, 97, 112, 101, 114] (eV 0) (eV 5)) f_Benefit___init___2)
def f_Benefit___init___4 : SF := (sSeq (sFld [4] [102, 114, 101, 101] (eV 0) (eV 4)) f_Benefit___init___3)
def f_Benefit___init___5 : SF := (sSeq (sFld [4] [99, 104, 105, 108, 100] (eV 0) (eV 3)) f_Benefit___init___4)
def f_Benefit___init___6 : SF := (sSeq (sFld [4] [102, 117, 114, 116, 104, 101, 114] (eV 0) (eV 2)) f_Benefit___init___5)
def f_Benefit___init___7 : SF := (sSeq (sFld [4] [102, 105, 114, 115, 116] (eV 0) (eV 1)) f_Benefit___init___6)
def f_Benefit___init__ : SF := (sSeq (sIf (eOr (eCmp .lt (eMin7 (aCons (eV 1) (aCons (eV 2) (aCons (eV 3) (aCons (eV 4) (aCons (eV 5) (aCons (eV 6) (aCons (eV 7) aNil)))))))) (eC (.int 0))) (eB (eCmp .gt (eV 5) (eC (.int 10000))))) (sSeq (sRaise 3) sNil) sNil) f_Benefit___init___7)
def f_Benefit_whole_1 : SF := (sSeq (sRet (eBin false .add (eBin false .add (eFld [4] [102, 105, 114, 115, 116] (eV 0)) (eBin false .mul (eBin false .sub (eV 1) (eC (.int 1))) (eFld [4] [102, 117, 114, 116, 104, 101, 114] (eV 0)))) (eBin false .mul (eV 2) (eFld [4] [99, 104, 105, 108, 100] (eV 0))))) sNil)
def f_Benefit_whole : SF := (sSeq (sIf (eOr (eCmp .lt (eV 1) (eC (.int 1))) (eB (eCmp .lt (eV 2) (eC (.int 0))))) (sSeq (sRaise 3) sNil) sNil) f_Benefit_whole_1)
def f_Benefit_pays_1 : SF := (sSeq (sRet (eIf (eAnd (eCmp .ge (eV 5) (eMM true (eC (.int 1)) (eFld [4] [108, 101, 97, 115, 116] (eV 0)))) (eB (eCmp .le (eV 4) (eFld [4] [108, 105, 109, 105, 116] (eV 0))))) (eV 5) (eC (.int 0)))) sNil)
def f_Benefit_pays_2 : SF := (sSeq (sSet (gN 5) (eBin false .sub (eMeth 4 [119, 104, 111, 108, 101] 3 (eV 0) (aCons (eV 1) (aCons (eV 2) aNil))) (eCall 1 (aCons (eBin false .mul (eMM true (eC (.int 0)) (eBin false .sub (eV 3) (eFld [4] [102, 114, 101, 101] (eV 0)))) (eFld [4] [116, 97, 112, 101, 114] (eV 0))) (aCons (eC (.int 10000)) (aCons (eC (.str [100, 111, 119, 110])) aNil)))))) f_Benefit_pays_1)
def f_Benefit_pays : SF := (sSeq (sIf (eOr (eCmp .lt (eV 3) (eC (.int 0))) (eB (eCmp .lt (eV 4) (eC (.int 0))))) (sSeq (sRaise 3) sNil) sNil) f_Benefit_pays_2)
def f_Benefit_ends_at_1 : SF := (sSeq (sIf (eCmp .eq (eMeth 4 [112, 97, 121, 115] 4 (eV 0) (aCons (eV 1) (aCons (eV 2) (aCons (eV 5) (aCons (eC (.int 0)) aNil))))) (eC (.int 0))) (sSeq (sSet (gN 4) (eV 5)) sNil) (sSeq (sSet (gN 3) (eBin false .add (eV 5) (eC (.int 1)))) sNil)) sNil)
def f_Benefit_ends_at_2 : SF := (sSeq (sSet (gN 5) (eBin false .div (eBin false .add (eV 3) (eV 4)) (eC (.int 2)))) f_Benefit_ends_at_1)
def f_Benefit_ends_at_3 : SF := (sSeq (sRet (eV 3)) sNil)
def f_Benefit_ends_at_4 : SF := (sSeq (sWhile (eCmp .lt (eV 3) (eV 4)) f_Benefit_ends_at_2) f_Benefit_ends_at_3)
def f_Benefit_ends_at_5 : SF := (sSeq (sSet (gT (gsCons (gN 3) (gsCons (gN 4) gsNil))) (eTup (aCons (eC (.int 0)) (aCons (eC (.int 10000000)) aNil)))) f_Benefit_ends_at_4)
def f_Benefit_ends_at : SF := (sSeq (sIf (eCmp .gt (eMeth 4 [112, 97, 121, 115] 4 (eV 0) (aCons (eV 1) (aCons (eV 2) (aCons (eC (.int 10000000)) (aCons (eC (.int 0)) aNil))))) (eC (.int 0))) (sSeq (sRet (eC .non)) sNil) sNil) f_Benefit_ends_at_5)
def f_kept_of_more_1 : SF := (sSeq (sRet (eBin false .sub (eCall 7 (aCons (eV 0) (aCons (eV 1) (aCons (eV 2) (aCons (eV 3) (aCons (eBin false .add (eV 4) (eV 5)) aNil)))))) (eCall 7 (aCons (eV 0) (aCons (eV 1) (aCons (eV 2) (aCons (eV 3) (aCons (eV 4) aNil)))))))) sNil)
def f_kept_of_more : SF := (sSeq (sIf (eCmp .lt (eV 5) (eC (.int 0))) (sSeq (sRaise 3) sNil) sNil) f_kept_of_more_1)
def f_left_of : SF := (sSeq (sRet (eBin false .add (eBin false .sub (eV 4) (eBin false .div (eMeth 5 [116, 97, 120] 14 (eV 1) (aCons (eBin false .mul (eC (.int 12)) (eV 4)) aNil)) (eC (.int 12)))) (eMeth 4 [112, 97, 121, 115] 4 (eV 0) (aCons (eV 2) (aCons (eV 3) (aCons (eV 4) (aCons (eC (.int 0)) aNil))))))) sNil)
def f_cliffs_1 : SF := (sSeq (sIf (eCmp .gt (eV 8) (eC (.int 0))) (sSeq (sExp (eApp (eV 5) (eTup (aCons (eV 6) (aCons (eV 7) (aCons (eV 8) aNil)))))) sNil) sNil) sNil)
def f_cliffs_2 : SF := (sSeq (sSet (gN 8) (eBin false .sub (eCall 7 (aCons (eV 0) (aCons (eV 1) (aCons (eV 2) (aCons (eV 3) (aCons (eV 6) aNil)))))) (eCall 7 (aCons (eV 0) (aCons (eV 1) (aCons (eV 2) (aCons (eV 3) (aCons (eV 7) aNil)))))))) f_cliffs_1)
def f_cliffs_3 : SF := (sSeq (sRet (eU .tuple (eV 5))) sNil)
def f_cliffs_4 : SF := (sSeq (sFor (iZip (eV 4) (eSlc false (eV 4) (oSome (eC (.int 1))) oNone)) (gT (gsCons (gN 6) (gsCons (gN 7) gsNil))) f_cliffs_2) f_cliffs_3)
def f_cliffs_5 : SF := (sSeq (sSet (gN 5) (eLst true aNil)) f_cliffs_4)
def f_cliffs : SF := (sSeq (sIf (eAny [6, 7] (iZip (eV 4) (eSlc false (eV 4) (oSome (eC (.int 1))) oNone)) (gT (gsCons (gN 6) (gsCons (gN 7) gsNil))) eYes (eCmp .ge (eV 6) (eV 7))) (sSeq (sRaise 3) sNil) sNil) f_cliffs_5)
def f_worst_rate_1 : SF := (sSeq (sSet (gN 5) (eIf (eOr (eCmp .isN (eV 5) (eC .non)) (eB (eCmp .lt (eV 9) (eV 5)))) (eV 9) (eV 5))) sNil)
def f_worst_rate_2 : SF := (sSeq (sSet (gN 9) (eTup (aCons (eBin false .sub (eC (.int 0)) (eBin false .div (eBin false .mul (eBin false .sub (eBin false .sub (eV 7) (eV 6)) (eV 8)) (eC (.int 10000))) (eBin false .sub (eV 7) (eV 6)))) (aCons (eV 6) aNil)))) f_worst_rate_1)
def f_worst_rate_3 : SF := (sSeq (sSet (gN 8) (eCall 6 (aCons (eV 0) (aCons (eV 1) (aCons (eV 2) (aCons (eV 3) (aCons (eV 6) (aCons (eBin false .sub (eV 7) (eV 6)) aNil)))))))) f_worst_rate_2)
def f_worst_rate_4 : SF := (sSeq (sRet (eTup (aCons (eBin false .sub (eC (.int 0)) (eIdx (eV 5) (eC (.int 0)))) (aCons (eIdx (eV 5) (eC (.int 1))) aNil)))) sNil)
def f_worst_rate_5 : SF := (sSeq (sFor (iZip (eV 4) (eSlc false (eV 4) (oSome (eC (.int 1))) oNone)) (gT (gsCons (gN 6) (gsCons (gN 7) gsNil))) f_worst_rate_3) f_worst_rate_4)
def f_worst_rate_6 : SF := (sSeq (sSet (gN 5) (eC .non)) f_worst_rate_5)
def f_worst_rate : SF := (sSeq (sIf (eOr (eCmp .lt (eU .len (eV 4)) (eC (.int 2))) (eB (eAny [6, 7] (iZip (eV 4) (eSlc false (eV 4) (oSome (eC (.int 1))) oNone)) (gT (gsCons (gN 6) (gsCons (gN 7) gsNil))) eYes (eCmp .ge (eV 6) (eV 7))))) (sSeq (sRaise 3) sNil) sNil) f_worst_rate_6)
def f_paid_behind_1 : SF := (sSeq (sIf (eCmp .gt (eV 11) (eC (.int 0))) (sSeq (sExp (eApp (eV 5) (eTup (aCons (eV 8) (aCons (eV 11) aNil))))) sNil) sNil) sNil)
def f_paid_behind_2 : SF := (sSeq (sAug 6 .add (eBin false .sub (eBin false .sub (eV 9) (eV 10)) (eV 11))) f_paid_behind_1)
def f_paid_behind_3 : SF := (sSeq (sAug 7 .sub (eV 11)) f_paid_behind_2)
def f_paid_behind_4 : SF := (sSeq (sSet (gN 11) (eMM false (eBin false .sub (eV 9) (eV 10)) (eV 7))) f_paid_behind_3)
def f_paid_behind_5 : SF := (sSeq (sAug 4 .sub (eV 10)) f_paid_behind_4)
def f_paid_behind_6 : SF := (sSeq (sIf (eCmp .gt (eV 9) (eC (.int 0))) (sSeq (sSet (gN 10) (eMM false (eV 9) (eV 4))) f_paid_behind_5) sNil) sNil)
def f_paid_behind_7 : SF := (sSeq (sRet (eTup (aCons (eU .tuple (eV 5)) (aCons (eV 6) aNil)))) sNil)
def f_paid_behind_8 : SF := (sSeq (sFor (iEnum (eV 3)) (gT (gsCons (gN 8) (gsCons (gN 9) gsNil))) f_paid_behind_6) f_paid_behind_7)
def f_paid_behind_9 : SF := (sSeq (sSet (gT (gsCons (gN 5) (gsCons (gN 6) (gsCons (gN 7) gsNil)))) (eTup (aCons (eLst true aNil) (aCons (eC (.int 0)) (aCons (eV 2) aNil))))) f_paid_behind_8)
def f_paid_behind_10 : SF := (sSeq (sSet (gN 4) (eGen .sum [9] (iSeq (eV 3)) (gN 9) (eCmp .lt (eV 9) (eC (.int 0))) (eBin false .sub (eC (.int 0)) (eV 9)))) f_paid_behind_9)
def f_paid_behind_11 : SF := (sSeq (sSet (gN 3) (eLc false [12, 13] (iZip (eV 0) (eV 1)) (gT (gsCons (gN 12) (gsCons (gN 13) gsNil))) eYes (eBin false .sub (eV 12) (eV 13)))) f_paid_behind_10)
def f_paid_behind : SF := (sSeq (sIf (eOr (eCmp .ne (eU .len (eV 0)) (eU .len (eV 1))) (eOr (eCmp .gt (eU .len (eV 0)) (eC (.int 240))) (eOr (eCmp .lt (eV 2) (eC (.int 0))) (eB (eAny [12] (iSeq (eBin false .add (eU (.list false) (eV 0)) (eU (.list false) (eV 1)))) (gN 12) eYes (eCmp .lt (eV 12) (eC (.int 0)))))))) (sSeq (sRaise 3) sNil) sNil) f_paid_behind_11)
def f_months_due_1 : SF := (sSeq (sRet (eGen .tuple [4] (iRng1 (eV 1)) (gN 4) (eChain .le .lt (eBin false .mul (eC (.int 12)) (eV 2)) (eBin false .add (eV 0) (eV 4)) (eBin false .mul (eC (.int 12)) (eV 3))) (eV 4))) sNil)
def f_months_due : SF := (sSeq (sIf (eOr (eNot (eChain .le .le (eC (.int 0)) (eV 1) (eC (.int 240)))) (eB (eNot (eChain .le .lt (eC (.int 0)) (eV 2) (eV 3))))) (sSeq (sRaise 3) sNil) sNil) f_months_due_1)
def f_Bands___init___1 : SF := (sSeq (sIf (eAny [3, 4] (iSeq (eFld [5] [114, 111, 119, 115] (eV 0))) (gT (gsCons (gN 3) (gsCons (gN 4) gsNil))) eYes (eNot (eChain .le .le (eC (.int 0)) (eV 4) (eC (.int 10000))))) (sSeq (sRaise 2) sNil) sNil) sNil)
def f_Bands___init___2 : SF := (sSeq (sIf (eAny [5, 6] (iZip (eFld [5] [114, 111, 119, 115] (eV 0)) (eSlc false (eFld [5] [114, 111, 119, 115] (eV 0)) (oSome (eC (.int 1))) oNone)) (gT (gsCons (gN 5) (gsCons (gN 6) gsNil))) eYes (eCmp .ge (eIdx (eV 5) (eC (.int 0))) (eIdx (eV 6) (eC (.int 0))))) (sSeq (sRaise 2) sNil) sNil) f_Bands___init___1)
def f_Bands___init___3 : SF := (sSeq (sIf (eOr (eNot (eChain .lt .le (eC (.int 0)) (eU .len (eFld [5] [114, 111, 119, 115] (eV 0))) (eC (.int 12)))) (eB (eCmp .ne (eIdx (eIdx (eFld [5] [114, 111, 119, 115] (eV 0)) (eC (.int 0))) (eC (.int 0))) (eC (.int 0))))) (sSeq (sRaise 2) sNil) sNil) f_Bands___init___2)
def f_Bands___init___4 : SF := (sSeq (sFld [5] [104, 111, 119] (eV 0) (eV 2)) f_Bands___init___3)
def f_Bands___init__ : SF := (sSeq (sFld [5] [114, 111, 119, 115] (eV 0) (eGen .tuple [3, 4] (iSeq (eV 1)) (gT (gsCons (gN 3) (gsCons (gN 4) gsNil))) eYes (eTup (aCons (eV 3) (aCons (eV 4) aNil))))) f_Bands___init___4)
def f_Bands_parts_1 : SF := (sSeq (sIf (eCmp .gt (eV 1) (eV 4)) (sSeq (sExp (eApp (eV 2) (eTup (aCons (eBin false .sub (eMM false (eV 1) (eV 6)) (eV 4)) (aCons (eV 5) aNil))))) sNil) sNil) sNil)
def f_Bands_parts_2 : SF := (sSeq (sSet (gN 6) (eIf (eCmp .lt (eBin false .add (eV 3) (eC (.int 1))) (eU .len (eFld [5] [114, 111, 119, 115] (eV 0)))) (eIdx (eIdx (eFld [5] [114, 111, 119, 115] (eV 0)) (eBin false .add (eV 3) (eC (.int 1)))) (eC (.int 0))) (eC (.int 100000000)))) f_Bands_parts_1)
def f_Bands_parts_3 : SF := (sSeq (sRet (eU .tuple (eV 2))) sNil)
def f_Bands_parts_4 : SF := (sSeq (sFor (iEnum (eFld [5] [114, 111, 119, 115] (eV 0))) (gT (gsCons (gN 3) (gsCons (gT (gsCons (gN 4) (gsCons (gN 5) gsNil))) gsNil))) f_Bands_parts_2) f_Bands_parts_3)
def f_Bands_parts_5 : SF := (sSeq (sSet (gN 2) (eLst true aNil)) f_Bands_parts_4)
def f_Bands_parts : SF := (sSeq (sIf (eNot (eChain .le .le (eC (.int 0)) (eV 1) (eC (.int 100000000)))) (sSeq (sRaise 2) sNil) sNil) f_Bands_parts_5)
def f_Bands_tax : SF := (sSeq (sRet (eCall 1 (aCons (eGen .sum [2, 3] (iSeq (eMeth 5 [112, 97, 114, 116, 115] 13 (eV 0) (aCons (eV 1) aNil))) (gT (gsCons (gN 2) (gsCons (gN 3) gsNil))) eYes (eBin false .mul (eV 2) (eV 3))) (aCons (eC (.int 10000)) (aCons (eFld [5] [104, 111, 119] (eV 0)) aNil))))) sNil)
def f_Bands_kept : SF := (sSeq (sRet (eBin false .sub (eV 1) (eMeth 5 [116, 97, 120] 14 (eV 0) (aCons (eV 1) aNil)))) sNil)
def f_Bands_rate_at : SF := (sSeq (sExp (eCall 0 (aCons (eC (.int 0)) aNil))) sNil)
def f_Bands_mean_rate : SF := (sSeq (sExp (eCall 0 (aCons (eC (.int 1)) aNil))) sNil)
def f_Bands_needed : SF := (sSeq (sExp (eCall 0 (aCons (eC (.int 2)) aNil))) sNil)
def f_Bands_split : SF := (sSeq (sExp (eCall 0 (aCons (eC (.int 3)) aNil))) sNil)
def f_Bands_saved : SF := (sSeq (sExp (eCall 0 (aCons (eC (.int 4)) aNil))) sNil)
def f_Bands_spread : SF := (sSeq (sExp (eCall 0 (aCons (eC (.int 5)) aNil))) sNil)
def f_Bands_raised : SF := (sSeq (sExp (eCall 0 (aCons (eC (.int 6)) aNil))) sNil)
def f__law_dice_1 : SF := (sSeq (sRet (eLst true (aCons (eV 0) (aCons (eBin false .add (eC (.int 1)) (eBin false .mod (eU .int (eV 0)) (eC (.int 1009)))) (aCons (eU .int (eCmp .ge (eV 0) (eBin false .pow (eC (.int 10)) (eC (.int 18))))) aNil))))) sNil)
def f__law_dice : SF := (sSeq (sIf (eChain .lt .lt (eBin false .sub (eC (.int 0)) (eC (.int 10))) (eV 0) (eC (.int 10))) (sSeq (sRet (eLst true (aCons (eU .abs (eV 0)) (aCons (eC (.int 0)) (aCons (eC (.int 2)) aNil))))) sNil) sNil) f__law_dice_1)
def f__law_roll_1 : SF := (sSeq (sRet (eV 2)) sNil)
def f__law_roll_2 : SF := (sSeq (sPut (eV 0) (eC (.int 0)) (eBin false .div (eIdx (eV 0) (eC (.int 0))) (eV 1))) f__law_roll_1)
def f__law_roll_3 : SF := (sSeq (sRet (eBin false .mod (eU .int (eBin false .div (eIdx (eV 0) (eC (.int 0))) (eC (.int 7)))) (eV 1))) sNil)
def f__law_roll_4 : SF := (sSeq (sPut (eV 0) (eC (.int 1)) (eBin false .add (eIdx (eV 0) (eC (.int 1))) (eC (.int 1)))) f__law_roll_3)
def f__law_roll_5 : SF := (sSeq (sPut (eV 0) (eC (.int 0)) (eBin false .mod (eU .int (eBin false .add (eBin false .add (eBin false .mul (eIdx (eV 0) (eC (.int 0))) (eC (.int 48271))) (eBin false .mul (eIdx (eV 0) (eC (.int 1))) (eC (.int 69621)))) (eC (.int 11)))) (eC (.int 2147483647)))) f__law_roll_4)
def f__law_roll_6 : SF := (sSeq (sIf (eCmp .gt (eV 1) (eC (.int 100000000))) (sSeq (sRet (eBin false .mod (eU .int (eBin false .add (eBin false .mul (eCall 24 (aCons (eV 0) (aCons (eBin false .add (eBin false .div (eV 1) (eC (.int 100000000))) (eC (.int 1))) aNil))) (eC (.int 100000000))) (eCall 24 (aCons (eV 0) (aCons (eC (.int 100000000)) aNil))))) (eV 1))) sNil) sNil) f__law_roll_5)
def f__law_roll_7 : SF := (sSeq (sPut (eV 0) (eC (.int 2)) (eC (.int 0))) f__law_roll_6)
def f__law_roll : SF := (sSeq (sIf (eOr (eCmp .eq (eIdx (eV 0) (eC (.int 2))) (eC (.int 2))) (eB (eAnd (eCmp .eq (eIdx (eV 0) (eC (.int 2))) (eC (.int 1))) (eB (eCmp .gt (eIdx (eV 0) (eC (.int 0))) (eC (.int 0))))))) (sSeq (sSet (gN 2) (eBin false .mod (eU .int (eIdx (eV 0) (eC (.int 0)))) (eV 1))) f__law_roll_2) sNil) f__law_roll_7)
def f__law_rounds_1 : SF := (sSeq (sRet (eLc false [3] (iSeq (eV 2)) (gN 3) eYes (eCall 23 (aCons (eV 3) aNil)))) sNil)
def f__law_rounds_2 : SF := (sSeq (sIf (eCmp .eq (eV 2) (eLst false aNil)) (sSeq (sSet (gN 2) (eLst false (aCons (eC (.int 0)) aNil))) sNil) sNil) f__law_rounds_1)
def f__law_rounds : SF := (sSeq (sSet (gN 2) (eSlc false (eV 0) oNone (oSome (eV 1)))) f__law_rounds_2)
def f__law_pays_1 : SF := (sSeq (sRet (eIf (eAnd (eCmp .gt (eV 6) (eC (.int 0))) (eAnd (eCmp .ge (eV 6) (eIdx (eV 0) (eC (.str [108, 101, 97, 115, 116])))) (eB (eCmp .le (eV 4) (eIdx (eV 0) (eC (.str [108, 105, 109, 105, 116]))))))) (eV 6) (eC (.int 0)))) sNil)
def f__law_pays_2 : SF := (sSeq (sSet (gN 6) (eBin false .sub (eV 5) (eBin false .div (eBin false .mul (eMM true (eC (.int 0)) (eBin false .sub (eV 3) (eIdx (eV 0) (eC (.str [102, 114, 101, 101]))))) (eIdx (eV 0) (eC (.str [116, 97, 112, 101, 114])))) (eC (.int 10000))))) f__law_pays_1)
def f__law_pays : SF := (sSeq (sSet (gN 5) (eBin false .add (eBin false .add (eIdx (eV 0) (eC (.str [102, 105, 114, 115, 116]))) (eBin false .mul (eBin false .sub (eV 1) (eC (.int 1))) (eIdx (eV 0) (eC (.str [102, 117, 114, 116, 104, 101, 114]))))) (eBin false .mul (eV 2) (eIdx (eV 0) (eC (.str [99, 104, 105, 108, 100])))))) f__law_pays_2)
def f__law_left_1 : SF := (sSeq (sSet (gN 5) (eBin false .add (eV 5) (eBin false .mul (eMM true (eC (.int 0)) (eBin false .sub (eMM false (eBin false .mul (eC (.int 12)) (eV 4)) (eV 9)) (eV 7))) (eV 8)))) sNil)
def f__law_left_2 : SF := (sSeq (sSet (gN 9) (eIf (eCmp .lt (eBin false .add (eV 6) (eC (.int 1))) (eU .len (eV 1))) (eIdx (eIdx (eV 1) (eBin false .add (eV 6) (eC (.int 1)))) (eC (.int 0))) (eBin false .pow (eC (.int 10)) (eC (.int 9))))) f__law_left_1)
def f__law_left_3 : SF := (sSeq (sRet (eBin false .add (eBin false .sub (eV 4) (eBin false .div (eBin false .div (eV 5) (eC (.int 10000))) (eC (.int 12)))) (eCall 26 (aCons (eV 0) (aCons (eV 2) (aCons (eV 3) (aCons (eV 4) (aCons (eC (.int 0)) aNil)))))))) sNil)
def f__law_left_4 : SF := (sSeq (sFor (iEnum (eV 1)) (gT (gsCons (gN 6) (gsCons (gT (gsCons (gN 7) (gsCons (gN 8) gsNil))) gsNil))) f__law_left_2) f__law_left_3)
def f__law_left : SF := (sSeq (sSet (gN 5) (eC (.int 0))) f__law_left_4)
def f__law_plain_1 : SF := (sSeq (sRet (eAnd (eCmp .isN (eMeth 4 [101, 110, 100, 115, 95, 97, 116] 5 (eMake 4 2 [.int 0] (aCons (eC (.int 5)) (aCons (eC (.int 0)) (aCons (eC (.int 0)) (aCons (eC (.int 0)) (aCons (eC (.int 0)) (aCons (eC (.int 0)) aNil))))))) (aCons (eC (.int 1)) (aCons (eC (.int 0)) aNil))) (eC .non)) (eAnd (eCmp .eq (eCall 8 (aCons (eV 0) (aCons (eV 1) (aCons (eC (.int 1)) (aCons (eC (.int 0)) (aCons (eLst false (aCons (eC (.int 200)) (aCons (eC (.int 201)) (aCons (eC (.int 202)) (aCons (eC (.int 203)) aNil))))) aNil)))))) (eTup (aCons (eTup (aCons (eC (.int 201)) (aCons (eC (.int 202)) (aCons (eC (.int 9)) aNil)))) aNil))) (eAnd (eCmp .eq (eCall 10 (aCons (eLst false (aCons (eC (.int 5)) (aCons (eC (.int 5)) aNil))) (aCons (eLst false (aCons (eC (.int 3)) (aCons (eC (.int 6)) aNil))) (aCons (eC (.int 9)) aNil)))) (eTup (aCons (eTup (aCons (eTup (aCons (eC (.int 0)) (aCons (eC (.int 1)) aNil))) aNil)) (aCons (eC (.int 0)) aNil)))) (eB (eCmp .eq (eCall 11 (aCons (eNeg (eC (.int 1))) (aCons (eC (.int 14)) (aCons (eC (.int 0)) (aCons (eC (.int 1)) aNil))))) (eTRg (eC (.int 1)) (eC (.int 13))))))))) sNil)
def f__law_plain_2 : SF := (sSeq (sIf (eNot (eAnd (eCmp .eq (eMeth 4 [112, 97, 121, 115] 4 (eV 0) (aCons (eC (.int 2)) (aCons (eC (.int 1)) (aCons (eC (.int 40)) (aCons (eC (.int 0)) aNil))))) (eC (.int 170))) (eB (eCmp .eq (eMeth 4 [101, 110, 100, 115, 95, 97, 116] 5 (eV 0) (aCons (eC (.int 1)) (aCons (eC (.int 0)) aNil))) (eC (.int 202)))))) (sSeq (sRet (eC (.bl false))) sNil) sNil) f__law_plain_1)
def f__law_plain_3 : SF := (sBad 2 [(eMake 4 2 [.int 0] (aCons (eNeg (eC (.int 1))) (aCons (eC (.int 0)) (aCons (eC (.int 0)) (aCons (eC (.int 0)) (aCons (eC (.int 0)) (aCons (eC (.int 0)) aNil))))))), (eMake 4 2 [.int 0] (aCons (eC (.int 0)) (aCons (eC (.int 0)) (aCons (eC (.int 0)) (aCons (eC (.int 0)) (aCons (eC (.int 10001)) (aCons (eC (.int 0)) aNil))))))), (eMake 4 2 [] (aCons (eC (.int 0)) (aCons (eC (.int 0)) (aCons (eC (.int 0)) (aCons (eC (.int 0)) (aCons (eC (.int 0)) (aCons (eC (.int 0)) (aCons (eNeg (eC (.int 1))) aNil)))))))), (eMeth 4 [119, 104, 111, 108, 101] 3 (eV 0) (aCons (eC (.int 0)) (aCons (eC (.int 1)) aNil))), (eMeth 4 [119, 104, 111, 108, 101] 3 (eV 0) (aCons (eC (.int 1)) (aCons (eNeg (eC (.int 1))) aNil))), (eMeth 4 [112, 97, 121, 115] 4 (eV 0) (aCons (eC (.int 1)) (aCons (eC (.int 0)) (aCons (eNeg (eC (.int 1))) (aCons (eC (.int 0)) aNil))))), (eMeth 4 [112, 97, 121, 115] 4 (eV 0) (aCons (eC (.int 1)) (aCons (eC (.int 0)) (aCons (eC (.int 0)) (aCons (eNeg (eC (.int 1))) aNil))))), (eMeth 4 [101, 110, 100, 115, 95, 97, 116] 5 (eV 0) (aCons (eC (.int 0)) (aCons (eC (.int 0)) aNil))), (eCall 6 (aCons (eV 0) (aCons (eV 1) (aCons (eC (.int 1)) (aCons (eC (.int 0)) (aCons (eC (.int 5)) (aCons (eNeg (eC (.int 1))) aNil))))))), (eCall 8 (aCons (eV 0) (aCons (eV 1) (aCons (eC (.int 1)) (aCons (eC (.int 0)) (aCons (eLst false (aCons (eC (.int 5)) (aCons (eC (.int 5)) aNil))) aNil)))))), (eCall 9 (aCons (eV 0) (aCons (eV 1) (aCons (eC (.int 1)) (aCons (eC (.int 0)) (aCons (eLst false (aCons (eC (.int 5)) aNil)) aNil)))))), (eCall 9 (aCons (eV 0) (aCons (eV 1) (aCons (eC (.int 1)) (aCons (eC (.int 0)) (aCons (eLst false (aCons (eC (.int 6)) (aCons (eC (.int 5)) aNil))) aNil)))))), (eCall 10 (aCons (eLst false (aCons (eC (.int 1)) aNil)) (aCons (eLst false aNil) (aCons (eC (.int 5)) aNil)))), (eCall 10 (aCons (eLst false (aCons (eNeg (eC (.int 1))) aNil)) (aCons (eLst false (aCons (eC (.int 1)) aNil)) (aCons (eC (.int 5)) aNil)))), (eCall 10 (aCons (eLst false (aCons (eC (.int 1)) aNil)) (aCons (eLst false (aCons (eC (.int 1)) aNil)) (aCons (eNeg (eC (.int 1))) aNil)))), (eCall 10 (aCons (eBin false .mul (eLst false (aCons (eC (.int 0)) aNil)) (eC (.int 241))) (aCons (eBin false .mul (eLst false (aCons (eC (.int 0)) aNil)) (eC (.int 241))) (aCons (eC (.int 1)) aNil)))), (eCall 11 (aCons (eC (.int 0)) (aCons (eC (.int 241)) (aCons (eC (.int 0)) (aCons (eC (.int 1)) aNil))))), (eCall 11 (aCons (eC (.int 0)) (aCons (eC (.int 5)) (aCons (eC (.int 1)) (aCons (eC (.int 1)) aNil)))))] (ctOf [1, 2, 3]) [84, 97, 120, 69, 114, 114, 111, 114] (sSeq (sIf (eB (eCmp .ne (eC (.int 240)) (eC (.int 240)))) (sSeq (sRet (eC (.bl false))) sNil) sNil) f__law_plain_2))
def f__law_plain : SF := (sSeq (sSet (gT (gsCons (gN 0) (gsCons (gN 1) gsNil))) (eTup (aCons (eMake 4 2 [] (aCons (eC (.int 100)) (aCons (eC (.int 50)) (aCons (eC (.int 30)) (aCons (eC (.int 20)) (aCons (eC (.int 5000)) (aCons (eC (.int 1000)) (aCons (eC (.int 10)) aNil)))))))) (aCons (eMake 5 12 [.str [100, 111, 119, 110]] (aCons (eLst false (aCons (eTup (aCons (eC (.int 0)) (aCons (eC (.int 0)) aNil))) aNil)) aNil)) aNil)))) f__law_plain_3)
def f_law_1 : SF := (sSeq (sSet (gN 15) (eBin false .add (eV 15) (eLst false (aCons (eTup (aCons (eNeg (eBin false .div (eBin false .mul (eBin false .add (eBin false .sub (eV 17) (eV 16)) (eV 18)) (eC (.int 10000))) (eBin false .sub (eV 17) (eV 16)))) (aCons (eV 16) aNil))) aNil)))) sNil)
def f_law_2 : SF := (sSeq (sSet (gN 14) (eBin false .add (eV 14) (eBin false .mul (eLst false (aCons (eTup (aCons (eV 16) (aCons (eV 17) (aCons (eV 18) aNil)))) aNil)) (eU .int (eCmp .gt (eV 18) (eC (.int 0))))))) f_law_1)
def f_law_3 : SF := (sSeq (sSet (gN 18) (eBin false .sub (eCall 27 (aCons (eV 2) (aCons (eV 9) (aCons (eV 4) (aCons (eV 5) (aCons (eV 16) aNil)))))) (eCall 27 (aCons (eV 2) (aCons (eV 9) (aCons (eV 4) (aCons (eV 5) (aCons (eV 17) aNil)))))))) f_law_2)
def f_law_4 : SF := (sSeq (sSet (gN 23) (eBin false .add (eV 23) (eBin false .mul (eLst false (aCons (eV 25) aNil)) (eMM true (eC (.int 0)) (eBin false .sub (eIdx (eV 20) (eV 25)) (eIdx (eV 21) (eV 25))))))) sNil)
def f_law_5 : SF := (sSeq (sIf (eCmp .ne (eU (.list false) (eCall 11 (aCons (eV 28) (aCons (eV 31) (aCons (eV 29) (aCons (eV 30) aNil)))))) (eLc false [25] (iRng1 (eV 31)) (gN 25) (eChain .le .lt (eV 29) (eBin false .div (eBin false .add (eV 28) (eV 25)) (eC (.int 12))) (eV 30)) (eV 25))) (sSeq (sRet (eC (.bl false))) sNil) sNil) sNil)
def f_law_6 : SF := (sSeq (sSet (gT (gsCons (gN 30) (gsCons (gN 31) gsNil))) (eTup (aCons (eBin false .add (eBin false .add (eV 29) (eC (.int 1))) (eCall 24 (aCons (eV 1) (aCons (eC (.int 10)) aNil)))) (aCons (eCall 24 (aCons (eV 1) (aCons (eC (.int 60)) aNil))) aNil)))) f_law_5)
def f_law_7 : SF := (sSeq (sSet (gT (gsCons (gN 28) (gsCons (gN 29) gsNil))) (eTup (aCons (eBin false .sub (eCall 24 (aCons (eV 1) (aCons (eC (.int 300)) aNil))) (eC (.int 60))) (aCons (eCall 24 (aCons (eV 1) (aCons (eC (.int 8)) aNil))) aNil)))) f_law_6)
def f_law_8 : SF := (sSeq (sIf (eCmp .ne (eCall 10 (aCons (eV 20) (aCons (eV 21) (aCons (eV 22) aNil)))) (eTup (aCons (eU .tuple (eV 27)) (aCons (eBin false .sub (eMM true (eC (.int 0)) (eBin false .sub (eU .len (eV 23)) (eV 24))) (eU .len (eV 26))) aNil)))) (sSeq (sRet (eC (.bl false))) sNil) sNil) f_law_7)
def f_law_9 : SF := (sSeq (sSet (gN 27) (eLc false [25] (iRng1 (eV 19)) (gN 25) (eCmp .inn (eV 25) (eV 26)) (eTup (aCons (eV 25) (aCons (eCount (eV 26) (eV 25)) aNil))))) f_law_8)
def f_law_10 : SF := (sSeq (sSet (gN 26) (eSlc false (eSlc false (eV 23) (oSome (eV 24)) oNone) oNone (oSome (eV 22)))) f_law_9)
def f_law_11 : SF := (sSeq (sFor (iRng1 (eV 19)) (gN 25) f_law_4) f_law_10)
def f_law_12 : SF := (sSeq (sSet (gT (gsCons (gN 23) (gsCons (gN 24) gsNil))) (eTup (aCons (eLst false aNil) (aCons (eU .sum (eLc false [32, 33] (iZip (eV 20) (eV 21)) (gT (gsCons (gN 32) (gsCons (gN 33) gsNil))) eYes (eMM true (eC (.int 0)) (eBin false .sub (eV 33) (eV 32))))) aNil)))) f_law_11)
def f_law_13 : SF := (sSeq (sSet (gT (gsCons (gN 20) (gsCons (gN 21) (gsCons (gN 22) gsNil)))) (eTup (aCons (eLc false [25] (iRng1 (eV 19)) (gN 25) eYes (eCall 24 (aCons (eV 1) (aCons (eC (.int 9)) aNil)))) (aCons (eLc false [25] (iRng1 (eV 19)) (gN 25) eYes (eCall 24 (aCons (eV 1) (aCons (eC (.int 9)) aNil)))) (aCons (eCall 24 (aCons (eV 1) (aCons (eC (.int 30)) aNil))) aNil))))) f_law_12)
def f_law_14 : SF := (sSeq (sSet (gN 19) (eCall 24 (aCons (eV 1) (aCons (eC (.int 8)) aNil)))) f_law_13)
def f_law_15 : SF := (sSeq (sIf (eAnd (eCmp .gt (eU .len (eV 13)) (eC (.int 1))) (eB (eCmp .ne (eCall 9 (aCons (eV 3) (aCons (eV 10) (aCons (eV 4) (aCons (eV 5) (aCons (eV 13) aNil)))))) (eTup (aCons (eNeg (eIdx (eU .min (eV 15)) (eC (.int 0)))) (aCons (eIdx (eU .min (eV 15)) (eC (.int 1))) aNil)))))) (sSeq (sRet (eC (.bl false))) sNil) sNil) f_law_14)
def f_law_16 : SF := (sSeq (sIf (eCmp .ne (eU (.list false) (eCall 8 (aCons (eV 3) (aCons (eV 10) (aCons (eV 4) (aCons (eV 5) (aCons (eV 13) aNil))))))) (eV 14)) (sSeq (sRet (eC (.bl false))) sNil) sNil) f_law_15)
def f_law_17 : SF := (sSeq (sFor (iZip (eV 13) (eSlc false (eV 13) (oSome (eC (.int 1))) oNone)) (gT (gsCons (gN 16) (gsCons (gN 17) gsNil))) f_law_3) f_law_16)
def f_law_18 : SF := (sSeq (sSet (gT (gsCons (gN 14) (gsCons (gN 15) gsNil))) (eTup (aCons (eLst false aNil) (aCons (eLst false aNil) aNil)))) f_law_17)
def f_law_19 : SF := (sSeq (sSet (gN 13) (eU (.sorted false) (eU (.dict false) (eLc false [25] (iRng1 (eBin false .add (eC (.int 2)) (eCall 24 (aCons (eV 1) (aCons (eC (.int 5)) aNil))))) (gN 25) eYes (eTup (aCons (eCall 24 (aCons (eV 1) (aCons (eC (.int 600)) aNil))) (aCons (eC (.int 1)) aNil))))))) f_law_18)
def f_law_20 : SF := (sSeq (sIf (eCmp .ne (eCall 6 (aCons (eV 3) (aCons (eV 10) (aCons (eV 4) (aCons (eV 5) (aCons (eV 6) (aCons (eV 11) aNil))))))) (eBin false .sub (eCall 27 (aCons (eV 2) (aCons (eV 9) (aCons (eV 4) (aCons (eV 5) (aCons (eBin false .add (eV 6) (eV 11)) aNil)))))) (eV 12))) (sSeq (sRet (eC (.bl false))) sNil) sNil) f_law_19)
def f_law_21 : SF := (sSeq (sIf (eCmp .ne (eCall 7 (aCons (eV 3) (aCons (eV 10) (aCons (eV 4) (aCons (eV 5) (aCons (eV 6) aNil)))))) (eV 12)) (sSeq (sRet (eC (.bl false))) sNil) sNil) f_law_20)
def f_law_22 : SF := (sSeq (sSet (gN 12) (eCall 27 (aCons (eV 2) (aCons (eV 9) (aCons (eV 4) (aCons (eV 5) (aCons (eV 6) aNil))))))) f_law_21)
def f_law_23 : SF := (sSeq (sSet (gT (gsCons (gN 10) (gsCons (gN 11) gsNil))) (eTup (aCons (eMake 5 12 [.str [100, 111, 119, 110]] (aCons (eV 9) aNil)) (aCons (eCall 24 (aCons (eV 1) (aCons (eC (.int 200)) aNil))) aNil)))) f_law_22)
def f_law_24 : SF := (sSeq (sSet (gN 9) (eLst false (aCons (eTup (aCons (eC (.int 0)) (aCons (eBin false .mul (eCall 24 (aCons (eV 1) (aCons (eC (.int 5)) aNil))) (eC (.int 1000))) aNil))) (aCons (eTup (aCons (eBin false .add (eC (.int 1)) (eCall 24 (aCons (eV 1) (aCons (eC (.int 3000)) aNil)))) (aCons (eBin false .mul (eCall 24 (aCons (eV 1) (aCons (eC (.int 10)) aNil))) (eC (.int 1000))) aNil))) aNil)))) f_law_23)
def f_law_25 : SF := (sSeq (sIf (eAnd (eCmp .isN (eV 8) (eC .non)) (eB (eCmp .eq (eCall 26 (aCons (eV 2) (aCons (eV 4) (aCons (eV 5) (aCons (eC (.int 10000000)) (aCons (eC (.int 0)) aNil)))))) (eC (.int 0))))) (sSeq (sRet (eC (.bl false))) sNil) sNil) f_law_24)
def f_law_26 : SF := (sSeq (sIf (eAnd (eCmp .notN (eV 8) (eC .non)) (eB (eOr (eCmp .gt (eCall 26 (aCons (eV 2) (aCons (eV 4) (aCons (eV 5) (aCons (eV 8) (aCons (eC (.int 0)) aNil)))))) (eC (.int 0))) (eB (eAnd (eCmp .gt (eV 8) (eC (.int 0))) (eB (eCmp .eq (eCall 26 (aCons (eV 2) (aCons (eV 4) (aCons (eV 5) (aCons (eBin false .sub (eV 8) (eC (.int 1))) (aCons (eC (.int 0)) aNil)))))) (eC (.int 0))))))))) (sSeq (sRet (eC (.bl false))) sNil) sNil) f_law_25)
def f_law_27 : SF := (sSeq (sSet (gN 8) (eMeth 4 [101, 110, 100, 115, 95, 97, 116] 5 (eV 3) (aCons (eV 4) (aCons (eV 5) aNil)))) f_law_26)
def f_law_28 : SF := (sSeq (sIf (eOr (eCmp .ne (eMeth 4 [119, 104, 111, 108, 101] 3 (eV 3) (aCons (eV 4) (aCons (eV 5) aNil))) (eBin false .add (eBin false .add (eIdx (eV 2) (eC (.str [102, 105, 114, 115, 116]))) (eBin false .mul (eBin false .sub (eV 4) (eC (.int 1))) (eIdx (eV 2) (eC (.str [102, 117, 114, 116, 104, 101, 114]))))) (eBin false .mul (eV 5) (eIdx (eV 2) (eC (.str [99, 104, 105, 108, 100])))))) (eB (eCmp .ne (eMeth 4 [112, 97, 121, 115] 4 (eV 3) (aCons (eV 4) (aCons (eV 5) (aCons (eV 6) (aCons (eV 7) aNil))))) (eCall 26 (aCons (eV 2) (aCons (eV 4) (aCons (eV 5) (aCons (eV 6) (aCons (eV 7) aNil))))))))) (sSeq (sRet (eC (.bl false))) sNil) sNil) f_law_27)
def f_law_29 : SF := (sSeq (sSet (gT (gsCons (gN 4) (gsCons (gN 5) (gsCons (gN 6) (gsCons (gN 7) gsNil))))) (eTup (aCons (eBin false .add (eC (.int 1)) (eCall 24 (aCons (eV 1) (aCons (eC (.int 2)) aNil)))) (aCons (eCall 24 (aCons (eV 1) (aCons (eC (.int 4)) aNil))) (aCons (eCall 24 (aCons (eV 1) (aCons (eC (.int 400)) aNil))) (aCons (eCall 24 (aCons (eV 1) (aCons (eC (.int 400)) aNil))) aNil)))))) f_law_28)
def f_law_30 : SF := (sSeq (sSet (gN 3) (eMake 4 2 [] (aCons (eIdx (eV 2) (eC (.str [102, 105, 114, 115, 116]))) (aCons (eIdx (eV 2) (eC (.str [102, 117, 114, 116, 104, 101, 114]))) (aCons (eIdx (eV 2) (eC (.str [99, 104, 105, 108, 100]))) (aCons (eIdx (eV 2) (eC (.str [102, 114, 101, 101]))) (aCons (eIdx (eV 2) (eC (.str [116, 97, 112, 101, 114]))) (aCons (eIdx (eV 2) (eC (.str [108, 105, 109, 105, 116]))) (aCons (eIdx (eV 2) (eC (.str [108, 101, 97, 115, 116]))) aNil))))))))) f_law_29)
def f_law_31 : SF := (sSeq (sSet (gN 2) (eDct false [((eC (.str [102, 105, 114, 115, 116])), (eCall 24 (aCons (eV 1) (aCons (eC (.int 200)) aNil)))), ((eC (.str [102, 117, 114, 116, 104, 101, 114])), (eCall 24 (aCons (eV 1) (aCons (eC (.int 100)) aNil)))), ((eC (.str [99, 104, 105, 108, 100])), (eCall 24 (aCons (eV 1) (aCons (eC (.int 80)) aNil)))), ((eC (.str [102, 114, 101, 101])), (eCall 24 (aCons (eV 1) (aCons (eC (.int 60)) aNil)))), ((eC (.str [116, 97, 112, 101, 114])), (eCall 24 (aCons (eV 1) (aCons (eC (.int 10001)) aNil)))), ((eC (.str [108, 105, 109, 105, 116])), (eCall 24 (aCons (eV 1) (aCons (eC (.int 300)) aNil)))), ((eC (.str [108, 101, 97, 115, 116])), (eCall 24 (aCons (eV 1) (aCons (eC (.int 20)) aNil))))])) f_law_30)
def f_law_32 : SF := (sSeq (sRet (eCall 28 aNil)) sNil)
def f_law : SF := (sSeq (sFor (iSeq (eCall 25 (aCons (eV 0) (aCons (eC (.int 1)) aNil)))) (gN 1) f_law_31) (sCl f_law_32))
def PL : List Def := [⟨1, 1, f__wall⟩, ⟨5, 3, f_rounded⟩, ⟨8, 8, f_Benefit___init__⟩, ⟨3, 3, f_Benefit_whole⟩, ⟨6, 5, f_Benefit_pays⟩, ⟨6, 3, f_Benefit_ends_at⟩, ⟨6, 6, f_kept_of_more⟩, ⟨5, 5, f_left_of⟩, ⟨9, 5, f_cliffs⟩, ⟨10, 5, f_worst_rate⟩, ⟨14, 3, f_paid_behind⟩, ⟨5, 4, f_months_due⟩, ⟨7, 3, f_Bands___init__⟩, ⟨7, 2, f_Bands_parts⟩, ⟨4, 2, f_Bands_tax⟩, ⟨2, 2, f_Bands_kept⟩, ⟨2, 2, f_Bands_rate_at⟩, ⟨2, 2, f_Bands_mean_rate⟩, ⟨2, 2, f_Bands_needed⟩, ⟨3, 3, f_Bands_split⟩, ⟨3, 3, f_Bands_saved⟩, ⟨4, 4, f_Bands_spread⟩, ⟨2, 2, f_Bands_raised⟩, ⟨1, 1, f__law_dice⟩, ⟨3, 2, f__law_roll⟩, ⟨4, 2, f__law_rounds⟩, ⟨7, 5, f__law_pays⟩, ⟨10, 5, f__law_left⟩, ⟨4, 0, f__law_plain⟩, ⟨34, 1, f_law⟩]
def P : Prog := fun i => PL[i]?
theorem p__wall : P 0 = some ⟨1, 1, f__wall⟩ := rfl
theorem p_rounded : P 1 = some ⟨5, 3, f_rounded⟩ := rfl
theorem p_Benefit___init__ : P 2 = some ⟨8, 8, f_Benefit___init__⟩ := rfl
theorem p_Benefit_whole : P 3 = some ⟨3, 3, f_Benefit_whole⟩ := rfl
theorem p_Benefit_pays : P 4 = some ⟨6, 5, f_Benefit_pays⟩ := rfl
theorem p_Benefit_ends_at : P 5 = some ⟨6, 3, f_Benefit_ends_at⟩ := rfl
theorem p_kept_of_more : P 6 = some ⟨6, 6, f_kept_of_more⟩ := rfl
theorem p_left_of : P 7 = some ⟨5, 5, f_left_of⟩ := rfl
theorem p_cliffs : P 8 = some ⟨9, 5, f_cliffs⟩ := rfl
theorem p_worst_rate : P 9 = some ⟨10, 5, f_worst_rate⟩ := rfl
theorem p_paid_behind : P 10 = some ⟨14, 3, f_paid_behind⟩ := rfl
theorem p_months_due : P 11 = some ⟨5, 4, f_months_due⟩ := rfl
theorem p_Bands___init__ : P 12 = some ⟨7, 3, f_Bands___init__⟩ := rfl
theorem p_Bands_parts : P 13 = some ⟨7, 2, f_Bands_parts⟩ := rfl
theorem p_Bands_tax : P 14 = some ⟨4, 2, f_Bands_tax⟩ := rfl
theorem p_Bands_kept : P 15 = some ⟨2, 2, f_Bands_kept⟩ := rfl
theorem p_Bands_rate_at : P 16 = some ⟨2, 2, f_Bands_rate_at⟩ := rfl
theorem p_Bands_mean_rate : P 17 = some ⟨2, 2, f_Bands_mean_rate⟩ := rfl
theorem p_Bands_needed : P 18 = some ⟨2, 2, f_Bands_needed⟩ := rfl
theorem p_Bands_split : P 19 = some ⟨3, 3, f_Bands_split⟩ := rfl
theorem p_Bands_saved : P 20 = some ⟨3, 3, f_Bands_saved⟩ := rfl
theorem p_Bands_spread : P 21 = some ⟨4, 4, f_Bands_spread⟩ := rfl
theorem p_Bands_raised : P 22 = some ⟨2, 2, f_Bands_raised⟩ := rfl
theorem p__law_dice : P 23 = some ⟨1, 1, f__law_dice⟩ := rfl
theorem p__law_roll : P 24 = some ⟨3, 2, f__law_roll⟩ := rfl
theorem p__law_rounds : P 25 = some ⟨4, 2, f__law_rounds⟩ := rfl
theorem p__law_pays : P 26 = some ⟨7, 5, f__law_pays⟩ := rfl
theorem p__law_left : P 27 = some ⟨10, 5, f__law_left⟩ := rfl
theorem p__law_plain : P 28 = some ⟨4, 0, f__law_plain⟩ := rfl
theorem p_law : P 29 = some ⟨34, 1, f_law⟩ := rfl
end K06

set_option Elab.async false
set_option linter.all false
set_option autoImplicit false
set_option maxRecDepth 100000
set_option maxHeartbeats 2000000
namespace K04
open TX TL
abbrev Rows := List (Int × Int)
def down : Tx := [100, 111, 119, 110]
def up : Tx := [117, 112]
def near : Tx := [110, 101, 97, 114]
def even : Tx := [101, 118, 101, 110]
def Hows (how : Tx) : Prop := how = down ∨ how = up ∨ how = near ∨ how = even
/-- rounded by 10000 -/
def rd (t : Int) (how : Tx) : Int :=
  if how = down ∨ t % 10000 = 0 then t / 10000 else if how = up then t / 10000 + 1
  else if how = even ∧ t % 10000 = 5000 then t / 10000 + (t / 10000) % 2 else t / 10000 + (if 5000 ≤ t % 10000 then 1 else 0)
theorem rd_zero {how : Tx} : rd 0 how = 0 := by
  unfold rd
  rw [if_pos (by right; decide)]
  decide
/-- by less than one more -/
theorem rd_step {t r : Int} {how : Tx} (hh : Hows how) (h0 : 0 ≤ r) (h1 : r < 10000) : rd (t + r) how ≤ rd t how + 1 := by
  have n1 : up ≠ down := by decide
  have n2 : near ≠ down := by decide
  have n3 : near ≠ up := by decide
  have n4 : near ≠ even := by decide
  have n5 : even ≠ down := by decide
  have n6 : even ≠ up := by decide
  rcases hh with rfl | rfl | rfl | rfl
  · simp only [rd, true_or, if_true]; omega
  · simp only [rd, n1, false_or, if_true]; (repeat' split) <;> omega
  · simp only [rd, n2, n3, n4, false_or, false_and, if_false]; (repeat' split) <;> omega
  · simp only [rd, n5, n6, false_or, true_and, if_false]; (repeat' split) <;> omega
/-- the rates that tell, the last of them -/
def rate (rows : Rows) (c : Int) : Int := (((rows.filter fun p => decide (p.1 ≤ c)).map (·.2)).getLast?).getD 0
/-- what the first so many cents cost -/
def S (rows : Rows) : Nat → Int
  | 0 => 0
  | n + 1 => S rows n + rate rows n
theorem S_sum (rows : Rows) : ∀ n : Nat, (((List.range n).map fun (i : Nat) => rate rows (0 + (i : Int)))).sum = S rows n
  | 0 => rfl
  | n + 1 => by
    rw [List.range_succ, List.map_append, sum_append, S_sum rows n]
    show _ + (rate rows (0 + (n : Int)) + 0) = S rows n + rate rows n
    rw [Int.zero_add, Int.add_zero]
structure Good (rows : Rows) : Prop where
  fst : ∃ r t, rows = (0, r) :: t
  asc : rows.Pairwise fun a b => a.1 < b.1
  len : rows.length ≤ 12
  rts : ∀ p ∈ rows, 0 ≤ p.2 ∧ p.2 ≤ 10000
  hi : ∀ p ∈ rows, p.1 ≤ 10000
/-- rates of rows that ascend, one after another -/
theorem rate_cons {s r : Int} {t : Rows} {c : Int} (asc : ((s, r) :: t).Pairwise fun a b => a.1 < b.1) :
    rate ((s, r) :: t) c = if s ≤ c then (match (generalizing := false) t with | [] => r | (s2, _) :: _ => if s2 ≤ c then rate t c else r) else 0 := by
  have h1 : ∀ p ∈ t, s < p.1 := fun p hp => List.rel_of_pairwise_cons asc hp
  by_cases hs : s ≤ c
  · rw [if_pos hs]
    cases t with
    | nil => simp [rate, hs]
    | cons q u =>
      obtain ⟨s2, r2⟩ := q
      show _ = if s2 ≤ c then rate ((s2, r2) :: u) c else r
      by_cases h2 : s2 ≤ c
      · rw [if_pos h2]
        simp [rate, hs, h2]
      · rw [if_neg h2]
        have : ∀ p ∈ u, ¬ p.1 ≤ c := fun p hp => by
          have h3 := List.rel_of_pairwise_cons (List.Pairwise.of_cons asc) hp
          simp at h3
          omega
        have e : (u.filter fun p => decide (p.1 ≤ c)) = [] := by
          rw [List.filter_eq_nil_iff]
          intro p hp
          simpa using this p hp
        simp [rate, hs, h2, e]
  · rw [if_neg hs]
    have e : (((s, r) :: t).filter fun p => decide (p.1 ≤ c)) = [] := by
      rw [List.filter_eq_nil_iff]
      intro p hp
      rcases List.mem_cons.mp hp with rfl | hp
      · simpa using hs
      · have := h1 p hp
        simp
        omega
    simp [rate, e]
/-- the parts of an amount; M what the last band ends by -/
def nxt (M : Int) : Rows → Int
  | [] => M
  | (s, _) :: _ => s
def mn (a b : Int) : Int := if b < a then b else a
def partsL (M a : Int) : Rows → Rows
  | [] => []
  | (s, r) :: t => (if s < a then [(mn a (nxt M t) - s, r)] else []) ++ partsL M a t
def T (M a : Int) (rows : Rows) : Int := ((partsL M a rows).map fun p => p.1 * p.2).sum
theorem T_cons (M a s r : Int) (t : Rows) : T M a ((s, r) :: t) = (if s < a then (mn a (nxt M t) - s) * r else 0) + T M a t := by
  unfold T
  rw [partsL, List.map_append, sum_append]
  split <;> simp
theorem T_low {M a : Int} : ∀ {rows : Rows}, (∀ p ∈ rows, a ≤ p.1) → T M a rows = 0
  | [], _ => rfl
  | (s, r) :: t, h => by
    rw [T_cons, if_neg (by have := h _ List.mem_cons_self; simp at this; omega), T_low fun p hp => h p (List.mem_cons_of_mem _ hp)]
    rfl
theorem T_step {M a : Int} (hM : a + 1 ≤ M) : ∀ {rows : Rows}, (rows.Pairwise fun a b => a.1 < b.1) → T M (a + 1) rows = T M a rows + rate rows a
  | [], _ => rfl
  | (s, r) :: t, asc => by
    have ih := T_step hM (List.Pairwise.of_cons asc)
    have h1 : ∀ p ∈ t, s < p.1 := fun p hp => List.rel_of_pairwise_cons asc hp
    have e1 : (a + 1 - s) * r = (a - s) * r + r := by
      rw [show a + 1 - s = (a - s) + 1 by omega, Int.add_mul, Int.one_mul]
    rw [T_cons, T_cons, ih, rate_cons asc]
    cases t with
    | nil =>
      simp only [nxt, rate, List.filter_nil, List.map_nil, List.getLast?_nil, Option.getD_none]
      by_cases hs : s ≤ a
      · rw [if_pos hs, if_pos (by omega)]
        have m1 : mn (a + 1) M = a + 1 := by unfold mn; rw [if_neg (by omega)]
        have m2 : mn a M = a := by unfold mn; rw [if_neg (by omega)]
        rw [m1, m2, e1]
        by_cases hs2 : s < a
        · rw [if_pos hs2]; omega
        · rw [if_neg hs2]
          have : a - s = 0 := by omega
          rw [this]
          omega
      · rw [if_neg hs, if_neg (by omega), if_neg (by omega)]
        omega
    | cons q u =>
      obtain ⟨s2, r2⟩ := q
      have h3 : s < s2 := h1 _ List.mem_cons_self
      have asc2 := List.Pairwise.of_cons asc
      show (if s < a + 1 then (mn (a + 1) s2 - s) * r else 0) + (T M a ((s2, r2) :: u) + rate ((s2, r2) :: u) a) = (if s < a then (mn a s2 - s) * r else 0) + T M a ((s2, r2) :: u) + (if s ≤ a then (if s2 ≤ a then rate ((s2, r2) :: u) a else r) else 0)
      by_cases hs : s ≤ a
      · rw [if_pos hs, if_pos (show s < a + 1 by omega)]
        by_cases hs2 : s2 ≤ a
        · have m1 : mn (a + 1) s2 = s2 := by unfold mn; rw [if_pos (by omega)]
          have m2 : mn a s2 = s2 := by unfold mn; split <;> omega
          rw [if_pos hs2, if_pos (by omega), m1, m2]
          omega
        · have m1 : mn (a + 1) s2 = a + 1 := by unfold mn; split <;> omega
          have m2 : mn a s2 = a := by unfold mn; split <;> omega
          have z : rate ((s2, r2) :: u) a = 0 := by rw [rate_cons asc2, if_neg hs2]
          rw [if_neg hs2, m1, m2, e1, z]
          by_cases hs3 : s < a
          · rw [if_pos hs3]; omega
          · rw [if_neg hs3]
            have : a - s = 0 := by omega
            rw [this]
            omega
      · have z : rate ((s2, r2) :: u) a = 0 := by rw [rate_cons asc2, if_neg (by omega)]
        rw [if_neg hs, if_neg (by omega), if_neg (by omega), z]
        omega
theorem T_S {M : Int} {rows : Rows} (asc : rows.Pairwise fun a b => a.1 < b.1) (nn : ∀ p ∈ rows, 0 ≤ p.1) : ∀ (n : Nat), (n : Int) ≤ M → T M n rows = S rows n
  | 0, _ => T_low fun p hp => nn p hp
  | n + 1, h => by
    have e : ((n + 1 : Nat) : Int) = (n : Int) + 1 := by push_cast; rfl
    rw [e] at h ⊢
    rw [T_step h asc, T_S asc nn n (by omega)]
    rfl
theorem Good.nn {rows : Rows} (g : Good rows) : ∀ p ∈ rows, 0 ≤ p.1 := by
  obtain ⟨r, t, e⟩ := g.fst
  have asc := g.asc
  subst e
  intro p hp
  rcases List.mem_cons.mp hp with rfl | hp
  · exact Int.le_refl 0
  · have := List.rel_of_pairwise_cons asc hp
    simp at this
    omega
theorem partsL_M {a : Int} {M N : Int} (h1 : a ≤ M) (h2 : a ≤ N) : ∀ rows : Rows, partsL M a rows = partsL N a rows
  | [] => rfl
  | (s, r) :: t => by
    rw [partsL, partsL, partsL_M h1 h2 t]
    have : mn a (nxt M t) = mn a (nxt N t) := by
      cases t with
      | nil =>
        show (if M < a then M else a) = (if N < a then N else a)
        rw [if_neg (by omega), if_neg (by omega)]
      | cons q u => rfl
    rw [this]
theorem partsL_drop (M a : Int) (rows : Rows) {i : Nat} {x : Int × Int} (e : rows[i]? = some x) : partsL M a (rows.drop i) = (if x.1 < a then [(mn a (nxt M (rows.drop (i + 1))) - x.1, x.2)] else []) ++ partsL M a (rows.drop (i + 1)) := by
  have h := List.getElem?_eq_some_iff.mp e
  obtain ⟨hi, hx⟩ := h
  rw [List.drop_eq_getElem_cons hi, hx]
  rfl
theorem nxt_drop (M : Int) (rows : Rows) (i : Nat) : nxt M (rows.drop i) = match rows[i]? with | some p => p.1 | none => M := by
  by_cases hi : i < rows.length
  · rw [List.drop_eq_getElem_cons hi, List.getElem?_eq_getElem hi]
    rfl
  · rw [List.drop_of_length_le (by omega), List.getElem?_eq_none (by omega)]
    rfl
theorem partsL_len (M a : Int) : ∀ rows : Rows, (partsL M a rows).length ≤ rows.length
  | [] => Nat.le_refl _
  | (s, r) :: t => by
    have := partsL_len M a t
    rw [partsL, List.length_append]
    split <;> simp <;> omega
/-- rates -/
theorem rate_ne {rows : Rows} (g : Good rows) {c : Int} (hc : 0 ≤ c) : ((rows.filter fun p => decide (p.1 ≤ c)).map (·.2)) ≠ [] := by
  obtain ⟨r, t, e⟩ := g.fst
  subst e
  simp [hc]
theorem rate_bd {rows : Rows} (h : ∀ p ∈ rows, 0 ≤ p.2 ∧ p.2 ≤ 10000) (c : Int) : 0 ≤ rate rows c ∧ rate rows c ≤ 10000 := by
  unfold rate
  cases e : ((rows.filter fun p => decide (p.1 ≤ c)).map (·.2)).getLast? with
  | none => simp
  | some x =>
    have := List.mem_of_getLast? e
    obtain ⟨p, hp, rfl⟩ := List.mem_map.mp this
    exact h p (List.mem_filter.mp hp).1
theorem S_bd {rows : Rows} (h : ∀ p ∈ rows, 0 ≤ p.2 ∧ p.2 ≤ 10000) : ∀ n : Nat, 0 ≤ S rows n ∧ S rows n ≤ 10000 * n
  | 0 => by simp [S]
  | n + 1 => by
    have := S_bd h n
    have := rate_bd h n
    simp only [S]
    push_cast
    omega
/-- far out the last rate tells -/
theorem rate_far {rows : Rows} {c : Int} (h : ∀ p ∈ rows, p.1 ≤ c) : rate rows c = ((rows.getLast?).map (·.2)).getD 0 := by
  have e : (rows.filter fun p => decide (p.1 ≤ c)) = rows := by
    rw [List.filter_eq_self]
    intro p hp
    simpa using h p hp
  unfold rate
  rw [e, List.getLast?_map]
/-- a first part free -/
def shf (free : Int) (rows : Rows) : Rows := rows.map fun p => (p.1 + free, p.2)
def frd (free : Int) (rows : Rows) : Rows := (if free > 0 then [(0, 0)] else []) ++ shf free rows
theorem rate_shf (free c : Int) (rows : Rows) : rate (shf free rows) c = rate rows (c - free) := by
  unfold rate shf
  rw [List.filter_map, List.map_map]
  have : ((fun p : Int × Int => decide (p.1 ≤ c)) ∘ fun p : Int × Int => (p.1 + free, p.2)) = fun p => decide (p.1 ≤ c - free) := by
    funext p
    simp
    omega
  rw [this]
  rfl
theorem rate_frd {free : Int} (hf : 0 ≤ free) {rows : Rows} (g : Good rows) {c : Int} (hc : 0 ≤ c) : rate (frd free rows) c = if free ≤ c then rate rows (c - free) else 0 := by
  unfold frd
  by_cases h : free > 0
  · rw [if_pos h]
    by_cases h2 : free ≤ c
    · rw [if_pos h2, ← rate_shf]
      have ne : (((shf free rows).filter fun p => decide (p.1 ≤ c)).map (·.2)) ≠ [] := by
        obtain ⟨r, t, e⟩ := g.fst
        subst e
        simp [shf, h2]
      unfold rate
      rw [List.filter_append, List.map_append, List.getLast?_append, List.getLast?_eq_some_getLast ne]
      rfl
    · rw [if_neg h2]
      have e : ((shf free rows).filter fun p => decide (p.1 ≤ c)) = [] := by
        rw [List.filter_eq_nil_iff]
        intro p hp
        obtain ⟨q, hq, rfl⟩ := List.mem_map.mp hp
        have := g.nn q hq
        simp
        omega
      unfold rate
      rw [List.filter_append, e]
      simp [hc]
  · have : free = 0 := by omega
    subst this
    rw [if_neg h, if_pos hc, List.nil_append, rate_shf]
theorem S_frd {free : Nat} {rows : Rows} (g : Good rows) : ∀ n : Nat, S (frd free rows) n = S rows (n - free)
  | 0 => by simp [S]
  | n + 1 => by
    rw [S, S_frd g n, rate_frd (by omega) g (by omega)]
    by_cases h : (free : Int) ≤ n
    · rw [if_pos h]
      have : n + 1 - free = (n - free) + 1 := by omega
      rw [this, S]
      congr 2
      omega
    · rw [if_neg h]
      have e1 : n - free = 0 := by omega
      have e2 : n + 1 - free = 0 := by omega
      rw [e1, e2]
      rfl
theorem Good.shf {free : Int} (hf : 0 ≤ free) (hf2 : free ≤ 100) {rows : Rows} (g : Good rows) (h8 : rows.length ≤ 11) (hi : ∀ p ∈ rows, p.1 ≤ 900) : Good (frd free rows) := by
  have a1 : (K04.shf free rows).Pairwise fun a b => a.1 < b.1 := by
    unfold K04.shf
    rw [List.pairwise_map]
    exact g.asc.imp fun h => by simp; omega
  have a2 : ∀ p ∈ K04.shf free rows, free ≤ p.1 ∧ p.1 ≤ 10000 ∧ 0 ≤ p.2 ∧ p.2 ≤ 10000 := fun p hp => by
    obtain ⟨q, hq, rfl⟩ := List.mem_map.mp hp
    have h1 := g.nn q hq
    have h2 := g.rts q hq
    have h3 := hi q hq
    exact ⟨by simp; omega, by simp; omega, h2⟩
  unfold frd
  by_cases h : free > 0
  · rw [if_pos h]
    refine ⟨⟨0, _, rfl⟩, ?_, by simp [K04.shf]; omega, ?_, ?_⟩
    · refine List.Pairwise.cons (fun p hp => ?_) a1
      have := a2 p hp
      simp
      omega
    · intro p hp
      rcases List.mem_cons.mp hp with rfl | hp
      · decide
      · exact (a2 p hp).2.2
    · intro p hp
      rcases List.mem_cons.mp hp with rfl | hp
      · decide
      · exact (a2 p hp).2.1
  · have h0 : free = 0 := by omega
    subst h0
    rw [if_neg h, List.nil_append]
    obtain ⟨r, t, e⟩ := g.fst
    refine ⟨⟨r, K04.shf 0 t, by rw [e]; rfl⟩, a1, by simp [K04.shf]; omega, fun p hp => (a2 p hp).2.2, fun p hp => (a2 p hp).2.1⟩
end K04

set_option Elab.async false
set_option linter.all false
set_option autoImplicit false
set_option maxRecDepth 100000
set_option maxHeartbeats 2000000
namespace K06
open TX TL
open K04 (Rows down up near even Hows rd rd_zero rd_step rate S S_sum Good rate_cons nxt mn partsL T T_cons T_S partsL_M partsL_drop nxt_drop partsL_len S_bd rate_bd)
def nRows : Tx := [114, 111, 119, 115]
def nHow : Tx := [104, 111, 119]
def bo (rows : Rows) (how : Tx) : AO := .ins 5 [([114, 111, 119, 115], .tup (rows.map prA)), ([104, 111, 119], .str how)]
theorem fdl (t : Int) : t.fdiv 10000 = t / 10000 := Int.fdiv_eq_ediv_of_nonneg _ (by decide)
theorem fml (t : Int) : t.fmod 10000 = t % 10000 := Int.fmod_eq_emod_of_nonneg _ (by decide)
theorem fml2 (t : Int) : t.fmod 2 = t % 2 := Int.fmod_eq_emod_of_nonneg _ (by decide)
theorem fdl2 (t : Int) : t.fdiv 2 = t / 2 := Int.fdiv_eq_ediv_of_nonneg _ (by decide)
theorem rounded_ok {n : Nat} {t : Int} {how : Tx} {h : AH} (ht : 0 ≤ t) (hh : Hows how) : pg P (n + 1) 0 1 [.int t, .int 10000, .str how] h = .ok (.int (rd t how)) h := by
  rw [ap_runDef p_rounded rfl]
  obtain ⟨q, hq⟩ : ∃ q, t / 10000 = q := ⟨_, rfl⟩
  obtain ⟨m, hm⟩ : ∃ m, t % 10000 = m := ⟨_, rfl⟩
  have m1 : 0 ≤ m ∧ m < 10000 := by omega
  have tq : t = 10000 * q + m := by omega
  rcases hh with rfl | rfl | rfl | rfl <;>
    simp [TX.start, f_rounded, f_rounded_1, f_rounded_2, f_rounded_3, f_rounded_4, f_rounded_5, f_rounded_6, f_rounded, rd, down, up, near, even, gT, gsCons, gsNil, gN, fdl, fml, fml2, hq, hm, ap_sRaise] <;>
    (repeat' split) <;> (try simp) <;> omega
theorem fget_rows (rows : Rows) (how : Tx) (h : AH) {r : Nat} (e : hget h r = some (bo rows how)) : fldA [5] [114, 111, 119, 115] (.ref r) h = some (.tup (rows.map prA)) := by
  rw [fld_of [5] [114, 111, 119, 115] e (by simp)]
  rfl
theorem fget_how (rows : Rows) (how : Tx) (h : AH) {r : Nat} (e : hget h r = some (bo rows how)) : fldA [5] [104, 111, 119] (.ref r) h = some (.str how) := by
  rw [fld_of [5] [104, 111, 119] e (by simp)]
  rfl
theorem under_prs (n : Nat) : ∀ ts : Rows, AV.under n (.tup (ts.map prA)) = true
  | [] => rfl
  | x :: r => by
    have := under_prs n r
    show (AV.under n (prA x) && AV.underL n (r.map prA)) = true
    rw [show AV.underL n (r.map prA) = true from this]
    rfl
theorem parts_ok {n : Nat} {rows : Rows} {how : Tx} {a : Int} {h : AH} {r : Nat} (e : hget h r = some (bo rows how)) (g : Good rows) (h0 : 0 ≤ a) (h1 : a ≤ 100000000) :
    pg P (n + 1) 0 13 [.ref r, .int a] h = .ok (.tup ((partsL 100000000 a rows).map prA)) h := by
  rw [ap_runDef p_Bands_parts rfl]
  have fr := fun o => fget_rows rows how (o :: h) (hget_cons_lt (u := o) e)
  have gl := g.len
  obtain ⟨s2, h2, f2, acc, x3, x4, x5, x6, hacc, es, eh⟩ := for_en (φ := pg P n) (g := gT (gsCons (gN 3) (gsCons (gT (gsCons (gN 4) (gsCons (gN 5) gsNil))) gsNil))) (b := f_Bands_parts_2) (gd := []) prA
    (fun i s h' => ∃ (acc : Rows) (x3 x4 x5 x6 : Option AV), acc ++ partsL 100000000 a (rows.drop i) = partsL 100000000 a rows ∧ s = [some (.ref r), some (.int a), some (.ref h.length), x3, x4, x5, x6] ∧ h' = .lst (acc.map prA) :: h)
    (xs := rows) (s := [some (.ref r), some (.int a), some (.ref h.length), none, none, none, none]) (h := .lst [] :: h) (fun _ _ _ _ => rfl)
    (fun i x hx s h' ⟨acc, x3, x4, x5, x6, hacc, es, eh⟩ => by
      subst es eh
      have hi := (List.getElem?_eq_some_iff.mp hx).1
      have pd := partsL_drop 100000000 a rows hx
      have al : acc.length ≤ 12 := by
        have := congrArg List.length hacc
        have := partsL_len 100000000 a rows
        simp at *
        omega
      obtain ⟨st, rt⟩ := x
      obtain ⟨E, hE⟩ : ∃ E, nxt 100000000 (rows.drop (i + 1)) = E := ⟨_, rfl⟩
      have nd := nxt_drop 100000000 rows (i + 1)
      rw [hE] at nd
      rw [hE] at pd
      have fr := fr (.lst (acc.map prA))
      have lq := app_of (r := h.length) (xs := acc.map prA) (v := .tup [.int (mn a E - st), .int rt]) (h := .lst (acc.map prA) :: h) (by simp) (by simp; omega)
      have end1 : eIf (eCmp .lt (eBin false .add (eV 3) (eC (.int 1))) (eU .len (eFld [5] [114, 111, 119, 115] (eV 0)))) (eIdx (eIdx (eFld [5] [114, 111, 119, 115] (eV 0)) (eBin false .add (eV 3) (eC (.int 1)))) (eC (.int 0))) (eC (.int 100000000)) (pg P n)
          [some (.ref r), some (.int a), some (.ref h.length), some (.int i), some (.int st), some (.int rt), x6] (.lst (acc.map prA) :: h) = .ok (.int E) (.lst (acc.map prA) :: h) := by
        by_cases c : i + 1 < rows.length
        · rw [List.getElem?_eq_getElem c] at nd
          obtain ⟨y, hy⟩ : ∃ y, rows[i + 1] = y := ⟨_, rfl⟩
          rw [hy] at nd
          have a1 : atI (rows.map prA) ((i : Int) + 1) = some (.tup [.int y.1, .int y.2]) := by
            have := atI_nat (xs := rows.map prA) (i := i + 1) (by simpa using c)
            push_cast at this
            rw [this, List.getElem?_map, List.getElem?_eq_getElem c, hy]
            rfl
          simp -implicitDefEqProofs [fr, a1, show (i : Int) + 1 < rows.length by omega, nd]
        · rw [List.getElem?_eq_none (by omega)] at nd
          simp -implicitDefEqProofs [fr, show ¬ (i : Int) + 1 < rows.length by omega, nd]
      by_cases c : st < a
      · refine ⟨_, [some (.ref r), some (.int a), some (.ref h.length), some (.int i), some (.int st), some (.int rt), some (.int E)], .lst ((acc ++ [(mn a E - st, rt)]).map prA) :: h, rfl, .inl ?_, acc ++ [(mn a E - st, rt)], _, _, _, _, ?_, rfl, rfl⟩
        · show f_Bands_parts_2 (pg P n) [some (.ref r), some (.int a), some (.ref h.length), some (.int i), some (.int st), some (.int rt), x6] _ = _
          rw [f_Bands_parts_2, ap_sSeq, ap_sSet, end1]
          have mm : (if E < a then E else a) = mn a E := rfl
          simp -implicitDefEqProofs [gN, f_Bands_parts_1, c, mmA, mm, lq, prA]
        · rw [← hacc, pd, if_pos c, List.append_assoc]
      · refine ⟨_, [some (.ref r), some (.int a), some (.ref h.length), some (.int i), some (.int st), some (.int rt), some (.int E)], .lst (acc.map prA) :: h, rfl, .inl ?_, acc, _, _, _, _, ?_, rfl, rfl⟩
        · show f_Bands_parts_2 (pg P n) [some (.ref r), some (.int a), some (.ref h.length), some (.int i), some (.int st), some (.int rt), x6] _ = _
          rw [f_Bands_parts_2, ap_sSeq, ap_sSet, end1]
          simp -implicitDefEqProofs [gN, f_Bands_parts_1, c]
        · rw [← hacc, pd, if_neg c, List.nil_append])
    ⟨[], none, none, none, none, by simp, rfl, rfl⟩
  subst es eh
  rw [List.drop_length] at hacc
  have hacc : acc = partsL 100000000 a rows := by simpa [partsL] using hacc
  have fr0 := fr (.lst [])
  have g1 : ∀ (as : AH) (v : AV), v.under h.length = true → gcRet h v (as ++ h) = .ok v h := fun as v => gcRet_drop as
  have u1 : AV.under h.length (.tup ((partsL 100000000 a rows).map prA)) = true := under_prs _ _
  have ra : iEnum (eFld [5] [114, 111, 119, 115] (eV 0)) (pg P n) [some (.ref r), some (.int a), some (.ref h.length), none, none, none, none] (.lst [] :: h) = .ok (enumL 0 (rows.map prA), []) (.lst [] :: h) := by
    simp -implicitDefEqProofs [fr0]
  simp -implicitDefEqProofs [TX.start, f_Bands_parts, f_Bands_parts_5, h0, h1, gN]
  rw [f_Bands_parts_4, ap_sSeq, ap_sFor, ra]
  simp only [bind_ok']
  rw [f2]
  subst hacc
  have tr := tuple_ref (i := h.length) (h := .lst ((partsL 100000000 a rows).map prA) :: h) (hget_top _ _)
  simp -implicitDefEqProofs [f_Bands_parts_3, tr]
  exact gcRet_drop [_] u1
theorem sum_parts {a : Int} {rows : Rows} (g : Good rows) (h0 : 0 ≤ a) (h1 : a ≤ 100000000) : ((partsL 100000000 a rows).map fun p => p.1 * p.2).sum = S rows a.toNat := by
  have := T_S (M := 100000000) g.asc g.nn a.toNat (by omega)
  rw [show ((a.toNat : Nat) : Int) = a by omega] at this
  exact this
theorem parts_bd {a : Int} (h1 : a ≤ 100000000) : ∀ {rows : Rows}, (∀ p ∈ rows, 0 ≤ p.1) → ∀ p ∈ partsL 100000000 a rows, -100000000 ≤ p.1 ∧ p.1 ≤ 100000000
  | [], _, p, hp => nomatch hp
  | (s, r) :: t, h, p, hp => by
    rw [partsL] at hp
    rcases List.mem_append.mp hp with hp | hp
    · have := h _ List.mem_cons_self
      simp at this
      split at hp
      · simp at hp
        subst hp
        have : 0 ≤ nxt 100000000 t := by
          cases t with
          | nil => show (0 : Int) ≤ 100000000; decide
          | cons q u => exact h q (by simp)
        simp only [mn]
        split <;> omega
      · cases hp
    · exact parts_bd h1 (fun q hq => h q (List.mem_cons_of_mem _ hq)) p hp
/-- tax -/
def tx (rows : Rows) (how : Tx) (a : Int) : Int := rd (S rows a.toNat) how
theorem tax_ok {n : Nat} {rows : Rows} {how : Tx} {a : Int} {h : AH} {r : Nat} (e : hget h r = some (bo rows how)) (g : Good rows) (hh : Hows how) (h0 : 0 ≤ a) (h1 : a ≤ 100000000) :
    pg P (n + 2) 0 14 [.ref r, .int a] h = .ok (.int (tx rows how a)) h := by
  have pa := fun n => parts_ok (n := n) e g h0 h1
  have io := ins_of e
  have fh := fget_how rows how h e
  have sb := S_bd g.rts a.toNat
  have ro := fun n => rounded_ok (n := n) (h := h) sb.1 hh
  have pl := partsL_len 100000000 a rows
  have gl := g.len
  have lc : lcGo (pg P (n + 1)) (gT (gsCons (gN 2) (gsCons (gN 3) gsNil))) eYes (eBin false .mul (eV 2) (eV 3)) [some (.ref r), some (.int a), none, none] [] ((partsL 100000000 a rows).map prA) h = .ok ((partsL 100000000 a rows).map fun p => .int (p.1 * p.2)) h :=
    lc_map prA (fun p => .int (p.1 * p.2)) rfl fun p hp => ⟨_, rfl, rfl, by
      have := parts_bd h1 g.nn p hp
      have sm : small p.1 = true := small_of (by omega) (by omega)
      simp -implicitDefEqProofs [sm]⟩
  have su : uL .sum ((partsL 100000000 a rows).map fun p => AV.int (p.1 * p.2)) h = .ok (.int (S rows a.toNat)) h := by
    have : ((partsL 100000000 a rows).map fun p => AV.int (p.1 * p.2)) = ((partsL 100000000 a rows).map fun p => p.1 * p.2).map .int := by rw [List.map_map]; rfl
    rw [this]
    show (match intsO _ with | some is => Out.ok (AV.int is.sum) h | none => .stuck) = _
    rw [ints_of]
    show Out.ok (AV.int ((partsL 100000000 a rows).map fun p => p.1 * p.2).sum) h = _
    rw [sum_parts g h0 h1]
  rw [ap_runDef p_Bands_tax rfl]
  have pa := pa n
  have ro := ro n
  generalize pg P (n + 1) = φ at *
  simp -implicitDefEqProofs [TX.start, f_Bands_tax, io, bo, fget, pa, wipe, lc, su, fh, ro, show (partsL 100000000 a rows).length < 16777216 by omega]
  rfl
/-! bands that are made -/
def adj (rows : Rows) : Bool := (rows.zip rows.tail).any fun p => decide (p.2.1 ≤ p.1.1)
theorem adj_asc : ∀ {rows : Rows}, (rows.Pairwise fun a b => a.1 < b.1) → adj rows = false
  | [], _ => rfl
  | [x], _ => rfl
  | x :: y :: t, h => by
    have ih := adj_asc (List.Pairwise.of_cons h)
    have h1 : x.1 < y.1 := List.rel_of_pairwise_cons h List.mem_cons_self
    show (decide (y.1 ≤ x.1) || adj (y :: t)) = false
    rw [ih]
    simp
    exact h1
structure Ok (rows : Rows) : Prop where
  fst : ∃ r t, rows = (0, r) :: t
  len : rows.length ≤ 12
  rts : ∀ p ∈ rows, 0 ≤ p.2 ∧ p.2 ≤ 10000
theorem init_ok {n : Nat} {rows : Rows} {how : Tx} {h : AH} (g : Ok rows) :
    pg P (n + 1) 0 12 [.ref h.length, .lst (rows.map prA), .str how] (.ins 5 [] :: h) = if adj rows then .exc 2 (bo rows how :: h) else .ok .non (bo rows how :: h) := by
  have gl := g.len
  rw [ap_runDef p_Bands___init__ rfl]
  generalize pg P n = φ at *
  have lc : ∀ h, lcGo φ (gT (gsCons (gN 3) (gsCons (gN 4) gsNil))) eYes (eTup (aCons (eV 3) (aCons (eV 4) aNil))) [some (.ref h.length), some (.lst (rows.map prA)), some (.str how), none, none, none, none] [] (rows.map prA) (.ins 5 [] :: h) = .ok (rows.map prA) (.ins 5 [] :: h) := fun h =>
    lc_map prA prA rfl fun p hp => ⟨_, rfl, rfl, by simp -implicitDefEqProofs [prA]⟩
  have fr := fget_rows rows how (bo rows how :: h) (hget_top _ _)
  have hs : hset (.ins 5 [] :: h) h.length (.ins 5 [([114, 111, 119, 115], .tup (rows.map prA))]) = .ins 5 [([114, 111, 119, 115], .tup (rows.map prA))] :: h := hset_top _ _ _
  have hs2 : hset (.ins 5 [([114, 111, 119, 115], .tup (rows.map prA))] :: h) h.length (bo rows how) = bo rows how :: h := hset_top _ _ _
  have gc : gcRet (.ins 5 [] :: h) .non (bo rows how :: h) = .ok .non (bo rows how :: h) := gcRet_len _ (by simp)
  have ge : gcExc (.ins 5 [] :: h) 2 (bo rows how :: h) = .exc 2 (bo rows how :: h) := by
    unfold gcExc
    split
    · rw [show (bo rows how :: h).length - (AO.ins 5 [] :: h).length = 0 by simp, List.drop_zero]
    · rfl
  have z1 : zipL (rows.map prA) (rows.map prA).tail = (rows.zip rows.tail).map fun p => .tup [prA p.1, prA p.2] := by rw [← List.map_tail]; exact zipL_map prA prA rows rows.tail
  have an1 : ∀ h', anyGo φ (gT (gsCons (gN 5) (gsCons (gN 6) gsNil))) eYes (eCmp .ge (eIdx (eV 5) (eC (.int 0))) (eIdx (eV 6) (eC (.int 0)))) [some (.ref h.length), some (.lst (rows.map prA)), some (.str how), none, none, none, none] [] ((rows.zip rows.tail).map fun p => .tup [prA p.1, prA p.2]) h' = .ok (adj rows) h' := fun h' => by
    have := any_map (φ := φ) (g := gT (gsCons (gN 5) (gsCons (gN 6) gsNil))) (c := eYes) (e := eCmp .ge (eIdx (eV 5) (eC (.int 0))) (eIdx (eV 6) (eC (.int 0)))) (s0 := [some (.ref h.length), some (.lst (rows.map prA)), some (.str how), none, none, none, none]) (gd := []) (h := h')
      (fun p : (Int × Int) × (Int × Int) => .tup [prA p.1, prA p.2]) (fun _ => true) (fun p => decide (p.2.1 ≤ p.1.1)) (xs := rows.zip rows.tail) rfl (fun p hp => ⟨_, rfl, rfl, fun _ => by simp -implicitDefEqProofs [prA]⟩)
    rw [this]
    unfold adj
    simp
  have an2 : ∀ h', anyGo φ (gT (gsCons (gN 3) (gsCons (gN 4) gsNil))) eYes (eNot (eChain .le .le (eC (.int 0)) (eV 4) (eC (.int 10000)))) [some (.ref h.length), some (.lst (rows.map prA)), some (.str how), none, none, none, none] [] (rows.map prA) h' = .ok false h' := fun h' => by
    have := any_map (φ := φ) (g := gT (gsCons (gN 3) (gsCons (gN 4) gsNil))) (c := eYes) (e := eNot (eChain .le .le (eC (.int 0)) (eV 4) (eC (.int 10000)))) (s0 := [some (.ref h.length), some (.lst (rows.map prA)), some (.str how), none, none, none, none]) (gd := []) (h := h')
      prA (fun _ => true) (fun _ => false) (xs := rows) rfl (fun p hp => ⟨_, rfl, rfl, fun _ => by
        have := g.rts p hp
        simp -implicitDefEqProofs [this.1, this.2]⟩)
    rw [this]
    simp
  obtain ⟨r0, t0, e0⟩ := g.fst
  have a0 : atI (rows.map prA) 0 = some (.tup [.int 0, .int r0]) := by
    rw [e0, show (0 : Int) = ((0 : Nat) : Int) from rfl, atI_nat (by simp)]
    rfl
  have nl : 0 < rows.length := by rw [e0]; simp
  have g0 : rows[0]? = some (0, r0) := by rw [e0]; rfl
  have g1 : rows[0]'nl = (0, r0) := (List.getElem?_eq_some_iff.mp g0).2
  have p0 : prA (0, r0) = .tup [.int 0, .int r0] := rfl
  have nl : 0 < rows.length := by rw [e0]; simp
  have cd : cut (rows.map prA) (some 1) none = (rows.map prA).tail := by rw [drop_one, List.drop_one]
  simp -implicitDefEqProofs [TX.start, f_Bands___init__, wipe, lc, setF, fput, hs, show rows.length < 16777216 by omega, uL, f_Bands___init___4]
  rw [show (AO.ins 5 [([114, 111, 119, 115], .tup (rows.map prA)), ([104, 111, 119], .str how)]) = bo rows how from rfl]
  simp -implicitDefEqProofs [f_Bands___init___3, fr, show (0 : Int) < rows.length by omega, show (rows.length : Int) ≤ 12 by omega, show rows ≠ [] by rw [e0]; simp, nl, g1, p0, f_Bands___init___2, sliceA, cd, z1, wipe, an1]
  cases hq : adj rows with
  | true => simp -implicitDefEqProofs [ap_sRaise, ge]
  | false => simp -implicitDefEqProofs [f_Bands___init___1, fr, wipe, an2, gc]
theorem gcExc_drop {h : AH} {c : Nat} (as : AH) : gcExc h c (as ++ h) = .exc c h := by
  unfold gcExc
  have e2 : ((as ++ h).drop ((as ++ h).length - h.length)) = h := by simp
  rw [e2, gcOk_refl]
  rfl
theorem make_ok {n : Nat} {rows : Rows} {how : Tx} {h : AH} (g : Ok rows) :
    mkIns (pg P (n + 1)) 5 12 [.lst (rows.map prA), .str how] h = if adj rows then .exc 2 (bo rows how :: h) else .ok (.ref h.length) (bo rows how :: h) := by
  unfold mkIns
  rw [init_ok g]
  cases adj rows <;> rfl
theorem Good.ok {rows : Rows} (g : Good rows) : Ok rows := ⟨g.fst, g.len, g.rts⟩
end K06

set_option Elab.async false
set_option linter.all false
set_option autoImplicit false
set_option maxRecDepth 100000
set_option maxHeartbeats 2000000
namespace K06
open TX TL
open K04 (mn)
def m0 (x : Int) : Int := if 0 < x then x else 0
theorem m0_nn (x : Int) : 0 ≤ m0 x := by unfold m0; split <;> omega
/-! what is paid behind: month by month, and cent by cent -/
def pbR : Int → List Int → Int → Int → List (Int × Int)
  | _, [], _, _ => []
  | k, g :: t, sp, rm => if 0 < g then (if 0 < mn (g - mn g sp) rm then [(k, mn (g - mn g sp) rm)] else []) ++ pbR (k + 1) t (sp - mn g sp) (rm - mn (g - mn g sp) rm) else pbR (k + 1) t sp rm
def pbL : List Int → Int → Int → Int
  | [], _, _ => 0
  | g :: t, sp, rm => if 0 < g then (g - mn g sp - mn (g - mn g sp) rm) + pbL t (sp - mn g sp) (rm - mn (g - mn g sp) rm) else pbL t sp rm
def cen : Int → List Int → List Int
  | _, [] => []
  | k, g :: t => List.replicate (m0 g).toNat k ++ cen (k + 1) t
theorem cen_ge : ∀ {t : List Int} {k x : Int}, x ∈ cen k t → k ≤ x
  | [], _, _, h => nomatch h
  | g :: t, k, x, h => by
    rcases List.mem_append.mp h with h | h
    · have := List.eq_of_mem_replicate h; omega
    · have := cen_ge h; omega
def beh (k : Int) (t : List Int) (sp rm : Int) : List Int := ((cen k t).drop sp.toNat).take rm.toNat
theorem beh_ge {t : List Int} {k x sp rm : Int} (h : x ∈ beh k t sp rm) : k ≤ x := cen_ge (List.mem_of_mem_drop (List.mem_of_mem_take h))
theorem beh_cons (k g : Int) (t : List Int) {sp rm : Int} (s0 : 0 ≤ sp) (r0 : 0 ≤ rm) : beh k (g :: t) sp rm = if 0 < g then List.replicate (mn (g - mn g sp) rm).toNat k ++ beh (k + 1) t (sp - mn g sp) (rm - mn (g - mn g sp) rm) else beh (k + 1) t sp rm := by
  unfold beh
  rw [cen]
  by_cases hg : 0 < g
  · rw [if_pos hg]
    have e1 : (m0 g).toNat = g.toNat := by unfold m0; rw [if_pos hg]
    rw [e1, List.drop_append, List.drop_replicate, List.length_replicate, List.take_append, List.take_replicate, List.length_replicate]
    have a1 : min rm.toNat (g.toNat - sp.toNat) = (mn (g - mn g sp) rm).toNat := by
      unfold mn
      split <;> split <;> omega
    have a2 : sp.toNat - g.toNat = (sp - mn g sp).toNat := by unfold mn; split <;> omega
    have a3 : rm.toNat - (g.toNat - sp.toNat) = (rm - mn (g - mn g sp) rm).toNat := by
      unfold mn
      split <;> split <;> omega
    rw [a1, a2, a3]
  · rw [if_neg hg]
    have e1 : (m0 g).toNat = 0 := by unfold m0; rw [if_neg hg]; rfl
    rw [e1]
    rfl
def tl (k : Int) (n : Nat) (b : List Int) : List (Int × Int) := (((List.range n).map fun (i : Nat) => k + (i : Int)).filter fun j => decide (j ∈ b)).map fun j => (j, (b.count j : Int))
theorem tl_succ (k : Int) (n : Nat) (b : List Int) : tl k (n + 1) b = (if k ∈ b then [(k, (b.count k : Int))] else []) ++ tl (k + 1) n b := by
  unfold tl
  rw [List.range_succ_eq_map, List.map_cons, List.map_map, List.filter_cons]
  have e : ((fun (i : Nat) => k + (i : Int)) ∘ Nat.succ) = fun (i : Nat) => k + 1 + (i : Int) := by
    funext i
    show k + ((i + 1 : Nat) : Int) = _
    push_cast
    omega
  rw [e]
  simp only [Int.natCast_zero, Int.add_zero]
  by_cases h : k ∈ b
  · rw [if_pos h, if_pos (by simpa using h)]; rfl
  · rw [if_neg h, if_neg (by simpa using h)]; rfl
theorem tl_rep (k j : Int) (hj : j < k) (p : Nat) (b : List Int) : ∀ n : Nat, tl k n (List.replicate p j ++ b) = tl k n b := by
  intro n
  unfold tl
  have hne : ∀ x ∈ (List.range n).map (fun (i : Nat) => k + (i : Int)), x ≠ j := by
    intro x hx
    obtain ⟨i, -, rfl⟩ := List.mem_map.mp hx
    omega
  generalize (List.range n).map (fun (i : Nat) => k + (i : Int)) = l at *
  have e1 : l.filter (fun x => decide (x ∈ List.replicate p j ++ b)) = l.filter fun x => decide (x ∈ b) := by
    refine List.filter_congr fun x hx => ?_
    have := hne x hx
    simp [List.mem_replicate, this]
  rw [e1]
  refine List.map_congr_left fun x hx => ?_
  have := hne x (List.mem_filter.mp hx).1
  rw [List.count_append, List.count_replicate]
  simp [Ne.symm this]
theorem pbR_tl : ∀ (t : List Int) (k sp rm : Int), 0 ≤ sp → 0 ≤ rm → pbR k t sp rm = tl k t.length (beh k t sp rm)
  | [], _, _, _, _, _ => rfl
  | g :: t, k, sp, rm, s0, r0 => by
    rw [List.length_cons, tl_succ, beh_cons k g t s0 r0, pbR]
    by_cases hg : 0 < g
    · rw [if_pos hg, if_pos hg]
      have b1 : 0 ≤ sp - mn g sp := by unfold mn; split <;> omega
      have b2 : 0 ≤ rm - mn (g - mn g sp) rm := by unfold mn; split <;> split <;> omega
      have b3 : 0 ≤ mn (g - mn g sp) rm := by unfold mn; split <;> split <;> omega
      rw [pbR_tl t (k + 1) _ _ b1 b2, tl_rep (k + 1) k (by omega)]
      have nk : k ∉ beh (k + 1) t (sp - mn g sp) (rm - mn (g - mn g sp) rm) := fun h => by have := beh_ge h; omega
      generalize mn (g - mn g sp) rm = pt at *
      generalize beh (k + 1) t (sp - mn g sp) (rm - pt) = B at *
      congr 1
      by_cases hp : 0 < pt
      · rw [if_pos hp, if_pos (by rw [List.mem_append]; left; rw [List.mem_replicate]; exact ⟨by omega, rfl⟩)]
        rw [List.count_append, List.count_replicate, List.count_eq_zero_of_not_mem nk]
        simp
        omega
      · rw [if_neg hp, if_neg]
        rw [List.mem_append]
        rintro (h | h)
        · rw [List.mem_replicate] at h; omega
        · exact nk h
    · rw [if_neg hg, if_neg hg, pbR_tl t (k + 1) _ _ s0 r0]
      rw [if_neg fun h => by have := beh_ge h; omega]
      rfl
theorem pbL_len : ∀ (t : List Int) (k sp rm : Int), 0 ≤ sp → 0 ≤ rm → pbL t sp rm = m0 ((cen k t).length - sp) - (beh k t sp rm).length
  | [], k, sp, rm, s0, r0 => by
    have : m0 (0 - sp) = 0 := by unfold m0; rw [if_neg (by omega)]
    simp [pbL, cen, beh]
    simpa using this.symm
  | g :: t, k, sp, rm, s0, r0 => by
    rw [beh_cons k g t s0 r0, pbL, cen, List.length_append, List.length_replicate]
    by_cases hg : 0 < g
    · rw [if_pos hg, if_pos hg]
      have b1 : 0 ≤ sp - mn g sp := by unfold mn; split <;> omega
      have b2 : 0 ≤ rm - mn (g - mn g sp) rm := by unfold mn; split <;> split <;> omega
      have b3 : 0 ≤ mn (g - mn g sp) rm := by unfold mn; split <;> split <;> omega
      rw [pbL_len t (k + 1) _ _ b1 b2, List.length_append, List.length_replicate]
      have e1 : (m0 g).toNat = g.toNat := by unfold m0; rw [if_pos hg]
      rw [e1]
      generalize hpt : mn (g - mn g sp) rm = pt at *
      generalize (beh (k + 1) t (sp - mn g sp) (rm - pt)).length = L at *
      generalize (cen (k + 1) t).length = M at *
      unfold m0 mn at *
      push_cast
      split <;> split <;> (try split at hpt) <;> (try split at b1) <;> (try split) <;> omega
    · rw [if_neg hg, if_neg hg, pbL_len t (k + 1) _ _ s0 r0]
      have e1 : (m0 g).toNat = 0 := by unfold m0; rw [if_neg hg]; rfl
      rw [e1, Nat.zero_add]
theorem pbR_drop (gs : List Int) {i : Nat} {g : Int} (e : gs[i]? = some g) (k sp rm : Int) : pbR k (gs.drop i) sp rm = if 0 < g then (if 0 < mn (g - mn g sp) rm then [(k, mn (g - mn g sp) rm)] else []) ++ pbR (k + 1) (gs.drop (i + 1)) (sp - mn g sp) (rm - mn (g - mn g sp) rm) else pbR (k + 1) (gs.drop (i + 1)) sp rm := by
  obtain ⟨hi, hx⟩ := List.getElem?_eq_some_iff.mp e
  rw [List.drop_eq_getElem_cons hi, hx]
  rfl
theorem pbL_drop (gs : List Int) {i : Nat} {g : Int} (e : gs[i]? = some g) (sp rm : Int) : pbL (gs.drop i) sp rm = if 0 < g then (g - mn g sp - mn (g - mn g sp) rm) + pbL (gs.drop (i + 1)) (sp - mn g sp) (rm - mn (g - mn g sp) rm) else pbL (gs.drop (i + 1)) sp rm := by
  obtain ⟨hi, hx⟩ := List.getElem?_eq_some_iff.mp e
  rw [List.drop_eq_getElem_cons hi, hx]
  rfl
theorem cen_len : ∀ (t : List Int) (k : Int), (∀ g ∈ t, g ≤ 10) → (cen k t).length ≤ 10 * t.length
  | [], _, _ => by simp [cen]
  | g :: t, k, h => by
    have h1 := cen_len t (k + 1) fun x hx => h x (List.mem_cons_of_mem _ hx)
    have h2 := h g List.mem_cons_self
    rw [cen, List.length_append, List.length_replicate, List.length_cons]
    have : (m0 g).toNat ≤ 10 := by unfold m0; split <;> omega
    omega
theorem cen_take (gs : List Int) : ∀ {i : Nat} {g : Int} (k : Int), gs[i]? = some g → cen k (gs.take (i + 1)) = cen k (gs.take i) ++ List.replicate (m0 g).toNat (k + i) := by
  induction gs with
  | nil => intro i g k e; simp at e
  | cons x t ih =>
    intro i g k e
    cases i with
    | zero =>
      simp at e
      subst e
      simp [cen]
    | succ i =>
      simp at e
      have := ih (k + 1) e
      simp only [List.take_succ_cons, cen, this, List.append_assoc]
      congr 3
      push_cast
      omega
end K06

set_option Elab.async false
set_option linter.all false
set_option autoImplicit false
set_option maxRecDepth 100000
set_option maxHeartbeats 2000000
namespace K06
open TX TL
open K04 (Rows down up near even Hows rd rd_zero rd_step rate S S_sum Good rate_cons nxt mn partsL T T_cons T_S partsL_M partsL_drop nxt_drop partsL_len S_bd rate_bd)
structure Ow where
  a : Int
  b : Int
  c : Int
  f : Int
  t : Int
  l : Int
  m : Int
structure OwOk (w : Ow) : Prop where
  a0 : 0 ≤ w.a
  a1 : w.a < 200
  b0 : 0 ≤ w.b
  b1 : w.b < 100
  c0 : 0 ≤ w.c
  c1 : w.c < 80
  f0 : 0 ≤ w.f
  f1 : w.f < 60
  t0 : 0 ≤ w.t
  t1 : w.t ≤ 10000
  l0 : 0 ≤ w.l
  l1 : w.l < 300
  m0 : 0 ≤ w.m
  m1 : w.m < 20
def owD (w : Ow) : AV := .dct [(.str [102, 105, 114, 115, 116], .int w.a), (.str [102, 117, 114, 116, 104, 101, 114], .int w.b), (.str [99, 104, 105, 108, 100], .int w.c), (.str [102, 114, 101, 101], .int w.f), (.str [116, 97, 112, 101, 114], .int w.t), (.str [108, 105, 109, 105, 116], .int w.l), (.str [108, 101, 97, 115, 116], .int w.m)]
def beO (w : Ow) : AO := .ins 4 [([102, 105, 114, 115, 116], .int w.a), ([102, 117, 114, 116, 104, 101, 114], .int w.b), ([99, 104, 105, 108, 100], .int w.c), ([102, 114, 101, 101], .int w.f), ([116, 97, 112, 101, 114], .int w.t), ([108, 105, 109, 105, 116], .int w.l), ([108, 101, 97, 115, 116], .int w.m)]
theorem ow_a (w : Ow) (h : AH) : idxA (owD w) (.str [102, 105, 114, 115, 116]) h = some (.int w.a) := rfl
theorem ow_b (w : Ow) (h : AH) : idxA (owD w) (.str [102, 117, 114, 116, 104, 101, 114]) h = some (.int w.b) := rfl
theorem ow_c (w : Ow) (h : AH) : idxA (owD w) (.str [99, 104, 105, 108, 100]) h = some (.int w.c) := rfl
theorem ow_f (w : Ow) (h : AH) : idxA (owD w) (.str [102, 114, 101, 101]) h = some (.int w.f) := rfl
theorem ow_t (w : Ow) (h : AH) : idxA (owD w) (.str [116, 97, 112, 101, 114]) h = some (.int w.t) := rfl
theorem ow_l (w : Ow) (h : AH) : idxA (owD w) (.str [108, 105, 109, 105, 116]) h = some (.int w.l) := rfl
theorem ow_m (w : Ow) (h : AH) : idxA (owD w) (.str [108, 101, 97, 115, 116]) h = some (.int w.m) := rfl
section
variable {w : Ow} {h : AH} {r : Nat} (e : hget h r = some (beO w))
include e
theorem be_a : fldA [4] [102, 105, 114, 115, 116] (.ref r) h = some (.int w.a) := by rw [fld_of [4] _ e (by simp)]; rfl
theorem be_b : fldA [4] [102, 117, 114, 116, 104, 101, 114] (.ref r) h = some (.int w.b) := by rw [fld_of [4] _ e (by simp)]; rfl
theorem be_c : fldA [4] [99, 104, 105, 108, 100] (.ref r) h = some (.int w.c) := by rw [fld_of [4] _ e (by simp)]; rfl
theorem be_f : fldA [4] [102, 114, 101, 101] (.ref r) h = some (.int w.f) := by rw [fld_of [4] _ e (by simp)]; rfl
theorem be_t : fldA [4] [116, 97, 112, 101, 114] (.ref r) h = some (.int w.t) := by rw [fld_of [4] _ e (by simp)]; rfl
theorem be_l : fldA [4] [108, 105, 109, 105, 116] (.ref r) h = some (.int w.l) := by rw [fld_of [4] _ e (by simp)]; rfl
theorem be_m : fldA [4] [108, 101, 97, 115, 116] (.ref r) h = some (.int w.m) := by rw [fld_of [4] _ e (by simp)]; rfl
theorem be_i : insOf (.ref r) h = some (4, [([102, 105, 114, 115, 116], .int w.a), ([102, 117, 114, 116, 104, 101, 114], .int w.b), ([99, 104, 105, 108, 100], .int w.c), ([102, 114, 101, 101], .int w.f), ([116, 97, 112, 101, 114], .int w.t), ([108, 105, 109, 105, 116], .int w.l), ([108, 101, 97, 115, 116], .int w.m)]) := ins_of e
end
def whole (w : Ow) (g c : Int) : Int := w.a + (g - 1) * w.b + c * w.c
def fnd (w : Ow) (g c inc : Int) : Int := whole w g c - (m0 (inc - w.f) * w.t) / 10000
def pz (w : Ow) (g c inc as : Int) : Int := if 0 < fnd w g c inc ∧ w.m ≤ fnd w g c inc ∧ as ≤ w.l then fnd w g c inc else 0
/-- grown persons, children -/
structure Pe (g c : Int) : Prop where
  g0 : 1 ≤ g
  g1 : g ≤ 3
  c0 : 0 ≤ c
  c1 : c ≤ 4
section
variable {w : Ow} {g c inc as : Int} {n : Nat} {h : AH} {r : Nat}
theorem rounded_dn {t : Int} (ht : 0 ≤ t) : pg P (n + 1) 0 1 [.int t, .int 10000, .str [100, 111, 119, 110]] h = .ok (.int (t / 10000)) h := by
  have := rounded_ok (n := n) (t := t) (how := down) (h := h) ht (.inl rfl)
  unfold rd at this
  rw [if_pos (.inl rfl)] at this
  exact this
theorem whole_ok (ho : OwOk w) (hp : Pe g c) (e : hget h r = some (beO w)) : pg P (n + 1) 0 3 [.ref r, .int g, .int c] h = .ok (.int (whole w g c)) h := by
  have s1 : small (g - 1) = true := small_of (by have := hp.g0; omega) (by have := hp.g1; omega)
  have s2 : small c = true := small_of (by have := hp.c0; omega) (by have := hp.c1; omega)
  rw [ap_runDef p_Benefit_whole rfl]
  simp -implicitDefEqProofs [TX.start, f_Benefit_whole, show ¬ g < 1 by have := hp.g0; omega, show ¬ c < 0 by have := hp.c0; omega, f_Benefit_whole_1, be_a e, be_b e, be_c e, s1, s2, whole]
theorem pays_ok (ho : OwOk w) (hp : Pe g c) (i0 : 0 ≤ inc) (a0 : 0 ≤ as) (e : hget h r = some (beO w)) : pg P (n + 2) 0 4 [.ref r, .int g, .int c, .int inc, .int as] h = .ok (.int (pz w g c inc as)) h := by
  have wo := whole_ok (n := n) ho hp e
  have nn : 0 ≤ m0 (inc - w.f) * w.t := Int.mul_nonneg (m0_nn _) ho.t0
  have ro := rounded_dn (n := n) (h := h) nn
  have st : small w.t = true := small_of (by have := ho.t0; omega) (by have := ho.t1; omega)
  have em : (if w.f < inc then inc - w.f else 0) = m0 (inc - w.f) := by
    unfold m0
    by_cases q : w.f < inc
    · rw [if_pos q, if_pos (by omega)]
    · rw [if_neg q, if_neg (by omega)]
  rw [ap_runDef p_Benefit_pays rfl]
  generalize pg P (n + 1) = φ at *
  have ei := be_i e
  simp -implicitDefEqProofs [TX.start, f_Benefit_pays, show ¬ inc < 0 by omega, show ¬ as < 0 by omega, f_Benefit_pays_2, ei, fget, wo, be_f e, be_t e, mmA]
  rw [em]
  simp -implicitDefEqProofs [st, ro, gN, f_Benefit_pays_1, be_m e, be_l e, mmA]
  rw [show whole w g c - m0 (inc - w.f) * w.t / 10000 = fnd w g c inc from rfl]
  unfold pz
  generalize fnd w g c inc = x at *
  have := ho.m0
  by_cases q1 : 1 < w.m <;> by_cases q2 : as ≤ w.l <;> by_cases q3 : w.m ≤ x <;> by_cases q4 : 1 ≤ x <;> simp -implicitDefEqProofs [q1, q2, q3, q4, show (0 < x) = (1 ≤ x) from rfl] <;> omega
theorem law_pays_ok (ho : OwOk w) (hp : Pe g c) (i0 : 0 ≤ inc) (a0 : 0 ≤ as) : pg P (n + 1) 0 26 [owD w, .int g, .int c, .int inc, .int as] h = .ok (.int (pz w g c inc as)) h := by
  have s1 : small (g - 1) = true := small_of (by have := hp.g0; omega) (by have := hp.g1; omega)
  have s2 : small c = true := small_of (by have := hp.c0; omega) (by have := hp.c1; omega)
  have st : small w.t = true := small_of (by have := ho.t0; omega) (by have := ho.t1; omega)
  have em : (if w.f < inc then inc - w.f else 0) = m0 (inc - w.f) := by
    unfold m0
    by_cases q : w.f < inc
    · rw [if_pos q, if_pos (by omega)]
    · rw [if_neg q, if_neg (by omega)]
  have oa := ow_a w; have ob := ow_b w; have oc := ow_c w; have of_ := ow_f w; have ot := ow_t w; have ol := ow_l w; have om := ow_m w
  rw [ap_runDef p__law_pays rfl]
  generalize owD w = W at *
  simp -implicitDefEqProofs [TX.start, f__law_pays, oa, ob, oc, s1, s2, gN, f__law_pays_2, of_, ot, mmA]
  rw [em]
  simp -implicitDefEqProofs [st, fdl, gN]
  rw [show w.a + (g - 1) * w.b + c * w.c - m0 (inc - w.f) * w.t / 10000 = fnd w g c inc from rfl]
  unfold pz
  generalize fnd w g c inc = x at *
  by_cases q2 : as ≤ w.l <;> by_cases q3 : w.m ≤ x <;> by_cases q4 : 0 < x <;> simp -implicitDefEqProofs [f__law_pays_1, om, ol, q2, q3, q4]
theorem pz_bd (ho : OwOk w) (hp : Pe g c) : 0 ≤ pz w g c inc as ∧ pz w g c inc as ≤ 1000000 := by
  have nn : 0 ≤ m0 (inc - w.f) * w.t := Int.mul_nonneg (m0_nn _) ho.t0
  have w1 : whole w g c ≤ 1000000 := by
    unfold whole
    have h1 : (g - 1) * w.b ≤ 2 * w.b := Int.mul_le_mul_of_nonneg_right (by have := hp.g1; omega) ho.b0
    have h2 : c * w.c ≤ 4 * w.c := Int.mul_le_mul_of_nonneg_right (by have := hp.c1; omega) ho.c0
    have := ho.a1; have := ho.b1; have := ho.c1
    omega
  unfold pz fnd
  split <;> omega
/-- where it ends -/
theorem ends_ok (ho : OwOk w) (hp : Pe g c) (e : hget h r = some (beO w)) : (pz w g c 10000000 0 ≠ 0 ∧ pg P (n + 3) 0 5 [.ref r, .int g, .int c] h = .ok .non h) ∨
    ∃ low : Int, pg P (n + 3) 0 5 [.ref r, .int g, .int c] h = .ok (.int low) h ∧ 0 ≤ low ∧ low ≤ 10000000 ∧ pz w g c low 0 = 0 ∧ (0 < low → pz w g c (low - 1) 0 ≠ 0) := by
  have pa := fun (inc : Int) i0 => pays_ok (n := n) (inc := inc) (as := 0) ho hp i0 (by omega) e
  have ei := be_i e
  have bd := fun inc => (pz_bd (inc := inc) (as := 0) ho hp).1
  rw [ap_runDef p_Benefit_ends_at rfl]
  generalize pg P (n + 2) = φ at *
  have p7 := pa 10000000 (by omega)
  by_cases q : pz w g c 10000000 0 = 0
  · right
    obtain ⟨c', s', h', f1, ⟨eh, x5, es, c1, c2, c3, c4, c5⟩, cc⟩ := wh_run (φ := φ) (cnd := eCmp .lt (eV 3) (eV 4)) (b := f_Benefit_ends_at_2)
      (fun (k : Int × Int) s h' => h' = h ∧ ∃ x5, s = [some (.ref r), some (.int g), some (.int c), some (.int k.1), some (.int k.2), x5] ∧ 0 ≤ k.1 ∧ k.1 ≤ k.2 ∧ k.2 ≤ 10000000 ∧ pz w g c k.2 0 = 0 ∧ (0 < k.1 → pz w g c (k.1 - 1) 0 ≠ 0))
      (fun k => decide (k.1 < k.2)) (fun k => if pz w g c ((k.1 + k.2) / 2) 0 = 0 then (k.1, (k.1 + k.2) / 2) else ((k.1 + k.2) / 2 + 1, k.2)) (fun k => (k.2 - k.1).toNat)
      (fun k s h' ⟨eh, x5, es, c1, c2, c3, c4, c5⟩ => by
        subst eh es
        refine ⟨rfl, fun cc => ?_⟩
        have cc : k.1 < k.2 := by simpa using cc
        obtain ⟨m, hm⟩ : ∃ m, (k.1 + k.2) / 2 = m := ⟨_, rfl⟩
        have m1 : k.1 ≤ m ∧ m < k.2 := by omega
        have km := pa m (by omega)
        rw [hm]
        have f2 : (k.1 + k.2).fdiv 2 = m := by rw [Int.fdiv_eq_ediv_of_nonneg _ (by decide)]; exact hm
        by_cases q2 : pz w g c m 0 = 0
        · rw [if_pos q2]
          refine ⟨[some (.ref r), some (.int g), some (.int c), some (.int k.1), some (.int m), some (.int m)], _, .inl (by simp -implicitDefEqProofs [f_Benefit_ends_at_2, gN, f2, f_Benefit_ends_at_1, ei, fget, km, q2]), ⟨rfl, _, rfl, by simp; omega, by simp; omega, by simp; omega, q2, c5⟩, by simp; omega⟩
        · rw [if_neg q2]
          refine ⟨[some (.ref r), some (.int g), some (.int c), some (.int (m + 1)), some (.int k.2), some (.int m)], _, .inl (by simp -implicitDefEqProofs [f_Benefit_ends_at_2, gN, f2, f_Benefit_ends_at_1, ei, fget, km, q2]), ⟨rfl, _, rfl, by simp; omega, by simp; omega, by simp; omega, c4, fun _ => by simpa using q2⟩, by simp; omega⟩)
      (n := WF) (c := (0, 10000000)) (s := [some (.ref r), some (.int g), some (.int c), some (.int 0), some (.int 10000000), none]) (h := h) ⟨rfl, none, rfl, by decide, by decide, by decide, q, fun k => absurd k (by decide)⟩ (by simp [WF])
    subst eh es
    have cc : ¬ c'.1 < c'.2 := by simpa using cc
    refine ⟨c'.1, ?_, c1, by omega, ?_, c5⟩
    · simp -implicitDefEqProofs [TX.start, f_Benefit_ends_at, ei, fget, p7, q, f_Benefit_ends_at_5, gT, gsCons, gsNil, gN]
      rw [f_Benefit_ends_at_4, ap_sSeq, ap_sWhile, f1]
      simp -implicitDefEqProofs [f_Benefit_ends_at_3]
    · have : c'.1 = c'.2 := by omega
      rw [this]
      exact c4
  · left
    have := bd 10000000
    refine ⟨q, ?_⟩
    simp -implicitDefEqProofs [TX.start, f_Benefit_ends_at, ei, fget, p7, show 0 < pz w g c 10000000 0 by omega]
/-! what is left -/
def lf (w : Ow) (rows : Rows) (g c inc : Int) : Int := inc - (S rows (12 * inc).toNat / 10000) / 12 + pz w g c inc 0
theorem fdl12 (t : Int) : t.fdiv 12 = t / 12 := Int.fdiv_eq_ediv_of_nonneg _ (by decide)
theorem left_ok {rows : Rows} {q : Nat} (ho : OwOk w) (hp : Pe g c) (gr : Good rows) (i0 : 0 ≤ inc) (i1 : inc ≤ 2000) (e : hget h r = some (beO w)) (e2 : hget h q = some (bo rows down)) :
    pg P (n + 3) 0 7 [.ref r, .ref q, .int g, .int c, .int inc] h = .ok (.int (lf w rows g c inc)) h := by
  have pa := pays_ok (n := n) (as := 0) ho hp i0 (by omega) e
  have ta := tax_ok (n := n) (a := 12 * inc) e2 gr (.inl rfl) (by omega) (by omega)
  have ei := be_i e
  have ej : insOf (.ref q) h = some (5, [([114, 111, 119, 115], .tup (rows.map prA)), ([104, 111, 119], .str down)]) := ins_of e2
  have et : tx rows down (12 * inc) = S rows (12 * inc).toNat / 10000 := by
    unfold tx rd
    rw [if_pos (.inl rfl)]
  rw [et] at ta
  rw [ap_runDef p_left_of rfl]
  generalize pg P (n + 2) = φ at *
  simp -implicitDefEqProofs [TX.start, f_left_of, ei, ej, fget, pa, ta, fdl12]
  rfl
theorem more_ok {rows : Rows} {q : Nat} {mo : Int} (ho : OwOk w) (hp : Pe g c) (gr : Good rows) (i0 : 0 ≤ inc) (mo0 : 0 ≤ mo) (i1 : inc + mo ≤ 2000) (e : hget h r = some (beO w)) (e2 : hget h q = some (bo rows down)) :
    pg P (n + 4) 0 6 [.ref r, .ref q, .int g, .int c, .int inc, .int mo] h = .ok (.int (lf w rows g c (inc + mo) - lf w rows g c inc)) h := by
  have l1 := left_ok (n := n) ho hp gr i0 (by omega) e e2
  have l2 := left_ok (n := n) (inc := inc + mo) ho hp gr (by omega) i1 e e2
  rw [ap_runDef p_kept_of_more rfl]
  generalize pg P (n + 3) = φ at *
  simp -implicitDefEqProofs [TX.start, f_kept_of_more, show ¬ mo < 0 by omega, f_kept_of_more_1, l1, l2]
/-- the law's sum, band by band -/
def lsum (M a : Int) : Rows → Int
  | [] => 0
  | (s, r) :: t => m0 (mn a (nxt M t) - s) * r + lsum M a t
theorem lsum_T {M a : Int} (hM : a ≤ M) : ∀ {rows : Rows}, (rows.Pairwise fun a b => a.1 < b.1) → (∀ p ∈ rows, p.1 < M) → lsum M a rows = T M a rows
  | [], _, _ => rfl
  | (s, r) :: t, asc, hi => by
    rw [T_cons, lsum, lsum_T hM (List.Pairwise.of_cons asc) fun p hp => hi p (List.mem_cons_of_mem _ hp)]
    congr 1
    have h1 : s < nxt M t := by
      cases t with
      | nil => exact hi _ List.mem_cons_self
      | cons q u => exact (List.rel_of_pairwise_cons asc List.mem_cons_self : s < q.1)
    unfold m0 mn
    by_cases q : s < a
    · rw [if_pos q]
      split
      · rw [if_pos (by omega)]
      · rw [if_pos (by omega)]
    · rw [if_neg q]
      split
      · rw [if_neg (by omega)]; simp
      · rw [if_neg (by omega)]; simp
theorem lsum_drop (M a : Int) (rows : Rows) {i : Nat} {x : Int × Int} (e : rows[i]? = some x) : lsum M a (rows.drop i) = m0 (mn a (nxt M (rows.drop (i + 1))) - x.1) * x.2 + lsum M a (rows.drop (i + 1)) := by
  obtain ⟨hi, hx⟩ := List.getElem?_eq_some_iff.mp e
  rw [List.drop_eq_getElem_cons hi, hx]
  rfl
theorem law_left_ok {rows : Rows} (ho : OwOk w) (hp : Pe g c) (gr : Good rows) (i0 : 0 ≤ inc) (i1 : inc ≤ 2000) : pg P (n + 2) 0 27 [owD w, .lst (rows.map prA), .int g, .int c, .int inc] h = .ok (.int (lf w rows g c inc)) h := by
  have lp := law_pays_ok (n := n) (h := h) (as := 0) ho hp i0 (by omega)
  have gl := gr.len
  rw [ap_runDef p__law_left rfl]
  generalize pg P (n + 1) = φ at *
  generalize owD w = W at *
  obtain ⟨s2, h2, f2, x6, x7, x8, x9, es, eh⟩ := for_en (φ := φ) (g := gT (gsCons (gN 6) (gsCons (gT (gsCons (gN 7) (gsCons (gN 8) gsNil))) gsNil))) (b := f__law_left_2) (gd := []) prA
    (fun i s h' => ∃ (x6 x7 x8 x9 : Option AV), s = [some W, some (.lst (rows.map prA)), some (.int g), some (.int c), some (.int inc), some (.int (lsum 1000000000 (12 * inc) rows - lsum 1000000000 (12 * inc) (rows.drop i))), x6, x7, x8, x9] ∧ h' = h)
    (xs := rows) (s := [some W, some (.lst (rows.map prA)), some (.int g), some (.int c), some (.int inc), some (.int 0), none, none, none, none]) (h := h) (fun _ _ _ _ => rfl)
    (fun i x hx s h' ⟨x6, x7, x8, x9, es, eh⟩ => by
      subst es eh
      have pd := lsum_drop 1000000000 (12 * inc) rows hx
      obtain ⟨st, rt⟩ := x
      obtain ⟨E, hE⟩ : ∃ E, nxt 1000000000 (rows.drop (i + 1)) = E := ⟨_, rfl⟩
      have nd := nxt_drop 1000000000 rows (i + 1)
      rw [hE] at nd
      rw [hE] at pd
      simp only at pd
      generalize lsum 1000000000 (12 * inc) rows = L0 at *
      generalize lsum 1000000000 (12 * inc) (rows.drop i) = L1 at *
      generalize lsum 1000000000 (12 * inc) (rows.drop (i + 1)) = L2 at *
      have end1 : eIf (eCmp .lt (eBin false .add (eV 6) (eC (.int 1))) (eU .len (eV 1))) (eIdx (eIdx (eV 1) (eBin false .add (eV 6) (eC (.int 1)))) (eC (.int 0))) (eBin false .pow (eC (.int 10)) (eC (.int 9))) φ
          [some W, some (.lst (rows.map prA)), some (.int g), some (.int c), some (.int inc), some (.int (L0 - L1)), some (.int i), some (.int st), some (.int rt), x9] h' = .ok (.int E) h' := by
        by_cases cc : i + 1 < rows.length
        · rw [List.getElem?_eq_getElem cc] at nd
          obtain ⟨y, hy⟩ : ∃ y, rows[i + 1] = y := ⟨_, rfl⟩
          rw [hy] at nd
          have a1 : atI (rows.map prA) ((i : Int) + 1) = some (.tup [.int y.1, .int y.2]) := by
            have := atI_nat (xs := rows.map prA) (i := i + 1) (by simpa using cc)
            push_cast at this
            rw [this, List.getElem?_map, List.getElem?_eq_getElem cc, hy]
            rfl
          simp -implicitDefEqProofs [a1, show (i : Int) + 1 < rows.length by omega, nd]
        · rw [List.getElem?_eq_none (by omega)] at nd
          have pw : binA false .pow (.int 10) (.int 9) h' = .ok (.int 1000000000) h' := rfl
          simp -implicitDefEqProofs [show ¬ (i : Int) + 1 < rows.length by omega, nd, pw]
      have hm := List.getElem?_eq_some_iff.mp hx
      have mem : (st, rt) ∈ rows := by rw [← hm.2]; exact List.getElem_mem hm.1
      have hr := gr.rts _ mem
      have sr : small rt = true := small_of (by have := hr.1; simp at this; omega) (by have := hr.2; simp at this; omega)
      refine ⟨_, [some W, some (.lst (rows.map prA)), some (.int g), some (.int c), some (.int inc), some (.int (L0 - L2)), some (.int i), some (.int st), some (.int rt), some (.int E)], h', rfl, .inl ?_, _, _, _, _, rfl, rfl⟩
      show f__law_left_2 φ [some W, some (.lst (rows.map prA)), some (.int g), some (.int c), some (.int inc), some (.int (L0 - L1)), some (.int i), some (.int st), some (.int rt), x9] _ = _
      rw [f__law_left_2, ap_sSeq, ap_sSet, end1]
      have mm : (if E < 12 * inc then E else 12 * inc) = mn (12 * inc) E := rfl
      have m2 : ∀ z : Int, (if 0 < z - st then z - st else 0) = m0 (z - st) := fun _ => rfl
      simp -implicitDefEqProofs [gN, f__law_left_1, mmA, mm]
      have m3 : (if st < mn (12 * inc) E then mn (12 * inc) E - st else 0) = m0 (mn (12 * inc) E - st) := by
        unfold m0
        by_cases q : st < mn (12 * inc) E
        · rw [if_pos q, if_pos (by omega)]
        · rw [if_neg q, if_neg (by omega)]
      rw [m3]
      simp -implicitDefEqProofs [sr]
      have pd : L1 = m0 (mn (12 * inc) E - st) * rt + L2 := pd
      generalize m0 (mn (12 * inc) E - st) * rt = pp at pd ⊢
      omega)
    ⟨none, none, none, none, by simp, rfl⟩
  subst es eh
  have hT : lsum 1000000000 (12 * inc) rows = S rows (12 * inc).toNat := by
    rw [lsum_T (by omega) gr.asc fun p hp => by have := gr.hi p hp; omega]
    have := T_S (M := 1000000000) gr.asc gr.nn (12 * inc).toNat (by omega)
    rw [show (((12 * inc).toNat : Nat) : Int) = 12 * inc by omega] at this
    exact this
  have hd : lsum 1000000000 (12 * inc) (rows.drop rows.length) = 0 := by rw [List.drop_length]; rfl
  rw [hd, hT, Int.sub_zero] at f2
  simp -implicitDefEqProofs [TX.start, f__law_left, gN]
  rw [f__law_left_4, ap_sSeq, ap_sFor]
  simp -implicitDefEqProofs []
  rw [f2]
  simp -implicitDefEqProofs [f__law_left_3, fdl, fdl12, lp]
  rfl
end
end K06

set_option Elab.async false
set_option linter.all false
set_option autoImplicit false
set_option maxRecDepth 100000
set_option maxHeartbeats 2000000
namespace K06
open TX TL
open K04 (Rows down up near even Hows rd rd_zero rd_step rate S S_sum Good rate_cons nxt mn partsL T T_cons T_S partsL_M partsL_drop nxt_drop partsL_len S_bd rate_bd)
/-- incomes that ascend -/
structure Inc (xs : List Int) : Prop where
  asc : xs.Pairwise (· < ·)
  bd : ∀ x ∈ xs, 0 ≤ x ∧ x ≤ 600
  len : xs.length ≤ 8
theorem pairs_lt : ∀ {xs : List Int}, xs.Pairwise (· < ·) → ∀ p ∈ xs.zip xs.tail, p.1 < p.2
  | [], _, p, hp => nomatch hp
  | [x], _, p, hp => nomatch hp
  | x :: y :: t, h, p, hp => by
    have ih := pairs_lt (List.Pairwise.of_cons h)
    rcases List.mem_cons.mp hp with rfl | hp
    · exact List.rel_of_pairwise_cons h List.mem_cons_self
    · exact ih p hp
theorem pairs_bd {xs : List Int} (h : Inc xs) : ∀ p ∈ xs.zip xs.tail, p.1 < p.2 ∧ 0 ≤ p.1 ∧ p.2 ≤ 600 := fun p hp => by
  have h1 := List.of_mem_zip hp
  exact ⟨pairs_lt h.asc p hp, (h.bd _ h1.1).1, (h.bd _ (List.mem_of_mem_tail h1.2)).2⟩
def prI (p : Int × Int) : AV := .tup [.int p.1, .int p.2]
def tri (t : Int × Int × Int) : AV := .tup [.int t.1, .int t.2.1, .int t.2.2]
theorem cutI (xs : List Int) : cut (xs.map AV.int) (some 1) none = (xs.map AV.int).tail := by rw [drop_one, List.drop_one]
theorem zipI (xs : List Int) : zipL (xs.map AV.int) (xs.map AV.int).tail = (xs.zip xs.tail).map prI := by rw [← List.map_tail]; exact zipL_map AV.int AV.int _ _
/-- where more is less -/
def clf (F : Int → Int) (ps : List (Int × Int)) : List (Int × Int × Int) := (ps.filter fun p => decide (0 < F p.1 - F p.2)).map fun p => (p.1, p.2, F p.1 - F p.2)
theorem clf_snoc (F : Int → Int) (ps : List (Int × Int)) (p : Int × Int) : clf F (ps ++ [p]) = clf F ps ++ (if 0 < F p.1 - F p.2 then [(p.1, p.2, F p.1 - F p.2)] else []) := by
  unfold clf
  rw [List.filter_append, List.map_append]
  congr 1
  by_cases h : 0 < F p.1 - F p.2
  · rw [if_pos h, List.filter_cons, if_pos (by simpa using h)]; rfl
  · rw [if_neg h, List.filter_cons, if_neg (by simpa using h)]; rfl
theorem clf_len (F : Int → Int) (ps : List (Int × Int)) : (clf F ps).length ≤ ps.length := by
  unfold clf
  rw [List.length_map]
  exact List.length_filter_le _ _
theorem under_tri (n : Nat) : ∀ ts : List (Int × Int × Int), AV.under n (.tup (ts.map tri)) = true
  | [] => rfl
  | x :: r => by
    have := under_tri n r
    show (AV.under n (tri x) && AV.underL n (r.map tri)) = true
    rw [show AV.underL n (r.map tri) = true from this]
    rfl
theorem asc_any {φ : Fn} {xs : List Int} {h : AH} (hx : Inc xs) {s0 : St} {i j : Nat} (hij : i ≠ j) (hi : i < s0.length) (hj : j < s0.length) :
    anyGo φ (gT (gsCons (gN i) (gsCons (gN j) gsNil))) eYes (eCmp .ge (eV i) (eV j)) s0 [] ((xs.zip xs.tail).map prI) h = .ok false h := by
  have := any_map (φ := φ) (g := gT (gsCons (gN i) (gsCons (gN j) gsNil))) (c := eYes) (e := eCmp .ge (eV i) (eV j)) (s0 := s0) (gd := []) (h := h) prI (fun _ => true) (fun _ => false) (xs := xs.zip xs.tail) rfl
    (fun p hp => ⟨(s0.set i (some (.int p.1))).set j (some (.int p.2)), rfl, rfl, fun _ => by
      have e1 : ((s0.set i (some (.int p.1))).set j (some (.int p.2)))[i]? = some (some (.int p.1)) := by
        rw [List.getElem?_set_ne (by omega), List.getElem?_set_self hi]
      have e2 : ((s0.set i (some (.int p.1))).set j (some (.int p.2)))[j]? = some (some (.int p.2)) := by
        rw [List.getElem?_set_self (by simpa using hj)]
      have b := pairs_bd hx p hp
      generalize ((s0.set i (some (.int p.1))).set j (some (.int p.2))) = s at *
      simp -implicitDefEqProofs [e1, e2, show ¬ p.2 ≤ p.1 by omega]⟩)
  rw [this]
  simp
section
variable {w : Ow} {g c inc as : Int} {n : Nat} {h : AH} {r q : Nat} {rows : Rows}
theorem cliffs_ok {xs : List Int} (ho : OwOk w) (hp : Pe g c) (gr : Good rows) (hx : Inc xs) (e : hget h r = some (beO w)) (e2 : hget h q = some (bo rows down)) :
    pg P (n + 4) 0 8 [.ref r, .ref q, .int g, .int c, .lst (xs.map .int)] h = .ok (.tup ((clf (lf w rows g c) (xs.zip xs.tail)).map tri)) h := by
  have lo := fun (ys : List AV) (i : Int) i0 i1 => left_ok (n := n) (inc := i) ho hp gr i0 i1 (hget_cons_lt (u := .lst ys) e) (hget_cons_lt (u := .lst ys) e2)
  have hl := hx.len
  rw [ap_runDef p_cliffs rfl]
  generalize pg P (n + 3) = φ at *
  generalize hF : lf w rows g c = F at *
  have zl : (xs.zip xs.tail).length ≤ 8 := by rw [List.length_zip]; omega
  have an := asc_any (φ := φ) (h := h) hx (s0 := [some (.ref r), some (.ref q), some (.int g), some (.int c), some (.lst (xs.map .int)), none, none, none, none]) (i := 6) (j := 7) (by decide) (by simp) (by simp)
  obtain ⟨s2, h2, f2, x6, x7, x8, es, eh⟩ := for_pre (φ := φ) (g := gT (gsCons (gN 6) (gsCons (gN 7) gsNil))) (b := f_cliffs_2) (gd := []) prI
    (fun dn s h' => ∃ x6 x7 x8 : Option AV, s = [some (.ref r), some (.ref q), some (.int g), some (.int c), some (.lst (xs.map .int)), some (.ref h.length), x6, x7, x8] ∧ h' = .lst ((clf F dn).map tri) :: h)
    (todo := xs.zip xs.tail) (done := []) (s := [some (.ref r), some (.ref q), some (.int g), some (.int c), some (.lst (xs.map .int)), some (.ref h.length), none, none, none]) (h := .lst [] :: h) (fun _ _ _ _ => rfl)
    (fun dn p rest hd s h' ⟨x6, x7, x8, es, eh⟩ => by
      subst es eh
      have mem : p ∈ xs.zip xs.tail := by
        have : p ∈ dn ++ p :: rest := by simp
        rw [← hd] at this
        simpa using this
      have b := pairs_bd hx p mem
      have ld : dn.length ≤ 8 := by
        have := congrArg List.length hd
        simp at this
        omega
      have lc := clf_len F dn
      have l1 := lo ((clf F dn).map tri) p.1 (by omega) (by omega)
      have l2 := lo ((clf F dn).map tri) p.2 (by omega) (by omega)
      have lq := app_of (r := h.length) (xs := (clf F dn).map tri) (v := .tup [.int p.1, .int p.2, .int (F p.1 - F p.2)]) (h := .lst ((clf F dn).map tri) :: h) (by simp) (by simp; omega)
      refine ⟨_, [some (.ref r), some (.ref q), some (.int g), some (.int c), some (.lst (xs.map .int)), some (.ref h.length), some (.int p.1), some (.int p.2), some (.int (F p.1 - F p.2))], .lst ((clf F (dn ++ [p])).map tri) :: h, rfl, .inl ?_, _, _, _, rfl, rfl⟩
      show f_cliffs_2 φ [some (.ref r), some (.ref q), some (.int g), some (.int c), some (.lst (xs.map .int)), some (.ref h.length), some (.int p.1), some (.int p.2), x8] _ = _
      rw [clf_snoc]
      generalize hC : clf F dn = C at *
      by_cases k : 0 < F p.1 - F p.2
      · rw [if_pos k]
        simp -implicitDefEqProofs [f_cliffs_2, l1, l2, gN]
        generalize F p.1 - F p.2 = z at *
        simp -implicitDefEqProofs [f_cliffs_1, k, lq, tri]
      · rw [if_neg k]
        simp -implicitDefEqProofs [f_cliffs_2, l1, l2, gN]
        generalize F p.1 - F p.2 = z at *
        simp -implicitDefEqProofs [f_cliffs_1, k])
    ⟨none, none, none, rfl, rfl⟩
  subst es eh
  rw [List.nil_append] at f2
  have tr := tuple_ref (i := h.length) (h := .lst ((clf F (xs.zip xs.tail)).map tri) :: h) (hget_top _ _)
  simp -implicitDefEqProofs [TX.start, f_cliffs, sliceA, cutI, zipI, wipe, an, f_cliffs_5, gN]
  rw [f_cliffs_4, ap_sSeq, ap_sFor]
  simp -implicitDefEqProofs [sliceA, cutI, zipI]
  rw [f2]
  simp -implicitDefEqProofs [f_cliffs_3, tr]
  exact gcRet_drop [_] (under_tri _ _)
/-- a step's key -/
def keyP (F : Int → Int) (p : Int × Int) : Int × Int := (0 - ((p.2 - p.1 - (F p.2 - F p.1)) * 10000).fdiv (p.2 - p.1), p.1)
def obO : Option (Int × Int) → AV
  | none => .non
  | some b => .tup [.int b.1, .int b.2]
def bst (F : Int → Int) : Option (Int × Int) → Int × Int → Option (Int × Int)
  | none, p => some (keyP F p)
  | some b, p => some (if plt (keyP F p) b then keyP F p else b)
theorem bst_fold (F : Int → Int) : ∀ (ps : List (Int × Int)) (b : Int × Int), ps.foldl (bst F) (some b) = some (minOf plt b (ps.map (keyP F)))
  | [], b => rfl
  | p :: r, b => by
    show r.foldl (bst F) (some (if plt (keyP F p) b then keyP F p else b)) = _
    rw [bst_fold F r]
    rfl
theorem lt_pr (a b : Int × Int) (h : AH) : cmpA .lt (.tup [.int a.1, .int a.2]) (.tup [.int b.1, .int b.2]) h = .ok (.bl (plt a b)) h := by
  show Out.ok (AV.bl (if a.1 = b.1 then (if a.2 = b.2 then false else decide (a.2 < b.2)) else decide (a.1 < b.1))) h = _
  unfold plt
  congr 2
  by_cases e1 : a.1 = b.1
  · rw [if_pos e1]
    by_cases e2 : a.2 = b.2
    · rw [if_pos e2]
      simp [e1, e2]
    · rw [if_neg e2]
      simp [e1]
  · rw [if_neg e1]
    simp [e1]
theorem worst_ok {xs : List Int} {p0 : Int × Int} {ps : List (Int × Int)} (ho : OwOk w) (hp : Pe g c) (gr : Good rows) (hx : Inc xs) (h2 : 2 ≤ xs.length) (hz : xs.zip xs.tail = p0 :: ps) (e : hget h r = some (beO w)) (e2 : hget h q = some (bo rows down)) :
    pg P (n + 5) 0 9 [.ref r, .ref q, .int g, .int c, .lst (xs.map .int)] h = .ok (.tup [.int (0 - (minOf plt (keyP (lf w rows g c) p0) (ps.map (keyP (lf w rows g c)))).1), .int (minOf plt (keyP (lf w rows g c) p0) (ps.map (keyP (lf w rows g c)))).2]) h := by
  have mo := fun (i j : Int) i0 j0 j1 => more_ok (n := n) (inc := i) (mo := j) ho hp gr i0 j0 j1 e e2
  have hl := hx.len
  rw [ap_runDef p_worst_rate rfl]
  generalize pg P (n + 4) = φ at *
  generalize hF : lf w rows g c = F at *
  have zl : (xs.zip xs.tail).length ≤ 8 := by rw [List.length_zip]; omega
  have an := asc_any (φ := φ) (h := h) hx (s0 := [some (.ref r), some (.ref q), some (.int g), some (.int c), some (.lst (xs.map .int)), none, none, none, none, none]) (i := 6) (j := 7) (by decide) (by simp) (by simp)
  obtain ⟨s2, h2', f2, eh, x6, x7, x8, x9, es⟩ := for_rel (φ := φ) (g := gT (gsCons (gN 6) (gsCons (gN 7) gsNil))) (b := f_worst_rate_3) (gd := []) prI (bst F)
    (fun o s h' => h' = h ∧ ∃ x6 x7 x8 x9 : Option AV, s = [some (.ref r), some (.ref q), some (.int g), some (.int c), some (.lst (xs.map .int)), some (obO o), x6, x7, x8, x9]) (fun _ _ _ _ => rfl)
    (xs := xs.zip xs.tail) (c := none) (s := [some (.ref r), some (.ref q), some (.int g), some (.int c), some (.lst (xs.map .int)), some .non, none, none, none, none]) (h := h)
    (fun p mem o s h' ⟨eh, x6, x7, x8, x9, es⟩ => by
      subst es eh
      have b := pairs_bd hx p mem
      have m1 := mo p.1 (p.2 - p.1) (by omega) (by omega) (by omega)
      rw [show p.1 + (p.2 - p.1) = p.2 by omega] at m1
      have ek : ((0 : Int) - ((p.2 - p.1 - (F p.2 - F p.1)) * 10000).fdiv (p.2 - p.1)) = (keyP F p).1 := rfl
      have ek2 : p.1 = (keyP F p).2 := rfl
      have d1 : p.2 - p.1 ≠ 0 := by omega
      have d2 : (p.2 - p.1).natAbs < 1073741824 := by omega
      refine ⟨_, [some (.ref r), some (.ref q), some (.int g), some (.int c), some (.lst (xs.map .int)), some (obO (bst F o p)), some (.int p.1), some (.int p.2), some (.int (F p.2 - F p.1)), some (.tup [.int (keyP F p).1, .int (keyP F p).2])], h', rfl, .inl ?_, rfl, _, _, _, _, rfl⟩
      show f_worst_rate_3 φ [some (.ref r), some (.ref q), some (.int g), some (.int c), some (.lst (xs.map .int)), some (obO o), some (.int p.1), some (.int p.2), x8, x9] _ = _
      have m10 : ∀ z : Int, binA false .mul (.int z) (.int 10000) h' = .ok (.int (z * 10000)) h' := fun z => by simp
      simp -implicitDefEqProofs [f_worst_rate_3, m1, gN, f_worst_rate_2, m10, d1, d2]
      have ek3 : -((p.2 - p.1 - (F p.2 - F p.1)) * 10000).fdiv (p.2 - p.1) = (keyP F p).1 := by rw [← ek]; omega
      rw [ek3]
      generalize hK : keyP F p = K at *
      cases o with
      | none => simp -implicitDefEqProofs [f_worst_rate_1, obO, bst, hK, gN]; rw [← hK]; rfl
      | some b =>
        have lt := lt_pr K b h'
        have e1 : p.1 = K.2 := by rw [← hK]; rfl
        rw [e1]
        by_cases q1 : plt K b = true
        · simp -implicitDefEqProofs [f_worst_rate_1, obO, bst, hK, gN, lt, q1]
        · have q2 : plt K b = false := by simpa using q1
          simp -implicitDefEqProofs [f_worst_rate_1, obO, bst, hK, gN, lt, q2])
    ⟨rfl, none, none, none, none, rfl⟩
  subst es eh
  have ef : (xs.zip xs.tail).foldl (bst F) none = some (minOf plt (keyP F p0) (ps.map (keyP F))) := by
    rw [hz]
    exact bst_fold F ps (keyP F p0)
  rw [ef] at f2
  generalize minOf plt (keyP F p0) (ps.map (keyP F)) = B at *
  simp -implicitDefEqProofs [TX.start, f_worst_rate, show ¬ (xs.length : Int) < 2 by omega, show ¬ xs.length < 2 by omega, sliceA, cutI, zipI, wipe, an, f_worst_rate_6, gN]
  rw [f_worst_rate_5, ap_sSeq, ap_sFor]
  simp -implicitDefEqProofs [sliceA, cutI, zipI]
  rw [f2]
  simp -implicitDefEqProofs [f_worst_rate_4, obO]
/-- the months of an age -/
theorem months_ok {born size low high : Int} (s0 : 0 ≤ size) (s1 : size ≤ 60) (l0 : 0 ≤ low) (lh : low < high) (h1 : high ≤ 100) :
    pg P (n + 1) 0 11 [.int born, .int size, .int low, .int high] h = .ok (.tup ((((List.range size.toNat).map fun (i : Nat) => (0 : Int) + (i : Int)).filter fun k => decide (low ≤ (born + k) / 12) && decide ((born + k) / 12 < high)).map .int)) h := by
  rw [ap_runDef p_months_due rfl]
  generalize pg P n = φ at *
  have k1 := rngOk_of (i := size) (by omega) (by omega)
  have lc : lcGo φ (gN 4) (eChain .le .lt (eBin false .mul (eC (.int 12)) (eV 2)) (eBin false .add (eV 0) (eV 4)) (eBin false .mul (eC (.int 12)) (eV 3))) (eV 4) [some (.int born), some (.int size), some (.int low), some (.int high), none] [] (rng 0 size.toNat) h =
      .ok ((((List.range size.toNat).map fun (i : Nat) => (0 : Int) + (i : Int)).filter fun k => decide (low ≤ (born + k) / 12) && decide ((born + k) / 12 < high)).map .int) h :=
    lc_rng 0 size.toNat _ _ fun k k0 k2 => ⟨_, rfl, by
      by_cases q1 : 12 * low ≤ born + k
      · have a1 : low ≤ (born + k) / 12 := by omega
        by_cases q2 : born + k < 12 * high
        · have a2 : (born + k) / 12 < high := by omega
          simp -implicitDefEqProofs [q1, q2, a1, a2]
        · have a2 : ¬ (born + k) / 12 < high := by omega
          simp -implicitDefEqProofs [q1, q2, a1, a2]
      · have a1 : ¬ low ≤ (born + k) / 12 := by omega
        simp -implicitDefEqProofs [q1, a1], fun _ => by simp -implicitDefEqProofs []⟩
  simp -implicitDefEqProofs [TX.start, f_months_due, s0, show size ≤ 240 by omega, l0, lh, f_months_due_1, k1, wipe, rng_length, show size.toNat < 16777216 by omega, lc, uL]
def gps (ds : List (Int × Int)) : List Int := ds.map fun p => p.1 - p.2
def spr (ds : List (Int × Int)) : Int := (ds.map fun p => m0 (p.2 - p.1)).sum
theorem spr_nn : ∀ ds : List (Int × Int), 0 ≤ spr ds
  | [] => by decide
  | p :: t => by
    have := spr_nn t
    have := m0_nn (p.2 - p.1)
    unfold spr at *
    simp only [List.map_cons, List.sum_cons]
    omega
theorem spr_gps : ∀ ds : List (Int × Int), (((gps ds).filter fun x => decide (x < 0)).map fun x => 0 - x).sum = spr ds
  | [] => rfl
  | p :: t => by
    have ih := spr_gps t
    unfold gps spr at *
    rw [List.map_cons, List.filter_cons, List.map_cons, List.sum_cons, ← ih]
    unfold m0
    by_cases q : p.1 - p.2 < 0
    · rw [if_pos (by simpa using q), if_pos (by omega), List.map_cons, List.sum_cons]; omega
    · rw [if_neg (by simpa using q), if_neg (by omega)]; omega
/-- what is paid behind -/
theorem behind_ok {ds : List (Int × Int)} {lim : Int} (hl : ds.length ≤ 7) (hb : ∀ p ∈ ds, 0 ≤ p.1 ∧ p.1 ≤ 8 ∧ 0 ≤ p.2 ∧ p.2 ≤ 8) (l0 : 0 ≤ lim) (l1 : lim ≤ 30) :
    pg P (n + 1) 0 10 [.lst (ds.map fun p => .int p.1), .lst (ds.map fun p => .int p.2), .int lim] h = .ok (.tup [.tup ((pbR 0 (gps ds) (spr ds) lim).map prA), .int (pbL (gps ds) (spr ds) lim)]) h := by
  rw [ap_runDef p_paid_behind rfl]
  generalize pg P n = φ at *
  have gl : (gps ds).length = ds.length := by simp [gps]
  obtain ⟨A, hA⟩ : ∃ A, ds.map (fun p => AV.int p.1) = A := ⟨_, rfl⟩
  obtain ⟨B, hB⟩ : ∃ B, ds.map (fun p => AV.int p.2) = B := ⟨_, rfl⟩
  have lA : A.length = ds.length := by rw [← hA]; simp
  have lB : B.length = ds.length := by rw [← hB]; simp
  have eAB : A ++ B = (ds.map (·.1) ++ ds.map (·.2)).map .int := by rw [← hA, ← hB, List.map_append, List.map_map, List.map_map]; rfl
  rw [hA, hB]
  have an : ∀ (g : Gd) h, gOk g h = true → anyGo φ (gN 12) eYes (eCmp .lt (eV 12) (eC (.int 0))) [some (.lst A), some (.lst B), some (.int lim), none, none, none, none, none, none, none, none, none, none, none] g (A ++ B) h = .ok false h := fun g h hg => by
    rw [eAB]
    have := any_map (φ := φ) (g := gN 12) (c := eYes) (e := eCmp .lt (eV 12) (eC (.int 0))) (s0 := [some (.lst A), some (.lst B), some (.int lim), none, none, none, none, none, none, none, none, none, none, none]) (gd := g) (h := h) AV.int (fun _ => true) (fun _ => false) (xs := ds.map (·.1) ++ ds.map (·.2)) hg
      (fun x hx => ⟨_, rfl, rfl, fun _ => by
        have : 0 ≤ x := by
          rcases List.mem_append.mp hx with hx | hx
          · obtain ⟨p, hp, rfl⟩ := List.mem_map.mp hx; exact (hb p hp).1
          · obtain ⟨p, hp, rfl⟩ := List.mem_map.mp hx; exact (hb p hp).2.2.1
        simp -implicitDefEqProofs [gN, show ¬ x < 0 by omega]⟩)
    rw [this]
    simp
  have zz : zipL A B = ds.map fun p => .tup [.int p.1, .int p.2] := by
    rw [← hA, ← hB, zipL_map (fun p : Int × Int => AV.int p.1) (fun p : Int × Int => AV.int p.2) ds ds]
    have : ds.zip ds = ds.map fun p => (p, p) := by
      clear hA hB lA lB eAB an gl hl hb
      induction ds with
      | nil => rfl
      | cons x t ih => simp [ih]
    rw [this, List.map_map]
    rfl
  have lc1 : lcGo φ (gT (gsCons (gN 12) (gsCons (gN 13) gsNil))) eYes (eBin false .sub (eV 12) (eV 13)) [some (.lst A), some (.lst B), some (.int lim), none, none, none, none, none, none, none, none, none, none, none] [] (ds.map fun p => .tup [.int p.1, .int p.2]) h = .ok ((gps ds).map .int) h := by
    unfold gps
    rw [List.map_map]
    exact lc_map (fun p : Int × Int => AV.tup [.int p.1, .int p.2]) _ rfl fun p hp => ⟨_, rfl, rfl, by simp -implicitDefEqProofs []⟩
  have lc2 : lcGo φ (gN 9) (eCmp .lt (eV 9) (eC (.int 0))) (eBin false .sub (eC (.int 0)) (eV 9)) [some (.lst A), some (.lst B), some (.int lim), some (.lst ((gps ds).map .int)), none, none, none, none, none, none, none, none, none, none] [] ((gps ds).map .int) h = .ok ((((gps ds).filter fun x => decide (x < 0)).map fun x => 0 - x).map .int) h := by
    rw [List.map_map]
    exact lc_filter AV.int (fun x => decide (x < 0)) _ rfl fun x hx => ⟨_, rfl, by simp -implicitDefEqProofs [gN], fun _ => by simp -implicitDefEqProofs [gN]⟩
  have su : uL .sum ((((gps ds).filter fun x => decide (x < 0)).map fun x => 0 - x).map .int) h = .ok (.int (spr ds)) h := by
    show (match intsO _ with | some is => Out.ok (AV.int is.sum) h | none => .stuck) = _
    rw [ints_of]
    show Out.ok (AV.int (((gps ds).filter fun x => decide (x < 0)).map fun x => 0 - x).sum) h = _
    rw [spr_gps]
  have sn := spr_nn ds
  generalize hSP : spr ds = SP at *
  generalize hQ : (((gps ds).filter fun x => decide (x < 0)).map fun x => 0 - x).map AV.int = Q at *
  have gb : ∀ x ∈ gps ds, -8 ≤ x ∧ x ≤ 8 := fun x hx => by
    obtain ⟨p, hp, rfl⟩ := List.mem_map.mp hx
    have := hb p hp
    omega
  clear hSP hQ
  generalize gps ds = gs at *
  obtain ⟨s2, h2, f2, acc, sp, lf, rm, x8, x9, x10, x11, v1, v2, v3, v4, v5, es, eh⟩ := for_en (φ := φ) (g := gT (gsCons (gN 8) (gsCons (gN 9) gsNil))) (b := f_paid_behind_6) (gd := []) AV.int
    (fun i s h' => ∃ (acc : List (Int × Int)) (sp lf rm : Int) (x8 x9 x10 x11 : Option AV), acc ++ pbR i (gs.drop i) sp rm = pbR 0 gs SP lim ∧ lf + pbL (gs.drop i) sp rm = pbL gs SP lim ∧ 0 ≤ sp ∧ 0 ≤ rm ∧ acc.length ≤ i ∧
      s = [some (.lst A), some (.lst B), some (.int lim), some (.lst (gs.map .int)), some (.int sp), some (.ref h.length), some (.int lf), some (.int rm), x8, x9, x10, x11, none, none] ∧ h' = .lst (acc.map prA) :: h)
    (xs := gs) (s := [some (.lst A), some (.lst B), some (.int lim), some (.lst (gs.map .int)), some (.int SP), some (.ref h.length), some (.int 0), some (.int lim), none, none, none, none, none, none]) (h := .lst [] :: h) (fun _ _ _ _ => rfl)
    (fun i x hx s h' ⟨acc, sp, lf, rm, x8, x9, x10, x11, v1, v2, v3, v4, v5, es, eh⟩ => by
      subst es eh
      have hi := (List.getElem?_eq_some_iff.mp hx).1
      rw [pbR_drop gs hx] at v1
      rw [pbL_drop gs hx] at v2
      by_cases q : 0 < x
      · rw [if_pos q] at v1 v2
        have b1 : 0 ≤ sp - mn x sp := by unfold mn; split <;> omega
        have b2 : 0 ≤ rm - mn (x - mn x sp) rm := by unfold mn; split <;> split <;> omega
        have m1 : (if sp < x then sp else x) = mn x sp := rfl
        generalize mn x sp = tk at *
        have m2 : (if rm < x - tk then rm else x - tk) = mn (x - tk) rm := rfl
        generalize mn (x - tk) rm = pt at *
        have lq := app_of (r := h.length) (xs := acc.map prA) (v := .tup [.int i, .int pt]) (h := .lst (acc.map prA) :: h) (by simp) (by simp; omega)
        by_cases q2 : 0 < pt
        · rw [if_pos q2] at v1
          refine ⟨_, [some (.lst A), some (.lst B), some (.int lim), some (.lst (gs.map .int)), some (.int (sp - tk)), some (.ref h.length), some (.int (lf + (x - tk - pt))), some (.int (rm - pt)), some (.int i), some (.int x), some (.int tk), some (.int pt), none, none], .lst ((acc ++ [((i : Int), pt)]).map prA) :: h, rfl, .inl ?_, acc ++ [((i : Int), pt)], _, _, _, _, _, _, _, ?_, ?_, b1, b2, by simp; omega, rfl, rfl⟩
          · show f_paid_behind_6 φ [some (.lst A), some (.lst B), some (.int lim), some (.lst (gs.map .int)), some (.int sp), some (.ref h.length), some (.int lf), some (.int rm), some (.int i), some (.int x), x10, x11, none, none] _ = _
            simp -implicitDefEqProofs [f_paid_behind_6, q, mmA, m1, gN, f_paid_behind_5, f_paid_behind_4, m2, f_paid_behind_3, f_paid_behind_2, f_paid_behind_1, q2, lq, prA, intOp]
          · rw [List.append_assoc]; exact v1
          · rw [← v2]; omega
        · rw [if_neg q2] at v1
          refine ⟨_, [some (.lst A), some (.lst B), some (.int lim), some (.lst (gs.map .int)), some (.int (sp - tk)), some (.ref h.length), some (.int (lf + (x - tk - pt))), some (.int (rm - pt)), some (.int i), some (.int x), some (.int tk), some (.int pt), none, none], .lst (acc.map prA) :: h, rfl, .inl ?_, acc, _, _, _, _, _, _, _, ?_, ?_, b1, b2, by omega, rfl, rfl⟩
          · show f_paid_behind_6 φ [some (.lst A), some (.lst B), some (.int lim), some (.lst (gs.map .int)), some (.int sp), some (.ref h.length), some (.int lf), some (.int rm), some (.int i), some (.int x), x10, x11, none, none] _ = _
            simp -implicitDefEqProofs [f_paid_behind_6, q, mmA, m1, gN, f_paid_behind_5, f_paid_behind_4, m2, f_paid_behind_3, f_paid_behind_2, f_paid_behind_1, q2, lq, prA, intOp]
          · exact v1
          · rw [← v2]; omega
      · rw [if_neg q] at v1 v2
        refine ⟨_, [some (.lst A), some (.lst B), some (.int lim), some (.lst (gs.map .int)), some (.int sp), some (.ref h.length), some (.int lf), some (.int rm), some (.int i), some (.int x), x10, x11, none, none], .lst (acc.map prA) :: h, rfl, .inl ?_, acc, _, _, _, _, _, _, _, v1, v2, v3, v4, by omega, rfl, rfl⟩
        show f_paid_behind_6 φ [some (.lst A), some (.lst B), some (.int lim), some (.lst (gs.map .int)), some (.int sp), some (.ref h.length), some (.int lf), some (.int rm), some (.int i), some (.int x), x10, x11, none, none] _ = _
        simp -implicitDefEqProofs [f_paid_behind_6, q])
    ⟨[], SP, 0, lim, none, none, none, none, by simp, by simp, sn, l0, by simp, rfl, rfl⟩
  subst es eh
  rw [List.drop_length] at v1 v2
  have v1 : acc = pbR 0 gs SP lim := by simpa [pbR] using v1
  have v2 : lf = pbL gs SP lim := by simpa [pbL] using v2
  rw [v1, v2] at f2
  have tr := tuple_ref (i := h.length) (h := .lst ((pbR 0 gs SP lim).map prA) :: h) (hget_top _ _)
  simp -implicitDefEqProofs [TX.start, f_paid_behind, lA, lB, show ¬ (240 : Int) < ds.length by omega, show ¬ 240 < ds.length by omega, show ¬ lim < 0 by omega, wipe, an, f_paid_behind_11, zz, lc1, gl, show ds.length < 16777216 by omega, show ds.length ≤ 16777216 by omega, show ds.length + ds.length ≤ 16777216 by omega, gN, f_paid_behind_10, lc2, su]
  rw [f_paid_behind_9, ap_sSeq, ap_sSet]
  simp -implicitDefEqProofs [gT, gsCons, gsNil, gN]
  rw [f_paid_behind_8, ap_sSeq, ap_sFor]
  simp -implicitDefEqProofs []
  rw [f2]
  simp -implicitDefEqProofs [f_paid_behind_7, tr]
  refine gcRet_drop [_] ?_
  have u1 := under_prs h.length (pbR 0 gs SP lim)
  show (AV.under h.length (.tup ((pbR 0 gs SP lim).map prA)) && (true && true)) = true
  rw [u1]
  rfl
end
end K06

set_option Elab.async false
set_option linter.all false
set_option autoImplicit false
set_option maxRecDepth 100000
set_option maxHeartbeats 4000000
namespace K06
open TX TL
open K04 (Rows down up near even Hows rd rd_zero rd_step rate S S_sum Good rate_cons nxt mn partsL T T_cons T_S partsL_M partsL_drop nxt_drop partsL_len S_bd rate_bd)
theorem rr {n : Nat} (d : D3) (m : Int) (hm : 1 ≤ m) (hm2 : m ≤ 100000000) : ∃ v d', (∀ os, pg P (n + 1) 0 24 [.ref 0, .int m] (hd os d) = .ok (.int v) (hd os d')) ∧ 0 ≤ v ∧ v < m := roll_all (q := 24) (n := n) p__law_roll d m hm hm2
/-- months of children -/
theorem sec_a {os : AH} {d : D3} (x0 x2 x3 x4 x5 x6 x7 x8 x9 x10 x11 x12 x13 x14 x15 x16 x17 x18 x19 x20 x21 x22 x23 x24 x25 x26 x27 x28 x29 x30 x31 x32 x33 : Option AV) : Thru 34 (f_law_7 (pg P 8) [x0, some (.ref 0), x2, x3, x4, x5, x6, x7, x8, x9, x10, x11, x12, x13, x14, x15, x16, x17, x18, x19, x20, x21, x22, x23, x24, x25, x26, x27, x28, x29, x30, x31, x32, x33] (hd os d)) := by
  obtain ⟨b, d1, r1, l1, u1⟩ := rr (n := 7) d 300 (by decide) (by decide)
  obtain ⟨lo, d2, r2, l2, u2⟩ := rr (n := 7) d1 8 (by decide) (by decide)
  obtain ⟨hi, d3, r3, l3, u3⟩ := rr (n := 7) d2 10 (by decide) (by decide)
  obtain ⟨sz, d4, r4, l4, u4⟩ := rr (n := 7) d3 60 (by decide) (by decide)
  have md := months_ok (n := 7) (born := b - 60) (size := sz) (low := lo) (high := lo + 1 + hi) (h := hd os d4) l4 (by omega) l2 (by omega) (by omega)
  have k1 := rngOk_of (i := sz) (by omega) (by omega)
  generalize pg P 8 = φ at *
  have lc : ∀ (s0 : St), s0.length = 34 → s0[28]? = some (some (.int (b - 60))) → s0[29]? = some (some (.int lo)) → s0[30]? = some (some (.int (lo + 1 + hi))) →
      lcGo φ (gN 25) (eChain .le .lt (eV 29) (eBin false .div (eBin false .add (eV 28) (eV 25)) (eC (.int 12))) (eV 30)) (eV 25) s0 [] (rng 0 sz.toNat) (hd os d4) =
      .ok ((((List.range sz.toNat).map fun (i : Nat) => (0 : Int) + (i : Int)).filter fun k => decide (lo ≤ (b - 60 + k) / 12) && decide ((b - 60 + k) / 12 < lo + 1 + hi)).map .int) (hd os d4) := fun s0 hs e1 e2 e3 =>
    lc_rng 0 sz.toNat _ _ fun k k0 k2 => ⟨s0.set 25 (some (.int k)), rfl, by
      have e4 : (s0.set 25 (some (AV.int k)))[25]? = some (some (.int k)) := List.getElem?_set_self (by omega)
      have e1' : (s0.set 25 (some (AV.int k)))[28]? = some (some (.int (b - 60))) := by rw [List.getElem?_set_ne (by omega), e1]
      have e2' : (s0.set 25 (some (AV.int k)))[29]? = some (some (.int lo)) := by rw [List.getElem?_set_ne (by omega), e2]
      have e3' : (s0.set 25 (some (AV.int k)))[30]? = some (some (.int (lo + 1 + hi))) := by rw [List.getElem?_set_ne (by omega), e3]
      generalize s0.set 25 (some (AV.int k)) = s at *
      by_cases q1 : lo ≤ (b - 60 + k) / 12
      · simp -implicitDefEqProofs [e1', e2', e3', e4, fdl12, q1]
      · simp -implicitDefEqProofs [e1', e2', e3', e4, fdl12, q1], fun _ => by
      have e4 : (s0.set 25 (some (AV.int k)))[25]? = some (some (.int k)) := List.getElem?_set_self (by omega)
      generalize s0.set 25 (some (AV.int k)) = s at *
      simp -implicitDefEqProofs [e4]⟩
  have ll : ((((List.range sz.toNat).map fun (i : Nat) => (0 : Int) + (i : Int)).filter fun k => decide (lo ≤ (b - 60 + k) / 12) && decide ((b - 60 + k) / 12 < lo + 1 + hi))).length ≤ 100 := by
    refine Nat.le_trans (List.length_filter_le _ _) ?_
    simp
    omega
  generalize (((List.range sz.toNat).map fun (i : Nat) => (0 : Int) + (i : Int)).filter fun k => decide (lo ≤ (b - 60 + k) / 12) && decide ((b - 60 + k) / 12 < lo + 1 + hi)) = zs at *
  have ne := ne_ints zs zs (hd os d4)
  simp -implicitDefEqProofs [f_law_7, r1, r2, gT, gsCons, gsNil, gN, f_law_6, r3, r4, f_law_5, md, k1, rng_length, wipe, show sz.toNat < 16777216 by omega, lc, show zs.length ≤ 16777216 by omega, ne]
theorem rolls_lc {φ : Fn} {os : AH} {d : D3} {m : Int} (rl : ∀ (d : D3) (m : Int), 1 ≤ m → m ≤ 100000000 → ∃ v d', (∀ os, φ 0 24 [.ref 0, .int m] (hd os d) = .ok (.int v) (hd os d')) ∧ 0 ≤ v ∧ v < m) {s0 : St} (hs : s0.length = 34) (h1 : s0[1]? = some (some (.ref 0))) {k : Nat} (m1 : 1 ≤ m) (m2 : m ≤ 100000000) :
    ∃ (vs : List Int) (d' : D3), lcGo φ (gN 25) eYes (eCall 24 (aCons (eV 1) (aCons (eC (.int m)) aNil))) s0 [] (rng 0 k) (hd os d) = .ok (vs.map .int) (hd os d') ∧ vs.length = k ∧ ∀ v ∈ vs, 0 ≤ v ∧ v < m := by
  obtain ⟨vs, d1, e1, e2, e3⟩ := lc_roll (φ := φ) (g := gN 25) (c := eYes) (e := eCall 24 (aCons (eV 1) (aCons (eC (.int m)) aNil))) (s0 := s0) (os := os)
    AV.int (fun v => 0 ≤ v ∧ v < m) (items := rng 0 k) (d := d) (fun x hx => ⟨s0.set 25 (some x), rfl, fun _ => rfl, fun d => by
      obtain ⟨v, d', r, l, u⟩ := rl d m m1 m2
      refine ⟨v, d', ?_, l, u⟩
      have e1 : (s0.set 25 (some x))[1]? = some (some (.ref 0)) := by rw [List.getElem?_set_ne (by omega), h1]
      have r := r os
      simp -implicitDefEqProofs [e1, r]⟩)
  exact ⟨vs, d1, e1, by rw [e2, rng_length], e3⟩
theorem zip_ds : ∀ (xs ys : List Int), xs.length = ys.length → (xs.zip ys).map (fun p => AV.int p.1) = xs.map .int ∧ (xs.zip ys).map (fun p => AV.int p.2) = ys.map .int
  | [], [], _ => ⟨rfl, rfl⟩
  | [], _ :: _, h => by simp at h
  | _ :: _, [], h => by simp at h
  | x :: r, y :: t, h => by
    obtain ⟨h1, h2⟩ := zip_ds r t (by simpa using h)
    exact ⟨by simp only [List.zip_cons_cons, List.map_cons, h1], by simp only [List.zip_cons_cons, List.map_cons, h2]⟩
theorem gps_get {xs ys : List Int} (h : xs.length = ys.length) {i : Nat} (hi : i < xs.length) : ∃ x y, xs[i]? = some x ∧ ys[i]? = some y ∧ (gps (xs.zip ys))[i]? = some (x - y) := by
  refine ⟨xs[i], ys[i], List.getElem?_eq_getElem hi, List.getElem?_eq_getElem (by omega), ?_⟩
  unfold gps
  rw [List.getElem?_map, List.getElem?_eq_getElem (by simp; omega)]
  simp
theorem tup_eq {rs : List (Int × Int)} {l : Int} (h : AH) : cmpA .ne (.tup [.tup (rs.map prA), .int l]) (.tup [.tup (rs.map prA), .int l]) h = .ok (.bl false) h := by
  have d1 : AV.dataL (rs.map prA) = true := dataL_map _ fun _ _ => rfl
  have d2 : AV.depL (rs.map prA) ≤ 60 := Nat.le_trans (depL_map prA (n := 1) fun _ _ => by show max 0 (max 0 0) + 1 ≤ 1; decide) (by decide)
  rw [ne_tup h (by show (AV.dataL (rs.map prA) && (true && true)) = true; rw [d1]; rfl) (by show (AV.dataL (rs.map prA) && (true && true)) = true; rw [d1]; rfl) (by show max (AV.depL (rs.map prA) + 1) (max 0 0) ≤ 63; omega) (by show max (AV.depL (rs.map prA) + 1) (max 0 0) ≤ 63; omega)]
  simp
/-- what was due, what was paid -/
theorem sec_b {os : AH} {d : D3} (x0 x2 x3 x4 x5 x6 x7 x8 x9 x10 x11 x12 x13 x14 x15 x16 x17 x18 x19 x20 x21 x22 x23 x24 x25 x26 x27 x28 x29 x30 x31 x32 x33 : Option AV) : Thru 34 (f_law_14 (pg P 8) [x0, some (.ref 0), x2, x3, x4, x5, x6, x7, x8, x9, x10, x11, x12, x13, x14, x15, x16, x17, x18, x19, x20, x21, x22, x23, x24, x25, x26, x27, x28, x29, x30, x31, x32, x33] (hd os d)) := by
  obtain ⟨mo, d1, r1, l1, u1⟩ := rr (n := 7) d 8 (by decide) (by decide)
  have k1 := rngOk_of (i := mo) (by omega) (by omega)
  obtain ⟨due, d2, e2, n2, b2⟩ := rolls_lc (φ := pg P 8) (os := os) (d := d1) (m := 9) (k := mo.toNat) (rr (n := 7)) (s0 := [x0, some (.ref 0), x2, x3, x4, x5, x6, x7, x8, x9, x10, x11, x12, x13, x14, x15, x16, x17, x18, some (.int mo), x20, x21, x22, x23, x24, none, x26, x27, x28, x29, x30, x31, x32, x33]) rfl rfl (by decide) (by decide)
  obtain ⟨paid, d3, e3, n3, b3⟩ := rolls_lc (φ := pg P 8) (os := os) (d := d2) (m := 9) (k := mo.toNat) (rr (n := 7)) (s0 := [x0, some (.ref 0), x2, x3, x4, x5, x6, x7, x8, x9, x10, x11, x12, x13, x14, x15, x16, x17, x18, some (.int mo), x20, x21, x22, x23, x24, none, x26, x27, x28, x29, x30, x31, x32, x33]) rfl rfl (by decide) (by decide)
  obtain ⟨lim, d4, r4, l4, u4⟩ := rr (n := 7) d3 30 (by decide) (by decide)
  have le : due.length = paid.length := by omega
  have zl : (due.zip paid).length = mo.toNat := by rw [List.length_zip]; omega
  have bo := behind_ok (n := 7) (ds := due.zip paid) (lim := lim) (h := hd os d4) (by omega) (fun p hp => by
    have h1 := List.of_mem_zip hp
    have h2 := b2 _ h1.1
    have h3 := b3 _ h1.2
    omega) l4 (by omega)
  rw [(zip_ds due paid le).1, (zip_ds due paid le).2] at bo
  have rest := fun (x0 x2 x3 x4 x5 x6 x7 x8 x9 x10 x11 x12 x13 x14 x15 x16 x17 x18 x19 x20 x21 x22 x23 x24 x25 x26 x27 x28 x29 x30 x31 x32 x33 : Option AV) => sec_a (os := os) (d := d4) x0 x2 x3 x4 x5 x6 x7 x8 x9 x10 x11 x12 x13 x14 x15 x16 x17 x18 x19 x20 x21 x22 x23 x24 x25 x26 x27 x28 x29 x30 x31 x32 x33
  generalize pg P 8 = φ at *
  have zz : zipL (due.map .int) (paid.map .int) = (due.zip paid).map fun p => .tup [.int p.1, .int p.2] := zipL_map AV.int AV.int due paid
  have sl : ∀ (s0 : St) h, s0.length = 34 → lcGo φ (gT (gsCons (gN 32) (gsCons (gN 33) gsNil))) eYes (eMM true (eC (.int 0)) (eBin false .sub (eV 33) (eV 32))) s0 [] ((due.zip paid).map fun p => .tup [.int p.1, .int p.2]) h = .ok (((due.zip paid).map fun p => m0 (p.2 - p.1)).map .int) h := fun s0 h hs => by
    rw [List.map_map]
    refine lc_map (fun p : Int × Int => AV.tup [.int p.1, .int p.2]) _ rfl fun p hp => ⟨(s0.set 32 (some (.int p.1))).set 33 (some (.int p.2)), rfl, rfl, ?_⟩
    have e1 : ((s0.set 32 (some (.int p.1))).set 33 (some (.int p.2)))[32]? = some (some (.int p.1)) := by
      rw [List.getElem?_set_ne (by omega), List.getElem?_set_self (by omega)]
    have e2 : ((s0.set 32 (some (.int p.1))).set 33 (some (.int p.2)))[33]? = some (some (.int p.2)) := by
      rw [List.getElem?_set_self (by simp; omega)]
    generalize ((s0.set 32 (some (.int p.1))).set 33 (some (.int p.2))) = s at *
    simp -implicitDefEqProofs [e1, e2, mmA]
    unfold m0
    by_cases q : p.1 < p.2
    · rw [if_pos q, if_pos (by omega)]
    · rw [if_neg q, if_neg (by omega)]
  have su : ∀ h, uA .sum (.lst (((due.zip paid).map fun p => m0 (p.2 - p.1)).map .int)) h = .ok (.int (spr (due.zip paid))) h := fun h => sum_ints_lst _ h
  have sn := spr_nn (due.zip paid)
  have ls : ((due.zip paid).map fun p => m0 (p.2 - p.1)).length = mo.toNat := by simp; omega
  have gl : (gps (due.zip paid)).length = mo.toNat := by simp [gps]; omega
  have gg := fun (i : Nat) hi => gps_get le (i := i) hi
  have gb : ∀ g ∈ gps (due.zip paid), g ≤ 10 := fun g hg => by
    obtain ⟨p, hp, rfl⟩ := List.mem_map.mp hg
    have h1 := List.of_mem_zip hp
    have h2 := b2 _ h1.1
    have h3 := b3 _ h1.2
    omega
  generalize ((due.zip paid).map fun p => m0 (p.2 - p.1)) = ms at *
  generalize spr (due.zip paid) = SP at *
  generalize gps (due.zip paid) = gs at *
  generalize due.zip paid = ds at *
  obtain ⟨s2, h2, f2, x25', es, eh⟩ := for_rng (φ := φ) (g := gN 25) (b := f_law_4) (lo := 0) (k := mo.toNat)
    (fun i s h' => ∃ x25 : Option AV, s = [x0, some (.ref 0), x2, x3, x4, x5, x6, x7, x8, x9, x10, x11, x12, x13, x14, x15, x16, x17, x18, some (.int mo), some (.lst (due.map .int)), some (.lst (paid.map .int)), some (.int lim), some (.lst ((cen 0 (gs.take i)).map .int)), some (.int SP), x25, x26, x27, x28, x29, x30, x31, x32, x33] ∧ h' = hd os d4)
    (s := [x0, some (.ref 0), x2, x3, x4, x5, x6, x7, x8, x9, x10, x11, x12, x13, x14, x15, x16, x17, x18, some (.int mo), some (.lst (due.map .int)), some (.lst (paid.map .int)), some (.int lim), some (.lst []), some (.int SP), x25, x26, x27, x28, x29, x30, x31, x32, x33]) (h := hd os d4)
    (fun i hi s h' ⟨x25, es, eh⟩ => by
      subst es eh
      obtain ⟨x, y, ex, ey, eg⟩ := gg i (by omega)
      have a1 : atI (due.map AV.int) (i : Int) = some (.int x) := by rw [atI_nat (by simp; omega), List.getElem?_map, ex]; rfl
      have a2 : atI (paid.map AV.int) (i : Int) = some (.int y) := by rw [atI_nat (by simp; omega), List.getElem?_map, ey]; rfl
      have mem : x - y ∈ gs := List.mem_of_getElem? eg
      have gx := gb _ mem
      have m1 : m0 (x - y) ≤ 10 := by unfold m0; split <;> omega
      have ct := cen_take gs 0 eg
      rw [Int.zero_add] at ct
      have cl := cen_len (gs.take i) 0 (fun g hg => gb g (List.mem_of_mem_take hg))
      have cl2 : (cen 0 (gs.take i)).length ≤ 100 := by rw [List.length_take] at cl; omega
      refine ⟨_, [x0, some (.ref 0), x2, x3, x4, x5, x6, x7, x8, x9, x10, x11, x12, x13, x14, x15, x16, x17, x18, some (.int mo), some (.lst (due.map .int)), some (.lst (paid.map .int)), some (.int lim), some (.lst ((cen 0 (gs.take (i + 1))).map .int)), some (.int SP), some (.int i), x26, x27, x28, x29, x30, x31, x32, x33], _, rfl, .inl ?_, _, rfl, rfl⟩
      rw [Int.zero_add]
      rw [ct]
      have m2 : (if 0 < x - y then x - y else 0) = m0 (x - y) := rfl
      have m3 : (if y < x then x - y else 0) = m0 (x - y) := by
        unfold m0
        by_cases q : y < x
        · rw [if_pos q, if_pos (by omega)]
        · rw [if_neg q, if_neg (by omega)]
      have mo1 : ∀ h, binA false .mul (.lst [.int i]) (.int (m0 (x - y))) h = mk false (List.replicate (m0 (x - y)).toNat (.int i)) h := fun h => mul_one false _ _ h (m0_nn _) (by omega)
      generalize hC : cen 0 (gs.take i) = C at *
      show f_law_4 φ [x0, some (.ref 0), x2, x3, x4, x5, x6, x7, x8, x9, x10, x11, x12, x13, x14, x15, x16, x17, x18, some (.int mo), some (.lst (due.map .int)), some (.lst (paid.map .int)), some (.int lim), some (.lst (C.map .int)), some (.int SP), some (.int i), x26, x27, x28, x29, x30, x31, x32, x33] (hd os d4) = _
      simp -implicitDefEqProofs [f_law_4, a1, a2, mmA, m3]
      rw [mo1]
      simp -implicitDefEqProofs [gN, show (m0 (x - y)).toNat ≤ 100 by omega, show C.length + (m0 (x - y)).toNat ≤ 16777216 by omega])
    ⟨x25, by simp [cen], rfl⟩
  subst es eh
  have tk : gs.take mo.toNat = gs := List.take_of_length_le (by omega)
  rw [tk] at f2
  have cl := cen_len gs 0 gb
  have pr := pbR_tl gs 0 SP lim sn l4
  have pl := pbL_len gs 0 SP lim sn l4
  rw [pr, pl] at bo
  have c1 : ∀ (xs : List AV), cut xs (some SP) none = xs.drop SP.toNat := fun xs => by
    unfold cut sIx
    simp only [if_pos sn]
    rw [List.take_of_length_le (by rw [List.length_drop]; omega)]
    rcases Nat.le_total SP.toNat xs.length with q | q
    · rw [Nat.min_eq_left q]
    · rw [Nat.min_eq_right q, List.drop_length, List.drop_of_length_le q]
  have c2 : ∀ (xs : List AV), cut xs none (some lim) = xs.take lim.toNat := fun xs => cut_to xs l4
  have cb : (((cen 0 gs).map AV.int).drop SP.toNat).take lim.toNat = (beh 0 gs SP lim).map .int := by
    unfold beh
    rw [List.map_take, List.map_drop]
  have bl : (beh 0 gs SP lim).length ≤ 100 := by
    unfold beh
    rw [List.length_take]
    omega
  have lc9 : ∀ (s0 : St) h, s0.length = 34 → s0[26]? = some (some (.lst ((beh 0 gs SP lim).map .int))) → lcGo φ (gN 25) (eCmp .inn (eV 25) (eV 26)) (eTup (aCons (eV 25) (aCons (eCount (eV 26) (eV 25)) aNil))) s0 [] (rng 0 mo.toNat) h = .ok ((tl 0 mo.toNat (beh 0 gs SP lim)).map prA) h := fun s0 h hs h26 => by
    unfold tl
    rw [List.map_map]
    refine lc_rng 0 mo.toNat _ _ fun k k0 k2 => ⟨s0.set 25 (some (.int k)), rfl, ?_, fun _ => ?_⟩
    · have e4 : (s0.set 25 (some (AV.int k)))[25]? = some (some (.int k)) := List.getElem?_set_self (by omega)
      have e5 : (s0.set 25 (some (AV.int k)))[26]? = some (some (.lst ((beh 0 gs SP lim).map .int))) := by rw [List.getElem?_set_ne (by omega), h26]
      generalize s0.set 25 (some (AV.int k)) = s at *
      simp -implicitDefEqProofs [e4, e5, in_ints]
    · have e4 : (s0.set 25 (some (AV.int k)))[25]? = some (some (.int k)) := List.getElem?_set_self (by omega)
      have e5 : (s0.set 25 (some (AV.int k)))[26]? = some (some (.lst ((beh 0 gs SP lim).map .int))) := by rw [List.getElem?_set_ne (by omega), h26]
      generalize s0.set 25 (some (AV.int k)) = s at *
      simp -implicitDefEqProofs [e4, e5, cnt_ints, prA]
  have tll : (tl 0 mo.toNat (beh 0 gs SP lim)).length ≤ 10 := by
    unfold tl
    rw [List.length_map]
    refine Nat.le_trans (List.length_filter_le _ _) ?_
    simp
    omega
  rw [gl] at bo
  have te := fun h => tup_eq (rs := tl 0 mo.toNat (beh 0 gs SP lim)) (l := m0 ((cen 0 gs).length - SP) - (beh 0 gs SP lim).length) h
  have m4 : (if SP < ((cen 0 gs).length : Int) then ((cen 0 gs).length : Int) - SP else 0) = m0 ((cen 0 gs).length - SP) := by
    unfold m0
    by_cases q : SP < ((cen 0 gs).length : Int)
    · rw [if_pos q, if_pos (by omega)]
    · rw [if_neg q, if_neg (by omega)]
  have ll1 : ((beh 0 gs SP lim).map AV.int).length ≤ 100 := by simpa using bl
  simp -implicitDefEqProofs [f_law_14, r1, gN]
  rw [f_law_13, ap_sSeq, ap_sSet]
  simp -implicitDefEqProofs [k1, rng_length, wipe, show mo.toNat < 16777216 by omega, e2, n2, e3, n3, show mo.toNat ≤ 16777216 by omega, r4, gT, gsCons, gsNil, gN, f_law_12, zz, zl, sl, ls, su]
  rw [f_law_11, ap_sSeq, ap_sFor]
  simp -implicitDefEqProofs [k1]
  rw [f2]
  simp -implicitDefEqProofs [f_law_10, sliceA, c1, c2, cb, gN, f_law_9, k1, rng_length, wipe, show mo.toNat < 16777216 by omega, lc9, show (tl 0 mo.toNat (beh 0 gs SP lim)).length ≤ 16777216 by omega, f_law_8, bo, mmA, m4, te, rest]
/-- what the law says of a step -/
def keyL (F : Int → Int) (p : Int × Int) : Int × Int := (-(((p.2 - p.1) + (F p.1 - F p.2)) * 10000).fdiv (p.2 - p.1), p.1)
theorem key_eq (F : Int → Int) (p : Int × Int) : keyL F p = keyP F p := by
  unfold keyL keyP
  rw [show p.2 - p.1 + (F p.1 - F p.2) = p.2 - p.1 - (F p.2 - F p.1) by omega]
  congr 1
  omega
theorem data_tri (ts : List (Int × Int × Int)) : AV.dataL (ts.map tri) = true := dataL_map _ fun _ _ => rfl
theorem dep_tri (ts : List (Int × Int × Int)) : AV.depL (ts.map tri) ≤ 63 := depL_map _ fun _ _ => by
  show max 0 (max 0 (max 0 0)) + 1 ≤ 63
  decide
theorem ne_tri (ts : List (Int × Int × Int)) (h : AH) : cmpA .ne (.lst (ts.map tri)) (.lst (ts.map tri)) h = .ok (.bl false) h := by
  rw [ne_lst h (data_tri _) (data_tri _) (dep_tri _) (dep_tri _)]
  simp
/-- incomes that follow each other -/
theorem sec_c {w : Ow} {g c : Int} {rows : Rows} {d : D3} (ho : OwOk w) (hp : Pe g c) (gr : Good rows) (x0 x6 x7 x8 x11 x12 x13 x14 x15 x16 x17 x18 x19 x20 x21 x22 x23 x24 x25 x26 x27 x28 x29 x30 x31 x32 x33 : Option AV) :
    Thru 34 (f_law_19 (pg P 8) [x0, some (.ref 0), some (owD w), some (.ref 1), some (.int g), some (.int c), x6, x7, x8, some (.lst (rows.map prA)), some (.ref 2), x11, x12, x13, x14, x15, x16, x17, x18, x19, x20, x21, x22, x23, x24, x25, x26, x27, x28, x29, x30, x31, x32, x33] (hd [bo rows down, beO w] d)) := by
  obtain ⟨v0, d1, r1, l1, u1⟩ := rr (n := 7) d 5 (by decide) (by decide)
  have k1 := rngOk_of (i := 2 + v0) (by omega) (by omega)
  have rl := fun (d : D3) (m : Int) hm hm2 => rr (n := 7) d m hm hm2
  obtain ⟨vs, d2, e2, n2, b2⟩ := lc_roll (φ := pg P 8) (g := gN 25) (c := eYes) (e := eTup (aCons (eCall 24 (aCons (eV 1) (aCons (eC (.int 600)) aNil))) (aCons (eC (.int 1)) aNil))) (os := [bo rows down, beO w])
    (s0 := [x0, some (.ref 0), some (owD w), some (.ref 1), some (.int g), some (.int c), x6, x7, x8, some (.lst (rows.map prA)), some (.ref 2), x11, x12, x13, x14, x15, x16, x17, x18, x19, x20, x21, x22, x23, x24, none, x26, x27, x28, x29, x30, x31, x32, x33])
    (fun x : Int => .tup [.int x, .int 1]) (fun x => 0 ≤ x ∧ x < 600) (items := rng 0 (2 + v0).toNat) (d := d1) (fun x hx => ⟨_, rfl, fun _ => rfl, fun d => by
      obtain ⟨v1, d1, r1, l1, u1⟩ := rl d 600 (by decide) (by decide)
      refine ⟨v1, d1, ?_, l1, u1⟩
      have r1 := r1 [bo rows down, beO w]
      simp -implicitDefEqProofs [r1]⟩)
  rw [rng_length] at n2
  obtain ⟨ks, p1, p2, p3, p4⟩ := put_keys (w := .int 1) vs [] (by simp)
  have s1 := isort_strict p2
  have s2 := isort_length ilt ks
  have s3 : ∀ k ∈ isort ilt ks, 0 ≤ k ∧ k < 600 := fun k hk => by
    rcases p3 k ((isort_perm ilt ks).mem_iff.mp hk) with h | h
    · cases h
    · exact b2 k h
  have p1 : putAll [] (vs.map fun x : Int => AV.tup [.int x, .int 1]) = some (ks.map fun k => (AV.int k, AV.int 1)) := p1
  have l4 : ks.length ≤ 6 := by simp at p4; omega
  have dk : ∀ h, uA (.dict false) (.lst (vs.map fun x : Int => AV.tup [.int x, .int 1])) h = .ok (.dct (ks.map fun k => (AV.int k, AV.int 1))) h := fun h => by
    show (match putAll [] (vs.map fun x : Int => AV.tup [.int x, .int 1]) with | some kvs => mkD false kvs h | none => .stuck) = _
    rw [p1]
    rfl
  have sk : ∀ h, uA (.sorted false) (.dct (ks.map fun k => (AV.int k, AV.int 1))) h = .ok (.lst ((isort ilt ks).map .int)) h := fun h => by
    show (if (ks.map fun k => (AV.int k, AV.int 1)).length < 64 then uL (.sorted false) ((ks.map fun k => (AV.int k, AV.int 1)).map (·.1)) h else .stuck) = _
    rw [if_pos (by simp; omega), List.map_map]
    have : (ks.map ((fun p : AV × AV => p.1) ∘ fun k => (AV.int k, AV.int 1))) = ks.map .int := rfl
    rw [this, sort_ints]
    rfl
  have hinc : Inc (isort ilt ks) := ⟨s1, fun x hx => by have := s3 x hx; omega, by omega⟩
  have lv : vs.length ≤ 10 := by omega
  generalize isort ilt ks = xs at *
  clear s1 s3 p1 p2 p3 p4
  have eb : ∀ d', hget (hd [bo rows down, beO w] d') 1 = some (beO w) := fun d' => by simp
  have eq : ∀ d', hget (hd [bo rows down, beO w] d') 2 = some (bo rows down) := fun d' => by simp
  have cl := cliffs_ok (n := 4) (xs := xs) ho hp gr hinc (eb d2) (eq d2)
  have wo := fun (p0 : Int × Int) ps h2 hz => worst_ok (n := 3) (xs := xs) (p0 := p0) (ps := ps) ho hp gr hinc h2 hz (eb d2) (eq d2)
  have ll := fun (i : Int) i0 i1 => law_left_ok (n := 6) (inc := i) (h := hd [bo rows down, beO w] d2) ho hp gr i0 i1
  have rest := fun (x0 x2 x3 x4 x5 x6 x7 x8 x9 x10 x11 x12 x13 x14 x15 x16 x17 x18 x19 x20 x21 x22 x23 x24 x25 x26 x27 x28 x29 x30 x31 x32 x33 : Option AV) => sec_b (os := [bo rows down, beO w]) (d := d2) x0 x2 x3 x4 x5 x6 x7 x8 x9 x10 x11 x12 x13 x14 x15 x16 x17 x18 x19 x20 x21 x22 x23 x24 x25 x26 x27 x28 x29 x30 x31 x32 x33
  generalize pg P 8 = φ at *
  generalize owD w = W at *
  generalize lf w rows g c = F at *
  have zl : (xs.zip xs.tail).length ≤ 8 := by rw [List.length_zip]; omega
  obtain ⟨s3, h3, f3, x16, x17, x18, es, eh⟩ := for_pre (φ := φ) (g := gT (gsCons (gN 16) (gsCons (gN 17) gsNil))) (b := f_law_3) (gd := []) prI
    (fun dn s h' => ∃ x16 x17 x18 : Option AV, s = [x0, some (.ref 0), some (W), some (.ref 1), some (.int g), some (.int c), x6, x7, x8, some (.lst (rows.map prA)), some (.ref 2), x11, x12, some (.lst (xs.map .int)), some (.lst ((clf F dn).map tri)), some (.lst ((dn.map (keyL F)).map prA)), x16, x17, x18, x19, x20, x21, x22, x23, x24, x25, x26, x27, x28, x29, x30, x31, x32, x33] ∧ h' = hd [bo rows down, beO w] d2)
    (todo := xs.zip xs.tail) (done := []) (s := [x0, some (.ref 0), some (W), some (.ref 1), some (.int g), some (.int c), x6, x7, x8, some (.lst (rows.map prA)), some (.ref 2), x11, x12, some (.lst (xs.map .int)), some (.lst []), some (.lst []), x16, x17, x18, x19, x20, x21, x22, x23, x24, x25, x26, x27, x28, x29, x30, x31, x32, x33]) (h := hd [bo rows down, beO w] d2) (fun _ _ _ _ => rfl)
    (fun dn p re hd_ s h' ⟨x16, x17, x18, es, eh⟩ => by
      subst es eh
      have mem : p ∈ xs.zip xs.tail := by
        have : p ∈ dn ++ p :: re := by simp
        rw [← hd_] at this
        simpa using this
      have b := pairs_bd hinc p mem
      have ld : dn.length ≤ 8 := by
        have := congrArg List.length hd_
        simp at this
        omega
      have lc := clf_len F dn
      have l1 := ll p.1 (by omega) (by omega)
      have l2 := ll p.2 (by omega) (by omega)
      have d1 : p.2 - p.1 ≠ 0 := by omega
      have d2' : (p.2 - p.1).natAbs < 1073741824 := by omega
      refine ⟨_, [x0, some (.ref 0), some (W), some (.ref 1), some (.int g), some (.int c), x6, x7, x8, some (.lst (rows.map prA)), some (.ref 2), x11, x12, some (.lst (xs.map .int)), some (.lst ((clf F (dn ++ [p])).map tri)), some (.lst (((dn ++ [p]).map (keyL F)).map prA)), some (.int p.1), some (.int p.2), some (.int (F p.1 - F p.2)), x19, x20, x21, x22, x23, x24, x25, x26, x27, x28, x29, x30, x31, x32, x33], _, rfl, .inl ?_, _, _, _, rfl, rfl⟩
      show f_law_3 φ [x0, some (.ref 0), some (W), some (.ref 1), some (.int g), some (.int c), x6, x7, x8, some (.lst (rows.map prA)), some (.ref 2), x11, x12, some (.lst (xs.map .int)), some (.lst ((clf F dn).map tri)), some (.lst ((dn.map (keyL F)).map prA)), some (.int p.1), some (.int p.2), x18, x19, x20, x21, x22, x23, x24, x25, x26, x27, x28, x29, x30, x31, x32, x33] (hd [bo rows down, beO w] d2) = _
      have kl : (keyL F p) = (-(((p.2 - p.1) + (F p.1 - F p.2)) * 10000).fdiv (p.2 - p.1), p.1) := rfl
      rw [clf_snoc, List.map_append (f := keyL F), List.map_append (f := prA)]
      generalize hC : clf F dn = C at *
      have lK : (dn.map (keyL F)).length ≤ 8 := by simpa using ld
      generalize dn.map (keyL F) = K at *
      have m10 : ∀ (z : Int) h, binA false .mul (.int z) (.int 10000) h = .ok (.int (z * 10000)) h := fun z h => by simp
      by_cases k : 0 < F p.1 - F p.2
      · rw [if_pos k]
        simp -implicitDefEqProofs [f_law_3, l1, l2, gN]
        generalize F p.1 - F p.2 = z at *
        simp -implicitDefEqProofs [f_law_2, k, show C.length ≤ 16777215 by omega, f_law_1, m10, d1, d2', gN, show K.length ≤ 16777215 by omega, kl, tri, prA]
      · rw [if_neg k]
        simp -implicitDefEqProofs [f_law_3, l1, l2, gN]
        generalize F p.1 - F p.2 = z at *
        simp -implicitDefEqProofs [f_law_2, k, show C.length ≤ 16777216 by omega, f_law_1, m10, d1, d2', gN, show K.length ≤ 16777215 by omega, kl, tri, prA])
    ⟨x16, x17, x18, rfl, rfl⟩
  subst es eh
  rw [List.nil_append] at f3
  have nt := ne_tri (clf F (xs.zip xs.tail)) (hd [bo rows down, beO w] d2)
  generalize clf F (xs.zip xs.tail) = C at *
  have km : (xs.zip xs.tail).map (keyL F) = (xs.zip xs.tail).map (keyP F) := List.map_congr_left fun p _ => key_eq F p
  rw [km] at f3
  simp -implicitDefEqProofs [f_law_19, r1, k1, rng_length, wipe, show (2 + v0).toNat < 16777216 by omega, e2, show vs.length ≤ 16777216 by omega, dk, sk, gN]
  rw [f_law_18, ap_sSeq, ap_sSet]
  simp -implicitDefEqProofs [gT, gsCons, gsNil, gN]
  rw [f_law_17, ap_sSeq, ap_sFor]
  simp -implicitDefEqProofs [sliceA, cutI, zipI]
  rw [f3]
  simp -implicitDefEqProofs [f_law_16, cl, nt]
  by_cases q : 1 < xs.length
  · cases hz : xs.zip xs.tail with
    | nil =>
      have := congrArg List.length hz
      rw [List.length_zip] at this
      simp at this
      omega
    | cons p0 ps =>
      have wo := wo p0 ps (by omega) hz
      have mp := min_prs (keyP F p0) (ps.map (keyP F)) (hd [bo rows down, beO w] d2)
      generalize minOf plt (keyP F p0) (ps.map (keyP F)) = B at *
      have ez : (0 : Int) - B.1 = -B.1 := by omega
      rw [ez] at wo
      rw [show (p0 :: ps).map (prA ∘ keyP F) = ((keyP F p0) :: (ps.map (keyP F))).map prA by rw [← List.map_map]; rfl]
      generalize ((keyP F p0) :: (ps.map (keyP F))).map prA = KK at *
      have nt2 : ∀ (a b : Int) h, cmpA .ne (.tup [.int a, .int b]) (.tup [.int a, .int b]) h = .ok (.bl false) h := fun a b h => by
        rw [ne_tup h rfl rfl (by show max 0 (max 0 0) ≤ 63; decide) (by show max 0 (max 0 0) ≤ 63; decide)]
        simp
      simp -implicitDefEqProofs [f_law_15, q, show (1 : Int) < xs.length by omega, wo, mp, prA, nt2, rest]
  · simp -implicitDefEqProofs [f_law_15, q, show ¬ (1 : Int) < xs.length by omega, rest]
end K06

set_option Elab.async false
set_option linter.all false
set_option autoImplicit false
set_option maxRecDepth 100000
set_option maxHeartbeats 4000000
namespace K06
open TX TL
theorem tail : saysTrue (f_law_32 (pg P 8) (List.replicate 34 none) []) = true := by decide +kernel
end K06

set_option Elab.async false
set_option linter.all false
set_option autoImplicit false
set_option maxRecDepth 100000
set_option maxHeartbeats 4000000
namespace K06
open TX TL
open K04 (Rows down up near even Hows rd rd_zero rd_step rate S S_sum Good rate_cons nxt mn partsL T T_cons T_S partsL_M partsL_drop nxt_drop partsL_len S_bd rate_bd)
theorem one_round (ns : List Int) : ∃ d : D3, pg P 8 0 25 [.scr (ns.map .int), .int 1] [] = .ok (.lst [.ref 0]) (hd [] d) := rounds_hd (P := P) (q := 25) (qd := 23) (n := 6) p__law_dice p__law_rounds ns
theorem make_be {n : Nat} {w : Ow} {h : AH} (ho : OwOk w) : mkIns (pg P (n + 1)) 4 2 [.int w.a, .int w.b, .int w.c, .int w.f, .int w.t, .int w.l, .int w.m] h = .ok (.ref h.length) (beO w :: h) := by
  unfold mkIns
  have e : pg P (n + 1) 0 2 [.ref h.length, .int w.a, .int w.b, .int w.c, .int w.f, .int w.t, .int w.l, .int w.m] (.ins 4 [] :: h) = .ok .non (beO w :: h) := by
    rw [ap_runDef p_Benefit___init__ rfl]
    generalize pg P n = φ at *
    have mi : 0 ≤ minOf ilt w.a [w.b, w.c, w.f, w.t, w.l, w.m] := minOf_nn _ _ ho.a0 fun x hx => by
      have := ho.b0; have := ho.c0; have := ho.f0; have := ho.t0; have := ho.l0; have := ho.m0
      simp at hx
      omega
    have io : intsO [.int w.a, .int w.b, .int w.c, .int w.f, .int w.t, .int w.l, .int w.m] = some [w.a, w.b, w.c, w.f, w.t, w.l, w.m] := rfl
    have t1 := ho.t1
    generalize hM : minOf ilt w.a [w.b, w.c, w.f, w.t, w.l, w.m] = M at *
    have gc : gcRet (.ins 4 [] :: h) .non (beO w :: h) = .ok .non (beO w :: h) := gcRet_len _ (by simp)
    simp -implicitDefEqProofs [TX.start, f_Benefit___init__, io, hM, show ¬ M < 0 by omega, show ¬ 10000 < w.t by omega, f_Benefit___init___1, f_Benefit___init___2, f_Benefit___init___3, f_Benefit___init___4, f_Benefit___init___5, f_Benefit___init___6, f_Benefit___init___7, f_Benefit___init__, setF, fput]
    exact gc
  rw [e]
/-- bands, what is left -/
theorem sec_d {w : Ow} {g c inc : Int} {d : D3} (ho : OwOk w) (hp : Pe g c) (i0 : 0 ≤ inc) (i1 : inc < 400) (x0 x7 x8 x9 x10 x11 x12 x13 x14 x15 x16 x17 x18 x19 x20 x21 x22 x23 x24 x25 x26 x27 x28 x29 x30 x31 x32 x33 : Option AV) :
    Thru 34 (f_law_24 (pg P 8) [x0, some (.ref 0), some (owD w), some (.ref 1), some (.int g), some (.int c), some (.int inc), x7, x8, x9, x10, x11, x12, x13, x14, x15, x16, x17, x18, x19, x20, x21, x22, x23, x24, x25, x26, x27, x28, x29, x30, x31, x32, x33] (hd [beO w] d)) := by
  obtain ⟨r0, d1, r1, l1, u1⟩ := rr (n := 7) d 5 (by decide) (by decide)
  obtain ⟨st, d2, r2, l2, u2⟩ := rr (n := 7) d1 3000 (by decide) (by decide)
  obtain ⟨rt, d3, r3, l3, u3⟩ := rr (n := 7) d2 10 (by decide) (by decide)
  obtain ⟨mo, d4, r4, l4, u4⟩ := rr (n := 7) d3 200 (by decide) (by decide)
  obtain ⟨rows, hr⟩ : ∃ rows : Rows, rows = [(0, r0 * 1000), (1 + st, rt * 1000)] := ⟨_, rfl⟩
  have gr : Good rows := by
    subst hr
    refine ⟨⟨_, _, rfl⟩, ?_, by simp, ?_, ?_⟩
    · simp
      omega
    · intro p hp
      simp at hp
      rcases hp with rfl | rfl
      · simp; omega
      · simp; omega
    · intro p hp
      simp at hp
      rcases hp with rfl | rfl
      · simp
      · simp; omega
  have er : AV.lst [.tup [.int 0, .int (r0 * 1000)], .tup [.int (1 + st), .int (rt * 1000)]] = .lst (rows.map prA) := by subst hr; rfl
  have mk_ := make_ok (n := 7) (h := hd [beO w] d3) (how := down) ⟨gr.fst, gr.len, gr.rts⟩
  rw [adj_asc gr.asc, if_neg (by simp)] at mk_
  have mk_ : mkIns (pg P 8) 5 12 [.lst (rows.map prA), .str [100, 111, 119, 110]] (hd [beO w] d3) = .ok (.ref 2) (hd [bo rows down, beO w] d3) := mk_
  have eb : ∀ d', hget (hd [bo rows down, beO w] d') 1 = some (beO w) := fun d' => by simp
  have eq : ∀ d', hget (hd [bo rows down, beO w] d') 2 = some (bo rows down) := fun d' => by simp
  have ll := fun (i : Int) i0 i1 => law_left_ok (n := 6) (inc := i) (h := hd [bo rows down, beO w] d4) ho hp gr i0 i1
  have l1 := ll inc (by omega) (by omega)
  have l2' := ll (inc + mo) (by omega) (by omega)
  have lo := left_ok (n := 5) (inc := inc) ho hp gr i0 (by omega) (eb d4) (eq d4)
  have mr := more_ok (n := 4) (inc := inc) (mo := mo) ho hp gr i0 l4 (by omega) (eb d4) (eq d4)
  have rest := fun (x0 x6 x7 x8 x11 x12 x13 x14 x15 x16 x17 x18 x19 x20 x21 x22 x23 x24 x25 x26 x27 x28 x29 x30 x31 x32 x33 : Option AV) => sec_c (d := d4) ho hp gr x0 x6 x7 x8 x11 x12 x13 x14 x15 x16 x17 x18 x19 x20 x21 x22 x23 x24 x25 x26 x27 x28 x29 x30 x31 x32 x33
  generalize pg P 8 = φ at *
  generalize owD w = W at *
  simp -implicitDefEqProofs [f_law_24, r1, r2, r3, gN]
  rw [er]
  simp -implicitDefEqProofs [f_law_23, mk_, r4, gT, gsCons, gsNil, gN, f_law_22, l1, f_law_21, lo, f_law_20, mr, l2', rest]
/-- the benefit's own -/
theorem sec_e {w : Ow} {d : D3} (ho : OwOk w) (x0 x3 x4 x5 x6 x7 x8 x9 x10 x11 x12 x13 x14 x15 x16 x17 x18 x19 x20 x21 x22 x23 x24 x25 x26 x27 x28 x29 x30 x31 x32 x33 : Option AV) :
    Thru 34 (f_law_30 (pg P 8) [x0, some (.ref 0), some (owD w), x3, x4, x5, x6, x7, x8, x9, x10, x11, x12, x13, x14, x15, x16, x17, x18, x19, x20, x21, x22, x23, x24, x25, x26, x27, x28, x29, x30, x31, x32, x33] (hd [] d)) := by
  obtain ⟨g, d1, r1, l1, u1⟩ := rr (n := 7) d 2 (by decide) (by decide)
  obtain ⟨c, d2, r2, l2, u2⟩ := rr (n := 7) d1 4 (by decide) (by decide)
  obtain ⟨inc, d3, r3, l3, u3⟩ := rr (n := 7) d2 400 (by decide) (by decide)
  obtain ⟨as, d4, r4, l4, u4⟩ := rr (n := 7) d3 400 (by decide) (by decide)
  have hp : Pe (1 + g) c := ⟨by omega, by omega, l2, by omega⟩
  have mb := make_be (n := 7) (h := hd [] d) ho
  rw [hd_cons] at mb
  have eb : ∀ d', hget (hd [beO w] d') 1 = some (beO w) := fun d' => by simp
  have ei := fun d' => be_i (eb d')
  have wo := whole_ok (n := 7) ho hp (eb d4)
  have po := pays_ok (n := 6) (inc := inc) (as := as) ho hp l3 l4 (eb d4)
  have lp := fun (i a : Int) i0 a0 => law_pays_ok (n := 7) (inc := i) (as := a) (h := hd [beO w] d4) ho hp i0 a0
  have lp1 := lp inc as l3 l4
  have lp7 := lp 10000000 0 (by decide) (by decide)
  have en := ends_ok (n := 5) ho hp (eb d4)
  have bd := fun i => (pz_bd (w := w) (g := 1 + g) (c := c) (inc := i) (as := 0) ho hp).1
  have rest := fun (x0 x7 x8 x9 x10 x11 x12 x13 x14 x15 x16 x17 x18 x19 x20 x21 x22 x23 x24 x25 x26 x27 x28 x29 x30 x31 x32 x33 : Option AV) => sec_d (d := d4) ho hp l3 u3 x0 x7 x8 x9 x10 x11 x12 x13 x14 x15 x16 x17 x18 x19 x20 x21 x22 x23 x24 x25 x26 x27 x28 x29 x30 x31 x32 x33
  have oa := ow_a w; have ob := ow_b w; have oc := ow_c w; have of_ := ow_f w; have ot := ow_t w; have ol := ow_l w; have om := ow_m w
  have s1 : small (1 + g - 1) = true := small_of (by omega) (by omega)
  have s2 : small c = true := small_of (by omega) (by omega)
  have ew : w.a + (1 + g - 1) * w.b + c * w.c = whole w (1 + g) c := rfl
  generalize pg P 8 = φ at *
  generalize owD w = W at *
  simp -implicitDefEqProofs [f_law_30, oa, ob, oc, of_, ot, ol, om, mb, gN, f_law_29, r1, r2, r3, r4, gT, gsCons, gsNil, f_law_28, ei, fget, wo, s1, s2]
  rw [ew]
  simp -implicitDefEqProofs [po, lp1]
  rcases en with ⟨q, en⟩ | ⟨low, en, l0, l1', z0, z1⟩
  · have nz := bd 10000000
    simp -implicitDefEqProofs [f_law_27, ei, fget, en, gN, f_law_26, f_law_25, lp7, q, rest]
  · have lpa := lp low 0 l0 (by omega)
    have lpb := fun (h : 0 < low) => lp (low - 1) 0 (by omega) (by omega)
    by_cases q : 0 < low
    · have lpb := lpb q
      have z1 := z1 q
      simp -implicitDefEqProofs [f_law_27, ei, fget, en, gN, f_law_26, f_law_25, lpa, lpb, z0, q, z1, rest]
    · simp -implicitDefEqProofs [f_law_27, ei, fget, en, gN, f_law_26, f_law_25, lpa, z0, q, rest]
theorem law (ns : List Int) : Yes (pg P 9 0 29 [.scr (ns.map .int)] []) := by
  obtain ⟨d, e0⟩ := one_round ns
  obtain ⟨a, d1, r1, l1, u1⟩ := rr (n := 7) d 200 (by decide) (by decide)
  obtain ⟨b, d2, r2, l2, u2⟩ := rr (n := 7) d1 100 (by decide) (by decide)
  obtain ⟨c, d3, r3, l3, u3⟩ := rr (n := 7) d2 80 (by decide) (by decide)
  obtain ⟨f, d4, r4, l4, u4⟩ := rr (n := 7) d3 60 (by decide) (by decide)
  obtain ⟨t, d5, r5, l5, u5⟩ := rr (n := 7) d4 10001 (by decide) (by decide)
  obtain ⟨l, d6, r6, l6, u6⟩ := rr (n := 7) d5 300 (by decide) (by decide)
  obtain ⟨m, d7, r7, l7, u7⟩ := rr (n := 7) d6 20 (by decide) (by decide)
  obtain ⟨w, hw⟩ : ∃ w : Ow, w = ⟨a, b, c, f, t, l, m⟩ := ⟨_, rfl⟩
  have ho : OwOk w := by subst hw; exact ⟨l1, u1, l2, u2, l3, u3, l4, u4, l5, by simp; omega, l6, u6, l7, u7⟩
  have md : ∀ h, mkD false (putsL [] [(.str [102, 105, 114, 115, 116], .int a), (.str [102, 117, 114, 116, 104, 101, 114], .int b), (.str [99, 104, 105, 108, 100], .int c), (.str [102, 114, 101, 101], .int f), (.str [116, 97, 112, 101, 114], .int t), (.str [108, 105, 109, 105, 116], .int l), (.str [108, 101, 97, 115, 116], .int m)]) h = .ok (owD w) h := fun h => by subst hw; rfl
  obtain ⟨s2, os2, d8, f2, ls⟩ := sec_e (d := d7) ho (some (.scr (ns.map .int))) none none none none none none none none none none none none none none none none none none none none none none none none none none none none none none none
  have tl_ := tail
  rw [ap_runDef p_law rfl]
  generalize pg P 8 = φ at *
  have tl2 : ∀ (S : St) (h : AH), S.length = 34 → sCl f_law_32 φ S h = .ok (.rt (.bl true)) h := fun S h hS => cl_true h tl_ hS
  simp -implicitDefEqProofs [TX.start, f_law, e0, forGo, gN]
  simp -implicitDefEqProofs [f_law_31, r1, r2, r3, r4, r5, r6, r7, md, gN, f2, tl2, ls]
end K06

/-! TxB: how values and abstract heaps stand for the layer's -/
set_option Elab.async false
set_option linter.all false
set_option maxRecDepth 100000
set_option autoImplicit false
namespace TX
open PySem PySem.Spec PyProof.Rows
open L2 (V HO Hp Key upd upd_same upd_ne SqL SqT Rd HOk Cx Inv PE PT PS PSs PG PI PA TE TT TS VK XK WX Takes Ends EP)

def toS (t : Tx) : Str := ⟨t.toArray⟩
theorem toS_list (t : Tx) : (toS t).cps.toList = t := by simp [toS]
theorem toS_len (t : Tx) : (toS t).length = t.length := by simp [toS, Str.length]
theorem toS_inj {a b : Tx} (h : toS a = toS b) : a = b := by
  have := congrArg (fun s : Str => s.cps.toList) h
  simpa [toS] using this
theorem toS_of (s : Str) : toS s.cps.toList = s := by cases s; simp [toS]

/-- what is known of the text: the written part, the classes' places, the fields' names; the tables of code objects (lambdas', generators') -/
structure Cfg where
  K : PySem.W.Frag
  cA : Nat → Addr
  tl : List (Addr × Str)
  tg : List Addr

/-- which object stands where; which objects never change -/
structure Gh where
  n : Nat
  at_ : Nat → Addr
  fx : Hp
  kx : Hp
structure Ext (g g' : Gh) : Prop where
  n : g.n ≤ g'.n
  at_ : ∀ i, i < g.n → g'.at_ i = g.at_ i
  fx : ∀ a o, g.fx a = some o → g'.fx a = some o
  kx : ∀ a o, g.kx a = some o → g'.kx a = some o
theorem Ext.refl (g : Gh) : Ext g g := ⟨Nat.le_refl _, fun _ _ => rfl, fun _ _ h => h, fun _ _ h => h⟩
theorem Ext.trans {g g1 g2 : Gh} (a : Ext g g1) (b : Ext g1 g2) : Ext g g2 :=
  ⟨Nat.le_trans a.n b.n, fun i hi => (b.at_ i (Nat.lt_of_lt_of_le hi a.n)).trans (a.at_ i hi), fun p o h => b.fx p o (a.fx p o h), fun p o h => b.kx p o (a.kx p o h)⟩

def KeyR : AV → Key → Prop
  | .int i, k => k = .inl i
  | .str s, k => k = .inr (toS s)
  | _, _ => False

mutual
def RelA (C : Cfg) (g : Gh) : AV → V → Prop
  | .non, v => v = .non
  | .bl b, v => v = .bl b
  | .int i, v => v = .int i
  | .str s, v => v = .str (toS s)
  | .tup xs, v => ∃ a vs, v = .ref a ∧ SqT C.K g.fx a vs ∧ RelL C g xs vs
  | .lst xs, v => ∃ a vs, v = .ref a ∧ g.fx a = some (.lst vs) ∧ RelL C g xs vs
  | .dct kvs, v => ∃ a us, v = .ref a ∧ g.fx a = some (.dK us) ∧ RelP C g kvs us
  | .ref i, v => i < g.n ∧ v = .ref (g.at_ i)
  | .scr xs, v => ∃ a vs, v = .ref a ∧ SqL C.K g.fx a vs ∧ RelL C g xs vs
def RelL (C : Cfg) (g : Gh) : List AV → List V → Prop
  | [], vs => vs = []
  | x :: xs, vs => ∃ v r, vs = v :: r ∧ RelA C g x v ∧ RelL C g xs r
def RelP (C : Cfg) (g : Gh) : List (AV × AV) → List (Key × V) → Prop
  | [], vs => vs = []
  | (k, x) :: xs, vs => ∃ k' v r, vs = (k', v) :: r ∧ KeyR k k' ∧ RelA C g x v ∧ RelP C g xs r
end
def RelF (C : Cfg) (g : Gh) : List (Tx × AV) → List (Str × V) → Prop
  | [], vs => vs = []
  | (f, x) :: xs, vs => ∃ v r, vs = (toS f, v) :: r ∧ RelA C g x v ∧ RelF C g xs r
def RelO (C : Cfg) (g : Gh) : AO → HO → Prop
  | .lst xs, u => ∃ vs, u = .lst vs ∧ RelL C g xs vs
  | .dct kvs, u => ∃ us, u = .dK us ∧ RelP C g kvs us
  | .ins c fs, u => ∃ dx us, u = .ins (C.cA c) dx us ∧ RelF C g fs us

/-- an object that never changes is a tuple, a list, a dict, or what is known -/
def Fz : HO → Prop
  | .lst _ => True
  | .tup _ => True
  | .dK _ => True
  | .frz _ _ => True
  | _ => False
/-- the tables of code objects -/
def Sys (C : Cfg) (H : Hp) : Prop := LamX.Tabs C.tl H ∧ ∀ P ∈ C.tg, ∃ ps : Array Value, H P = some (.tbl ps) ∧ TriplesOk ps.toList
structure Rep (C : Cfg) (g : Gh) (h : AH) (H : Hp) : Prop where
  n : g.n = h.length
  fx : ∀ a o, g.fx a = some o → H a = some o ∧ Fz o
  inj : ∀ i j, i < g.n → j < g.n → g.at_ i = g.at_ j → i = j
  dis : ∀ i, i < g.n → g.fx (g.at_ i) = none
  obj : ∀ i o, hget h i = some o → ∃ u, H (g.at_ i) = some u ∧ RelO C g o u
  sys : Sys C H
  kx : ∀ a o, g.kx a = some o → H a = some o ∧ g.fx a = none ∧ ((∃ xs, o = .lst xs) ∨ (∃ us, o = .dK us) ∨ (∃ c dx us, o = .ins c dx us) ∨ ∃ c q, o = LamX.CodeO c q)
  kd : ∀ i, i < g.n → g.kx (g.at_ i) = none

theorem hget_new (o : AO) (h : AH) : hget (o :: h) h.length = some o := by simp [hget]
theorem hget_old {o : AO} {h : AH} {i : Nat} (e : i < h.length) : hget (o :: h) i = hget h i := by
  unfold hget
  rw [if_neg (by omega)]
  cases h <;> rfl
theorem hget_drop : ∀ {k : Nat} {h : AH} {i : Nat}, i < (h.drop k).length → hget (h.drop k) i = hget h i
  | 0, _, _, _ => rfl
  | k + 1, [], _, e => by simp at e
  | k + 1, o :: h, i, e => by
    simp only [List.drop_succ_cons] at e ⊢
    rw [hget_drop e]
    have : i < h.length := by simp at e; omega
    rw [hget_old this]

/-! ### what is written of a value stays -/
theorem SqT.mono {K : PySem.W.Frag} {H H' : Hp} {a : Addr} {xs : List V} (k : ∀ b o, H b = some o → H' b = some o) (h : SqT K H a xs) : SqT K H' a xs := by
  rcases h with (h | ⟨o, h⟩) | h
  · exact .inl (.inl (k _ _ h))
  · exact .inl (.inr ⟨o, k _ _ h⟩)
  · exact .inr h
theorem SqL.mono {K : PySem.W.Frag} {H H' : Hp} {a : Addr} {xs : List V} (k : ∀ b o, H b = some o → H' b = some o) (h : SqL K H a xs) : SqL K H' a xs := by
  rcases h with (h | ⟨o, h⟩) | h
  · exact .inl (.inl (k _ _ h))
  · exact .inl (.inr ⟨o, k _ _ h⟩)
  · exact .inr h
section
variable {C : Cfg} {g g' : Gh}
mutual
theorem RelA.mono (e : Ext g g') : ∀ {x : AV} {v : V}, RelA C g x v → RelA C g' x v
  | .non, _, h => h
  | .bl _, _, h => h
  | .int _, _, h => h
  | .str _, _, h => h
  | .tup xs, _, h => by
    simp only [RelA] at h ⊢
    obtain ⟨a, vs, h1, h2, h3⟩ := h
    exact ⟨a, vs, h1, SqT.mono e.fx h2, RelL.mono e h3⟩
  | .lst xs, _, h => by
    simp only [RelA] at h ⊢
    obtain ⟨a, vs, h1, h2, h3⟩ := h
    exact ⟨a, vs, h1, e.fx _ _ h2, RelL.mono e h3⟩
  | .dct kvs, _, h => by
    simp only [RelA] at h ⊢
    obtain ⟨a, vs, h1, h2, h3⟩ := h
    exact ⟨a, vs, h1, e.fx _ _ h2, RelP.mono e h3⟩
  | .ref i, _, h => by
    simp only [RelA] at h ⊢
    exact ⟨Nat.lt_of_lt_of_le h.1 e.n, by rw [e.at_ i h.1]; exact h.2⟩
  | .scr xs, _, h => by
    simp only [RelA] at h ⊢
    obtain ⟨a, vs, h1, h2, h3⟩ := h
    exact ⟨a, vs, h1, SqL.mono e.fx h2, RelL.mono e h3⟩
theorem RelL.mono (e : Ext g g') : ∀ {x : List AV} {v : List V}, RelL C g x v → RelL C g' x v
  | [], _, h => h
  | x :: xs, _, h => by
    simp only [RelL] at h ⊢
    obtain ⟨v, r, h1, h2, h3⟩ := h
    exact ⟨v, r, h1, RelA.mono e h2, RelL.mono e h3⟩
theorem RelP.mono (e : Ext g g') : ∀ {x : List (AV × AV)} {v : List (Key × V)}, RelP C g x v → RelP C g' x v
  | [], _, h => h
  | (k, x) :: xs, _, h => by
    simp only [RelP] at h ⊢
    obtain ⟨k', v, r, h1, h2, h3, h4⟩ := h
    exact ⟨k', v, r, h1, h2, RelA.mono e h3, RelP.mono e h4⟩
end
theorem RelF.mono (e : Ext g g') : ∀ {x : List (Tx × AV)} {v : List (Str × V)}, RelF C g x v → RelF C g' x v
  | [], _, h => h
  | (k, x) :: xs, _, h => by
    simp only [RelF] at h ⊢
    obtain ⟨v, r, h1, h2, h3⟩ := h
    exact ⟨v, r, h1, RelA.mono e h2, RelF.mono e h3⟩
theorem RelO.mono (e : Ext g g') : ∀ {x : AO} {v : HO}, RelO C g x v → RelO C g' x v
  | .lst _, _, ⟨vs, h1, h2⟩ => ⟨vs, h1, h2.mono e⟩
  | .dct _, _, ⟨vs, h1, h2⟩ => ⟨vs, h1, h2.mono e⟩
  | .ins _ _, _, ⟨dx, vs, h1, h2⟩ => ⟨dx, vs, h1, h2.mono e⟩

/-- fewer objects: a value that names none of the others -/
def Gh.cutN (g : Gh) (n : Nat) : Gh := { g with n := n }
mutual
theorem RelA.cutN {n : Nat} : ∀ {x : AV} {v : V}, AV.under n x = true → RelA C g x v → RelA C (g.cutN n) x v
  | .non, _, _, h => h
  | .bl _, _, _, h => h
  | .int _, _, _, h => h
  | .str _, _, _, h => h
  | .tup xs, _, u, h => by
    simp only [AV.under] at u
    simp only [RelA] at h ⊢
    obtain ⟨a, vs, h1, h2, h3⟩ := h
    exact ⟨a, vs, h1, h2, RelL.cutN u h3⟩
  | .lst xs, _, u, h => by
    simp only [AV.under] at u
    simp only [RelA] at h ⊢
    obtain ⟨a, vs, h1, h2, h3⟩ := h
    exact ⟨a, vs, h1, h2, RelL.cutN u h3⟩
  | .dct kvs, _, u, h => by
    simp only [AV.under] at u
    simp only [RelA] at h ⊢
    obtain ⟨a, vs, h1, h2, h3⟩ := h
    exact ⟨a, vs, h1, h2, RelP.cutN u h3⟩
  | .ref i, _, u, h => by
    simp only [AV.under, decide_eq_true_eq] at u
    simp only [RelA] at h ⊢
    exact ⟨u, h.2⟩
  | .scr xs, _, u, h => by
    simp only [AV.under] at u
    simp only [RelA] at h ⊢
    obtain ⟨a, vs, h1, h2, h3⟩ := h
    exact ⟨a, vs, h1, h2, RelL.cutN u h3⟩
theorem RelL.cutN {n : Nat} : ∀ {x : List AV} {v : List V}, AV.underL n x = true → RelL C g x v → RelL C (g.cutN n) x v
  | [], _, _, h => h
  | x :: xs, _, u, h => by
    simp only [AV.underL, Bool.and_eq_true] at u
    simp only [RelL] at h ⊢
    obtain ⟨v, r, h1, h2, h3⟩ := h
    exact ⟨v, r, h1, RelA.cutN u.1 h2, RelL.cutN u.2 h3⟩
theorem RelP.cutN {n : Nat} : ∀ {x : List (AV × AV)} {v : List (Key × V)}, AV.underP n x = true → RelP C g x v → RelP C (g.cutN n) x v
  | [], _, _, h => h
  | (k, x) :: xs, _, u, h => by
    simp only [AV.underP, Bool.and_eq_true] at u
    simp only [RelP] at h ⊢
    obtain ⟨k', v, r, h1, h2, h3, h4⟩ := h
    exact ⟨k', v, r, h1, h2, RelA.cutN u.2.1 h3, RelP.cutN u.2.2 h4⟩
end
theorem RelF.cutN {n : Nat} : ∀ {x : List (Tx × AV)} {v : List (Str × V)}, AV.underF n x = true → RelF C g x v → RelF C (g.cutN n) x v
  | [], _, _, h => h
  | (k, x) :: xs, _, u, h => by
    simp only [AV.underF, Bool.and_eq_true] at u
    simp only [RelF] at h ⊢
    obtain ⟨v, r, h1, h2, h3⟩ := h
    exact ⟨v, r, h1, RelA.cutN u.1 h2, RelF.cutN u.2 h3⟩
theorem RelO.cutN {n : Nat} : ∀ {x : AO} {v : HO}, AO.under n x = true → RelO C g x v → RelO C (g.cutN n) x v
  | .lst _, _, u, ⟨vs, h1, h2⟩ => ⟨vs, h1, h2.cutN u⟩
  | .dct _, _, u, ⟨vs, h1, h2⟩ => ⟨vs, h1, h2.cutN u⟩
  | .ins _ _, _, u, ⟨dx, vs, h1, h2⟩ => ⟨dx, vs, h1, h2.cutN u⟩

theorem RelL.len : ∀ {x : List AV} {v : List V}, RelL C g x v → x.length = v.length
  | [], _, h => by simp only [RelL] at h; subst h; rfl
  | x :: xs, _, h => by
    simp only [RelL] at h
    obtain ⟨v, r, rfl, _, h3⟩ := h
    simp [RelL.len h3]
theorem RelL.get : ∀ {x : List AV} {v : List V} {i : Nat} {y : AV}, RelL C g x v → x[i]? = some y → ∃ u, v[i]? = some u ∧ RelA C g y u
  | [], _, _, _, _, e => by simp at e
  | x :: xs, _, i, y, h, e => by
    simp only [RelL] at h
    obtain ⟨v, r, rfl, h2, h3⟩ := h
    cases i with
    | zero => simp at e; subst e; exact ⟨v, by simp, h2⟩
    | succ i => simp at e; obtain ⟨u, h4, h5⟩ := RelL.get h3 e; exact ⟨u, by simpa using h4, h5⟩
theorem RelL.append : ∀ {x y : List AV} {v u : List V}, RelL C g x v → RelL C g y u → RelL C g (x ++ y) (v ++ u)
  | [], _, _, _, h, h' => by simp only [RelL] at h; subst h; simpa using h'
  | x :: xs, _, _, _, h, h' => by
    simp only [RelL] at h
    obtain ⟨v, r, rfl, h2, h3⟩ := h
    simp only [List.cons_append, RelL]
    exact ⟨v, _, rfl, h2, RelL.append h3 h'⟩
theorem RelL.take : ∀ {x : List AV} {v : List V} (n : Nat), RelL C g x v → RelL C g (x.take n) (v.take n)
  | [], _, n, h => by simp only [RelL] at h; subst h; simp [RelL]
  | x :: xs, _, 0, h => by simp [RelL]
  | x :: xs, _, n + 1, h => by
    simp only [RelL] at h
    obtain ⟨v, r, rfl, h2, h3⟩ := h
    simp only [List.take_succ_cons, RelL]
    exact ⟨v, _, rfl, h2, RelL.take n h3⟩
theorem RelL.drop : ∀ {x : List AV} {v : List V} (n : Nat), RelL C g x v → RelL C g (x.drop n) (v.drop n)
  | [], _, n, h => by simp only [RelL] at h; subst h; simp [RelL]
  | x :: xs, _, 0, h => by simpa using h
  | x :: xs, _, n + 1, h => by
    simp only [RelL] at h
    obtain ⟨v, r, rfl, h2, h3⟩ := h
    simpa using RelL.drop n h3
theorem RelL.set {y : AV} {u : V} (hy : RelA C g y u) : ∀ {x : List AV} {v : List V} (i : Nat), RelL C g x v → RelL C g (x.set i y) (v.set i u)
  | [], _, _, h => by simp only [RelL] at h; subst h; simp [RelL]
  | x :: xs, _, 0, h => by
    simp only [RelL] at h
    obtain ⟨v, r, rfl, h2, h3⟩ := h
    simp only [List.set_cons_zero, RelL]
    exact ⟨u, r, rfl, hy, h3⟩
  | x :: xs, _, i + 1, h => by
    simp only [RelL] at h
    obtain ⟨v, r, rfl, h2, h3⟩ := h
    simp only [List.set_cons_succ, RelL]
    exact ⟨v, _, rfl, h2, RelL.set hy i h3⟩
theorem RelL.rep {x : List AV} {v : List V} (h : RelL C g x v) : ∀ k : Nat, RelL C g (List.replicate k x).flatten (List.replicate k v).flatten
  | 0 => by simp [RelL]
  | k + 1 => by
    simp only [List.replicate_succ, List.flatten_cons]
    exact h.append (RelL.rep h k)
theorem RelL.nil : RelL C g [] [] := by simp [RelL]
theorem RelL.cons {x : AV} {v : V} {xs : List AV} {vs : List V} (h : RelA C g x v) (r : RelL C g xs vs) : RelL C g (x :: xs) (v :: vs) := by
  simp only [RelL]
  exact ⟨v, vs, rfl, h, r⟩
theorem RelL.cons_iff {x : AV} {xs : List AV} {vs : List V} : RelL C g (x :: xs) vs ↔ ∃ v r, vs = v :: r ∧ RelA C g x v ∧ RelL C g xs r := by simp only [RelL]
theorem RelL.nil_iff {vs : List V} : RelL C g [] vs ↔ vs = [] := by simp only [RelL]
end

/-! ### the abstract heap grows, is written -/
section
variable {C : Cfg} {g : Gh} {h : AH} {H : Hp}
/-- the tables stay where no table is written -/
theorem Sys.upd {p : Addr} {o : HO} (s : Sys C H) (hp : ∀ u, H p = some u → (∀ ps, u ≠ .tbl ps) ∧ ∀ φ, u ≠ .ext φ) : Sys C (L2.upd H p o) := by
  have nt : ∀ a ps, H a = some (.tbl ps) → a ≠ p := fun a ps e z => by subst z; exact (hp _ e).1 ps rfl
  have ne : ∀ a φ, H a = some (.ext φ) → a ≠ p := fun a φ e z => by subst z; exact (hp _ e).2 φ rfl
  refine ⟨fun q hq => ?_, fun P hP => ?_⟩
  · obtain ⟨ps, h1, h2, h3⟩ := s.1 q hq
    refine ⟨ps, by rw [upd_ne (nt _ _ h1)]; exact h1, h2, fun pos cv hc => ?_⟩
    obtain ⟨c, e1, e2⟩ := h3 pos cv hc
    exact ⟨c, e1, by rw [upd_ne (ne _ _ e2)]; exact e2⟩
  · obtain ⟨ps, h1, h2⟩ := s.2 P hP
    exact ⟨ps, by rw [upd_ne (nt _ _ h1)]; exact h1, h2⟩
theorem Sys.new {p : Addr} {o : HO} (s : Sys C H) (hp : H p = none) : Sys C (L2.upd H p o) := s.upd fun u e => by rw [hp] at e; cases e

/-- one more thing that never changes -/
def Gh.more (g : Gh) (p : Addr) (o : HO) : Gh := { g with fx := L2.upd g.fx p o }
/-- one more changing object -/
def Gh.obj (g : Gh) (p : Addr) : Gh := { g with n := g.n + 1, at_ := fun i => if i = g.n then p else g.at_ i }
theorem Rep.freeFx (r : Rep C g h H) {p : Addr} (hp : H p = none) : g.fx p = none := by
  cases e : g.fx p with
  | none => rfl
  | some o => rw [(r.fx p o e).1] at hp; cases hp
theorem Rep.at_ne (r : Rep C g h H) {p : Addr} (hp : H p = none) {i : Nat} (hi : i < g.n) : g.at_ i ≠ p := fun z => by
  obtain ⟨o, e⟩ := hget_of_lt (h := h) (i := i) (by rw [← r.n]; exact hi)
  obtain ⟨u, e2, _⟩ := r.obj i o e
  rw [z, hp] at e2
  cases e2
theorem Rep.ext_more (r : Rep C g h H) {p : Addr} (hp : H p = none) (o : HO) : Ext g (g.more p o) :=
  ⟨Nat.le_refl _, fun _ _ => rfl, fun a u e => by
    show L2.upd g.fx p o a = some u
    rw [upd_ne (fun z => by subst z; rw [r.freeFx hp] at e; cases e)]
    exact e, fun _ _ e => e⟩
theorem Rep.kx_ne (r : Rep C g h H) {p : Addr} (hp : H p = none) {a : Addr} {o : HO} (e : g.kx a = some o) : a ≠ p := fun z => by
  subst z
  rw [(r.kx _ _ e).1] at hp
  cases hp
theorem Rep.more (r : Rep C g h H) {p : Addr} (hp : H p = none) {o : HO} (ho : Fz o) : Rep C (g.more p o) h (L2.upd H p o) where
  n := r.n
  fx := fun a u e => by
    by_cases z : a = p
    · subst z
      have e : L2.upd g.fx a o a = some u := e
      rw [upd_same] at e
      cases e
      exact ⟨upd_same, ho⟩
    · have e : L2.upd g.fx p o a = some u := e
      rw [upd_ne z] at e
      obtain ⟨e1, e2⟩ := r.fx a u e
      exact ⟨by rw [upd_ne z]; exact e1, e2⟩
  inj := r.inj
  dis := fun i hi => by
    show L2.upd g.fx p o (g.at_ i) = none
    rw [upd_ne (r.at_ne hp hi)]
    exact r.dis i hi
  obj := fun i u e => by
    obtain ⟨w, e1, e2⟩ := r.obj i u e
    have hi : i < g.n := by rw [r.n]; exact hget_lt e
    refine ⟨w, ?_, e2.mono (r.ext_more hp o)⟩
    show L2.upd H p o (g.at_ i) = some w
    rw [upd_ne (r.at_ne hp hi)]
    exact e1
  sys := r.sys.new hp
  kx := fun a u e => by
    have hn := r.kx_ne hp e
    obtain ⟨e1, e2, e3⟩ := r.kx a u e
    refine ⟨by rw [upd_ne hn]; exact e1, ?_, e3⟩
    show L2.upd g.fx p o a = none
    rw [upd_ne hn]
    exact e2
  kd := r.kd
theorem Rep.ext_obj (r : Rep C g h H) {p : Addr} : Ext g (g.obj p) :=
  ⟨Nat.le_succ _, fun i hi => by
    show (if i = g.n then p else g.at_ i) = g.at_ i
    rw [if_neg (Nat.ne_of_lt hi)], fun _ _ e => e, fun _ _ e => e⟩
theorem Rep.new (r : Rep C g h H) {p : Addr} (hp : H p = none) {o : AO} {u : HO} (ho : RelO C (g.obj p) o u) : Rep C (g.obj p) (o :: h) (L2.upd H p u) where
  n := by
    show g.n + 1 = _
    rw [r.n]; rfl
  fx := fun a w e => by
    obtain ⟨e1, e2⟩ := r.fx a w e
    refine ⟨?_, e2⟩
    rw [upd_ne (fun z => by subst z; rw [hp] at e1; cases e1)]
    exact e1
  inj := fun i j hi hj e => by
    have hi : i < g.n + 1 := hi
    have hj : j < g.n + 1 := hj
    have e : (if i = g.n then p else g.at_ i) = (if j = g.n then p else g.at_ j) := e
    by_cases h1 : i = g.n <;> by_cases h2 : j = g.n
    · omega
    · rw [if_pos h1, if_neg h2] at e
      exact absurd e.symm (r.at_ne hp (by omega))
    · rw [if_neg h1, if_pos h2] at e
      exact absurd e (r.at_ne hp (by omega))
    · rw [if_neg h1, if_neg h2] at e
      exact r.inj i j (by omega) (by omega) e
  dis := fun i hi => by
    have hi : i < g.n + 1 := hi
    show g.fx (if i = g.n then p else g.at_ i) = none
    split
    · exact r.freeFx hp
    · exact r.dis i (by omega)
  obj := fun i w e => by
    show ∃ u', L2.upd H p u (if i = g.n then p else g.at_ i) = some u' ∧ _
    by_cases h1 : i = g.n
    · rw [if_pos h1]
      rw [h1, r.n, hget_new] at e
      cases e
      exact ⟨u, upd_same, ho⟩
    · rw [if_neg h1]
      have hl := hget_lt e
      have hl2 : i < h.length := by rw [r.n] at h1; simp at hl; omega
      rw [hget_old hl2] at e
      obtain ⟨u', e1, e2⟩ := r.obj i w e
      refine ⟨u', ?_, e2.mono r.ext_obj⟩
      rw [upd_ne (r.at_ne hp (by rw [r.n]; exact hl2))]
      exact e1
  sys := r.sys.new hp
  kx := fun a w e => by
    obtain ⟨e1, e2, e3⟩ := r.kx a w e
    exact ⟨by rw [upd_ne (r.kx_ne hp e)]; exact e1, e2, e3⟩
  kd := fun i hi => by
    have hi : i < g.n + 1 := hi
    show g.kx (if i = g.n then p else g.at_ i) = none
    split
    · cases e : g.kx p with
      | none => rfl
      | some o => exact absurd rfl (r.kx_ne hp e)
    · exact r.kd i (by omega)
/-- an object is written -/
theorem Rep.put (r : Rep C g h H) {i : Nat} {o o' : AO} {u' : HO} (hi : hget h i = some o) (ho : RelO C g o' u') : Rep C g (hset h i o') (L2.upd H (g.at_ i) u') := by
  have hl := hget_lt hi
  obtain ⟨u, e1, e2⟩ := r.obj i o hi
  refine ⟨by rw [hset_length]; exact r.n, fun a w e => ?_, r.inj, r.dis, fun j w e => ?_, r.sys.upd fun w e => ?_, fun a w e => ?_, r.kd⟩
  · obtain ⟨e3, e4⟩ := r.fx a w e
    refine ⟨?_, e4⟩
    rw [upd_ne (fun z => by subst z; rw [r.dis i (by rw [r.n]; exact hl)] at e; cases e)]
    exact e3
  · rw [hget_hset hl] at e
    by_cases hj : j = i
    · rw [if_pos hj] at e
      cases e
      subst hj
      exact ⟨u', upd_same, ho⟩
    · rw [if_neg hj] at e
      obtain ⟨w', e3, e4⟩ := r.obj j w e
      refine ⟨w', ?_, e4⟩
      rw [upd_ne (fun z => hj (r.inj j i (by rw [r.n]; exact hget_lt e) (by rw [r.n]; exact hl) z))]
      exact e3
  · rw [e1] at e
    cases e
    cases o with
    | lst xs => obtain ⟨vs, rfl, _⟩ := e2; exact ⟨fun ps z => (nomatch z), fun φ z => (nomatch z)⟩
    | dct xs => obtain ⟨vs, rfl, _⟩ := e2; exact ⟨fun ps z => (nomatch z), fun φ z => (nomatch z)⟩
    | ins c xs => obtain ⟨dx, vs, rfl, _⟩ := e2; exact ⟨fun ps z => (nomatch z), fun φ z => (nomatch z)⟩
  · obtain ⟨e3, e4, e5⟩ := r.kx a w e
    refine ⟨?_, e4, e5⟩
    rw [upd_ne (fun z => by subst z; rw [r.kd i (by rw [r.n]; exact hl)] at e; cases e)]
    exact e3
mutual
theorem RelA.under : ∀ {x : AV} {v : V}, RelA C g x v → AV.under g.n x = true
  | .non, _, _ => rfl
  | .bl _, _, _ => rfl
  | .int _, _, _ => rfl
  | .str _, _, _ => rfl
  | .tup xs, _, h => by
    simp only [RelA] at h
    obtain ⟨a, vs, _, _, h3⟩ := h
    exact RelL.under h3
  | .lst xs, _, h => by
    simp only [RelA] at h
    obtain ⟨a, vs, _, _, h3⟩ := h
    exact RelL.under h3
  | .dct kvs, _, h => by
    simp only [RelA] at h
    obtain ⟨a, vs, _, _, h3⟩ := h
    exact RelP.under h3
  | .ref i, _, h => by
    simp only [RelA] at h
    simp only [AV.under, decide_eq_true_eq]
    exact h.1
  | .scr xs, _, h => by
    simp only [RelA] at h
    obtain ⟨a, vs, _, _, h3⟩ := h
    exact RelL.under h3
theorem RelL.under : ∀ {x : List AV} {v : List V}, RelL C g x v → AV.underL g.n x = true
  | [], _, _ => rfl
  | x :: xs, _, h => by
    simp only [RelL] at h
    obtain ⟨v, r, _, h2, h3⟩ := h
    simp only [AV.underL, Bool.and_eq_true]
    exact ⟨RelA.under h2, RelL.under h3⟩
theorem RelP.under : ∀ {x : List (AV × AV)} {v : List (Key × V)}, RelP C g x v → AV.underP g.n x = true
  | [], _, _ => rfl
  | (k, x) :: xs, _, h => by
    simp only [RelP] at h
    obtain ⟨k', v, r, _, h2, h3, h4⟩ := h
    simp only [AV.underP, Bool.and_eq_true]
    refine ⟨?_, RelA.under h3, RelP.under h4⟩
    cases k <;> first | rfl | exact False.elim h2
end
theorem RelF.under : ∀ {x : List (Tx × AV)} {v : List (Str × V)}, RelF C g x v → AV.underF g.n x = true
  | [], _, _ => rfl
  | (k, x) :: xs, _, h => by
    simp only [RelF] at h
    obtain ⟨v, r, _, h3, h4⟩ := h
    simp only [AV.underF, Bool.and_eq_true]
    exact ⟨RelA.under h3, RelF.under h4⟩
theorem RelO.under : ∀ {x : AO} {v : HO}, RelO C g x v → AO.under g.n x = true
  | .lst _, _, ⟨_, _, h2⟩ => h2.under
  | .dct _, _, ⟨_, _, h2⟩ => h2.under
  | .ins _ _, _, ⟨_, _, _, h2⟩ => h2.under
theorem gcOk_len {n : Nat} : ∀ {a b : AH}, gcOk n a b = true → a.length = b.length
  | [], [], _ => rfl
  | [], _ :: _, e => by simp [gcOk] at e
  | _ :: _, [], e => by simp [gcOk] at e
  | o :: a, u :: b, e => by
    simp only [gcOk, Bool.and_eq_true] at e
    simp [gcOk_len e.2]
theorem gcOk_at {n : Nat} : ∀ {a b : AH} {i : Nat} {u : AO}, gcOk n a b = true → hget b i = some u → hget a i = some u ∨ u.under n = true
  | [], [], _, _, _, e => by simp [hget] at e
  | [], _ :: _, _, _, e, _ => by simp [gcOk] at e
  | _ :: _, [], _, _, e, _ => by simp [gcOk] at e
  | o :: a, w :: b, i, u, e, hi => by
    have hl := gcOk_len e
    simp only [gcOk, Bool.and_eq_true, Bool.or_eq_true, decide_eq_true_eq] at e
    simp only [List.length_cons, Nat.add_right_cancel_iff] at hl
    by_cases h1 : i = b.length
    · subst h1
      rw [hget_new] at hi
      cases hi
      rcases e.1 with z | z
      · exact .inr z
      · left; rw [z, ← hl, hget_new]
    · have h2 := hget_lt hi
      have h3 : i < b.length := by simp at h2; omega
      rw [hget_old h3] at hi
      rw [hget_old (by omega)]
      exact gcOk_at e.2 hi
/-- what was made is let go -/
theorem gc_rep {g' : Gh} {h' : AH} {H' : Hp} (r : Rep C g h H) (e : Ext g g') (r' : Rep C g' h' H') (k : Nat) (hk : gcOk h.length h (h'.drop k) = true) :
    Rep C (g'.cutN h.length) (h'.drop k) H' := by
  have hl := gcOk_len hk
  have hle : h.length ≤ g'.n := by rw [← r.n]; exact e.n
  refine ⟨hl, r'.fx, fun i j hi hj => r'.inj i j (Nat.lt_of_lt_of_le hi hle) (Nat.lt_of_lt_of_le hj hle), fun i hi => r'.dis i (Nat.lt_of_lt_of_le hi hle), fun i o ho => ?_, r'.sys, r'.kx, fun i hi => r'.kd i (Nat.lt_of_lt_of_le hi hle)⟩
  have hi := hget_lt ho
  have ho2 := ho
  rw [hget_drop hi] at ho2
  obtain ⟨u, e1, e2⟩ := r'.obj i o ho2
  refine ⟨u, e1, e2.cutN ?_⟩
  rcases gcOk_at hk ho with z | z
  · obtain ⟨u0, _, e4⟩ := r.obj i o z
    rw [← r.n]
    exact e4.under
  · exact z
theorem gc_ext {g' : Gh} (r : Rep C g h H) (e : Ext g g') : Ext g (g'.cutN h.length) := ⟨Nat.le_of_eq r.n, e.at_, e.fx, e.kx⟩
/-! a value that names no object: alike wherever the same things never change -/
mutual
theorem RelA.ofFx {g3 : Gh} (ef : g3.fx = g.fx) : ∀ {x : AV} {v : V}, AV.under 0 x = true → RelA C g x v → RelA C g3 x v
  | .non, _, _, h => h
  | .bl _, _, _, h => h
  | .int _, _, _, h => h
  | .str _, _, _, h => h
  | .tup xs, _, u, h => by
    simp only [AV.under] at u
    simp only [RelA] at h ⊢
    obtain ⟨a, vs, h1, h2, h3⟩ := h
    exact ⟨a, vs, h1, by rw [ef]; exact h2, RelL.ofFx ef u h3⟩
  | .lst xs, _, u, h => by
    simp only [AV.under] at u
    simp only [RelA] at h ⊢
    obtain ⟨a, vs, h1, h2, h3⟩ := h
    exact ⟨a, vs, h1, by rw [ef]; exact h2, RelL.ofFx ef u h3⟩
  | .dct kvs, _, u, h => by
    simp only [AV.under] at u
    simp only [RelA] at h ⊢
    obtain ⟨a, vs, h1, h2, h3⟩ := h
    exact ⟨a, vs, h1, by rw [ef]; exact h2, RelP.ofFx ef u h3⟩
  | .ref i, _, u, h => by
    simp only [AV.under, decide_eq_true_eq] at u
    simp only [RelA] at h ⊢
    exact absurd u (Nat.not_lt_zero _)
  | .scr xs, _, u, h => by
    simp only [AV.under] at u
    simp only [RelA] at h ⊢
    obtain ⟨a, vs, h1, h2, h3⟩ := h
    exact ⟨a, vs, h1, by rw [ef]; exact h2, RelL.ofFx ef u h3⟩
theorem RelL.ofFx {g3 : Gh} (ef : g3.fx = g.fx) : ∀ {x : List AV} {v : List V}, AV.underL 0 x = true → RelL C g x v → RelL C g3 x v
  | [], _, _, h => h
  | x :: xs, _, u, h => by
    simp only [AV.underL, Bool.and_eq_true] at u
    simp only [RelL] at h ⊢
    obtain ⟨v, r, h1, h2, h3⟩ := h
    exact ⟨v, r, h1, RelA.ofFx ef u.1 h2, RelL.ofFx ef u.2 h3⟩
theorem RelP.ofFx {g3 : Gh} (ef : g3.fx = g.fx) : ∀ {x : List (AV × AV)} {v : List (Key × V)}, AV.underP 0 x = true → RelP C g x v → RelP C g3 x v
  | [], _, _, h => h
  | (k, x) :: xs, _, u, h => by
    simp only [AV.underP, Bool.and_eq_true] at u
    simp only [RelP] at h ⊢
    obtain ⟨k', v, r, h1, h2, h3, h4⟩ := h
    exact ⟨k', v, r, h1, h2, RelA.ofFx ef u.2.1 h3, RelP.ofFx ef u.2.2 h4⟩
end
/-- no objects: those that were are kept aside -/
def Gh.aside (g : Gh) (H : Hp) : Gh where
  n := 0
  at_ := g.at_
  fx := g.fx
  kx := fun a => if (List.range g.n).any (fun i => decide (g.at_ i = a)) = true then H a else g.kx a
theorem aside_at {i : Nat} (hi : i < g.n) : (g.aside H).kx (g.at_ i) = H (g.at_ i) := by
  show (if _ then _ else _) = _
  rw [if_pos (List.any_eq_true.mpr ⟨i, List.mem_range.mpr hi, by simp⟩)]
theorem aside_kx (r : Rep C g h H) {a : Addr} {o : HO} (e : g.kx a = some o) : (g.aside H).kx a = some o := by
  show (if _ then _ else _) = _
  rw [if_neg]
  · exact e
  · intro z
    obtain ⟨i, h1, h2⟩ := List.any_eq_true.mp z
    have h3 := r.kd i (List.mem_range.mp h1)
    simp only [decide_eq_true_eq] at h2
    rw [h2, e] at h3
    cases h3
theorem aside_cases {a : Addr} {o : HO} (e : (g.aside H).kx a = some o) : (∃ i, i < g.n ∧ g.at_ i = a ∧ H a = some o) ∨ g.kx a = some o := by
  have e : (if (List.range g.n).any (fun i => decide (g.at_ i = a)) = true then H a else g.kx a) = some o := e
  split at e
  · rename_i z
    obtain ⟨i, h1, h2⟩ := List.any_eq_true.mp z
    simp only [decide_eq_true_eq] at h2
    exact .inl ⟨i, List.mem_range.mp h1, h2, e⟩
  · exact .inr e
theorem Rep.aside (r : Rep C g h H) : Rep C (g.aside H) [] H := by
  refine ⟨rfl, r.fx, fun i j hi => absurd hi (Nat.not_lt_zero _), fun i hi => absurd hi (Nat.not_lt_zero _), fun i o e => by simp [hget] at e, r.sys, fun a o e => ?_, fun i hi => absurd hi (Nat.not_lt_zero _)⟩
  rcases aside_cases e with ⟨i, hi, rfl, e2⟩ | e2
  · refine ⟨e2, r.dis i hi, ?_⟩
    obtain ⟨o2, ho⟩ := hget_of_lt (h := h) (i := i) (by rw [← r.n]; exact hi)
    obtain ⟨u, e3, e4⟩ := r.obj i o2 ho
    rw [e2] at e3
    cases e3
    cases o2 with
    | lst xs => obtain ⟨vs, z, _⟩ := e4; exact .inl ⟨vs, z⟩
    | dct xs => obtain ⟨vs, z, _⟩ := e4; exact .inr (.inl ⟨vs, z⟩)
    | ins c xs => obtain ⟨dx, vs, z, _⟩ := e4; exact .inr (.inr (.inl ⟨_, dx, vs, z⟩))
  · exact r.kx a o e2
/-- they are looked at again -/
def Gh.back (g g2 : Gh) : Gh := { g with fx := g2.fx }
theorem Rep.back {g2 : Gh} {h2 : AH} {H2 : Hp} (r : Rep C g h H) (e : Ext (g.aside H) g2) (r2 : Rep C g2 h2 H2) : Ext g (g.back g2) ∧ Rep C (g.back g2) h H2 := by
  have x : Ext g (g.back g2) := ⟨Nat.le_refl _, fun _ _ => rfl, fun a o z => e.fx a o z, fun a o z => z⟩
  have at2 : ∀ i, i < g.n → ∀ u, H (g.at_ i) = some u → H2 (g.at_ i) = some u ∧ g2.fx (g.at_ i) = none := fun i hi u hu => by
    have z := e.kx (g.at_ i) u (by rw [aside_at hi]; exact hu)
    obtain ⟨h1, h3, _⟩ := r2.kx _ _ z
    exact ⟨h1, h3⟩
  refine ⟨x, r.n, r2.fx, r.inj, fun i hi => ?_, fun i o ho => ?_, r2.sys, fun a o z => ?_, r.kd⟩
  · obtain ⟨o2, ho⟩ := hget_of_lt (h := h) (i := i) (by rw [← r.n]; exact hi)
    obtain ⟨u, e3, e4⟩ := r.obj i o2 ho
    exact (at2 i hi u e3).2
  · have hi : i < g.n := by rw [r.n]; exact hget_lt ho
    obtain ⟨u, e3, e4⟩ := r.obj i o ho
    exact ⟨u, (at2 i hi u e3).1, e4.mono x⟩
  · exact r2.kx a o (e.kx a o (aside_kx r z))
/-! ### a list that a comprehension fills: known, named by nothing -/
def Gh.keep (g : Gh) (p : Addr) (o : Option HO) : Gh := { g with kx := fun a => if a = p then o else g.kx a }
theorem Gh.keep_same (g : Gh) (p : Addr) (o : Option HO) : (g.keep p o).kx p = o := if_pos rfl
mutual
theorem RelA.keep {p : Addr} {o : Option HO} : ∀ {x : AV} {v : V}, RelA C g x v → RelA C (g.keep p o) x v
  | .non, _, h => h
  | .bl _, _, h => h
  | .int _, _, h => h
  | .str _, _, h => h
  | .tup xs, _, h => by
    simp only [RelA] at h ⊢
    obtain ⟨a, vs, h1, h2, h3⟩ := h
    exact ⟨a, vs, h1, h2, RelL.keep h3⟩
  | .lst xs, _, h => by
    simp only [RelA] at h ⊢
    obtain ⟨a, vs, h1, h2, h3⟩ := h
    exact ⟨a, vs, h1, h2, RelL.keep h3⟩
  | .dct kvs, _, h => by
    simp only [RelA] at h ⊢
    obtain ⟨a, vs, h1, h2, h3⟩ := h
    exact ⟨a, vs, h1, h2, RelP.keep h3⟩
  | .ref i, _, h => by
    simp only [RelA] at h ⊢
    exact h
  | .scr xs, _, h => by
    simp only [RelA] at h ⊢
    obtain ⟨a, vs, h1, h2, h3⟩ := h
    exact ⟨a, vs, h1, h2, RelL.keep h3⟩
theorem RelL.keep {p : Addr} {o : Option HO} : ∀ {x : List AV} {v : List V}, RelL C g x v → RelL C (g.keep p o) x v
  | [], _, h => h
  | x :: xs, _, h => by
    simp only [RelL] at h ⊢
    obtain ⟨v, r, h1, h2, h3⟩ := h
    exact ⟨v, r, h1, RelA.keep h2, RelL.keep h3⟩
theorem RelP.keep {p : Addr} {o : Option HO} : ∀ {x : List (AV × AV)} {v : List (Key × V)}, RelP C g x v → RelP C (g.keep p o) x v
  | [], _, h => h
  | (k, x) :: xs, _, h => by
    simp only [RelP] at h ⊢
    obtain ⟨k', v, r, h1, h2, h3, h4⟩ := h
    exact ⟨k', v, r, h1, h2, RelA.keep h3, RelP.keep h4⟩
end
theorem RelF.keep {p : Addr} {o : Option HO} : ∀ {x : List (Tx × AV)} {v : List (Str × V)}, RelF C g x v → RelF C (g.keep p o) x v
  | [], _, h => h
  | (k, x) :: xs, _, h => by
    simp only [RelF] at h ⊢
    obtain ⟨v, r, h1, h2, h3⟩ := h
    exact ⟨v, r, h1, RelA.keep h2, RelF.keep h3⟩
theorem RelO.keep {p : Addr} {o : Option HO} : ∀ {x : AO} {v : HO}, RelO C g x v → RelO C (g.keep p o) x v
  | .lst _, _, ⟨vs, h1, h2⟩ => ⟨vs, h1, h2.keep⟩
  | .dct _, _, ⟨vs, h1, h2⟩ => ⟨vs, h1, h2.keep⟩
  | .ins _ _, _, ⟨dx, vs, h1, h2⟩ => ⟨dx, vs, h1, h2.keep⟩
theorem Rep.ext_keep {p : Addr} {o : Option HO} (hp : g.kx p = none) : Ext g (g.keep p o) := ⟨Nat.le_refl _, fun _ _ => rfl, fun _ _ e => e, fun a u e => by
  show (if a = p then o else g.kx a) = some u
  rw [if_neg (fun z => by subst z; rw [hp] at e; cases e)]
  exact e⟩
theorem Rep.freeKx (r : Rep C g h H) {p : Addr} (hp : H p = none) : g.kx p = none := by
  cases e : g.kx p with
  | none => rfl
  | some o => exact absurd rfl (r.kx_ne hp e)
/-- it is made -/
theorem Rep.kept (r : Rep C g h H) {p : Addr} (hp : H p = none) (xs : List V) : Rep C (g.keep p (some (.lst xs))) h (L2.upd H p (.lst xs)) := by
  refine ⟨r.n, fun a o e => ?_, r.inj, r.dis, fun i o e => ?_, r.sys.new hp, fun a o e => ?_, fun i hi => ?_⟩
  · obtain ⟨e1, e2⟩ := r.fx a o e
    exact ⟨by rw [upd_ne (fun z => by subst z; rw [hp] at e1; cases e1)]; exact e1, e2⟩
  · obtain ⟨u, e1, e2⟩ := r.obj i o e
    exact ⟨u, by show L2.upd H p _ (g.at_ i) = _; rw [upd_ne (r.at_ne hp (by rw [r.n]; exact hget_lt e))]; exact e1, e2.keep⟩
  · have e : (if a = p then some (HO.lst xs) else g.kx a) = some o := e
    by_cases z : a = p
    · rw [if_pos z] at e
      cases e
      subst z
      exact ⟨upd_same, r.freeFx hp, .inl ⟨xs, rfl⟩⟩
    · rw [if_neg z] at e
      obtain ⟨e1, e2, e3⟩ := r.kx a o e
      exact ⟨by rw [upd_ne z]; exact e1, e2, e3⟩
  · show (if g.at_ i = p then _ else g.kx (g.at_ i)) = none
    rw [if_neg (r.at_ne hp hi)]
    exact r.kd i hi
/-- it is let go: what is left is as if it were not -/
theorem Rep.unkept (r : Rep C g h H) {p : Addr} {xs : List V} (hp : g.kx p = some (.lst xs)) : Rep C (g.keep p none) h (fun a => if a = p then none else H a) := by
  obtain ⟨h1, h2, _⟩ := r.kx p _ hp
  have na : ∀ i, i < g.n → g.at_ i ≠ p := fun i hi z => by
    have := r.kd i hi
    rw [z, hp] at this
    cases this
  have nt : ∀ a u, H a = some u → (∀ xs, u ≠ .lst xs) → a ≠ p := fun a u e n z => by
    subst z
    rw [h1] at e
    cases e
    exact n _ rfl
  refine ⟨r.n, fun a o e => ?_, r.inj, r.dis, fun i o e => ?_, ⟨fun q hq => ?_, fun P hP => ?_⟩, fun a o e => ?_, fun i hi => ?_⟩
  · obtain ⟨e1, e2⟩ := r.fx a o e
    exact ⟨by rw [if_neg (fun z => by subst z; have e : g.fx a = some o := e; rw [h2] at e; cases e)]; exact e1, e2⟩
  · obtain ⟨u, e1, e2⟩ := r.obj i o e
    exact ⟨u, by show (if g.at_ i = p then none else H (g.at_ i)) = _; rw [if_neg (na i (by rw [r.n]; exact hget_lt e))]; exact e1, e2.keep⟩
  · obtain ⟨ps, a1, a2, a3⟩ := r.sys.1 q hq
    refine ⟨ps, (if_neg (nt _ _ a1 fun xs z => nomatch z)).trans a1, a2, fun pos cv hc => ?_⟩
    obtain ⟨c, e1, e2⟩ := a3 pos cv hc
    exact ⟨c, e1, (if_neg (nt _ _ e2 fun xs z => by unfold LamX.CodeO at z; cases z)).trans e2⟩
  · obtain ⟨ps, a1, a2⟩ := r.sys.2 P hP
    exact ⟨ps, (if_neg (nt _ _ a1 fun xs z => nomatch z)).trans a1, a2⟩
  · have e : (if a = p then none else g.kx a) = some o := e
    by_cases z : a = p
    · rw [if_pos z] at e; cases e
    · rw [if_neg z] at e
      obtain ⟨e1, e2, e3⟩ := r.kx a o e
      exact ⟨by rw [if_neg z]; exact e1, e2, e3⟩
  · show (if g.at_ i = p then none else g.kx (g.at_ i)) = none
    rw [if_neg (na i hi)]
    exact r.kd i hi
theorem upd_unkept {p : Addr} {o : HO} (e : H p = some o) : L2.upd (fun a => if a = p then none else H a) p o = H := by
  funext a
  by_cases z : a = p
  · subst z; rw [upd_same, e]
  · rw [upd_ne z, if_neg z]
/-- it is written -/
theorem Rep.rekept (r : Rep C g h H) {p : Addr} {ys : List V} (hp : g.kx p = some (.lst ys)) (xs : List V) : Rep C (g.keep p (some (.lst xs))) h (L2.upd H p (.lst xs)) := by
  have r1 := (r.unkept hp).kept (p := p) (if_pos rfl) xs
  have e1 : L2.upd (fun a => if a = p then none else H a) p (.lst xs) = L2.upd H p (.lst xs) := by
    funext a
    by_cases z : a = p
    · subst z; rw [upd_same, upd_same]
    · rw [upd_ne z, upd_ne z, if_neg z]
  rw [e1] at r1
  have e2 : (g.keep p none).keep p (some (.lst xs)) = g.keep p (some (.lst xs)) := by
    unfold Gh.keep
    congr 1
    funext a
    by_cases z : a = p
    · simp [z]
    · simp [z]
  rw [e2] at r1
  exact r1
/-- a code object is known -/
theorem Rep.code (r : Rep C g h H) {c : Addr} {q : Str} (hc : H c = some (LamX.CodeO c q)) : Rep C (g.keep c (some (LamX.CodeO c q))) h H := by
  have nf : g.fx c = none := by
    cases e : g.fx c with
    | none => rfl
    | some o =>
      obtain ⟨e1, e2⟩ := r.fx c o e
      rw [hc] at e1
      cases e1
      exact e2.elim
  have na : ∀ i, i < g.n → g.at_ i ≠ c := fun i hi z => by
    obtain ⟨o, e⟩ := hget_of_lt (h := h) (i := i) (by rw [← r.n]; exact hi)
    obtain ⟨u, e2, e3⟩ := r.obj i o e
    rw [z, hc] at e2
    cases e2
    cases o with
    | lst xs => obtain ⟨vs, z, _⟩ := e3; unfold LamX.CodeO at z; cases z
    | dct xs => obtain ⟨vs, z, _⟩ := e3; unfold LamX.CodeO at z; cases z
    | ins c xs => obtain ⟨dx, vs, z, _⟩ := e3; unfold LamX.CodeO at z; cases z
  refine ⟨r.n, r.fx, r.inj, r.dis, fun i o e => ?_, r.sys, fun a o e => ?_, fun i hi => ?_⟩
  · obtain ⟨u, e1, e2⟩ := r.obj i o e
    exact ⟨u, e1, e2.keep⟩
  · have e : (if a = c then some (LamX.CodeO c q) else g.kx a) = some o := e
    by_cases z : a = c
    · rw [if_pos z] at e
      cases e
      subst z
      exact ⟨hc, nf, .inr (.inr (.inr ⟨_, _, rfl⟩))⟩
    · rw [if_neg z] at e
      exact r.kx a o e
  · show (if g.at_ i = c then _ else g.kx (g.at_ i)) = none
    rw [if_neg (na i hi)]
    exact r.kd i hi
end
end TX

/-! TxC: expressions -/
set_option Elab.async false
set_option linter.all false
set_option maxRecDepth 100000
set_option maxHeartbeats 1000000
set_option autoImplicit false
namespace TX
open PySem PySem.Spec PyProof.Rows
open L2 (V HO Hp Key upd upd_same upd_ne SqL SqT Rd HOk Cx Inv PE PT PW PS PSs PG PI PA TE TT TA TS VK XK WX Takes Ends EP OpR tOp CallR tCB tCons tNil)

theorem _root_.L2.PE.imp {X : Cx} {e : Expr} {t t' : TE} (h : PE X e t) (k : ∀ σ H Q, t' σ H Q → t σ H Q) : PE X e t' := ⟨fun pins s σ H Q I hw => h.run pins s σ H Q I (k σ H Q hw)⟩
theorem _root_.L2.PT.imp {X : Cx} {e : Expr} {t t' : TT} (h : PT X e t) (k : ∀ σ H Q, t' σ H Q → t σ H Q) : PT X e t' := ⟨fun pins s σ H Q I hw => h.run pins s σ H Q I (k σ H Q hw)⟩
theorem _root_.L2.PW.imp {X : Cx} {e : Expr} {t t' : TT} (h : PW X e t) (k : ∀ σ H Q, t' σ H Q → t σ H Q) : PW X e t' := ⟨fun wh pins s σ H Q I hw => h.run wh pins s σ H Q I (k σ H Q hw)⟩
theorem _root_.L2.PA.imp {X : Cx} {e : List Expr} {t t' : TA} (h : PA X e t) (k : ∀ σ H Q, t' σ H Q → t σ H Q) : PA X e t' := ⟨fun p pins s σ H Q I hw => h.run p pins s σ H Q I (k σ H Q hw)⟩
theorem _root_.L2.PS.imp {X : Cx} {e : Stmt} {t t' : TS} (h : PS X e t) (k : ∀ D σ H, t' D σ H → t D σ H) : PS X e t' := ⟨fun pins s σ H Q I hw => h.run pins s σ H Q I (k Q σ H hw)⟩
theorem _root_.L2.PSs.imp {X : Cx} {e : List Stmt} {t t' : TS} (h : PSs X e t) (k : ∀ D σ H, t' D σ H → t D σ H) : PSs X e t' := ⟨fun pins s σ H Q I hw => h.run pins s σ H Q I (k Q σ H hw)⟩
theorem _root_.L2.PE.or {X : Cx} {e : Expr} {t t' : TE} (h : PE X e t) (h' : PE X e t') : PE X e (fun σ H Q => t σ H Q ∨ t' σ H Q) := ⟨fun pins s σ H Q I hw => hw.elim (h.run pins s σ H Q I) (h'.run pins s σ H Q I)⟩

/-! ### what is wanted behind a piece -/
def okG {α : Type} (C : Cfg) (g : Gh) (o : Out α) (K : α → Gh → AH → Hp → Prop) (N : Nat → Hp → Prop) : Prop :=
  match o with
  | .ok v h => ∀ g' H', Ext g g' → Rep C g' h H' → K v g' h H'
  | .exc c h => ∀ g' H', Ext g g' → Rep C g' h H' → N c H'
  | .stuck => False
theorem okG.ext {α : Type} {C : Cfg} {g g1 : Gh} {o : Out α} {K : α → Gh → AH → Hp → Prop} {N : Nat → Hp → Prop} (h : okG C g o K N) (e : Ext g g1) : okG C g1 o K N := by
  cases o with
  | ok v h' => exact fun g' H' e' r => h g' H' (e.trans e') r
  | exc c h' => exact fun g' H' e' r => h g' H' (e.trans e') r
  | stuck => exact h
def RelS (C : Cfg) (g : Gh) (s : St) (σ : L2.St) : Prop := s.length = σ.length ∧ ∀ (i : Nat) (x : AV), s[i]? = some (some x) → ∃ v : V, σ[i]? = some (some v) ∧ RelA C g x v
theorem RelS.mono {C : Cfg} {g g' : Gh} {s : St} {σ : L2.St} (r : RelS C g s σ) (e : Ext g g') : RelS C g' s σ := ⟨r.1, fun i x h => let ⟨v, a, b⟩ := r.2 i x h; ⟨v, a, b.mono e⟩⟩
theorem RelS.set {C : Cfg} {g : Gh} {s : St} {σ : L2.St} (r : RelS C g s σ) (i : Nat) {x : AV} {v : V} (h : RelA C g x v) : RelS C g (s.set i (some x)) (σ.set i (some v)) := by
  refine ⟨by simp [r.1], fun j y e => ?_⟩
  by_cases hj : i = j
  · subst hj
    have hl : i < s.length := by
      have := (List.getElem?_eq_some_iff.mp e).1
      simpa using this
    rw [List.getElem?_set_self hl] at e
    cases e
    exact ⟨v, List.getElem?_set_self (by rw [← r.1]; exact hl), h⟩
  · rw [List.getElem?_set_ne hj] at e
    obtain ⟨u, h1, h2⟩ := r.2 j y e
    exact ⟨u, by rw [List.getElem?_set_ne hj]; exact h1, h2⟩

/-- the reading of an expression's meaning: N is what is wanted of an error -/
def tE (C : Cfg) (φ : Fn) (f : EF) (N : Nat → Hp → Prop) : TE := fun σ H Q => ∃ g s h, Rep C g h H ∧ RelS C g s σ ∧ okG C g (f φ s h) (fun x g' _ H' => ∀ v, RelA C g' x v → Q v H') N
def tAr (C : Cfg) (φ : Fn) (f : AF) (N : Nat → Hp → Prop) : TA := fun σ H Q => ∃ g s h, Rep C g h H ∧ RelS C g s σ ∧ okG C g (f φ s h) (fun x g' _ H' => ∀ v, RelL C g' x v → Q v H') N
def tB (C : Cfg) (φ : Fn) (f : EF) (N : Nat → Hp → Prop) : TT := fun σ H Q => ∃ g s h, Rep C g h H ∧ RelS C g s σ ∧ okG C g (f φ s h) (fun x g' _ H' => ∃ b, x = .bl b ∧ Q b H') N
/-- an error's wish, as the layer says it -/
def wX (C : Cfg) (N : Nat → Hp → Prop) : WX := fun cls d σ H => ∃ c, cls = .ref (C.cA c) ∧ N c H

/-- what holds where a piece of the text stands -/
structure At (C : Cfg) (X : Cx) : Prop where
  K : X.K = C.K
  calm : X.calm = true
  nd : X.N.Nodup
  hu : X.A.units + 65 < cLine
structure SE (C : Cfg) (φ : Fn) (X : Cx) (e : Expr) (f : EF) : Prop where
  run : ∀ N, Takes X (wX C N) → PE X e (tE C φ f N)
/-- as a test -/
structure SB (C : Cfg) (φ : Fn) (X : Cx) (e : Expr) (f : EF) : Prop where
  run : ∀ N, Takes X (wX C N) → PT X e (tB C φ f N)
structure SA (C : Cfg) (φ : Fn) (X : Cx) (e : List Expr) (f : AF) : Prop where
  run : ∀ N, Takes X (wX C N) → PA X e (tAr C φ f N)

section
variable {C : Cfg} {φ : Fn} {X : Cx}
/-- one piece, and what comes behind it -/
theorem go {α : Type} {g : Gh} {s : St} {h : AH} {σ : L2.St} {H : Hp} {a : EF} {N : Nat → Hp → Prop} {k : AV → AH → Out α} {K : α → Gh → AH → Hp → Prop} {P : V → Hp → Prop} (r : Rep C g h H) (rs : RelS C g s σ)
    (hok : okG C g ((a φ s h).bind k) K N) (hP : ∀ g1 h1 x cx H1, Ext g g1 → Rep C g1 h1 H1 → RelA C g1 x cx → okG C g1 (k x h1) K N → P cx H1) : tE C φ a N σ H P := by
  refine ⟨g, s, h, r, rs, ?_⟩
  cases e : a φ s h with
  | ok x h1 =>
    rw [e] at hok
    exact fun g' H' e1 r1 v rv => hP g' h1 x v H' e1 r1 rv (okG.ext hok e1)
  | exc c h1 => rw [e] at hok; exact hok
  | stuck => rw [e] at hok; exact hok
theorem goA {α : Type} {g : Gh} {s : St} {h : AH} {σ : L2.St} {H : Hp} {a : AF} {N : Nat → Hp → Prop} {k : List AV → AH → Out α} {K : α → Gh → AH → Hp → Prop} {P : List V → Hp → Prop} (r : Rep C g h H) (rs : RelS C g s σ)
    (hok : okG C g ((a φ s h).bind k) K N) (hP : ∀ g1 h1 x cx H1, Ext g g1 → Rep C g1 h1 H1 → RelL C g1 x cx → okG C g1 (k x h1) K N → P cx H1) : tAr C φ a N σ H P := by
  refine ⟨g, s, h, r, rs, ?_⟩
  cases e : a φ s h with
  | ok x h1 =>
    rw [e] at hok
    exact fun g' H' e1 r1 v rv => hP g' h1 x v H' e1 r1 rv (okG.ext hok e1)
  | exc c h1 => rw [e] at hok; exact hok
  | stuck => rw [e] at hok; exact hok
theorem tst_bl2 {α : Type} {x : AV} {a b : Out α} {g : Gh} {K : α → Gh → AH → Hp → Prop} {N : Nat → Hp → Prop} (h : okG C g (tst x a b) K N) : ∃ c, x = .bl c ∧ okG C g (if c = true then a else b) K N := by
  cases x <;> first | exact ⟨_, rfl, by rw [tst_bl] at h; exact h⟩ | exact False.elim h
theorem goB {α : Type} {g : Gh} {s : St} {h : AH} {σ : L2.St} {H : Hp} {a : EF} {N : Nat → Hp → Prop} {ka kb : AH → Out α} {K : α → Gh → AH → Hp → Prop} {P : Bool → Hp → Prop} (r : Rep C g h H) (rs : RelS C g s σ)
    (hok : okG C g ((a φ s h).bind fun x h1 => tst x (ka h1) (kb h1)) K N) (hP : ∀ g1 h1 b H1, Ext g g1 → Rep C g1 h1 H1 → okG C g1 (if b = true then ka h1 else kb h1) K N → P b H1) : tB C φ a N σ H P := by
  refine ⟨g, s, h, r, rs, ?_⟩
  cases e : a φ s h with
  | ok x h1 =>
    rw [e] at hok
    intro g' H' e1 r1
    obtain ⟨c, rfl, hc⟩ := tst_bl2 (okG.ext hok e1)
    exact ⟨c, rfl, hP g' h1 c H' e1 r1 hc⟩
  | exc c h1 => rw [e] at hok; exact hok
  | stuck => rw [e] at hok; exact hok
/-- behind the last piece -/
theorem okG.fin {α : Type} {g : Gh} {h : AH} {H : Hp} {x : α} {K : α → Gh → AH → Hp → Prop} {N : Nat → Hp → Prop} (hok : okG C g (.ok x h) K N) (r : Rep C g h H) : K x g h H := hok g H (Ext.refl g) r

/-! ### names, constants -/
theorem se_const {e : Expr} {x : AV} {v : V} (h : PE X e (L2.tC v)) (hr : ∀ g, RelA C g x v) : SE C φ X e (eC x) := ⟨fun N _ => h.imp fun σ H Q ⟨g, s, hh, r, rs, ok⟩ => ok g H (Ext.refl g) r v (hr g)⟩
theorem se_int {i : Int} {j : Nat} {pos : Pos} : SE C φ X (.Constant (.int i) j pos) (eC (.int i)) := se_const L2.pe_int fun _ => by simp [RelA]
theorem se_bool {b : Bool} {j : Nat} {pos : Pos} : SE C φ X (.Constant (.bool b) j pos) (eC (.bl b)) := se_const L2.pe_bl fun _ => by simp [RelA]
theorem se_none {j : Nat} {pos : Pos} : SE C φ X (.Constant .none j pos) (eC .non) := se_const L2.pe_non fun _ => by simp [RelA]
theorem se_str {x : Str} {t : Tx} {j : Nat} {pos : Pos} (h : x = toS t) : SE C φ X (.Constant (.str x) j pos) (eC (.str t)) := se_const L2.pe_str fun _ => by simp [RelA, h]
theorem se_var {i : Nat} {x : Str} {pos : Pos} (hN : X.N[i]? = some x) (hv : L2.Vis X.env.scope x) (hd : (x == ("__debug__" : Str)) = false) (hcd : (x == ("__classdict__" : Str)) = false) : SE C φ X (.Name x pos) (eV i) := by
  refine ⟨fun N _ => (L2.pe_var hN hv hd hcd).imp fun σ H Q ⟨g, s, hh, r, rs, ok⟩ => ?_⟩
  unfold eV at ok
  cases e : s[i]? with
  | none => rw [e] at ok; exact False.elim ok
  | some o =>
    cases o with
    | none => rw [e] at ok; exact False.elim ok
    | some x =>
      rw [e] at ok
      obtain ⟨v, h1, h2⟩ := rs.2 i x e
      exact ⟨v, h1, ok.fin r v h2⟩

/-! ### operators -/
/-- an operator of two values, by its readings -/
structure BinR (C : Cfg) (r : L2.R2) (f : AV → AV → AH → Out AV) : Prop where
  run : ∀ g h H x y cx cy (Q : VK) (N : Nat → Hp → Prop), Rep C g h H → RelA C g x cx → RelA C g y cy → okG C g (f x y h) (fun x g' _ H' => ∀ v, RelA C g' x v → Q v H') N → r cx cy H Q
theorem se_op2 {a b e : Expr} {fa fb : EF} {r : L2.R2} {f : AV → AV → AH → Out AV} (hp : ∀ {ta tb : TE}, PE X a ta → PE X b tb → PE X e (tOp r ta tb)) (B : BinR C r f) (ha : SE C φ X a fa) (hb : SE C φ X b fb) :
    SE C φ X e (fun φ s h => (fa φ s h).bind fun x h1 => (fb φ s h1).bind fun y h2 => f x y h2) := by
  refine ⟨fun N tk => (hp (ha.run N tk) (hb.run N tk)).imp fun σ H Q ⟨g, s, h, r, rs, ok⟩ => ?_⟩
  exact go r rs ok fun g1 h1 x cx H1 e1 r1 rx ok1 => go r1 (rs.mono e1) ok1 fun g2 h2 y cy H2 e2 r2 ry ok2 => B.run g2 h2 H2 x y cx cy Q N r2 (rx.mono e2) ry ok2
theorem RelA.int {g : Gh} {i : Int} {v : V} (h : RelA C g (.int i) v) : v = .int i := by simpa only [RelA] using h
theorem RelA.str {g : Gh} {i : Tx} {v : V} (h : RelA C g (.str i) v) : v = .str (toS i) := by simpa only [RelA] using h
theorem RelA.bl {g : Gh} {i : Bool} {v : V} (h : RelA C g (.bl i) v) : v = .bl i := by simpa only [RelA] using h
theorem RelA.mkI {g : Gh} {i : Int} : RelA C g (.int i) (.int i) := by simp only [RelA]
theorem RelA.mkB {g : Gh} {i : Bool} : RelA C g (.bl i) (.bl i) := by simp only [RelA]
theorem RelA.mkS {g : Gh} {i : Tx} : RelA C g (.str i) (.str (toS i)) := by simp only [RelA]

/-- a list or tuple, as it is read -/
theorem seq_at {g : Gh} {h : AH} {H : Hp} {x : AV} {cx : V} {xs : List AV} (r : Rep C g h H) (rx : RelA C g x cx) (e : seqOf x h = some xs) :
    ∃ a vs, cx = .ref a ∧ RelL C g xs vs ∧ ((H a = some (.lst vs) ∧ ∀ ys, x ≠ .tup ys) ∨ (SqT C.K H a vs ∧ x = .tup xs)) := by
  cases x with
  | tup ys =>
    simp only [seqOf, Option.some.injEq] at e
    subst e
    simp only [RelA] at rx
    obtain ⟨a, vs, h1, h2, h3⟩ := rx
    exact ⟨a, vs, h1, h3, .inr ⟨SqT.mono (fun b o q => (r.fx b o q).1) h2, rfl⟩⟩
  | lst ys =>
    simp only [seqOf, Option.some.injEq] at e
    subst e
    simp only [RelA] at rx
    obtain ⟨a, vs, h1, h2, h3⟩ := rx
    exact ⟨a, vs, h1, h3, .inl ⟨(r.fx _ _ h2).1, fun _ z => nomatch z⟩⟩
  | ref i =>
    simp only [seqOf] at e
    split at e
    · rename_i ys hg
      simp only [Option.some.injEq] at e
      subst e
      simp only [RelA] at rx
      obtain ⟨u, h1, vs, rfl, h3⟩ := r.obj i _ hg
      exact ⟨_, vs, rx.2, h3, .inl ⟨h1, fun _ z => nomatch z⟩⟩
    · cases e
  | _ => simp [seqOf] at e
theorem lst_at {g : Gh} {h : AH} {H : Hp} {x : AV} {cx : V} {xs : List AV} (r : Rep C g h H) (rx : RelA C g x cx) (e : lstOf x h = some xs) :
    ∃ a vs, cx = .ref a ∧ RelL C g xs vs ∧ H a = some (.lst vs) := by
  cases x with
  | lst ys =>
    simp only [lstOf, Option.some.injEq] at e
    subst e
    simp only [RelA] at rx
    obtain ⟨a, vs, h1, h2, h3⟩ := rx
    exact ⟨a, vs, h1, h3, (r.fx _ _ h2).1⟩
  | ref i =>
    simp only [lstOf] at e
    split at e
    · rename_i ys hg
      simp only [Option.some.injEq] at e
      subst e
      simp only [RelA] at rx
      obtain ⟨u, h1, vs, rfl, h3⟩ := r.obj i _ hg
      exact ⟨_, vs, rx.2, h3, h1⟩
    · cases e
  | _ => simp [lstOf] at e
theorem seq_SqLT {K : PySem.W.Frag} {H : Hp} {a : Addr} {vs : List V} {P Q' : Prop} (h : (H a = some (.lst vs) ∧ P) ∨ (SqT K H a vs ∧ Q')) : SqL K H a vs ∨ SqT K H a vs := h.elim (fun z => .inl (SqL.of z.1)) fun z => .inr z.1
/-- a list made -/
theorem mk_at {g : Gh} {h : AH} {H : Hp} {m : Bool} {xs : List AV} {vs : List V} {Q : VK} {N : Nat → Hp → Prop} (r : Rep C g h H) (rl : RelL C g xs vs) (ok : okG C g (mk m xs h) (fun x g' _ H' => ∀ v, RelA C g' x v → Q v H') N) :
    ∀ p, H p = none → Q (.ref p) (upd H p (.lst vs)) := fun p hp => by
  unfold mk at ok
  cases m with
  | false =>
    have r1 := r.more hp (o := .lst vs) trivial
    refine ok _ _ (r.ext_more hp _) r1 _ ?_
    simp only [RelA]
    exact ⟨p, vs, rfl, upd_same, rl.mono (r.ext_more hp _)⟩
  | true =>
    have r1 := r.new hp (o := .lst xs) (u := .lst vs) ⟨vs, rfl, rl.mono r.ext_obj⟩
    refine ok _ _ r.ext_obj r1 _ ?_
    simp only [RelA]
    refine ⟨?_, ?_⟩
    · show h.length < g.n + 1
      rw [r.n]; exact Nat.lt_succ_self _
    · show V.ref p = V.ref (if h.length = g.n then p else g.at_ h.length)
      rw [if_pos r.n.symm]
theorem mkLst_at {g : Gh} {h : AH} {H : Hp} {m : Bool} {xs : List AV} {vs : List V} {Q : VK} {N : Nat → Hp → Prop} (r : Rep C g h H) (rl : RelL C g xs vs) (ok : okG C g (mkLst m xs h) (fun x g' _ H' => ∀ v, RelA C g' x v → Q v H') N) :
    vs.length ≤ sizeLine ∧ ∀ p, H p = none → Q (.ref p) (upd H p (.lst vs)) := by
  unfold mkLst at ok
  split at ok
  · rename_i hz
    exact ⟨by rw [← rl.len]; exact hz, mk_at r rl ok⟩
  · exact False.elim ok
/-- a tuple made -/
theorem tup_at {g : Gh} {h : AH} {H : Hp} {xs : List AV} {vs : List V} {Q : VK} {N : Nat → Hp → Prop} (r : Rep C g h H) (rl : RelL C g xs vs) (ok : okG C g (.ok (.tup xs) h) (fun x g' _ H' => ∀ v, RelA C g' x v → Q v H') N) :
    ∀ p, H p = none → Q (.ref p) (upd H p (.tup vs)) := fun p hp => by
  refine ok _ _ (r.ext_more hp _) (r.more hp (o := .tup vs) trivial) _ ?_
  simp only [RelA]
  exact ⟨p, vs, rfl, SqT.of upd_same, rl.mono (r.ext_more hp _)⟩
theorem SqT.of' {K : PySem.W.Frag} {H : Hp} {a : Addr} {xs : List V} (h : H a = some (.tup xs)) : SqT K H a xs := .inl (.inl h)

/-! ### + - * // % ** -/
def okP {C : Cfg} {g : Gh} {h : AH} {H : Hp} {v : AV} {cv : V} {Q : VK} {N : Nat → Hp → Prop} (r : Rep C g h H) (ok : okG C g (.ok v h) (fun x g' _ H' => ∀ v, RelA C g' x v → Q v H') N) (rv : RelA C g v cv) : Q cv H := ok.fin r cv rv
theorem int_op {op : BO} {G : Int → Int → Prop} {k : Int → Int → Int} (hk : ∀ i j n, intOp op i j = some n → G i j ∧ n = k i j) :
    ∀ g h H i j cx cy (Q : VK) (N : Nat → Hp → Prop) (_ : Rep C g h H) (_ : RelA C g (.int i) cx) (_ : RelA C g (.int j) cy),
      okG C g (match intOp op i j with | some k => Out.ok (AV.int k) h | none => .stuck) (fun x g' _ H' => ∀ v, RelA C g' x v → Q v H') N → L2.rI G (fun i j => .int (k i j)) cx cy H Q := by
  intro g h H i j cx cy Q N r rx ry ok
  cases e : intOp op i j with
  | none => rw [e] at ok; exact False.elim ok
  | some n =>
    rw [e] at ok
    obtain ⟨h1, rfl⟩ := hk i j n e
    exact ⟨i, j, rx.int, ry.int, h1, okP r ok .mkI⟩
def rAdd (K : PySem.W.Frag) : L2.R2 := fun x y H Q => L2.rI0 (fun i j => .int (i + j)) x y H Q ∨
  (∃ i j, x = .str i ∧ y = .str j ∧ i.length + j.length ≤ sizeLine ∧ Q (.str (i ++ j)) H) ∨ L2.rCat x y H Q ∨ L2.rCatA K x y H Q
theorem op_addA : OpR X (binaryOp .Add) (rAdd X.K) := .or L2.op_add (.or L2.op_add_str (.or L2.op_cat L2.op_catA))

theorem neg_of {P : Prop} (h : False) : P := h.elim
theorem toS_append (a b : Tx) : toS a ++ toS b = toS (a ++ b) := by
  show (⟨a.toArray ++ b.toArray⟩ : Str) = ⟨(a ++ b).toArray⟩
  congr 1
  simp
theorem add_run (hK : X.K = C.K) (m : Bool) : BinR C (rAdd X.K) (binA m .add) := by
  refine ⟨fun g h H x y cx cy Q N r rx ry ok => ?_⟩
  unfold binA at ok
  split at ok
  · exact .inl (let ⟨i, j, a, b, _, c⟩ := int_op (op := .add) (G := fun _ _ => True) (k := fun i j => i + j) (fun i j n e => ⟨trivial, by simpa [intOp] using e.symm⟩) g h H _ _ cx cy Q N r rx ry ok; ⟨i, j, a, b, c⟩)
  · rename_i a b
    simp only at ok
    split at ok
    · rename_i hz
      refine .inr (.inl ⟨toS a, toS b, rx.str, ry.str, by rw [toS_len, toS_len]; exact hz, ?_⟩)
      rw [toS_append]
      exact okP r ok .mkS
    · exact ok.elim
  · rename_i a b
    simp only at ok
    split at ok
    · rename_i hz
      obtain ⟨p, vs, rfl, rl, h1 | h1⟩ := seq_at (xs := a) r rx rfl
      · exact absurd rfl (h1.2 a)
      · obtain ⟨q, us, rfl, rl2, h2 | h2⟩ := seq_at (xs := b) r ry rfl
        · exact absurd rfl (h2.2 b)
        · have T := tup_at r (rl.append rl2) ok
          have l1 := rl.len
          have l2 := rl2.len
          rw [hK]
          refine .inr (.inr (.inr ⟨p, q, vs, us, rfl, rfl, h1.1, h2.1, by rw [← l1, ← l2]; exact hz.2.2, fun e => ?_, fun e1 e2 => ?_, fun _ _ => T⟩))
          · subst e
            have : a = [] := by cases a with | nil => rfl | cons _ _ => simp at l1
            subst this
            exact okP r ok ry
          · subst e2
            have : b = [] := by cases b with | nil => rfl | cons _ _ => simp at l2
            subst this
            exact okP r ok (by rw [List.append_nil]; exact rx)
    · exact ok.elim
  · exact ok.elim
  · simp only at ok
    split at ok
    · rename_i a b e1 e2
      split at ok
      · obtain ⟨p, vs, rfl, rl, h1⟩ := lst_at r rx e1
        obtain ⟨q, us, rfl, rl2, h2⟩ := lst_at r ry e2
        obtain ⟨l, T⟩ := mkLst_at r (rl.append rl2) ok
        exact .inr (.inr (.inl ⟨p, q, vs, us, rfl, rfl, h1, h2, by rw [List.length_append] at l; exact l, T⟩))
      · exact ok.elim
    · exact ok.elim
theorem sub_run (m : Bool) : BinR C (L2.rI0 fun i j => .int (i - j)) (binA m .sub) := by
  refine ⟨fun g h H x y cx cy Q N r rx ry ok => ?_⟩
  unfold binA at ok
  split at ok
  · exact let ⟨i, j, a, b, _, c⟩ := int_op (op := .sub) (G := fun _ _ => True) (k := fun i j => i - j) (fun i j n e => ⟨trivial, by simpa [intOp] using e.symm⟩) g h H _ _ cx cy Q N r rx ry ok; ⟨i, j, a, b, c⟩
  all_goals exact ok.elim
theorem div_run (m : Bool) : BinR C (L2.rI L2.CDivN fun i j => .int (i.fdiv j)) (binA m .div) := by
  refine ⟨fun g h H x y cx cy Q N r rx ry ok => ?_⟩
  unfold binA at ok
  split at ok
  · exact int_op (op := .div) (fun i j n e => by
      unfold intOp at e
      simp only at e
      split at e
      · rename_i hz
        exact ⟨hz, by simpa using e.symm⟩
      · cases e) g h H _ _ cx cy Q N r rx ry ok
  all_goals exact ok.elim
theorem mod_run (m : Bool) : BinR C (L2.rI (fun _ j => j ≠ 0) fun i j => .int (i.fmod j)) (binA m .mod) := by
  refine ⟨fun g h H x y cx cy Q N r rx ry ok => ?_⟩
  unfold binA at ok
  split at ok
  · exact int_op (op := .mod) (fun i j n e => by
      unfold intOp at e
      simp only at e
      split at e
      · rename_i hz
        exact ⟨hz, by simpa using e.symm⟩
      · cases e) g h H _ _ cx cy Q N r rx ry ok
  all_goals exact ok.elim
theorem pow_run (m : Bool) : BinR C (L2.rI L2.CPow fun i j => .int (i ^ j.toNat)) (binA m .pow) := by
  refine ⟨fun g h H x y cx cy Q N r rx ry ok => ?_⟩
  unfold binA at ok
  split at ok
  · exact int_op (op := .pow) (fun i j n e => by
      unfold intOp at e
      simp only at e
      split at e
      · rename_i hz
        exact ⟨hz, by simpa using e.symm⟩
      · cases e) g h H _ _ cx cy Q N r rx ry ok
  all_goals exact ok.elim
theorem mul_run (m : Bool) : BinR C (fun x y H Q => L2.rI L2.CMul (fun i j => .int (i * j)) x y H Q ∨ L2.rRep x y H Q) (binA m .mul) := by
  refine ⟨fun g h H x y cx cy Q N r rx ry ok => ?_⟩
  unfold binA at ok
  split at ok
  · exact .inl (int_op (op := .mul) (fun i j n e => by
      unfold intOp at e
      simp only at e
      split at e
      · rename_i hz
        refine ⟨?_, by simpa using e.symm⟩
        simp only [small, Bool.or_eq_true, decide_eq_true_eq] at hz
        exact hz
      · cases e) g h H _ _ cx cy Q N r rx ry ok)
  · exact ok.elim
  · exact ok.elim
  · skip
    simp only at ok
    split at ok
    · rename_i xs e
      split at ok
      · rename_i hz
        obtain ⟨p, vs, rfl, rl, h1⟩ := lst_at r rx e
        obtain ⟨_, T⟩ := mkLst_at r (rl.rep _) ok
        exact .inr ⟨p, _, vs, rfl, ry.int, h1, hz.1, hz.2.1, by rw [← rl.len]; exact hz.2.2, T⟩
      · exact ok.elim
    · exact ok.elim
  · exact ok.elim

/-! ### comparisons -/
theorem someB_at {g : Gh} {h : AH} {H : Hp} {o : Option Bool} {Q : VK} {N : Nat → Hp → Prop} (r : Rep C g h H) (ok : okG C g (someB o h) (fun x g' _ H' => ∀ v, RelA C g' x v → Q v H') N) : ∃ b, o = some b ∧ Q (.bl b) H := by
  cases o with
  | none => exact ok.elim
  | some b => exact ⟨b, rfl, okP r ok .mkB⟩
theorem RelL.intsOf {g : Gh} : ∀ {xs : List AV} {vs : List V}, RelL C g xs vs → intLL xs = true → ∃ ns : List Int, xs = ns.map AV.int ∧ vs = ns.map V.int
  | [], _, h, _ => by rw [RelL.nil_iff] at h; exact ⟨[], rfl, h⟩
  | x :: xs, _, h, e => by
    cases x <;> simp only [intLL, Bool.false_eq_true] at e
    rw [RelL.cons_iff] at h
    obtain ⟨v, r, rfl, h1, h2⟩ := h
    obtain ⟨ns, rfl, rfl⟩ := RelL.intsOf h2 e
    exact ⟨_ :: ns, rfl, by rw [h1.int]; rfl⟩
theorem ltLL_lex : ∀ ns ms : List Int, ltLL (ns.map .int) (ms.map .int) = HT.lexLt ns ms
  | [], [] => rfl
  | [], _ :: _ => rfl
  | _ :: _, [] => rfl
  | x :: xs, y :: ys => by
    simp only [List.map_cons, ltLL, HT.lexLt]
    rw [ltLL_lex xs ys]
def rLtA (K : PySem.W.Frag) : L2.R2 := fun x y H Q => L2.rI0 (fun i j => .bl (decide (i < j))) x y H Q ∨ (∃ i j, x = .str i ∧ y = .str j ∧ Q (.bl (decide (i.cps.toList < j.cps.toList))) H) ∨ L2.rLtT K x y H Q
theorem op_ltA (hu : X.A.units < cLine) : OpR X (compareOp .Lt) (rLtA X.K) := .or L2.op_lt (.or L2.op_lt_str (L2.op_ltT hu))
theorem lt_run (hK : X.K = C.K) : BinR C (rLtA X.K) (cmpA .lt) := by
  refine ⟨fun g h H x y cx cy Q N r rx ry ok => ?_⟩
  obtain ⟨b, e, q⟩ := someB_at r ok
  unfold ltA at e
  split at e
  · cases e
    exact .inl ⟨_, _, rx.int, ry.int, q⟩
  · cases e
    refine .inr (.inl ⟨_, _, rx.str, ry.str, ?_⟩)
    rw [toS_list, toS_list]
    exact q
  · rename_i a b'
    split at e
    · rename_i hz
      cases e
      simp only [Bool.and_eq_true] at hz
      obtain ⟨p, vs, rfl, rl, h1 | h1⟩ := seq_at (xs := a) r rx rfl
      · exact absurd rfl (h1.2 a)
      · obtain ⟨q', us, rfl, rl2, h2 | h2⟩ := seq_at (xs := b') r ry rfl
        · exact absurd rfl (h2.2 b')
        · obtain ⟨ns, e1, rfl⟩ := rl.intsOf hz.1
          obtain ⟨ms, e2, rfl⟩ := rl2.intsOf hz.2
          rw [e1, e2, ltLL_lex] at q
          rw [hK]
          exact .inr (.inr ⟨p, q', ns, ms, rfl, rfl, h1.1, h2.1, q⟩)
    · cases e
  · cases e
theorem lexAt_shift (e r : Nat → Bool) (z : Bool) : ∀ k i, Ob.lexAt e r z (i + 1) k = Ob.lexAt (fun j => e (j + 1)) (fun j => r (j + 1)) z i k
  | 0, _ => rfl
  | k + 1, i => by
    rw [Ob.lexAt_succ, Ob.lexAt_succ, lexAt_shift e r z k (i + 1)]
theorem lexAt_le : ∀ ns ms : List Int, Ob.lexAt (fun j => decide (ns.getD j 0 = ms.getD j 0)) (fun j => decide (ns.getD j 0 ≤ ms.getD j 0)) (decide (ns.length ≤ ms.length)) 0 (min ns.length ms.length) = !HT.lexLt ms ns
  | [], [] => rfl
  | [], _ :: _ => by simp [Ob.lexAt_zero, HT.lexLt]
  | _ :: _, [] => rfl
  | x :: xs, y :: ys => by
    have e : min (x :: xs).length (y :: ys).length = min xs.length ys.length + 1 := by simp
    rw [e, Ob.lexAt_succ, lexAt_shift]
    have ih := lexAt_le xs ys
    simp only [List.getD_cons_succ, List.getD_cons_zero, List.length_cons, Nat.add_le_add_iff_right, HT.lexLt]
    rw [ih]
    by_cases h : x = y
    · subst h; simp
    · have h' : ¬ y = x := fun z => h z.symm
      simp only [h, h', decide_false, if_false, Bool.false_eq_true]
      by_cases h2 : x ≤ y
      · have : ¬ y < x := by omega
        simp [h2, this]
      · have : y < x := by omega
        simp [h2, this]
def rLeA (K : PySem.W.Frag) : L2.R2 := fun x y H Q => L2.rI0 (fun i j => .bl (decide (i ≤ j))) x y H Q ∨ (∃ i j, x = .str i ∧ y = .str j ∧ Q (.bl (!decide (j.cps.toList < i.cps.toList))) H) ∨ L2.rLeT K x y H Q
theorem op_leA (hu : X.A.units < cLine) : OpR X (compareOp .LtE) (rLeA X.K) := .or L2.op_le (.or L2.op_le_str (L2.op_leT hu))
theorem notO_some {o : Option Bool} {b : Bool} (h : notO o = some b) : ∃ c, o = some c ∧ b = !c := by
  cases o with
  | none => cases h
  | some c => exact ⟨c, rfl, by simpa [notO] using h.symm⟩
theorem dec_le (i j : Int) : (!decide (j < i)) = decide (i ≤ j) := by
  by_cases h : i ≤ j
  · have : ¬ j < i := by omega
    simp [h, this]
  · have : j < i := by omega
    simp [h, this]
theorem le_run (hK : X.K = C.K) : BinR C (rLeA X.K) (cmpA .le) := by
  refine ⟨fun g h H x y cx cy Q N r rx ry ok => ?_⟩
  obtain ⟨b, e, q⟩ := someB_at r ok
  obtain ⟨c, e', hc⟩ := notO_some e
  clear e
  have e := e'
  clear e'
  rw [hc] at q
  clear hc
  unfold ltA at e
  split at e
  · cases e
    rw [dec_le] at q
    exact .inl ⟨_, _, rx.int, ry.int, q⟩
  · cases e
    refine .inr (.inl ⟨_, _, rx.str, ry.str, ?_⟩)
    rw [toS_list, toS_list]
    exact q
  · rename_i a b'
    split at e
    · rename_i hz
      cases e
      simp only [Bool.and_eq_true] at hz
      obtain ⟨p, vs, rfl, rl, h1 | h1⟩ := seq_at (xs := b') r rx rfl
      · exact absurd rfl (h1.2 b')
      · obtain ⟨q', us, rfl, rl2, h2 | h2⟩ := seq_at (xs := a) r ry rfl
        · exact absurd rfl (h2.2 a)
        · obtain ⟨ns, e1, rfl⟩ := rl.intsOf hz.2
          obtain ⟨ms, e2, rfl⟩ := rl2.intsOf hz.1
          rw [e1, e2, ltLL_lex] at q
          rw [hK]
          refine .inr (.inr ⟨p, q', ns, ms, rfl, rfl, h1.1, h2.1, ?_⟩)
          rw [lexAt_le]
          exact q
    · cases e
  · cases e
def rGtA : L2.R2 := fun x y H Q => L2.rI0 (fun i j => .bl (decide (j < i))) x y H Q ∨ (∃ i j, x = .str i ∧ y = .str j ∧ Q (.bl (decide (j.cps.toList < i.cps.toList))) H)
theorem op_gtA : OpR X (compareOp .Gt) rGtA := .or L2.op_gt L2.op_gt_str
theorem gt_run : BinR C rGtA (cmpA .gt) := by
  refine ⟨fun g h H x y cx cy Q N r rx ry ok => ?_⟩
  obtain ⟨b, e, q⟩ := someB_at r ok
  unfold ltS at e
  split at e
  · cases e
    exact .inl ⟨_, _, rx.int, ry.int, q⟩
  · cases e
    refine .inr ⟨_, _, rx.str, ry.str, ?_⟩
    rw [toS_list, toS_list]
    exact q
  · cases e
def rGeA : L2.R2 := fun x y H Q => L2.rI0 (fun i j => .bl (decide (j ≤ i))) x y H Q ∨ (∃ i j, x = .str i ∧ y = .str j ∧ Q (.bl (!decide (i.cps.toList < j.cps.toList))) H)
theorem op_geA : OpR X (compareOp .GtE) rGeA := .or L2.op_ge L2.op_ge_str
theorem ge_run : BinR C rGeA (cmpA .ge) := by
  refine ⟨fun g h H x y cx cy Q N r rx ry ok => ?_⟩
  obtain ⟨b, e, q⟩ := someB_at r ok
  obtain ⟨c, e', hc⟩ := notO_some e
  clear e
  have e := e'
  clear e'
  rw [hc] at q
  clear hc
  unfold ltS at e
  split at e
  · cases e
    rw [dec_le] at q
    exact .inl ⟨_, _, rx.int, ry.int, q⟩
  · cases e
    refine .inr ⟨_, _, rx.str, ry.str, ?_⟩
    rw [toS_list, toS_list]
    exact q
  · cases e

/-! == and != -/
mutual
def toD : AV → PyData
  | .int i => .int i
  | .str s => .str (toS s)
  | .tup xs => .tuple (toDL xs)
  | .lst xs => .list (toDL xs)
  | _ => .none
def toDL : List AV → List PyData
  | [] => []
  | x :: xs => toD x :: toDL xs
end
mutual
theorem toD_lay : ∀ {x : AV}, x.data = true → (toD x).canLay0 = true
  | .non, _ => by simp [toD, PyData.canLay0]
  | .int _, _ => by simp [toD, PyData.canLay0]
  | .str s, h => by
    simp only [AV.data] at h
    simp only [toD, PyData.canLay0, PyData.strOk, toS]
    simpa using h
  | .tup xs, h => by
    simp only [AV.data] at h
    simp only [toD, PyData.canLay0]
    exact toDL_lay h
  | .lst xs, h => by
    simp only [AV.data] at h
    simp only [toD, PyData.canLay0]
    exact toDL_lay h
theorem toDL_lay : ∀ {x : List AV}, AV.dataL x = true → PyData.canLayAll0 (toDL x) = true
  | [], _ => by simp [toDL, PyData.canLayAll0]
  | x :: xs, h => by
    simp only [AV.dataL, Bool.and_eq_true] at h
    simp only [toDL, PyData.canLayAll0, Bool.and_eq_true]
    exact ⟨toD_lay h.1, toDL_lay h.2⟩
end
mutual
theorem toD_dep : ∀ {x : AV}, x.data = true → (toD x).depth = x.dep
  | .non, _ => by simp [toD, PyData.depth, AV.dep]
  | .int _, _ => by simp [toD, PyData.depth, AV.dep]
  | .str s, h => by simp [toD, PyData.depth, AV.dep]
  | .tup xs, h => by
    simp only [AV.data] at h
    simp only [toD, PyData.depth, AV.dep]
    rw [toDL_dep h]
  | .lst xs, h => by
    simp only [AV.data] at h
    simp only [toD, PyData.depth, AV.dep]
    rw [toDL_dep h]
theorem toDL_dep : ∀ {x : List AV}, AV.dataL x = true → PyData.depthAll (toDL x) = AV.depL x
  | [], _ => by simp [toDL, PyData.depthAll, AV.depL]
  | x :: xs, h => by
    simp only [AV.dataL, Bool.and_eq_true] at h
    simp only [toDL, PyData.depthAll, AV.depL]
    rw [toD_dep h.1, toDL_dep h.2]
end
theorem toS_beq (a b : Tx) : (toS a == toS b) = decide (a = b) := by
  by_cases h : a = b
  · subst h; simp
  · have : toS a ≠ toS b := fun z => h (toS_inj z)
    simp [h, this]
mutual
theorem toD_eqv : ∀ {x y : AV}, x.data = true → y.data = true → PyData.eqv (toD x) (toD y) = decide (x = y)
  | .non, y, _, h => by cases y <;> first | (simp [toD, PyData.eqv]; done) | (simp [AV.data] at h; done)
  | .int i, y, _, h => by
    cases y <;> first
      | (simp [toD, PyData.eqv]; done)
      | (simp [AV.data] at h; done)
      | (rename_i j
         simp only [toD, PyData.eqv, AV.int.injEq]
         by_cases e : i = j <;> simp [e])
  | .str s, y, _, h => by
    cases y <;> first
      | (simp [AV.data] at h; done)
      | (simp only [toD, PyData.eqv, AV.str.injEq]; exact toS_beq _ _)
      | (simp [toD, PyData.eqv]; done)
  | .tup xs, y, h0, h => by
    simp only [AV.data] at h0
    cases y <;> first
      | (simp only [AV.data] at h; simp only [toD, PyData.eqv, AV.tup.injEq]; exact toDL_eqv h0 h)
      | (simp [toD, PyData.eqv]; done)
      | (simp [AV.data] at h; done)
  | .lst xs, y, h0, h => by
    simp only [AV.data] at h0
    cases y <;> first
      | (simp only [AV.data] at h; simp only [toD, PyData.eqv, AV.lst.injEq]; exact toDL_eqv h0 h)
      | (simp [toD, PyData.eqv]; done)
      | (simp [AV.data] at h; done)
theorem toDL_eqv : ∀ {x y : List AV}, AV.dataL x = true → AV.dataL y = true → PyData.eqvAll (toDL x) (toDL y) = decide (x = y)
  | [], [], _, _ => by simp [toDL, PyData.eqvAll]
  | [], _ :: _, _, _ => by simp [toDL, PyData.eqvAll]
  | _ :: _, [], _, _ => by simp [toDL, PyData.eqvAll]
  | x :: xs, y :: ys, h, h' => by
    simp only [AV.dataL, Bool.and_eq_true] at h h'
    simp only [toDL, PyData.eqvAll, List.cons.injEq]
    rw [toD_eqv h.1 h'.1, toDL_eqv h.2 h'.2]
    simp
end
mutual
theorem toD_dp {g : Gh} {H : Hp} (k : ∀ a o, g.fx a = some o → H a = some o) : ∀ {x : AV} {v : V}, x.data = true → RelA C g x v → L2.Dp C.K H v (toD x)
  | .non, _, _, h => by simp only [RelA] at h; subst h; exact .non
  | .int _, _, _, h => by simp only [RelA] at h; subst h; exact .int _
  | .str _, _, _, h => by simp only [RelA] at h; subst h; exact .str _
  | .tup xs, _, d, h => by
    simp only [AV.data] at d
    simp only [RelA] at h
    obtain ⟨a, vs, rfl, h2, h3⟩ := h
    exact .tup (SqT.mono k h2) (toDL_dp k d h3)
  | .lst xs, _, d, h => by
    simp only [AV.data] at d
    simp only [RelA] at h
    obtain ⟨a, vs, rfl, h2, h3⟩ := h
    exact .lst (SqL.of (k _ _ h2)) (toDL_dp k d h3)
theorem toDL_dp {g : Gh} {H : Hp} (k : ∀ a o, g.fx a = some o → H a = some o) : ∀ {x : List AV} {v : List V}, AV.dataL x = true → RelL C g x v → L2.DpAll C.K H v (toDL x)
  | [], _, _, h => by rw [RelL.nil_iff] at h; subst h; exact .nil
  | x :: xs, _, d, h => by
    simp only [AV.dataL, Bool.and_eq_true] at d
    rw [RelL.cons_iff] at h
    obtain ⟨v, r, rfl, h1, h2⟩ := h
    exact .cons (toD_dp k d.1 h1) (toDL_dp k d.2 h2)
end
theorem shaped_of {x : AV} (d : x.data = true) (h : x.dep ≤ 64) : SeqAt.shaped (toD x) = true := by
  unfold SeqAt.shaped
  rw [toD_lay d, toD_dep d]
  simpa using h
theorem still_dp {g : Gh} {h : AH} {H : Hp} {x a : AV} {cx : V} (r : Rep C g h H) (rx : RelA C g x cx) (e : still x h = some a) (d : a.data = true) : L2.Dp C.K H cx (toD a) := by
  have k : ∀ a o, g.fx a = some o → H a = some o := fun a o e => (r.fx a o e).1
  cases x with
  | ref i =>
    simp only [still] at e
    split at e
    · rename_i ys hg
      simp only [Option.some.injEq] at e
      subst e
      simp only [RelA] at rx
      obtain ⟨u, h1, vs, rfl, h3⟩ := r.obj i _ hg
      rw [rx.2]
      simp only [AV.data] at d
      exact .lst (SqL.of h1) (toDL_dp k d h3)
    · cases e
  | _ =>
    simp only [still, Option.some.injEq] at e
    subst e
    exact toD_dp k d rx
theorem still_flat {g : Gh} {h : AH} {x a : AV} {cx : V} (rx : RelA C g x cx) (e : still x h = some a) (d : a.flat = true ∨ ∃ b, a = .bl b) : x = a := by
  cases x with
  | ref i =>
    simp only [still] at e
    split at e
    · simp only [Option.some.injEq] at e
      subst e
      rcases d with d | ⟨b, d⟩
      · simp [AV.flat] at d
      · cases d
    · cases e
  | _ => simpa only [still, Option.some.injEq] using e
theorem flat_eq {g : Gh} {x y : AV} {cx cy : V} (rx : RelA C g x cx) (ry : RelA C g y cy) (hx : x.flat = true) (hy : y.flat = true) : L2.scal cx cy = true ∧ decide (cx = cy) = decide (x = y) := by
  cases x <;> simp only [AV.flat, Bool.false_eq_true] at hx <;> cases y <;> simp only [AV.flat, Bool.false_eq_true] at hy <;> simp only [RelA] at rx ry <;> subst rx <;> subst ry <;> refine ⟨rfl, ?_⟩
  all_goals first | (simp; done) | skip
  rename_i a b
  simp only [V.str.injEq, AV.str.injEq]
  by_cases e : a = b
  · simp [e]
  · have : toS a ≠ toS b := fun z => e (toS_inj z)
    simp [e, this]
def rEqA (K : PySem.W.Frag) : L2.R2 := fun x y H Q => L2.rEq x y H Q ∨ L2.rEqD K x y H Q
def rNeA (K : PySem.W.Frag) : L2.R2 := fun x y H Q => L2.rNe x y H Q ∨ L2.rNeD K x y H Q
theorem op_eqA (hu : X.A.units + 64 < cLine) : OpR X (compareOp .Eq) (rEqA X.K) := .or L2.op_eq (L2.op_eqD hu)
theorem op_neA (hu : X.A.units + 64 < cLine) : OpR X (compareOp .NotEq) (rNeA X.K) := .or L2.op_ne (L2.op_neD hu)
theorem eqA_at {g : Gh} {h : AH} {H : Hp} {x y a b : AV} {cx cy : V} {c : Bool} (r : Rep C g h H) (rx : RelA C g x cx) (ry : RelA C g y cy) (e1 : still x h = some a) (e2 : still y h = some b) (e : eqA a b = some c) :
    (L2.scal cx cy = true ∧ decide (cx = cy) = c) ∨ ∃ d d', L2.Dp C.K H cx d ∧ L2.Dp C.K H cy d' ∧ SeqAt.shaped d = true ∧ SeqAt.shaped d' = true ∧ PyData.eqv d d' = c := by
  unfold eqA at e
  split at e
  · rename_i p q
    obtain rfl := still_flat rx e1 (.inr ⟨_, rfl⟩)
    obtain rfl := still_flat ry e2 (.inr ⟨_, rfl⟩)
    rw [rx.bl, ry.bl]
    simp only [Option.some.injEq] at e
    left
    refine ⟨rfl, ?_⟩
    rw [← e, L2.dec_bl]
  · obtain rfl := still_flat rx e1 (.inr ⟨_, rfl⟩)
    obtain rfl := still_flat ry e2 (.inl rfl)
    rw [rx.bl, ry.str]
    simp only [Option.some.injEq] at e
    exact .inl ⟨rfl, by rw [← e]; rfl⟩
  · obtain rfl := still_flat rx e1 (.inl rfl)
    obtain rfl := still_flat ry e2 (.inr ⟨_, rfl⟩)
    rw [rx.str, ry.bl]
    simp only [Option.some.injEq] at e
    exact .inl ⟨rfl, by rw [← e]; rfl⟩
  · obtain rfl := still_flat rx e1 (.inr ⟨_, rfl⟩)
    obtain rfl := still_flat ry e2 (.inl rfl)
    rw [rx.bl, show cy = .non by simpa only [RelA] using ry]
    simp only [Option.some.injEq] at e
    exact .inl ⟨rfl, by rw [← e]; rfl⟩
  · obtain rfl := still_flat rx e1 (.inl rfl)
    obtain rfl := still_flat ry e2 (.inr ⟨_, rfl⟩)
    rw [ry.bl, show cx = .non by simpa only [RelA] using rx]
    simp only [Option.some.injEq] at e
    exact .inl ⟨rfl, by rw [← e]; rfl⟩
  · split at e
    · rename_i hz
      simp only [Option.some.injEq] at e
      simp only [Bool.or_eq_true, Bool.and_eq_true, decide_eq_true_eq] at hz
      rcases hz with hz | hz
      · obtain rfl := still_flat rx e1 (.inl hz.1)
        obtain rfl := still_flat ry e2 (.inl hz.2)
        obtain ⟨h1, h2⟩ := flat_eq rx ry hz.1 hz.2
        exact .inl ⟨h1, h2.trans e⟩
      · exact .inr ⟨_, _, still_dp r rx e1 hz.1.1.1, still_dp r ry e2 hz.1.1.2, shaped_of hz.1.1.1 hz.1.2, shaped_of hz.1.1.2 hz.2, (toD_eqv hz.1.1.1 hz.1.1.2).trans e⟩
    · cases e
theorem eq_run (hK : X.K = C.K) : BinR C (rEqA X.K) (cmpA .eq) := by
  refine ⟨fun g h H x y cx cy Q N r rx ry ok => ?_⟩
  simp only [cmpA] at ok
  split at ok
  · rename_i a b e1 e2
    obtain ⟨c, e, q⟩ := someB_at r ok
    rw [hK]
    rcases eqA_at r rx ry e1 e2 e with ⟨h1, h2⟩ | ⟨d, d', h1, h2, h3, h4, h5⟩
    · exact .inl ⟨h1, by rw [h2]; exact q⟩
    · exact .inr ⟨d, d', h1, h2, h3, h4, by rw [h5]; exact q⟩
  · exact ok.elim
theorem ne_run (hK : X.K = C.K) : BinR C (rNeA X.K) (cmpA .ne) := by
  refine ⟨fun g h H x y cx cy Q N r rx ry ok => ?_⟩
  simp only [cmpA] at ok
  split at ok
  · rename_i a b e1 e2
    obtain ⟨c', e', q⟩ := someB_at r ok
    obtain ⟨c, e, hc⟩ := notO_some e'
    rw [hc] at q
    rw [hK]
    rcases eqA_at r rx ry e1 e2 e with ⟨h1, h2⟩ | ⟨d, d', h1, h2, h3, h4, h5⟩
    · exact .inl ⟨h1, by rw [h2]; exact q⟩
    · exact .inr ⟨d, d', h1, h2, h3, h4, by rw [h5]; exact q⟩
  · exact ok.elim
theorem non_iff {g : Gh} {x : AV} {cx : V} (rx : RelA C g x cx) : decide (cx = .non) = decide (x = .non) := by
  cases x <;> simp only [RelA] at rx
  case non => subst rx; rfl
  case bl => subst rx; rfl
  case int => subst rx; rfl
  case str => subst rx; rfl
  case ref => rw [rx.2]; rfl
  all_goals
    obtain ⟨a, vs, rfl, _⟩ := rx
    rfl
theorem isN_run : BinR C (fun x y H Q => y = .non ∧ Q (.bl (decide (x = .non))) H) (cmpA .isN) := by
  refine ⟨fun g h H x y cx cy Q N r rx ry ok => ?_⟩
  simp only [cmpA] at ok
  split at ok
  · refine ⟨by simpa only [RelA] using ry, ?_⟩
    rw [non_iff rx]
    exact okP r ok .mkB
  · exact ok.elim
theorem notN_run : BinR C (fun x y H Q => y = .non ∧ Q (.bl (!decide (x = .non))) H) (cmpA .notN) := by
  refine ⟨fun g h H x y cx cy Q N r rx ry ok => ?_⟩
  simp only [cmpA] at ok
  split at ok
  · refine ⟨by simpa only [RelA] using ry, ?_⟩
    rw [non_iff rx]
    exact okP r ok .mkB
  · exact ok.elim

/-! in, not in -/
theorem KeyR.iff {x y : AV} {k l : Key} (h : KeyR x k) (h' : KeyR y l) : (k = l) ↔ x = y := by
  cases x <;> simp only [KeyR] at h <;> cases y <;> simp only [KeyR] at h' <;> subst h <;> subst h'
  · simp
  · simp
  · simp
  · constructor
    · intro e
      rw [toS_inj (Sum.inr.inj e)]
    · intro e
      rw [AV.str.inj e]
theorem key_of {g : Gh} {x : AV} {cx : V} (hk : isKey x = true) (rx : RelA C g x cx) : ∃ k, KeyR x k ∧ cx = L2.kV k := by
  cases x <;> simp only [isKey, Bool.false_eq_true] at hk
  · exact ⟨.inl _, rfl, rx.int⟩
  · exact ⟨.inr _, rfl, rx.str⟩
theorem RelP.get {g : Gh} {x : AV} {k : Key} (hk : KeyR x k) : ∀ {kvs : List (AV × AV)} {us : List (Key × V)}, RelP C g kvs us →
    (∀ v, getK x kvs = some v → ∃ u, L2.valV us k = some u ∧ RelA C g v u) ∧ (getK x kvs = none → L2.valV us k = none)
  | [], us, h => by simp only [RelP] at h; subst h; exact ⟨fun v e => by simp [getK] at e, fun _ => rfl⟩
  | (l, v) :: r, us, h => by
    simp only [RelP] at h
    obtain ⟨k', u, r', rfl, h1, h2, h3⟩ := h
    have ih := RelP.get hk h3
    unfold getK
    by_cases e : l = x
    · rw [if_pos e]
      have e2 : k' = k := (KeyR.iff h1 hk).mpr e
      rw [L2.valV_pos (p := (k', u)) e2]
      exact ⟨fun w z => by cases z; exact ⟨u, rfl, h2⟩, fun z => nomatch z⟩
    · rw [if_neg e]
      have e2 : ¬ k' = k := fun z => e ((KeyR.iff h1 hk).mp z)
      rw [L2.valV_neg (p := (k', u)) e2]
      exact ih
theorem hasK_get {x : AV} : ∀ {kvs : List (AV × AV)}, hasK x kvs = (getK x kvs).isSome
  | [] => rfl
  | (l, v) :: r => by
    have ih := hasK_get (x := x) (kvs := r)
    unfold hasK at ih ⊢
    unfold getK
    by_cases e : l = x
    · simp [e]
    · simp [e, ih]
/-- a dict, as it is read -/
theorem dct_at {g : Gh} {h : AH} {H : Hp} {x : AV} {cx : V} {kvs : List (AV × AV)} (r : Rep C g h H) (rx : RelA C g x cx) (e : dctOf x h = some kvs) :
    ∃ a us, cx = .ref a ∧ RelP C g kvs us ∧ H a = some (.dK us) := by
  cases x with
  | dct ys =>
    simp only [dctOf, Option.some.injEq] at e
    subst e
    simp only [RelA] at rx
    obtain ⟨a, vs, h1, h2, h3⟩ := rx
    exact ⟨a, vs, h1, h3, (r.fx _ _ h2).1⟩
  | ref i =>
    simp only [dctOf] at e
    split at e
    · rename_i ys hg
      simp only [Option.some.injEq] at e
      subst e
      simp only [RelA] at rx
      obtain ⟨u, h1, vs, rfl, h3⟩ := r.obj i _ hg
      exact ⟨_, vs, rx.2, h3, h1⟩
    · cases e
  | _ => simp [dctOf] at e
theorem dct_get {g : Gh} {h : AH} {H : Hp} {x d : AV} {cx cd : V} {kvs : List (AV × AV)} (r : Rep C g h H) (rd : RelA C g d cd) (rx : RelA C g x cx) (e : dctOf d h = some kvs) (hk : isKey x = true) :
    ∃ a o, cd = .ref a ∧ L2.DGet H a cx o ∧ o.isSome = (getK x kvs).isSome ∧ ∀ v, getK x kvs = some v → ∃ u, o = some u ∧ RelA C g v u := by
  obtain ⟨a, us, rfl, rp, hd⟩ := dct_at r rd e
  obtain ⟨k, h1, rfl⟩ := key_of hk rx
  obtain ⟨h2, h3⟩ := rp.get h1
  refine ⟨a, _, rfl, L2.DGet.k hd, ?_, h2⟩
  cases z : getK x kvs with
  | none => rw [h3 z]; rfl
  | some v => obtain ⟨u, e1, _⟩ := h2 v z; rw [e1] <;> rfl
theorem eqV_flat {g : Gh} {x y : AV} {cx cy : V} (rx : RelA C g x cx) (ry : RelA C g y cy) (hx : x.flat = true) (hy : y.flat = true) : L2.eqV cx cy = decide (x = y) ∧ L2.flatV cx = true := by
  cases x <;> simp only [AV.flat, Bool.false_eq_true] at hx <;> cases y <;> simp only [AV.flat, Bool.false_eq_true] at hy <;> simp only [RelA] at rx ry <;> subst rx <;> subst ry <;> refine ⟨?_, rfl⟩
  all_goals first | (simp [L2.eqV]; done) | skip
  · rename_i a b
    simp only [L2.eqV, AV.int.injEq]
    by_cases e : a = b <;> simp [e]
  · rename_i a b
    simp only [L2.eqV, AV.str.injEq]
    exact toS_beq a b
theorem inV_flat {g : Gh} {x : AV} {cx : V} (rx : RelA C g x cx) (hx : x.flat = true) : ∀ {ys : List AV} {vs : List V}, RelL C g ys vs → ys.all AV.flat = true → L2.inV cx vs = (ys.any fun z => decide (z = x)) ∧ vs.all L2.flatV = true
  | [], vs, h, _ => by rw [RelL.nil_iff] at h; subst h; exact ⟨rfl, rfl⟩
  | y :: ys, vs, h, e => by
    rw [RelL.cons_iff] at h
    obtain ⟨v, r, rfl, h1, h2⟩ := h
    simp only [List.all_cons, Bool.and_eq_true] at e ⊢
    obtain ⟨i1, i2⟩ := inV_flat rx hx h2 e.2
    obtain ⟨j1, j2⟩ := eqV_flat h1 rx e.1 hx
    refine ⟨?_, j2, i2⟩
    unfold L2.inV at i1 ⊢
    rw [List.any_cons, List.any_cons, i1, j1]
theorem flatV_of {g : Gh} {x : AV} {cx : V} (rx : RelA C g x cx) (hx : x.flat = true) : L2.flatV cx = true := (eqV_flat rx rx hx hx).2
def rDIn : L2.R2 := fun y x H Q => ∃ a o, x = .ref a ∧ L2.DGet H a y o ∧ Q (.bl o.isSome) H
def rDNotIn : L2.R2 := fun y x H Q => ∃ a o, x = .ref a ∧ L2.DGet H a y o ∧ Q (.bl (!o.isSome)) H
theorem op_dIn (hu : X.A.units + 1 < cLine) : OpR X (compareOp .In) rDIn := by
  intro pins s σ H y x u v Q I ry rx h
  obtain ⟨a, o, rfl, g, q⟩ := h
  cases rx
  exact L2.d_in hu I g ry fun s' I' => ⟨.bl _, H, I', rfl, q⟩
theorem op_dNotIn (hu : X.A.units + 1 < cLine) : OpR X (compareOp .NotIn) rDNotIn := by
  intro pins s σ H y x u v Q I ry rx h
  obtain ⟨a, o, rfl, g, q⟩ := h
  cases rx
  exact L2.d_notIn hu I g ry fun s' I' => ⟨.bl _, H, I', rfl, q⟩
def rInA (K : PySem.W.Frag) : L2.R2 := fun x y H Q => (∃ (c : Nat) (z : Str), x = .str ⟨#[c]⟩ ∧ y = .str z ∧ Q (.bl (decide (c ∈ z.cps.toList))) H) ∨ rDIn x y H Q ∨ L2.rIn K false x y H Q
def rNotInA (K : PySem.W.Frag) : L2.R2 := fun x y H Q => (∃ (c : Nat) (z : Str), x = .str ⟨#[c]⟩ ∧ y = .str z ∧ Q (.bl (!decide (c ∈ z.cps.toList))) H) ∨ rDNotIn x y H Q ∨ L2.rIn K true x y H Q
theorem op_inA (hu : X.A.units + 1 < cLine) : OpR X (compareOp .In) (rInA X.K) := .or L2.op_in_sign (.or (op_dIn hu) L2.op_in_seq)
theorem op_notInA (hu : X.A.units + 1 < cLine) : OpR X (compareOp .NotIn) (rNotInA X.K) := .or L2.op_notIn_sign (.or (op_dNotIn hu) L2.op_notIn_seq)
theorem inA_at {g : Gh} {h : AH} {H : Hp} {x y : AV} {cx cy : V} {c : Bool} (r : Rep C g h H) (rx : RelA C g x cx) (ry : RelA C g y cy) (e : inA x y h = some c) :
    (∃ (d : Nat) (z : Str), cx = .str ⟨#[d]⟩ ∧ cy = .str z ∧ decide (d ∈ z.cps.toList) = c) ∨ (∃ a o, cy = .ref a ∧ L2.DGet H a cx o ∧ o.isSome = c) ∨
      ∃ p xs, cy = .ref p ∧ (SqL C.K H p xs ∨ SqT C.K H p xs) ∧ L2.flatV cx = true ∧ xs.all L2.flatV = true ∧ L2.inV cx xs = c := by
  unfold inA at e
  split at e
  · rename_i a b
    split at e
    · rename_i d
      simp only [Option.some.injEq] at e
      left
      exact ⟨d, toS b, rx.str, ry.str, by rw [toS_list]; exact e⟩
    · cases e
  · split at e
    · rename_i kvs hd
      split at e
      · rename_i hk
        simp only [Option.some.injEq] at e
        obtain ⟨a, o, h1, h2, h3, _⟩ := dct_get r ry rx hd hk
        exact .inr (.inl ⟨a, o, h1, h2, by rw [h3, ← hasK_get]; exact e⟩)
      · cases e
    · split at e
      · rename_i ys hs
        split at e
        · rename_i hz
          simp only [Bool.and_eq_true] at hz
          simp only [Option.some.injEq] at e
          obtain ⟨p, vs, rfl, rl, h1⟩ := seq_at r ry hs
          obtain ⟨i1, i2⟩ := inV_flat rx hz.1 rl hz.2
          exact .inr (.inr ⟨p, vs, rfl, seq_SqLT h1, flatV_of rx hz.1, i2, i1.trans e⟩)
        · cases e
      · cases e
theorem in_run (hK : X.K = C.K) : BinR C (rInA X.K) (cmpA .inn) := by
  refine ⟨fun g h H x y cx cy Q N r rx ry ok => ?_⟩
  obtain ⟨c, e, q⟩ := someB_at r ok
  rw [hK]
  rcases inA_at r rx ry e with ⟨d, z, h1, h2, h3⟩ | ⟨a, o, h1, h2, h3⟩ | ⟨p, xs, h1, h2, h3, h4, h5⟩
  · exact .inl ⟨d, z, h1, h2, by rw [h3]; exact q⟩
  · exact .inr (.inl ⟨a, o, h1, h2, by rw [h3]; exact q⟩)
  · exact .inr (.inr ⟨p, xs, h1, h2, h3, h4, by rw [h5]; exact q⟩)
theorem notIn_run (hK : X.K = C.K) : BinR C (rNotInA X.K) (cmpA .notIn) := by
  refine ⟨fun g h H x y cx cy Q N r rx ry ok => ?_⟩
  obtain ⟨c', e', q⟩ := someB_at r ok
  obtain ⟨c, e, hc⟩ := notO_some e'
  rw [hc] at q
  rw [hK]
  rcases inA_at r rx ry e with ⟨d, z, h1, h2, h3⟩ | ⟨a, o, h1, h2, h3⟩ | ⟨p, xs, h1, h2, h3, h4, h5⟩
  · exact .inl ⟨d, z, h1, h2, by rw [h3]; exact q⟩
  · exact .inr (.inl ⟨a, o, h1, h2, by rw [h3]; exact q⟩)
  · exact .inr (.inr ⟨p, xs, h1, h2, h3, h4, by rw [h5]; exact q⟩)

/-! ### operators, comparisons, as pieces of the text -/
def toOp : BO → Operator
  | .add => .Add
  | .sub => .Sub
  | .mul => .Mult
  | .div => .FloorDiv
  | .mod => .Mod
  | .pow => .Pow
def toC : CO → CmpOp
  | .lt => .Lt
  | .le => .LtE
  | .gt => .Gt
  | .ge => .GtE
  | .eq => .Eq
  | .ne => .NotEq
  | .isN => .Is
  | .notN => .IsNot
  | .inn => .In
  | .notIn => .NotIn
theorem bin_ok (A : At C X) (m : Bool) (op : BO) : ∃ r, OpR X (binaryOp (toOp op)) r ∧ BinR C r (binA m op) := by
  cases op
  · exact ⟨_, op_addA, add_run A.K m⟩
  · exact ⟨_, L2.op_sub, sub_run m⟩
  · exact ⟨_, .or L2.op_mul L2.op_rep, mul_run m⟩
  · exact ⟨_, L2.op_fdivN, div_run m⟩
  · exact ⟨_, L2.op_modN, mod_run m⟩
  · exact ⟨_, L2.op_pow, pow_run m⟩
theorem cmp_ok (A : At C X) (op : CO) : ∃ r, OpR X (compareOp (toC op)) r ∧ BinR C r (cmpA op) := by
  have hu := A.hu
  cases op
  · exact ⟨_, op_ltA (by omega), lt_run A.K⟩
  · exact ⟨_, op_leA (by omega), le_run A.K⟩
  · exact ⟨_, op_gtA, gt_run⟩
  · exact ⟨_, op_geA, ge_run⟩
  · exact ⟨_, op_eqA (by omega), eq_run A.K⟩
  · exact ⟨_, op_neA (by omega), ne_run A.K⟩
  · exact ⟨_, L2.op_isN, isN_run⟩
  · exact ⟨_, L2.op_notN, notN_run⟩
  · exact ⟨_, op_inA (by omega), in_run A.K⟩
  · exact ⟨_, op_notInA (by omega), notIn_run A.K⟩
variable {a b c e : Expr} {fa fb fc f : EF} {pos : Pos}
theorem se_bin (A : At C X) (m : Bool) (op : BO) (ha : SE C φ X a fa) (hb : SE C φ X b fb) : SE C φ X (.BinOp a (toOp op) b pos) (eBin m op fa fb) := by
  obtain ⟨r, h1, h2⟩ := bin_ok A m op
  exact se_op2 (fun x y => L2.pe_op h1 x y) h2 ha hb
theorem se_cmp (A : At C X) (op : CO) (ha : SE C φ X a fa) (hb : SE C φ X b fb) (hm : behindInMarks (toC op) b = false) : SE C φ X (.Compare a [toC op] [b] pos) (eCmp op fa fb) := by
  obtain ⟨r, h1, h2⟩ := cmp_ok A op
  exact se_op2 (fun x y => L2.pe_cmpR h1 x y hm) h2 ha hb
/-- of what gives a truth -/
theorem okG.bools {g : Gh} {o : Out AV} {N : Nat → Hp → Prop} {P : Bool → Hp → Prop} (ok : okG C g o (fun x g' _ H' => ∃ b, x = .bl b ∧ P b H') N) :
    okG C g o (fun x g' _ H' => ∀ v, RelA C g' x v → ∃ k, v = .bl k ∧ P k H') N := by
  cases o with
  | ok x h1 =>
    intro g' H' e1 r1 v rv
    obtain ⟨b, rfl, q⟩ := ok g' H' e1 r1
    exact ⟨b, rv.bl, q⟩
  | exc c h1 => exact ok
  | stuck => exact ok
theorem sb_cmp (A : At C X) (op : CO) (ha : SE C φ X a fa) (hb : SE C φ X b fb) (hm : behindInMarks (toC op) b = false) : SB C φ X (.Compare a [toC op] [b] pos) (eCmp op fa fb) := by
  obtain ⟨r, h1, h2⟩ := cmp_ok A op
  refine ⟨fun N tk => (L2.pt_cmpR h1 (ha.run N tk) (hb.run N tk) hm).imp fun σ H Q ⟨g, s, h, r, rs, ok⟩ => ?_⟩
  have ok2 : okG C g ((fa φ s h).bind fun x h1 => (fb φ s h1).bind fun y h2 => cmpA op x y h2) (fun x g' _ H' => ∀ v, RelA C g' x v → ∃ k, v = .bl k ∧ Q k H') N := okG.bools ok
  exact go r rs ok2 fun g1 h1 x cx H1 e1 r1 rx ok1 => go r1 (rs.mono e1) ok1 fun g2 hh y cy H2 e2 r2 ry ok2 => h2.run g2 hh H2 x y cx cy _ N r2 (rx.mono e2) ry ok2
/-- an answer, then more -/
theorem BinR.then_ {r : L2.R2} {f : AV → AV → AH → Out AV} (B : BinR C r f) {α : Type} {g : Gh} {h : AH} {H : Hp} {x y : AV} {cx cy : V} {k : AV → AH → Out α} {K : α → Gh → AH → Hp → Prop} {N : Nat → Hp → Prop} {P : VK} (rp : Rep C g h H) (rx : RelA C g x cx) (ry : RelA C g y cy)
    (ok : okG C g ((f x y h).bind k) K N) (hP : ∀ g1 h1 z cz H1, Ext g g1 → Rep C g1 h1 H1 → RelA C g1 z cz → okG C g1 (k z h1) K N → P cz H1) : r cx cy H P := by
  refine B.run g h H x y cx cy P N rp rx ry ?_
  cases e : f x y h with
  | ok z h1 =>
    rw [e] at ok
    exact fun g' H' e1 r1 v rv => hP g' h1 z v H' e1 r1 rv (okG.ext ok e1)
  | exc c h1 => rw [e] at ok; exact ok
  | stuck => rw [e] at ok; exact ok
theorem chain_read (op op' : CO) {r r' : L2.R2} (h2 : BinR C r (cmpA op)) (h2' : BinR C r' (cmpA op')) {ta tb tc : TE} {g : Gh} {s : St} {h : AH} {σ : L2.St} {H : Hp} {Q : VK} {N : Nat → Hp → Prop} (rp : Rep C g h H) (rs : RelS C g s σ)
    (ok : okG C g (eChain op op' fa fb fc φ s h) (fun x g' _ H' => ∀ v, RelA C g' x v → Q v H') N) : L2.tChain r r' (tE C φ fa N) (tE C φ fb N) (tE C φ fc N) σ H Q := by
  refine go rp rs ok fun g1 h1 x cx H1 e1 r1 rx ok1 => go r1 (rs.mono e1) ok1 fun g2 hh y cy H2 e2 r2 ry ok2 => ?_
  refine h2.then_ r2 (rx.mono e2) ry ok2 fun g3 h3 z cz H3 e3 r3 rz ok3 => ?_
  obtain ⟨k, rfl, ok4⟩ := tst_bl2 ok3
  clear ok3
  refine ⟨k, rz.bl, ?_⟩
  cases k with
  | false =>
    rw [if_neg Bool.false_ne_true] at ok4 ⊢
    exact okP r3 ok4 .mkB
  | true =>
    rw [if_pos rfl] at ok4 ⊢
    exact go r3 (((rs.mono e1).mono e2).mono e3) ok4 fun g4 h4 u cu H4 e4 r4 ru ok4 => h2'.run g4 h4 H4 y u cy cu Q N r4 ((ry.mono e3).mono e4) ru ok4
theorem se_chain (A : At C X) (op op' : CO) (ha : SE C φ X a fa) (hb : SE C φ X b fb) (hc : SE C φ X c fc) (hm : lastMarks [toC op, toC op'] [b, c] = false) : SE C φ X (.Compare a [toC op, toC op'] [b, c] pos) (eChain op op' fa fb fc) := by
  obtain ⟨r, h1, h2⟩ := cmp_ok A op
  obtain ⟨r', h1', h2'⟩ := cmp_ok A op'
  exact ⟨fun N tk => (L2.pe_chain h1 h1' (ha.run N tk) (hb.run N tk) (hc.run N tk) hm).imp fun σ H Q ⟨g, s, h, r, rs, ok⟩ => chain_read op op' h2 h2' (ta := L2.tVar 0) (tb := L2.tVar 0) (tc := L2.tVar 0) r rs ok⟩
theorem sb_chain (A : At C X) (op op' : CO) (ha : SE C φ X a fa) (hb : SE C φ X b fb) (hc : SE C φ X c fc) (hm : lastMarks [toC op, toC op'] [b, c] = false) : SB C φ X (.Compare a [toC op, toC op'] [b, c] pos) (eChain op op' fa fb fc) := by
  obtain ⟨r, h1, h2⟩ := cmp_ok A op
  obtain ⟨r', h1', h2'⟩ := cmp_ok A op'
  exact ⟨fun N tk => (L2.pt_chain h1 h1' (ha.run N tk) (hb.run N tk) (hc.run N tk) hm).imp fun σ H Q ⟨g, s, h, r, rs, ok⟩ => chain_read op op' h2 h2' (ta := L2.tVar 0) (tb := L2.tVar 0) (tc := L2.tVar 0) r rs (okG.bools ok)⟩

/-! ### and, or, not, a if c else b -/
theorem se_neg (ha : SE C φ X a fa) : SE C φ X (.UnaryOp .USub a pos) (eNeg fa) := by
  refine ⟨fun N tk => (L2.pe_un L2.un_neg (ha.run N tk)).imp fun σ H Q ⟨g, s, h, r, rs, ok⟩ => ?_⟩
  refine go r rs ok fun g1 h1 x cx H1 e1 r1 rx ok1 => ?_
  split at ok1
  · exact ⟨_, rx.int, okP r1 ok1 .mkI⟩
  · exact ok1.elim
/-- a value that is a truth, as a test -/
theorem sb_val (ha : SE C φ X a fa) (he : ∀ whole, isTrue a X.env whole = (do let v ← whole; standAt a.pos; holding [v] (truthy v))) : SB C φ X a fa := by
  refine ⟨fun N tk => (L2.pt_val (ha.run N tk) he).imp fun σ H Q ⟨g, s, h, r, rs, ok⟩ => ?_⟩
  exact ⟨g, s, h, r, rs, okG.bools ok⟩
/-- the tests of and, or -/
structure SW (C : Cfg) (φ : Fn) (X : Cx) (e : Expr) (f : EF) : Prop where
  run : ∀ N, Takes X (wX C N) → PW X e (tB C φ f N)
theorem SW.sb (h : SW C φ X e f) : SB C φ X e f := ⟨fun N tk => (h.run N tk).pt⟩
variable {rest : List Expr}
theorem tB_eB {N : Nat → Hp → Prop} {σ : L2.St} {H : Hp} {Q : Bool → Hp → Prop} (h : tB C φ (eB fa) N σ H Q) : tB C φ fa N σ H Q := by
  obtain ⟨g, s, h, r, rs, ok⟩ := h
  refine goB r rs ok fun g1 h1 b H1 e1 r1 ok1 => ?_
  cases b with
  | true => obtain ⟨b', e, q⟩ := ok1.fin r1; cases e; exact q
  | false => obtain ⟨b', e, q⟩ := ok1.fin r1; cases e; exact q
theorem sw_and1 (ha : SB C φ X a fa) : SW C φ X (.BoolOp .And [a] pos) (eB fa) := ⟨fun N tk => (L2.pw_and1 (ha.run N tk)).imp fun _ _ _ h => tB_eB h⟩
theorem sw_or1 (ha : SB C φ X a fa) : SW C φ X (.BoolOp .Or [a] pos) (eB fa) := ⟨fun N tk => (L2.pw_or1 (ha.run N tk)).imp fun _ _ _ h => tB_eB h⟩
theorem sw_and (ha : SB C φ X a fa) (hb : SW C φ X (.BoolOp .And (b :: rest) pos) fb) : SW C φ X (.BoolOp .And (a :: b :: rest) pos) (eAnd fa fb) := by
  refine ⟨fun N tk => (L2.pw_and (ha.run N tk) (hb.run N tk)).imp fun σ H Q ⟨g, s, h, r, rs, ok⟩ => ?_⟩
  refine goB r rs ok fun g1 h1 c H1 e1 r1 ok1 => ?_
  cases c with
  | true => rw [if_pos rfl] at ok1 ⊢; exact ⟨g1, s, h1, r1, rs.mono e1, ok1⟩
  | false => rw [if_neg Bool.false_ne_true] at ok1 ⊢; obtain ⟨b', e, q⟩ := ok1.fin r1; cases e; exact q
theorem sw_or (ha : SB C φ X a fa) (hb : SW C φ X (.BoolOp .Or (b :: rest) pos) fb) : SW C φ X (.BoolOp .Or (a :: b :: rest) pos) (eOr fa fb) := by
  refine ⟨fun N tk => (L2.pw_or (ha.run N tk) (hb.run N tk)).imp fun σ H Q ⟨g, s, h, r, rs, ok⟩ => ?_⟩
  refine goB r rs ok fun g1 h1 c H1 e1 r1 ok1 => ?_
  cases c with
  | false => rw [if_neg Bool.false_ne_true] at ok1 ⊢; exact ⟨g1, s, h1, r1, rs.mono e1, ok1⟩
  | true => rw [if_pos rfl] at ok1 ⊢; obtain ⟨b', e, q⟩ := ok1.fin r1; cases e; exact q
theorem sb_not (ha : SB C φ X a fa) : SB C φ X (.UnaryOp .Not a pos) (eNot fa) := by
  refine ⟨fun N tk => (L2.pt_not (ha.run N tk)).imp fun σ H Q ⟨g, s, h, r, rs, ok⟩ => ?_⟩
  refine goB r rs ok fun g1 h1 c H1 e1 r1 ok1 => ?_
  cases c with
  | false => rw [if_neg Bool.false_ne_true] at ok1; obtain ⟨b', e, q⟩ := ok1.fin r1; cases e; exact q
  | true => rw [if_pos rfl] at ok1; obtain ⟨b', e, q⟩ := ok1.fin r1; cases e; exact q
theorem se_ifExp (hc : SB C φ X c fc) (ha : SE C φ X a fa) (hb : SE C φ X b fb) : SE C φ X (.IfExp c a b pos) (eIf fc fa fb) := by
  refine ⟨fun N tk => (L2.pe_ifExp (hc.run N tk) (ha.run N tk) (hb.run N tk)).imp fun σ H Q ⟨g, s, h, r, rs, ok⟩ => ?_⟩
  refine goB r rs ok fun g1 h1 d H1 e1 r1 ok1 => ?_
  cases d with
  | false => rw [if_neg Bool.false_ne_true] at ok1 ⊢; exact ⟨g1, s, h1, r1, rs.mono e1, ok1⟩
  | true => rw [if_pos rfl] at ok1 ⊢; exact ⟨g1, s, h1, r1, rs.mono e1, ok1⟩
/-- as values -/
theorem go1 {g : Gh} {s : St} {h : AH} {σ : L2.St} {H : Hp} {N : Nat → Hp → Prop} {ka kb : AH → Out AV} {K : AV → Gh → AH → Hp → Prop} {P : V → Hp → Prop} (r : Rep C g h H) (rs : RelS C g s σ)
    (hok : okG C g ((fa φ s h).bind fun x h1 => tst x (ka h1) (kb h1)) K N) (hP : ∀ g1 h1 b H1, Ext g g1 → Rep C g1 h1 H1 → okG C g1 (if b = true then ka h1 else kb h1) K N → P (.bl b) H1) : tE C φ fa N σ H P :=
  go r rs hok fun g1 h1 x cx H1 e1 r1 rx ok1 => by
    obtain ⟨b, rfl, ok2⟩ := tst_bl2 ok1
    rw [rx.bl]
    exact hP g1 h1 b H1 e1 r1 ok2
theorem se_b1 {op : BoolOp} (ha : SE C φ X a fa) : SE C φ X (.BoolOp op [a] pos) (eB fa) := by
  refine ⟨fun N tk => (L2.pe_one (ha.run N tk)).imp fun σ H Q ⟨g, s, h, r, rs, ok⟩ => ?_⟩
  refine go1 r rs ok fun g1 h1 b H1 e1 r1 ok1 => ?_
  cases b with
  | true => exact okP r1 ok1 .mkB
  | false => exact okP r1 ok1 .mkB
theorem se_and (ha : SE C φ X a fa) (hb : SE C φ X (.BoolOp .And (b :: rest) pos) fb) : SE C φ X (.BoolOp .And (a :: b :: rest) pos) (eAnd fa fb) := by
  refine ⟨fun N tk => (L2.pe_and (ha.run N tk) (hb.run N tk)).imp fun σ H Q ⟨g, s, h, r, rs, ok⟩ => ?_⟩
  refine go1 r rs ok fun g1 h1 d H1 e1 r1 ok1 => ⟨d, rfl, ?_⟩
  cases d with
  | true => rw [if_pos rfl] at ok1 ⊢; exact ⟨g1, s, h1, r1, rs.mono e1, ok1⟩
  | false => rw [if_neg Bool.false_ne_true] at ok1 ⊢; exact okP r1 ok1 .mkB
theorem se_or (ha : SE C φ X a fa) (hb : SE C φ X (.BoolOp .Or (b :: rest) pos) fb) : SE C φ X (.BoolOp .Or (a :: b :: rest) pos) (eOr fa fb) := by
  refine ⟨fun N tk => (L2.pe_or (ha.run N tk) (hb.run N tk)).imp fun σ H Q ⟨g, s, h, r, rs, ok⟩ => ?_⟩
  refine go1 r rs ok fun g1 h1 d H1 e1 r1 ok1 => ⟨d, rfl, ?_⟩
  cases d with
  | false => rw [if_neg Bool.false_ne_true] at ok1 ⊢; exact ⟨g1, s, h1, r1, rs.mono e1, ok1⟩
  | true => rw [if_pos rfl] at ok1 ⊢; exact okP r1 ok1 .mkB
theorem se_not (ha : SE C φ X a fa) : SE C φ X (.UnaryOp .Not a pos) (eNot fa) := by
  refine ⟨fun N tk => (L2.pe_not (ha.run N tk)).imp fun σ H Q ⟨g, s, h, r, rs, ok⟩ => ?_⟩
  refine go1 r rs ok fun g1 h1 d H1 e1 r1 ok1 => ⟨d, rfl, ?_⟩
  cases d with
  | false => rw [if_neg Bool.false_ne_true] at ok1; exact okP r1 ok1 .mkB
  | true => rw [if_pos rfl] at ok1; exact okP r1 ok1 .mkB
end
end TX

/-! TxD: displays, places, built-ins, texts, calls -/
set_option Elab.async false
set_option linter.all false
set_option maxRecDepth 100000
set_option maxHeartbeats 1000000
set_option autoImplicit false
namespace TX
open PySem PySem.Spec PyProof.Rows
open L2 (V HO Hp Key upd upd_same upd_ne SqL SqT Rd HOk Cx Inv PE PT PW PS PSs PG PI PA TE TT TA TS VK XK WX Takes Ends EP OpR tOp CallR tCB tCons tNil)

/-- no star -/
def noStar : Expr → Bool
  | .Starred _ _ => false
  | _ => true
theorem star_cons {e : Expr} {es : List Expr} {env : Env} (h : noStar e = true) : starEach (e :: es) env = (false, eval e env) :: starEach es env := by
  cases e <;> first | rfl | (simp [noStar] at h)
section
variable {C : Cfg} {φ : Fn} {X : Cx} {a b c e o i : Expr} {es : List Expr} {fa fb fc f : EF} {fs : AF} {pos : Pos}

theorem sa_nil : SA C φ X [] aNil := ⟨fun N _ => L2.pa_nil.imp fun σ H Q ⟨g, s, h, r, rs, ok⟩ => ok.fin r [] .nil⟩
theorem sa_cons (ha : SE C φ X e f) (hr : SA C φ X es fs) (hn : noStar e = true) : SA C φ X (e :: es) (aCons f fs) := by
  refine ⟨fun N tk => (L2.pa_cons (ha.run N tk) (hr.run N tk) (star_cons hn)).imp fun σ H Q ⟨g, s, h, r, rs, ok⟩ => ?_⟩
  refine go r rs ok fun g1 h1 x cx H1 e1 r1 rx ok1 => goA r1 (rs.mono e1) ok1 fun g2 h2 xs vs H2 e2 r2 rl ok2 => ?_
  exact ok2.fin r2 _ (.cons (rx.mono e2) rl)
theorem se_tup {k : Nat} (ha : SA C φ X es fs) : SE C φ X (.Tuple es k pos) (eTup fs) := by
  refine ⟨fun N tk => (L2.pe_tup (ha.run N tk)).imp fun σ H Q ⟨g, s, h, r, rs, ok⟩ => ?_⟩
  refine goA r rs ok fun g1 h1 xs vs H1 e1 r1 rl ok1 => ?_
  split at ok1
  · rename_i hz
    exact ⟨by rw [← rl.len]; exact hz, tup_at r1 rl ok1⟩
  · exact ok1.elim
theorem se_lst (m : Bool) (ha : SA C φ X es fs) : SE C φ X (.List es pos) (eLst m fs) := by
  refine ⟨fun N tk => (L2.pe_lst (ha.run N tk)).imp fun σ H Q ⟨g, s, h, r, rs, ok⟩ => ?_⟩
  exact goA r rs ok fun g1 h1 xs vs H1 e1 r1 rl ok1 => mkLst_at r1 rl ok1

/-! ### places -/
theorem atI_rel {g : Gh} {xs : List AV} {vs : List V} {j : Int} {v : AV} (rl : RelL C g xs vs) (e : atI xs j = some v) : ∃ u, L2.atI vs j = some u ∧ RelA C g v u := by
  unfold atI at e
  unfold L2.atI
  have hi : ∀ n k, L2.ixN n k = ixN n k := fun n k => rfl
  rw [hi, ← rl.len]
  cases z : ixN xs.length j with
  | none => rw [z] at e; cases e
  | some k =>
    rw [z] at e
    exact rl.get e
def noSl : Expr → Bool
  | .Slice _ _ _ _ => false
  | _ => true
theorem noSl_ix {b : Expr} (h : noSl b = true) : ∀ o i, subscripted b false o i = operate [o, i] (getItem o i) := by
  intro o i
  cases b <;> first | rfl | (simp [noSl] at h)
theorem ix_dct (hu : X.A.units + 1 < cLine) : L2.IxR X (fun x y H Q => ∃ a v, x = .ref a ∧ L2.DGet H a y (some v) ∧ Q v H) := by
  intro value slice pins s σ H x y v u Q I rx ry h hs
  obtain ⟨a, w, rfl, hg, q⟩ := h
  cases rx
  exact tail_any (L2.dict_typeIs I hg) PySem.F.slot_dict_getitem.lookup (L2.d_getItem hu I hg ry fun w' s' I' rw' => ⟨w, H, I', rw', q⟩) hs
theorem idx_run (hK : X.K = C.K) : BinR C (fun x y H Q => L2.rIx X.K x y H Q ∨ ∃ a v, x = .ref a ∧ L2.DGet H a y (some v) ∧ Q v H) (fun x y h => match idxA x y h with | some v => .ok v h | none => .stuck) := by
  refine ⟨fun g h H x y cx cy Q N r rx ry ok => ?_⟩
  cases e : idxA x y h with
  | none => rw [e] at ok; exact ok.elim
  | some v =>
    rw [e] at ok
    unfold idxA at e
    split at e
    · rename_i t j
      split at e
      · rename_i hz
        obtain ⟨d, hd, rfl⟩ := Option.map_eq_some_iff.mp e
        exact .inl (.inr (.inr ⟨toS t, j, d, rx.str, ry.int, by rw [toS_len]; exact hz, by rw [toS_list]; exact hd, okP r ok .mkS⟩))
      · cases e
    · split at e
      · rename_i j _ xs z
        obtain ⟨p, vs, rfl, rl, h1⟩ := seq_at r rx z
        obtain ⟨u, hu1, hu2⟩ := atI_rel rl e
        have hq : Q u H := okP r ok hu2
        rcases h1 with h1 | h1
        · exact .inl (.inl ⟨p, vs, _, u, rfl, ry.int, SqL.of h1.1, hu1, hq⟩)
        · rw [hK]; exact .inl (.inr (.inl ⟨p, vs, _, u, rfl, ry.int, h1.1, hu1, hq⟩))
      · split at e
        · rename_i kvs z2
          obtain ⟨p, o, h1, h3, h4, h5⟩ := dct_get r rx ry z2 rfl
          obtain ⟨u, rfl, hu2⟩ := h5 v e
          exact .inr ⟨p, u, h1, h3, okP r ok hu2⟩
        · cases e
    · split at e
      · rename_i kvs z2
        obtain ⟨p, o, h1, h3, h4, h5⟩ := dct_get r rx ry z2 rfl
        obtain ⟨u, rfl, hu2⟩ := h5 v e
        exact .inr ⟨p, u, h1, h3, okP r ok hu2⟩
      · cases e
    · cases e
theorem se_idx (A : At C X) (ha : SE C φ X a fa) (hb : SE C φ X b fb) (hs : noSl b = true) : SE C φ X (.Subscript a b pos) (eIdx fa fb) := by
  have hu := A.hu
  exact se_op2 (fun x y => L2.pe_ix (.or L2.ix_seq (ix_dct (by omega))) x y (noSl_ix hs)) (idx_run A.K) ha hb

/-! slices -/
structure SO (C : Cfg) (φ : Fn) (X : Cx) (e : Option Expr) (f : OF) : Prop where
  run : ∀ N, Takes X (wX C N) → L2.PO X e (fun σ H Q => ∃ g s h, Rep C g h H ∧ RelS C g s σ ∧ okG C g (f φ s h) (fun x _ _ H' => Q x H') N)
theorem so_none : SO C φ X none oNone := by
  refine ⟨fun N tk => ⟨fun pins s σ H Q I ⟨g, st, h, r, rs, ok⟩ => L2.po_none.run pins s σ H Q I ?_⟩⟩
  exact ok.fin r
theorem so_some (ha : SE C φ X e f) : SO C φ X (some e) (oSome f) := by
  refine ⟨fun N tk => ⟨fun pins s σ H Q I ⟨g, st, h, r, rs, ok⟩ => (L2.po_some (ha.run N tk)).run pins s σ H Q I ?_⟩⟩
  refine go r rs ok fun g1 h1 x cx H1 e1 r1 rx ok1 => ?_
  split at ok1
  · exact ⟨_, rx.int, ok1.fin r1⟩
  · exact ok1.elim
theorem goO {g : Gh} {s : St} {h : AH} {σ : L2.St} {H : Hp} {a : OF} {N : Nat → Hp → Prop} {k : Option Int → AH → Out AV} {K : AV → Gh → AH → Hp → Prop} {P : Option Int → Hp → Prop} (r : Rep C g h H) (rs : RelS C g s σ)
    (hok : okG C g ((a φ s h).bind k) K N) (hP : ∀ g1 h1 x H1, Ext g g1 → Rep C g1 h1 H1 → okG C g1 (k x h1) K N → P x H1) :
    ∃ g s h, Rep C g h H ∧ RelS C g s σ ∧ okG C g (a φ s h) (fun x _ _ H' => P x H') N := by
  refine ⟨g, s, h, r, rs, ?_⟩
  cases e : a φ s h with
  | ok x h1 =>
    rw [e] at hok
    exact fun g' H' e1 r1 => hP g' h1 x H' e1 r1 (okG.ext hok e1)
  | exc c h1 => rw [e] at hok; exact hok
  | stuck => rw [e] at hok; exact hok
theorem sIx_eq (n d : Nat) (x : Option Int) : HT.sIx n d x = sIx n d x := by
  cases x with
  | none => rfl
  | some i =>
    simp only [HT.sIx, sIx]
    by_cases h : i < 0
    · have : ¬ 0 ≤ i := by omega
      simp [h, this]
    · have : 0 ≤ i := by omega
      simp [h, this]
theorem cut_rel {g : Gh} {xs : List AV} {vs : List V} (rl : RelL C g xs vs) (lo hi : Option Int) : RelL C g (cut xs lo hi) (L2.cutV vs lo hi) := by
  unfold cut L2.cutV
  rw [sIx_eq, sIx_eq, ← rl.len]
  exact (rl.drop _).take _
theorem cut_whole {α : Type} {xs : List α} {lo hi : Option Int} (h : sIx xs.length 0 lo = 0 ∧ sIx xs.length xs.length hi = xs.length) : cut xs lo hi = xs := by
  unfold cut
  rw [h.1, h.2]
  simp
def rSlc (K : PySem.W.Frag) : V → Option Int → Option Int → Hp → VK → Prop := fun x lo hi H Q => L2.rSlS x lo hi H Q ∨ L2.rSlL K x lo hi H Q ∨ L2.rSlA K x lo hi H Q
theorem sl_any : L2.SlR X (rSlc X.K) := .or L2.sl_str (.or L2.sl_list L2.sl_tupA)
theorem se_slc (A : At C X) (m : Bool) {lo hi : Option Expr} {fl fh : OF} {p2 : Pos} (ha : SE C φ X a fa) (hl : SO C φ X lo fl) (hh : SO C φ X hi fh) : SE C φ X (.Subscript a (.Slice lo hi none p2) pos) (eSlc m fa fl fh) := by
  refine ⟨fun N tk => (L2.pe_slice sl_any (ha.run N tk) (hl.run N tk) (hh.run N tk)).imp fun σ H Q ⟨g, s, h, r, rs, ok⟩ => ?_⟩
  refine go r rs ok fun g1 h1 x cx H1 e1 r1 rx ok1 => goO r1 (rs.mono e1) ok1 fun g2 h2 l H2 e2 r2 ok2 => goO r2 ((rs.mono e1).mono e2) ok2 fun g3 h3 u H3 e3 r3 ok3 => ?_
  replace rx := (rx.mono e2).mono e3
  unfold sliceA at ok3
  split at ok3
  · split at ok3
    · rename_i t hz
      refine .inl ⟨_, rx.str, by rw [toS_len]; exact hz, ?_⟩
      have ec : L2.cutS (toS t) l u = toS (cut t l u) := by
        unfold L2.cutS cut
        rw [toS_list, toS_len, sIx_eq, sIx_eq]
        rfl
      rw [ec]
      exact okP r3 ok3 .mkS
    · exact ok3.elim
  · rename_i xs
    obtain ⟨p, vs, rfl, rl, h1 | h1⟩ := seq_at (xs := xs) r3 rx rfl
    · exact absurd rfl (h1.2 xs)
    · rw [A.K]
      refine .inr (.inr ⟨p, vs, rfl, h1.1, fun hw => ?_, fun _ => tup_at r3 (cut_rel rl l u) ok3⟩)
      rw [sIx_eq, sIx_eq, ← rl.len] at hw
      rw [cut_whole hw] at ok3
      exact okP r3 ok3 rx
  · rename_i xs
    simp only [RelA] at rx
    obtain ⟨p, vs, rfl, h1, rl⟩ := rx
    rw [A.K]
    exact .inr (.inl ⟨p, vs, rfl, SqL.mono (fun b o q => (r3.fx b o q).1) h1, mk_at r3 (cut_rel rl l u) ok3⟩)
  · split at ok3
    · rename_i x _ nt _ _ xs z
      obtain ⟨p, vs, rfl, rl, h1 | h1⟩ := seq_at r3 rx z
      · exact .inr (.inl ⟨p, vs, rfl, SqL.of h1.1, mk_at r3 (cut_rel rl l u) ok3⟩)
      · exact (nt _ h1.2).elim
    · exact ok3.elim

/-! ### built-ins of one argument -/
/-- a built-in's name -/
structure Bn (X : Cx) (x : Str) : Prop where
  gl : L2.Gl X x
  mg : X.mg x = none
structure UnB (C : Cfg) (r : List V → Hp → VK → Prop) (f : AV → AH → Out AV) : Prop where
  run : ∀ g h H x cx (Q : VK) (N : Nat → Hp → Prop), Rep C g h H → RelA C g x cx → okG C g (f x h) (fun x g' _ H' => ∀ v, RelA C g' x v → Q v H') N → r [cx] H Q
theorem UnB.or1 {r r' : List V → Hp → VK → Prop} {f : AV → AH → Out AV} (B : UnB C r f) : UnB C (fun xs H Q => r xs H Q ∨ r' xs H Q) f := ⟨fun g h H x cx Q N a b c => .inl (B.run g h H x cx Q N a b c)⟩
theorem se_callB {x : Str} {id : String} {r : List V → Hp → VK → Prop} {k : AV → AH → Out AV} {p : Pos} (hc : CallR X (.builtin id) r) (bn : Bn X x) (hv : bootBuiltins x = some (.builtin id)) (B : UnB C r k) (ha : SE C φ X a fa) (hn : noStar a = true)
    (h1 : x ≠ "__name__") (h2 : (x == ("__debug__" : Str)) = false) : SE C φ X (.Call (.Name x p) [a] [] pos) (fun φ s h => (fa φ s h).bind fun x h1 => k x h1) := by
  refine ⟨fun N tk => (L2.pe_callB hc bn.gl bn.mg hv (L2.pa_cons (ha.run N tk) L2.pa_nil (star_cons hn)) h1 h2 (star_cons hn) rfl).imp fun σ H Q ⟨g, s, h, r, rs, ok⟩ => ?_⟩
  exact go r rs ok fun g1 h1 x cx H1 e1 r1 rx ok1 => B.run g1 h1 H1 x cx Q N r1 rx ok1
theorem se_callT {x : Str} {T : String} {r : List V → Hp → VK → Prop} {k : AV → AH → Out AV} {p : Pos} (hc : CallR X (.type T) r) (bn : Bn X x) (hv : bootBuiltins x = some (.type T)) (B : UnB C r k) (ha : SE C φ X a fa) (hn : noStar a = true)
    (h1 : x ≠ "__name__") (h2 : (x == ("__debug__" : Str)) = false) : SE C φ X (.Call (.Name x p) [a] [] pos) (fun φ s h => (fa φ s h).bind fun x h1 => k x h1) := by
  refine ⟨fun N tk => (L2.pe_callTy hc bn.gl bn.mg hv (L2.pa_cons (ha.run N tk) L2.pa_nil (star_cons hn)) h1 h2 (star_cons hn) rfl).imp fun σ H Q ⟨g, s, h, r, rs, ok⟩ => ?_⟩
  exact go r rs ok fun g1 h1 x cx H1 e1 r1 rx ok1 => B.run g1 h1 H1 x cx Q N r1 rx ok1
theorem RelP.len {g : Gh} : ∀ {kvs : List (AV × AV)} {us : List (Key × V)}, RelP C g kvs us → kvs.length = us.length
  | [], _, h => by simp only [RelP] at h; subst h; rfl
  | (k, v) :: r, _, h => by
    simp only [RelP] at h
    obtain ⟨_, _, _, rfl, _, _, h3⟩ := h
    simp [RelP.len h3]
theorem len_run (hK : X.K = C.K) : UnB C (fun xs H Q => (∃ p ys, xs = [.ref p] ∧ (SqL X.K H p ys ∨ SqT X.K H p ys) ∧ Q (.int ys.length) H) ∨ (∃ z, xs = [.str z] ∧ z.length ≤ sizeLine ∧ Q (.int z.length) H) ∨ ∃ a kvs, xs = [V.ref a] ∧ H a = some (.dK kvs) ∧ Q (.int kvs.length) H) (uA .len) := by
  refine ⟨fun g h H x cx Q N r rx ok => ?_⟩
  unfold uA at ok
  simp only at ok
  split at ok
  · split at ok
    · rename_i hz
      refine .inr (.inl ⟨_, by rw [rx.str], by rw [toS_len]; exact hz, ?_⟩)
      rw [toS_len]
      exact okP r ok .mkI
    · exact ok.elim
  · split at ok
    · rename_i xs z
      obtain ⟨p, vs, rfl, rl, h1⟩ := seq_at r rx z
      rw [hK]
      refine .inl ⟨p, vs, rfl, seq_SqLT h1, ?_⟩
      rw [← rl.len]
      exact okP r ok .mkI
    · split at ok
      · rename_i kvs z
        obtain ⟨p, us, rfl, rp, h1⟩ := dct_at r rx z
        refine .inr (.inr ⟨p, us, rfl, h1, ?_⟩)
        rw [← rp.len]
        exact okP r ok .mkI
      · exact ok.elim
theorem cr_len : CallR X (.builtin "len") (fun xs H Q => (∃ p ys, xs = [.ref p] ∧ (SqL X.K H p ys ∨ SqT X.K H p ys) ∧ Q (.int ys.length) H) ∨ (∃ z, xs = [.str z] ∧ z.length ≤ sizeLine ∧ Q (.int z.length) H) ∨ ∃ a kvs, xs = [V.ref a] ∧ H a = some (.dK kvs) ∧ Q (.int kvs.length) H) :=
  .or L2.call_len_seq (.or L2.call_len_str L2.call_lenD)
theorem abs_run : UnB C (fun xs H Q => ∃ i, xs = [.int i] ∧ Q (.int (if i < 0 then -i else i)) H) (uA .abs) := by
  refine ⟨fun g h H x cx Q N r rx ok => ?_⟩
  unfold uA at ok
  simp only at ok
  split at ok
  · exact ⟨_, by rw [rx.int], okP r ok .mkI⟩
  · exact ok.elim
theorem numTx_val : ∀ (a : Tx) (acc n : Nat), numTx acc a = some n → (a.all fun c => decide (48 ≤ c) && decide (c ≤ 57)) = true ∧ n = a.foldl (fun v c => v * 10 + (c - 48)) acc
  | [], acc, n, h => by
    simp only [numTx, Option.some.injEq] at h
    exact ⟨rfl, h.symm⟩
  | c :: a, acc, n, h => by
    unfold numTx at h
    split at h
    · rename_i hc
      obtain ⟨h1, h2⟩ := numTx_val a _ n h
      simp only [List.all_cons, h1, Bool.and_true, List.foldl_cons]
      exact ⟨by simp [hc.1, hc.2], h2⟩
    · cases h

theorem int_run : UnB C (fun xs H Q => ((∃ i, xs = [.int i] ∧ Q (.int i) H) ∨ ∃ k, xs = [.bl k] ∧ Q (.int (if k then 1 else 0)) H) ∨ ∃ a n, xs = [.str a] ∧ PySem.intText? a = some n ∧ a.length ≤ 640 ∧ Q (.int n) H) (uA .int) := by
  refine ⟨fun g h H x cx Q N r rx ok => ?_⟩
  unfold uA at ok
  simp only at ok
  split at ok
  · exact .inl (.inl ⟨_, by rw [rx.int], okP r ok .mkI⟩)
  · exact .inl (.inr ⟨_, by rw [rx.bl], okP r ok .mkI⟩)
  · rename_i c t
    split at ok
    · rename_i hz
      split at ok
      · rename_i n hn
        obtain ⟨h1, h2⟩ := numTx_val _ _ _ hn
        refine .inr ⟨toS (c :: t), ((NumText.digitsVal (c :: t) : Nat) : Int), by rw [rx.str], SX.int_S h1 (by simp) (by omega), by rw [toS_len]; exact hz, ?_⟩
        have e : ((NumText.digitsVal (c :: t) : Nat) : Int) = (n : Int) := by
          rw [h2]
          rfl
        rw [e]
        exact okP r ok .mkI
      · exact ok.elim
    · exact ok.elim
  · exact ok.elim
theorem intTx_S (i : Int) : (Str.ofString (toString i)) = toS (intTx i) := by
  unfold intTx
  cases i with
  | ofNat n =>
    have h : ¬ (Int.ofNat n < 0) := by simp
    rw [if_neg h]
    exact SX.num_S n
  | negSucc n =>
    have h : Int.negSucc n < 0 := Int.negSucc_lt_zero n
    rw [if_pos h]
    have e1 : toString (Int.negSucc n) = "-" ++ toString (n + 1) := rfl
    rw [Str.ofString_eq_toList, e1]
    unfold toS
    congr 2
    have e2 : (toString (n + 1) : String).toList = Nat.toDigits 10 (n + 1) := by
      show (Nat.repr (n + 1)).toList = _
      simp [Nat.repr]
    simp only [String.toList_append, List.map_append, e2]
    rfl
theorem str_run : UnB C (fun xs H Q => ∃ i : Int, xs = [.int i] ∧ i.natAbs.log2 < 1920 ∧ Q (.str (toString i)) H) (uA .str) := by
  refine ⟨fun g h H x cx Q N r rx ok => ?_⟩
  unfold uA at ok
  simp only at ok
  split at ok
  · split at ok
    · rename_i i hz
      refine ⟨i, by rw [rx.int], hz, ?_⟩
      have e : (V.str (toString i : String)) = .str (toS (intTx i)) := by rw [← intTx_S]
      rw [e]
      exact okP r ok .mkS
    · exact ok.elim
  · exact ok.elim
theorem ints_rel {g : Gh} : ∀ {xs : List AV} {vs : List V} {ns : List Int}, RelL C g xs vs → intsO xs = some ns → vs = ns.map V.int
  | [], _, _, h, e => by
    simp only [intsO, Option.some.injEq] at e
    rw [RelL.nil_iff] at h
    subst e; subst h; rfl
  | x :: xs, _, ns, h, e => by
    cases x <;> simp only [intsO, reduceCtorEq] at e
    obtain ⟨m, e1, rfl⟩ := Option.map_eq_some_iff.mp e
    rw [RelL.cons_iff] at h
    obtain ⟨v, r, rfl, h1, h2⟩ := h
    rw [h1.int, ints_rel h2 e1]
    rfl
theorem strs_rel {g : Gh} : ∀ {xs : List AV} {vs : List V} {ns : List Tx}, RelL C g xs vs → strsO xs = some ns → vs = ns.map fun t => V.str (toS t)
  | [], _, _, h, e => by
    simp only [strsO, Option.some.injEq] at e
    rw [RelL.nil_iff] at h
    subst e; subst h; rfl
  | x :: xs, _, ns, h, e => by
    cases x <;> simp only [strsO, reduceCtorEq] at e
    obtain ⟨m, e1, rfl⟩ := Option.map_eq_some_iff.mp e
    rw [RelL.cons_iff] at h
    obtain ⟨v, r, rfl, h1, h2⟩ := h
    rw [h1.str, strs_rel h2 e1]
    rfl
theorem prs_rel {g : Gh} : ∀ {xs : List AV} {vs : List V} {ns : List (Int × Int)}, RelL C g xs vs → prsO xs = some ns → xs = ns.map prA ∧ Paired (fun (p : Int × Int) v => ∃ t, v = V.ref t ∧ SqT C.K g.fx t [.int p.1, .int p.2]) ns vs
  | [], _, _, h, e => by
    simp only [prsO, Option.some.injEq] at e
    rw [RelL.nil_iff] at h
    subst e; subst h; exact ⟨rfl, .nil⟩
  | x :: xs, _, ns, h, e => by
    unfold prsO at e
    split at e
    · rename_i heq
      cases heq
    · rename_i i j r heq
      cases heq
      obtain ⟨m, e1, rfl⟩ := Option.map_eq_some_iff.mp e
      rw [RelL.cons_iff] at h
      obtain ⟨v, r, rfl, h1, h2⟩ := h
      obtain ⟨h3, h4⟩ := prs_rel h2 e1
      refine ⟨by rw [h3]; rfl, .cons ?_ h4⟩
      simp only [RelA] at h1
      obtain ⟨a, vs, rfl, h5, h6⟩ := h1
      obtain ⟨u, r1, rfl, h7, h8⟩ := RelL.cons_iff.mp h6
      obtain ⟨u2, r2, rfl, h9, h10⟩ := RelL.cons_iff.mp h8
      rw [RelL.nil_iff] at h10
      subst h10
      exact ⟨a, rfl, by rw [h7.int, h9.int] at h5; exact h5⟩
    · cases e
theorem relL_ints {g : Gh} : ∀ ns : List Int, RelL C g (ns.map .int) (ns.map .int)
  | [] => .nil
  | n :: ns => .cons .mkI (relL_ints ns)
theorem relL_strs {g : Gh} : ∀ ns : List Tx, RelL C g (ns.map .str) (ns.map fun t => .str (toS t))
  | [] => .nil
  | n :: ns => .cons .mkS (relL_strs ns)

theorem sum_tup_raw {prog : Program} {w : World} {A : Around} {E : Value → Shared → Prop} {s : Shared} {l : Addr} {its : List Value} {ns : List Int} {Q : Value → Shared → Prop} (hh : A.handled = none) (hl : s.heap.IsTuple l its.toArray) (hi : IntsAre its ns)
    (h : ∀ h' tk t', (∀ b o, s.heap.get? b = some o → h'.get? b = some o) → Q (.int ns.sum t') { s with heap := h', toks := tk }) : wpAny (model prog w) A (call (.builtin "sum") [.ref l]) Q E s := by
  obtain ⟨xs, e⟩ := hi.allInts.items
  have hn : numsOf (intItems xs).toList = ns := by rw [← e]; exact hi.numsOf
  rw [nums_intItems] at hn
  rw [e] at hl
  have hlt : l < s.heap.objs.size := by obtain ⟨_, e, _⟩ := hl; exact Heap.lt_size e
  refine PySem.call_sum_walkG (PySem.wpAny_pyIter_tuple hl ?_)
  refine ⟨_, _, _, _, _, _, numAt xs, rfl, Walks.tuple (A := A.in1) hh s.heap.objs.size l (Nat.ne_of_lt hlt) (intItems xs), ⟨⟨_, Heap.get?_push_size _ rfl, rfl, rfl⟩, hl.push _⟩, fun b hb => ?_, (fun _ _ => intItems_at), fun h' tk t' hk => ?_⟩
  · show b < (s.heap.push _).objs.size
    rw [Heap.size_push]
    rcases List.mem_cons.mp hb with rfl | hb
    · exact Nat.lt_succ_self _
    · rcases List.mem_cons.mp hb with rfl | hb
      · exact Nat.lt_succ_of_lt hlt
      · cases hb
  · have := h h' tk t' fun b o e => hk b o (fun z => absurd (Heap.lt_size e) (by rw [List.mem_singleton.mp z]; exact Nat.lt_irrefl _)) (Heap.get?_push_of_some _ e)
    have e2 : (intItems xs).size = xs.size := by simp [intItems]
    rw [e2, preSum_eq, List.take_of_length_le (by simp), hn]
    exact this
def rSum2 (K : PySem.W.Frag) : List V → Hp → VK → Prop := fun vs H Q => ∃ (a : Addr) (ns : List Int), vs = [V.ref a] ∧ (SqL K H a (ns.map V.int) ∨ SqT K H a (ns.map V.int)) ∧ Q (.int ns.sum) H
theorem cr_sum2 (hc : X.calm = true) : CallR X (.builtin "sum") (rSum2 X.K) := by
  intro pins s σ H vs us Q I r h
  obtain ⟨a, ns, rfl, hs, q⟩ := h
  rcases hs with hs | hs
  · exact L2.cr_sum hc pins s σ H _ us Q I r ⟨a, ns, rfl, hs, q⟩
  · obtain ⟨its, rv, hl, _⟩ := I.tuple hs
    rw [L2.Vals.ref1 r]
    exact sum_tup_raw (I.ok.hd hc) hl rv.ints fun h' tk t' hk => ⟨.int _, H, I.kept hk, ⟨_, rfl⟩, q⟩
theorem sum_run (hK : X.K = C.K) : UnB C (rSum2 X.K) (uA .sum) := by
  refine ⟨fun g h H x cx Q N r rx ok => ?_⟩
  unfold uA at ok
  simp only at ok
  split at ok
  · rename_i xs z
    unfold uL at ok
    simp only at ok
    split at ok
    · rename_i ns e
      obtain ⟨p, vs, rfl, rl, h1⟩ := seq_at r rx z
      rw [ints_rel rl e] at h1
      rw [hK]
      exact ⟨p, ns, rfl, seq_SqLT h1, okP r ok .mkI⟩
    · exact ok.elim
  · exact ok.elim
theorem list_run (hK : X.K = C.K) (m : Bool) : UnB C (fun xs H Q => (∃ p ys, xs = [.ref p] ∧ (SqL X.K H p ys ∨ SqT X.K H p ys) ∧ ∀ l, H l = none → Q (.ref l) (upd H l (.lst ys))) ∨ L2.rListD xs H Q) (uA (.list m)) := by
  refine ⟨fun g h H x cx Q N r rx ok => ?_⟩
  unfold uA at ok
  simp only at ok
  split at ok
  · rename_i xs z
    obtain ⟨p, vs, rfl, rl, h1⟩ := seq_at r rx z
    rw [hK]
    exact .inl ⟨p, vs, rfl, seq_SqLT h1, mk_at r rl ok⟩
  · split at ok
    · rename_i kvs z
      obtain ⟨p, us, rfl, rp, h1⟩ := dct_at r rx z
      refine .inr ⟨p, us, rfl, h1, mk_at r ?_ ok⟩
      clear h1 z ok
      induction kvs generalizing us with
      | nil => simp only [RelP] at rp; subst rp; exact .nil
      | cons q l ih =>
        obtain ⟨k, v⟩ := q
        simp only [RelP] at rp
        obtain ⟨k', v', r', rfl, h1, h2, h3⟩ := rp
        refine .cons ?_ (ih _ h3)
        cases k <;> simp only [KeyR] at h1 <;> subst h1
        · exact .mkI
        · exact .mkS
    · exact ok.elim
theorem cr_list (hc : X.calm = true) : CallR X (.type "list") (fun xs H Q => (∃ p ys, xs = [.ref p] ∧ (SqL X.K H p ys ∨ SqT X.K H p ys) ∧ ∀ l, H l = none → Q (.ref l) (upd H l (.lst ys))) ∨ L2.rListD xs H Q) := .or L2.call_list_of (L2.call_list_dK hc)
theorem tuple_run (hK : X.K = C.K) : UnB C (fun xs H Q => ∃ p ys, xs = [.ref p] ∧ ((SqL X.K H p ys ∧ ∀ l, H l = none → Q (.ref l) (upd H l (.tup ys))) ∨ (SqT X.K H p ys ∧ Q (.ref p) H))) (uA .tuple) := by
  refine ⟨fun g h H x cx Q N r rx ok => ?_⟩
  unfold uA at ok
  simp only at ok
  split at ok
  · rename_i xs z
    obtain ⟨p, vs, rfl, rl, h1⟩ := seq_at r rx z
    rw [hK]
    refine ⟨p, vs, rfl, ?_⟩
    rcases h1 with h1 | h1
    · exact .inl ⟨SqL.of h1.1, tup_at r rl ok⟩
    · refine .inr ⟨h1.1, ?_⟩
      rw [h1.2] at rx
      exact okP r ok rx
  · exact ok.elim
/-! orders -/
theorem ins_perm {α : Type} (lt : α → α → Bool) (x : α) : ∀ l : List α, (ins lt x l).Perm (x :: l)
  | [] => .refl _
  | y :: r => by
    unfold ins
    split
    · exact ((ins_perm lt x r).cons y).trans (.swap x y r)
    · exact .refl _
theorem isort_perm {α : Type} (lt : α → α → Bool) : ∀ l : List α, (isort lt l).Perm l
  | [] => .refl _
  | x :: r => (ins_perm lt x _).trans ((isort_perm lt r).cons x)
/-- an order that tells all apart -/
structure Lin {α : Type} (lt : α → α → Bool) : Prop where
  trans : ∀ a b c, lt b a = false → lt c b = false → lt c a = false
  tot : ∀ a b, lt a b = true → lt b a = false
  anti : ∀ a b, lt a b = false → lt b a = false → a = b
theorem ins_sorted {α : Type} {lt : α → α → Bool} (L : Lin lt) (x : α) : ∀ l : List α, l.Pairwise (fun a b => lt b a = false) → (ins lt x l).Pairwise (fun a b => lt b a = false)
  | [], _ => by simp [ins]
  | y :: r, h => by
    have h0 := List.pairwise_cons.mp h
    unfold ins
    split
    · rename_i hy
      refine List.pairwise_cons.mpr ⟨fun z hz => ?_, ins_sorted L x r h0.2⟩
      rcases List.mem_cons.mp ((ins_perm lt x r).mem_iff.mp hz) with e | e
      · rw [e]; exact L.tot _ _ hy
      · exact h0.1 z e
    · rename_i hy
      have hy : lt y x = false := by simpa using hy
      refine List.pairwise_cons.mpr ⟨fun z hz => ?_, h⟩
      rcases List.mem_cons.mp hz with e | e
      · rw [e]; exact hy
      · exact L.trans x y z hy (h0.1 z e)
theorem isort_sorted {α : Type} {lt : α → α → Bool} (L : Lin lt) : ∀ l : List α, (isort lt l).Pairwise (fun a b => lt b a = false)
  | [] => .nil
  | x :: r => ins_sorted L x _ (isort_sorted L r)
theorem sorted_uniq {α : Type} {lt : α → α → Bool} (L : Lin lt) : ∀ {l m : List α}, l.Perm m → l.Pairwise (fun a b => lt b a = false) → m.Pairwise (fun a b => lt b a = false) → l = m := fun {l m} p h1 h2 =>
  p.eq_of_pairwise (fun a b _ _ h3 h4 => L.anti a b h4 h3) h1 h2
theorem isort_of {α : Type} {lt : α → α → Bool} (L : Lin lt) {l m : List α} (p : m.Perm l) (h : m.Pairwise (fun a b => lt b a = false)) : m = isort lt l :=
  sorted_uniq L (p.trans (isort_perm lt l).symm) h (isort_sorted L l)
theorem lin_int : Lin ilt := by
  refine ⟨fun a b c h1 h2 => ?_, fun a b h => ?_, fun a b h1 h2 => ?_⟩ <;> simp only [ilt, decide_eq_false_iff_not, decide_eq_true_eq] at * <;> omega
theorem lin_pair : Lin plt := by
  refine ⟨fun a b c h1 h2 => ?_, fun a b h => ?_, fun a b h1 h2 => ?_⟩ <;> simp only [plt, Bool.or_eq_false_iff, Bool.and_eq_false_iff, Bool.or_eq_true, Bool.and_eq_true, decide_eq_false_iff_not, decide_eq_true_eq] at *
  · omega
  · omega
  · exact Prod.ext (by omega) (by omega)

theorem lin_tx : Lin txLt := by
  have key : ∀ a b : Tx, a < b ∨ a = b ∨ b < a := fun a b => by
    rcases Std.lt_trichotomy a b with h | h | h
    · exact .inl h
    · exact .inr (.inl h)
    · exact .inr (.inr h)
  refine ⟨fun a b c h1 h2 => ?_, fun a b h => ?_, fun a b h1 h2 => ?_⟩ <;> simp only [txLt, decide_eq_false_iff_not, decide_eq_true_eq] at *
  · exact fun h => absurd (Std.lt_of_lt_of_le h (Std.not_lt.mp h1)) h2
  · exact fun h' => absurd (Std.lt_trans h h') (Std.lt_irrefl)
  · rcases key a b with h | h | h
    · exact absurd h h1
    · exact h
    · exact absurd h h2

/-! sorted -/
theorem lt_cps : ∀ a b : Tx, ltCps a b = txLt a b
  | [], [] => rfl
  | [], _ :: _ => by simp [ltCps, txLt]
  | _ :: _, [] => by simp [ltCps, txLt]
  | x :: xs, y :: ys => by
    have ih := lt_cps xs ys
    simp only [ltCps, txLt] at ih ⊢
    rw [ih]
    by_cases h1 : x < y
    · simp [h1, List.cons_lt_cons_iff]
    · by_cases h2 : x = y
      · simp [h2, List.cons_lt_cons_iff]
      · simp [h1, h2, List.cons_lt_cons_iff]
theorem rising_pair : ∀ (l : List Str) (p : Str), risingS p l = true → (p :: l).Pairwise (fun a b => txLt b.cps.toList a.cps.toList = false)
  | [], p, _ => by simp
  | x :: r, p, h => by
    unfold risingS at h
    simp only [Bool.and_eq_true, Bool.not_eq_true'] at h
    rw [lt_cps] at h
    have ih := rising_pair r x h.2
    refine List.pairwise_cons.mpr ⟨fun z hz => ?_, ih⟩
    rcases List.mem_cons.mp hz with e | e
    · rw [e]; exact h.1
    · exact lin_tx.trans _ _ _ h.1 ((List.pairwise_cons.mp ih).1 z e)
theorem sortedS_pair : ∀ (l : List Str), sortedS l = true → l.Pairwise (fun a b => txLt b.cps.toList a.cps.toList = false)
  | [], _ => .nil
  | x :: r, h => rising_pair r x h
/-- texts sorted are what inserting makes -/
theorem sortS_of {ss : List Tx} {ys : List Str} (hp : ys.Perm (ss.map toS)) (hs : sortedS ys = true) : ys.map V.str = (isort txLt ss).map fun t => V.str (toS t) := by
  have e : (ys.map fun y => y.cps.toList) = isort txLt ss := by
    refine isort_of lin_tx ?_ ?_
    · have := hp.map fun y : Str => y.cps.toList
      rw [List.map_map] at this
      refine this.trans (List.Perm.of_eq ?_)
      conv => rhs; rw [← List.map_id ss]
      refine List.map_congr_left fun t _ => ?_
      exact toS_list t
    · exact List.pairwise_map.mpr (sortedS_pair ys hs)
  rw [← e, List.map_map]
  refine List.map_congr_left fun y _ => ?_
  show V.str y = V.str (toS y.cps.toList)
  rw [toS_of]
theorem sortI_of {ns ms : List Int} (hp : ms.Perm ns) (hs : ms.Pairwise (· ≤ ·)) : ms = isort ilt ns := by
  refine isort_of lin_int hp (hs.imp fun {a b} h => ?_)
  simp only [ilt, decide_eq_false_iff_not]
  omega
theorem plt_lexB (a b : Int × Int) : SrtO.lexB a b = plt a b := by
  unfold SrtO.lexB plt
  by_cases e : a.1 = b.1
  · rw [if_pos e]; simp [e]
  · rw [if_neg e]; simp [e]
/-- the two numbers of a pair -/
noncomputable def twoOf (K : PySem.W.Frag) (H : Hp) (v : Value) : Int × Int := open Classical in if h : ∃ p : Int × Int, ∃ t, v = Value.ref t ∧ SqT K H t [.int p.1, .int p.2] then h.choose else (0, 0)
def IsPr (K : PySem.W.Frag) (H : Hp) (p : Int × Int) (v : V) : Prop := ∃ t, v = V.ref t ∧ SqT K H t [.int p.1, .int p.2]
theorem twoOf_eq {pins : List (Addr × Obj)} {σ : L2.St} {H : Hp} {s : Shared} (I : Inv X pins σ H s) {t : Addr} {p : Int × Int} (h : SqT X.K H t [.int p.1, .int p.2]) : twoOf X.K H (.ref t) = p := by
  have hx : ∃ p : Int × Int, ∃ u, Value.ref t = Value.ref u ∧ SqT X.K H u [.int p.1, .int p.2] := ⟨p, t, rfl, h⟩
  unfold twoOf
  rw [dif_pos hx]
  obtain ⟨u, e, hq⟩ := hx.choose_spec
  cases e
  have := I.tuple_inj hq h
  simp only [List.cons.injEq, V.int.injEq, and_true] at this
  exact Prod.ext this.1 this.2
def rSortQ (K : PySem.W.Frag) : List V → Hp → VK → Prop := fun vs H Q => ∃ (a : Addr) (xs : List V) (ts : List (Int × Int)) (R : Int × Int → V → Prop), vs = [V.ref a] ∧ SqL K H a xs ∧ (∀ p v, R p v → IsPr K H p v) ∧ Paired R ts xs ∧
  ∀ (os : List (Int × Int)) (us : List V) (p : Addr), Paired R os us → os.Perm ts → os.Pairwise (fun a b => plt b a = false) → H p = none → Q (.ref p) (upd H p (.lst us))
theorem paired_two {pins : List (Addr × Obj)} {σ : L2.St} {H : Hp} {s : Shared} {R : Int × Int → V → Prop} (I : Inv X pins σ H s) (hR : ∀ p v, R p v → IsPr X.K H p v) : ∀ {ts : List (Int × Int)} {xs : List V} {its : List Value}, Paired R ts xs → L2.Vals xs its →
    its.map (twoOf X.K H) = ts ∧ ∀ v ∈ its, R (twoOf X.K H v) (L2.backV v) ∧ ∃ t, v = Value.ref t ∧ SqT X.K H t [.int (twoOf X.K H v).1, .int (twoOf X.K H v).2]
  | _, _, _, .nil, .nil => ⟨rfl, fun v hv => absurd hv (by simp)⟩
  | _, _, _, .cons r q, .cons rv rr => by
    obtain ⟨t, ex, h⟩ := hR _ _ r
    subst ex
    cases rv
    obtain ⟨h1, h2⟩ := paired_two I hR q rr
    have e := twoOf_eq I h
    refine ⟨by rw [List.map_cons, e, h1], fun v hv => ?_⟩
    rcases List.mem_cons.mp hv with z | z
    · subst z
      rw [e]
      exact ⟨r, t, rfl, h⟩
    · exact h2 v z
theorem back_pairs {R : Int × Int → V → Prop} {k : Value → Int × Int} : ∀ {out : List Value}, (∀ v ∈ out, R (k v) (L2.backV v) ∧ ∃ t, v = Value.ref t) → Paired R (out.map k) (out.map L2.backV) ∧ L2.Vals (out.map L2.backV) out
  | [], _ => ⟨.nil, .nil⟩
  | v :: r, h => by
    obtain ⟨h1, h2⟩ := back_pairs (out := r) fun u hu => h u (List.mem_cons_of_mem _ hu)
    obtain ⟨hq, t, e⟩ := h v List.mem_cons_self
    refine ⟨.cons hq h1, .cons ?_ h2⟩
    rw [e]
    rfl
theorem cr_sortQ : CallR X (.builtin "sorted") (rSortQ X.K) := by
  intro pins s σ H vs us Q I r h
  obtain ⟨a, xs, ts, R, rfl, hs, hR, hp, q⟩ := h
  obtain ⟨its, rv, pl, hz⟩ := I.list hs
  rw [L2.Vals.ref1 r]
  obtain ⟨t1, t2⟩ := paired_two I hR hp rv
  refine SrtO.sorted_pairsO (k := twoOf X.K H) pl.isList (by rw [← rv.length]; exact hz) (fun v hv => ?_) fun h' d out o1 o2 kp hd hn => ?_
  · obtain ⟨_, t, e, hq⟩ := t2 v hv
    obtain ⟨js, rj, ⟨o, ho, hc, n, hdat⟩, _⟩ := I.tuple hq
    obtain ⟨u1, u2, rfl, r1, r2⟩ := L2.vals2 rj
    obtain ⟨k1, rfl⟩ := r1
    obtain ⟨k2, rfl⟩ := r2
    exact ⟨t, o, k1, k2, n, e, ho, hc, hdat⟩
  · have all : ∀ v ∈ out, R (twoOf X.K H v) (L2.backV v) ∧ ∃ t, v = Value.ref t := fun v hv => let ⟨z1, t, z2, _⟩ := t2 v (o2.perm.mem_iff.mp hv); ⟨z1, t, z2⟩
    obtain ⟨b1, b2⟩ := back_pairs all
    obtain ⟨n, hn⟩ := hn
    refine ⟨.ref d, upd H d (.lst (out.map L2.backV)), I.laid (t' := s.toks) kp hd ⟨?_, out, n, b2, hn⟩, rfl, q (out.map (twoOf X.K H)) _ d b1 ?_ ?_ (I.hok.fresh hd)⟩
    · rw [List.length_map, o2.perm.length_eq, ← rv.length]; exact hz
    · rw [← t1]; exact o2.perm.map _
    · refine List.pairwise_map.mpr (List.Pairwise.imp (fun {x y} z => ?_) o1)
      rw [← plt_lexB]
      exact z
def rSortA (K : PySem.W.Frag) : List V → Hp → VK → Prop := fun vs H Q => L2.rSortedI K vs H Q ∨ L2.rSortedS K vs H Q ∨ rSortQ K vs H Q ∨
  (∃ (a : Addr) (kvs : List (Key × V)) (ks : List Str), vs = [.ref a] ∧ Rd H a (.dK kvs) ∧ kvs.map (·.1) = ks.map Sum.inr ∧ ks.length < 64 ∧ ∀ ys p, ys.Perm ks → sortedS ys = true → H p = none → Q (.ref p) (upd H p (.lst (ys.map V.str)))) ∨
  ∃ (a : Addr) (kvs : List (Key × V)) (ks : List Int), vs = [.ref a] ∧ Rd H a (.dK kvs) ∧ kvs.map (·.1) = ks.map Sum.inl ∧ ks.length < 64 ∧ ∀ (ys : List Int) (p : Addr), ys.Perm ks → ys.Pairwise (· ≤ ·) → H p = none → Q (.ref p) (upd H p (.lst (ys.map V.int)))
theorem cr_sortA (hc : X.calm = true) : CallR X (.builtin "sorted") (rSortA X.K) := .or L2.cr_sortedI (.or L2.cr_sortedS (.or cr_sortQ (.or (L2.call_sortedD hc) (L2.call_sortedDI hc))))
theorem relL_prs {g : Gh} : ∀ {ts : List (Int × Int)} {vs : List V}, Paired (fun (p : Int × Int) v => ∃ t, v = V.ref t ∧ SqT C.K g.fx t [.int p.1, .int p.2]) ts vs → RelL C g (ts.map prA) vs
  | _, _, .nil => .nil
  | _, _, .cons ⟨t, e, h⟩ q => by
    refine .cons ?_ (relL_prs q)
    simp only [prA, RelA]
    exact ⟨t, _, e, h, .cons .mkI (.cons .mkI .nil)⟩
theorem keys_int {g : Gh} : ∀ {kvs : List (AV × AV)} {us : List (Key × V)} {ns : List Int}, RelP C g kvs us → intsO (kvs.map (·.1)) = some ns → us.map (·.1) = ns.map Sum.inl
  | [], _, _, h, e => by
    simp only [RelP] at h
    simp only [List.map_nil, intsO, Option.some.injEq] at e
    subst h; subst e; rfl
  | (k, v) :: r, _, _, h, e => by
    simp only [RelP] at h
    obtain ⟨k', v', r', rfl, h1, h2, h3⟩ := h
    cases k <;> simp only [List.map_cons, intsO, reduceCtorEq] at e
    obtain ⟨m, e1, rfl⟩ := Option.map_eq_some_iff.mp e
    simp only [KeyR] at h1
    rw [List.map_cons, List.map_cons, keys_int h3 e1, h1]
theorem keys_str {g : Gh} : ∀ {kvs : List (AV × AV)} {us : List (Key × V)} {ns : List Tx}, RelP C g kvs us → strsO (kvs.map (·.1)) = some ns → us.map (·.1) = (ns.map toS).map Sum.inr
  | [], _, _, h, e => by
    simp only [RelP] at h
    simp only [List.map_nil, strsO, Option.some.injEq] at e
    subst h; subst e; rfl
  | (k, v) :: r, _, _, h, e => by
    simp only [RelP] at h
    obtain ⟨k', v', r', rfl, h1, h2, h3⟩ := h
    cases k <;> simp only [List.map_cons, strsO, reduceCtorEq] at e
    obtain ⟨m, e1, rfl⟩ := Option.map_eq_some_iff.mp e
    simp only [KeyR] at h1
    rw [List.map_cons, List.map_cons, List.map_cons, keys_str h3 e1, h1]
theorem keys_prs {g : Gh} : ∀ {kvs : List (AV × AV)} {us : List (Key × V)} {ns : List (Int × Int)}, RelP C g kvs us → prsO (kvs.map (·.1)) = some ns → kvs = []
  | [], _, _, _, _ => rfl
  | (k, v) :: r, _, _, h, e => by
    simp only [RelP] at h
    obtain ⟨k', v', r', rfl, h1, h2, h3⟩ := h
    cases k <;> simp only [List.map_cons, prsO, reduceCtorEq] at e
    exact h1.elim
/-- at most so many, of a dict -/
theorem sorted_run (hK : X.K = C.K) (m : Bool) : UnB C (rSortA X.K) (uA (.sorted m)) := by
  refine ⟨fun g h H x cx Q N r rx ok => ?_⟩
  unfold uA at ok
  simp only at ok
  rw [hK]
  split at ok
  · rename_i xs z
    obtain ⟨p, vs, rfl, rl, h1⟩ := lst_at r rx z
    simp only [uL] at ok
    split at ok
    · rename_i ys e
      unfold sortA at e
      split at e
      · rename_i ns en
        simp only [Option.some.injEq] at e
        rw [ints_rel rl en] at h1
        refine .inl ⟨p, ns, rfl, SqL.of h1, fun ms q hp hs hq => ?_⟩
        rw [sortI_of hp hs]
        rw [← e] at ok
        exact mk_at r (relL_ints _) ok q hq
      · split at e
        · rename_i ss es
          split at e
          · rename_i hz
            simp only [Option.some.injEq] at e
            have ev := strs_rel rl es
            have ev2 : vs = (ss.map toS).map V.str := by rw [ev, List.map_map]; rfl
            rw [ev2] at h1
            refine .inr (.inl ⟨p, ss.map toS, rfl, SqL.of h1, by rw [List.length_map]; exact hz, fun ms q hp hs hq => ?_⟩)
            rw [sortS_of hp hs]
            rw [← e] at ok
            exact mk_at r (relL_strs _) ok q hq
          · cases e
        · split at e
          · rename_i ts et
            simp only [Option.some.injEq] at e
            obtain ⟨_, hp⟩ := prs_rel rl et
            refine .inr (.inr (.inl ⟨p, vs, ts, fun (p : Int × Int) v => ∃ t, v = V.ref t ∧ SqT C.K g.fx t [.int p.1, .int p.2], rfl, SqL.of h1, fun p v ⟨t, e1, e2⟩ => ⟨t, e1, SqT.mono (fun b o q => (r.fx b o q).1) e2⟩, hp, fun os us q ho hperm hs hq => ?_⟩))
            rw [isort_of lin_pair hperm hs] at ho
            rw [← e] at ok
            exact mk_at r (relL_prs ho) ok q hq
          · cases e
    · exact ok.elim
  · split at ok
    · rename_i kvs z
      obtain ⟨p, us, rfl, rp, h1⟩ := dct_at r rx z
      split at ok
      · rename_i hz
        simp only [uL] at ok
        split at ok
        · rename_i ys e
          unfold sortA at e
          split at e
          · rename_i ns en
            simp only [Option.some.injEq] at e
            have hk := keys_int rp en
            have hl : ns.length = us.length := by have := congrArg List.length hk; simpa using this.symm
            refine .inr (.inr (.inr (.inr ⟨p, us, ns, rfl, .inl h1, hk, by rw [hl, ← rp.len]; exact hz, fun ms q hp hs hq => ?_⟩)))
            rw [sortI_of hp hs]
            rw [← e] at ok
            exact mk_at r (relL_ints _) ok q hq
          · split at e
            · rename_i ss es
              split at e
              · simp only [Option.some.injEq] at e
                have hk := keys_str rp es
                have hl : ss.length = us.length := by have := congrArg List.length hk; simpa using this.symm
                refine .inr (.inr (.inr (.inl ⟨p, us, ss.map toS, rfl, .inl h1, hk, by rw [List.length_map, hl, ← rp.len]; exact hz, fun ms q hp hs hq => ?_⟩)))
                rw [sortS_of hp hs]
                rw [← e] at ok
                exact mk_at r (relL_strs _) ok q hq
              · cases e
            · rename_i _ n1 _ n2
              split at e
              · rename_i ts et
                obtain rfl := keys_prs rp et
                simp [intsO] at n1
              · cases e
        · exact ok.elim
      · exact ok.elim
    · exact ok.elim

theorem maxOf_mem {α : Type} (lt : α → α → Bool) : ∀ (l : List α) (a : α), maxOf lt a l ∈ a :: l
  | [], a => by simp [maxOf]
  | b :: r, a => by
    unfold maxOf
    have := maxOf_mem lt r (if lt a b then b else a)
    rcases List.mem_cons.mp this with e | e
    · rw [e]; split <;> simp
    · exact List.mem_cons_of_mem _ (List.mem_cons_of_mem _ e)
theorem maxOf_ge : ∀ (l : List Int) (a : Int), ∀ y ∈ a :: l, y ≤ maxOf ilt a l
  | [], a, y, h => by simp at h; subst h; exact Int.le_refl _
  | b :: r, a, y, h => by
    unfold maxOf
    have ih := maxOf_ge r (if ilt a b then b else a)
    have h0 := ih (if ilt a b then b else a) List.mem_cons_self
    have h1 : a ≤ (if ilt a b then b else a) ∧ b ≤ (if ilt a b then b else a) := by
      simp only [ilt]
      by_cases h : a < b
      · simp [h]; omega
      · simp [h]; omega
    rcases List.mem_cons.mp h with e | e
    · subst e; exact Int.le_trans h1.1 h0
    · rcases List.mem_cons.mp e with e | e
      · subst e; exact Int.le_trans h1.2 h0
      · exact ih y (List.mem_cons_of_mem _ e)
theorem minOf_mem {α : Type} (lt : α → α → Bool) : ∀ (l : List α) (a : α), minOf lt a l ∈ a :: l
  | [], a => by simp [minOf]
  | b :: r, a => by
    unfold minOf
    have := minOf_mem lt r (if lt b a then b else a)
    rcases List.mem_cons.mp this with e | e
    · rw [e]; split <;> simp
    · exact List.mem_cons_of_mem _ (List.mem_cons_of_mem _ e)
theorem minOf_le : ∀ (l : List Int) (a : Int), ∀ y ∈ a :: l, minOf ilt a l ≤ y
  | [], a, y, h => by simp at h; subst h; exact Int.le_refl _
  | b :: r, a, y, h => by
    unfold minOf
    have ih := minOf_le r (if ilt b a then b else a)
    have h0 := ih (if ilt b a then b else a) List.mem_cons_self
    have h1 : (if ilt b a then b else a) ≤ a ∧ (if ilt b a then b else a) ≤ b := by
      simp only [ilt]
      by_cases h : b < a
      · simp [h]; omega
      · simp [h]; omega
    rcases List.mem_cons.mp h with e | e
    · subst e; exact Int.le_trans h0 h1.1
    · rcases List.mem_cons.mp e with e | e
      · subst e; exact Int.le_trans h0 h1.2
      · exact ih y (List.mem_cons_of_mem _ e)

/-! ### max(a, b), min(a, b) -/
theorem se_mm (A : At C X) (mx : Bool) {x : Str} {p : Pos} (bn : Bn X x) (hv : bootBuiltins x = some (.builtin (if mx then "max" else "min"))) (ha : SE C φ X a fa) (hb : SE C φ X b fb) (hn : noStar a = true) (hn2 : noStar b = true)
    (h1 : x ≠ "__name__") (h2 : (x == ("__debug__" : Str)) = false) : SE C φ X (.Call (.Name x p) [a, b] [] pos) (eMM mx fa fb) := by
  have hc : CallR X (.builtin (if mx then "max" else "min")) (fun xs H Q => ∃ i j, xs = [.int i, .int j] ∧ Q (.int (if mx then (if j > i then j else i) else (if j < i then j else i))) H) := by
    cases mx
    · exact L2.call_min2 A.calm
    · exact L2.call_max2 A.calm
  refine ⟨fun N tk => (L2.pe_callB hc bn.gl bn.mg hv (L2.pa_cons (ha.run N tk) (L2.pa_cons (hb.run N tk) L2.pa_nil (star_cons hn2)) (star_cons hn)) h1 h2 (star_cons hn) (by rw [star_cons hn2]; rfl)).imp fun σ H Q ⟨g, s, h, r, rs, ok⟩ => ?_⟩
  refine go r rs ok fun g1 h1 x cx H1 e1 r1 rx ok1 => go r1 (rs.mono e1) ok1 fun g2 h2 y cy H2 e2 r2 ry ok2 => ?_
  replace rx := rx.mono e2
  split at ok2
  · rename_i v e
    unfold mmA at e
    split at e
    · simp only [Option.some.injEq] at e
      refine ⟨_, _, by rw [rx.int, ry.int], okP r2 ok2 (by rw [← e]; exact .mkI)⟩
    · cases e
  · exact ok2.elim

/-! ### dict(pairs) -/
theorem KeyR.inj {x y : AV} {k l : Key} (h : KeyR x k) (h' : KeyR y l) : decide (k = l) = decide (x = y) := by
  by_cases e : x = y
  · rw [decide_eq_true e, decide_eq_true ((KeyR.iff h h').mpr e)]
  · rw [decide_eq_false e, decide_eq_false (fun z => e ((KeyR.iff h h').mp z))]
theorem RelP.has {g : Gh} {x : AV} {k : Key} (hk : KeyR x k) : ∀ {kvs : List (AV × AV)} {us : List (Key × V)}, RelP C g kvs us → (us.any fun kv => decide (kv.1 = k)) = hasK x kvs
  | [], _, h => by simp only [RelP] at h; subst h; rfl
  | (l, v) :: r, _, h => by
    simp only [RelP] at h
    obtain ⟨k', v', r', rfl, h1, h2, h3⟩ := h
    have ih := RelP.has hk h3
    unfold hasK at ih ⊢
    rw [List.any_cons, List.any_cons, ih]
    show (decide (k' = k) || _) = (decide (l = x) || _)
    rw [KeyR.inj h1 hk]
theorem RelP.put {g : Gh} {x v : AV} {k : Key} {u : V} (hk : KeyR x k) (hv : RelA C g v u) {kvs : List (AV × AV)} {us : List (Key × V)} (h : RelP C g kvs us) : RelP C g (putK x v kvs) (L2.putK us k u) := by
  unfold putK L2.putK
  rw [h.has hk]
  cases hasK x kvs with
  | true =>
    simp only [if_true]
    induction kvs generalizing us with
    | nil => simp only [RelP] at h; subst h; simp [RelP]
    | cons p r ih =>
      obtain ⟨l, w⟩ := p
      simp only [RelP] at h
      obtain ⟨k', v', r', rfl, h1, h2, h3⟩ := h
      simp only [List.map_cons]
      by_cases e : l = x
      · have e2 : k' = k := (KeyR.iff h1 hk).mpr e
        rw [if_pos e, if_pos e2]
        simp only [RelP]
        exact ⟨k', u, _, rfl, h1, hv, ih h3⟩
      · have e2 : ¬ k' = k := fun z => e ((KeyR.iff h1 hk).mp z)
        rw [if_neg e, if_neg e2]
        simp only [RelP]
        exact ⟨k', v', _, rfl, h1, h2, ih h3⟩
  | false =>
    simp only [Bool.false_eq_true, if_false]
    induction kvs generalizing us with
    | nil =>
      simp only [RelP] at h
      subst h
      simp only [List.nil_append, RelP]
      exact ⟨k, u, [], rfl, hk, hv, rfl⟩
    | cons p r ih =>
      obtain ⟨l, w⟩ := p
      simp only [RelP] at h
      obtain ⟨k', v', r', rfl, h1, h2, h3⟩ := h
      simp only [List.cons_append, RelP]
      exact ⟨k', v', _, rfl, h1, h2, ih h3⟩
theorem putAll_rel {g : Gh} {H : Hp} (kp : ∀ a o, g.fx a = some o → H a = some o) : ∀ {xs : List AV} {vs : List V} {kvs out : List (AV × AV)} {us : List (Key × V)}, RelL C g xs vs → RelP C g kvs us → putAll kvs xs = some out →
    ∃ (ps : List Addr) (ks : List (Key × V)), vs = ps.map V.ref ∧ Paired (fun p (kv : Key × V) => SqT C.K H p [L2.kV kv.1, kv.2]) ps ks ∧ RelP C g out (L2.mergeK us ks)
  | [], _, kvs, out, us, hl, hp, e => by
    rw [RelL.nil_iff] at hl
    unfold putAll at e
    simp only [Option.some.injEq] at e
    subst hl; subst e
    exact ⟨[], [], rfl, .nil, hp⟩
  | x :: xs, _, kvs, out, us, hl, hp, e => by
    unfold putAll at e
    split at e
    · rename_i hq
      cases hq
    · rename_i k v r hq
      cases hq
      split at e
      · rename_i hk
        rw [RelL.cons_iff] at hl
        obtain ⟨cv, rr, rfl, h1, h2⟩ := hl
        simp only [RelA] at h1
        obtain ⟨a, ws, rfl, h3, h4⟩ := h1
        obtain ⟨ck, r1, rfl, h5, h6⟩ := RelL.cons_iff.mp h4
        obtain ⟨cw, r2, rfl, h7, h8⟩ := RelL.cons_iff.mp h6
        rw [RelL.nil_iff] at h8
        subst h8
        obtain ⟨kk, h9, rfl⟩ := key_of hk h5
        obtain ⟨ps, ks, e1, e2, e3⟩ := putAll_rel kp h2 (hp.put h9 h7) e
        exact ⟨a :: ps, (kk, cw) :: ks, by rw [e1]; rfl, .cons (SqT.mono kp h3) e2, e3⟩
      · cases e
    · cases e
/-- a dict made -/
theorem mkD_at {g : Gh} {h : AH} {H : Hp} {m : Bool} {xs : List (AV × AV)} {vs : List (Key × V)} {Q : VK} {N : Nat → Hp → Prop} (r : Rep C g h H) (rl : RelP C g xs vs) (ok : okG C g (mkD m xs h) (fun x g' _ H' => ∀ v, RelA C g' x v → Q v H') N) :
    ∀ p, H p = none → Q (.ref p) (upd H p (.dK vs)) := fun p hp => by
  unfold mkD at ok
  cases m with
  | false =>
    refine ok _ _ (r.ext_more hp _) (r.more hp (o := .dK vs) trivial) _ ?_
    simp only [RelA]
    exact ⟨p, vs, rfl, upd_same, rl.mono (r.ext_more hp _)⟩
  | true =>
    refine ok _ _ r.ext_obj (r.new hp (o := .dct xs) (u := .dK vs) ⟨vs, rfl, rl.mono r.ext_obj⟩) _ ?_
    simp only [RelA]
    refine ⟨?_, ?_⟩
    · show h.length < g.n + 1
      rw [r.n]; exact Nat.lt_succ_self _
    · show V.ref p = V.ref (if h.length = g.n then p else g.at_ h.length)
      rw [if_pos r.n.symm]
theorem dict_run (hK : X.K = C.K) (m : Bool) : UnB C (fun xs H Q => ∃ (a : Addr) (ps : List Addr) (kvs : List (Key × V)), xs = [.ref a] ∧ SqL X.K H a (ps.map V.ref) ∧ Paired (fun p kv => SqT X.K H p [L2.kV kv.1, kv.2]) ps kvs ∧ ∀ p, H p = none → Q (.ref p) (upd H p (.dK (L2.mergeK [] kvs)))) (uA (.dict m)) := by
  refine ⟨fun g h H x cx Q N r rx ok => ?_⟩
  unfold uA at ok
  simp only at ok
  split at ok
  · rename_i xs z
    obtain ⟨p, vs, rfl, rl, h1⟩ := lst_at r rx z
    split at ok
    · rename_i kvs e
      obtain ⟨ps, ks, rfl, e2, e3⟩ := putAll_rel (fun b o q => (r.fx b o q).1) rl (us := []) (by simp only [RelP]) e
      rw [hK]
      exact ⟨p, ps, ks, rfl, SqL.of h1, e2, mkD_at r e3 ok⟩
    · exact ok.elim
  · exact ok.elim
end
end TX

/-! TxE: texts, calls -/
set_option Elab.async false
set_option linter.all false
set_option maxRecDepth 100000
set_option maxHeartbeats 1000000
set_option autoImplicit false
namespace TX
open PySem PySem.Spec PyProof.Rows
open L2 (V HO Hp Key upd upd_same upd_ne SqL SqT Rd HOk Cx Inv PE PT PW PS PSs PG PI PA TE TT TA TS VK XK WX Takes Ends EP OpR tOp CallR tCB tCons tNil Sp Room FnOk)
section
variable {C : Cfg} {φ : Fn} {X : Cx} {a b c e o i : Expr} {es : List Expr} {fa fb fc f : EF} {fs : AF} {pos p apos : Pos}

/-! ### f-strings -/
inductive SF_ (C : Cfg) (φ : Fn) (X : Cx) : List Expr → List EF → Prop
  | nil : SF_ C φ X [] []
  | str {x : Str} {t : Tx} {j : Nat} {q : Pos} {es : List Expr} {fs : List EF} (h : x = toS t) (r : SF_ C φ X es fs) : SF_ C φ X (.Constant (.str x) j q :: es) (eC (.str t) :: fs)
  | val {e : Expr} {f : EF} {q : Pos} {es : List Expr} {fs : List EF} (h : SE C φ X e f) (r : SF_ C φ X es fs) : SF_ C φ X (.FormattedValue e (-1) none q :: es) (f :: fs)
/-- one part's text -/
def tPt (C : Cfg) (φ : Fn) (f : EF) (N : Nat → Hp → Prop) : TE := fun σ H Q => ∃ g s h, Rep C g h H ∧ RelS C g s σ ∧ okG C g (f φ s h) (fun x g' _ H' => ∃ t, fsPart x = some t ∧ Q (.str (toS t)) H') N
theorem natTx_len (n : Nat) (h : n.log2 < 1920) : (natTx n).length ≤ 3900 := by
  unfold natTx
  rw [List.length_map]
  by_cases h0 : n = 0
  · subst h0; decide
  · have h2 : n < 2 ^ 1920 := (Nat.log2_lt h0).mp h
    refine (Nat.length_toDigits_le_iff (by decide) (by decide)).mpr (Nat.lt_of_lt_of_le h2 ?_)
    exact Nat.le_trans (Nat.pow_le_pow_left (by decide) _) (Nat.pow_le_pow_right (by decide) (by decide))
theorem fsPart_len {x : AV} {t : Tx} (h : fsPart x = some t) : t.length ≤ 4000 := by
  unfold fsPart at h
  split at h
  · split at h
    · rename_i hz
      cases h; exact hz
    · cases h
  · split at h
    · rename_i i hz
      cases h
      unfold intTx
      have := natTx_len i.natAbs hz
      split <;> simp <;> omega
    · cases h
  · cases h

theorem fmt_at {N : Nat → Hp → Prop} {q : Pos} (tk : Takes X (wX C N)) (h : SE C φ X e f) : PE X (.FormattedValue e (-1) none q) (tPt C φ f N) := by
  refine (L2.pe_fmt (h.run N tk)).imp fun σ H Q ⟨g, s, hh, r, rs, ok⟩ => ?_
  refine ⟨g, s, hh, r, rs, ?_⟩
  cases e2 : f φ s hh with
  | exc c h1 => rw [e2] at ok; exact ok
  | stuck => rw [e2] at ok; exact ok
  | ok x h1 =>
    rw [e2] at ok
    intro g' H' e1 r1 v rv
    obtain ⟨t, ht, q⟩ := ok g' H' e1 r1
    have hl := fsPart_len ht
    unfold fsPart at ht
    split at ht
    · split at ht
      · cases ht
        exact .inl ⟨_, rv.str, by rw [toS_len]; exact Nat.le_trans hl (by decide), q⟩
      · cases ht
    · split at ht
      · rename_i i hz
        cases ht
        refine .inr ⟨i, rv.int, hz, ?_⟩
        have e : (V.str (toString i : String)) = .str (toS (intTx i)) := by rw [← intTx_S]
        rw [e]
        exact q
      · cases ht
    · cases ht
theorem const_at {N : Nat → Hp → Prop} {x : Str} {t : Tx} {j : Nat} {q : Pos} (h : x = toS t) : PE X (.Constant (.str x) j q) (tPt C φ (eC (.str t)) N) := by
  refine L2.pe_str.imp fun σ H Q ⟨g, s, hh, r, rs, ok⟩ => ?_
  obtain ⟨u, h1, h2⟩ := ok g H (Ext.refl g) r
  unfold fsPart at h1
  simp only at h1
  split at h1
  · cases h1
    rw [h]
    exact h2
  · cases h1
theorem fs_js {N : Nat → Hp → Prop} (tk : Takes X (wX C N)) {es : List Expr} {fs : List EF} (h : SF_ C φ X es fs) : L2.PJ X es (fs.map fun f => tPt C φ f N) := by
  induction h with
  | nil => exact .nil
  | str h r ih => exact .cons (const_at h) ih
  | val h r ih => exact .cons (fmt_at tk h) ih
theorem fs_read {N : Nat → Hp → Prop} {σ : L2.St} {Q : Str → Hp → Prop} {s : St} : ∀ (fs : List EF) (acc : Tx) (g : Gh) (h : AH) (H : Hp), Rep C g h H → RelS C g s σ → acc.length + 4000 * fs.length ≤ SZ →
    okG C g (fsGo φ s fs acc h) (fun x g' _ H' => ∀ v, RelA C g' x v → ∃ y, v = .str y ∧ Q y H') N → L2.tJs (fs.map fun f => tPt C φ f N) (toS acc) σ H Q
  | [], acc, g, h, H, r, rs, _, ok => by
    unfold fsGo at ok
    obtain ⟨y, e, q⟩ := ok g H (Ext.refl g) r _ .mkS
    cases e
    exact q
  | f :: fs, acc, g, h, H, r, rs, hz, ok => by
    unfold fsGo at ok
    show tPt C φ f N σ H fun x H1 => ∃ y : Str, x = .str y ∧ (toS acc ++ y).length ≤ sizeLine ∧ L2.tJs (fs.map fun f => tPt C φ f N) (toS acc ++ y) σ H1 Q
    refine ⟨g, s, h, r, rs, ?_⟩
    cases e2 : f φ s h with
    | exc c h1 => rw [e2] at ok; exact ok
    | stuck => rw [e2] at ok; exact ok
    | ok x h1 =>
      rw [e2] at ok
      intro g' H' e1 r1
      have ok1 := okG.ext ok e1
      simp only [bind_ok] at ok1
      split at ok1
      · rename_i t ht
        have hl := fsPart_len ht
        simp only [List.length_cons] at hz
        refine ⟨t, ht, toS t, rfl, ?_, ?_⟩
        · rw [toS_append, toS_len, List.length_append]
          exact Nat.le_trans (by omega) hz
        · rw [toS_append]
          exact fs_read fs (acc ++ t) g' h1 H' r1 (rs.mono e1) (by rw [List.length_append]; omega) ok1
      · exact ok1.elim
theorem se_fs {e1 e2 : Expr} {es : List Expr} {fs : List EF} (h : SF_ C φ X (e1 :: e2 :: es) fs) (hl : fs.length ≤ 4000) : SE C φ X (.JoinedStr (e1 :: e2 :: es) pos) (eFs fs) := by
  refine ⟨fun N tk => (L2.pe_joined (fs_js tk h)).imp fun σ H Q ⟨g, s, hh, r, rs, ok⟩ => ?_⟩
  have e : Str.empty = toS [] := rfl
  rw [e]
  refine fs_read fs [] g hh H r rs (by unfold SZ; simp; omega) ?_
  cases z : fsGo φ s fs [] hh with
  | exc c h1 => unfold eFs at ok; rw [z] at ok; exact ok
  | stuck => unfold eFs at ok; rw [z] at ok; exact ok
  | ok x h1 =>
    unfold eFs at ok
    rw [z] at ok
    have hs : ∃ t, x = .str t := by
      have key : ∀ (fs : List EF) (acc : Tx) (h h1 : AH) (x : AV), fsGo φ s fs acc h = .ok x h1 → ∃ t, x = .str t := by
        intro fs
        induction fs with
        | nil => intro acc h h1 x e; unfold fsGo at e; cases e; exact ⟨_, rfl⟩
        | cons f fs ih =>
          intro acc h h1 x e
          unfold fsGo at e
          cases e2 : f φ s h with
          | exc c h2 => rw [e2] at e; cases e
          | stuck => rw [e2] at e; cases e
          | ok y h2 =>
            rw [e2] at e
            simp only [bind_ok] at e
            split at e
            · exact ih _ _ _ _ e
            · cases e
      exact key _ _ _ _ _ z
    obtain ⟨t, rfl⟩ := hs
    intro g' H' e1 r1 v rv
    refine ⟨_, rv.str, ?_⟩
    have := ok g' H' e1 r1 v rv
    rw [rv.str] at this
    exact this

/-! ### texts' methods -/
/-- a method's call on one line, of no 'super' -/
def mBase (o : Expr) (n : Str) (env : Env) : Prop := attributeBase o n env (eval o env) = eval o env
theorem mBase_of {o : Expr} {n : Str} {env : Env} (h : ∀ (x : Str) (p q : Pos), o = .Call (.Name x p) [] [] q → x ≠ "super") : mBase o n env := by
  unfold mBase attributeBase
  cases o with
  | Call f as ks q =>
    cases f with
    | Name x p =>
      cases as with
      | nil =>
        cases ks with
        | nil =>
          have hx := h x p q rfl
          have : (x != ("super" : Str)) = true := by simpa using hx
          simp [this]
        | cons _ _ => rfl
      | cons _ _ => rfl
    | _ => rfl
  | _ => rfl
def notSuper : Expr → Bool
  | .Call (.Name x _) [] [] _ => !decide (x = "super")
  | _ => true
theorem mBase_by {o : Expr} {n : Str} {env : Env} (h : notSuper o = true) : mBase o n env := mBase_of fun x p q e => by
  subst e
  simpa [notSuper] using h
theorem pre_eq (p t : Tx) : TL.pre p t = p.isPrefixOf t := by
  unfold TL.pre
  by_cases h : p <+: t
  · have h2 : p.isPrefixOf t = true := List.isPrefixOf_iff_prefix.mpr h
    rw [h2, List.prefix_iff_eq_take.mp h]
    simp
  · have h2 : p.isPrefixOf t = false := by
      cases z : p.isPrefixOf t with
      | false => rfl
      | true => exact absurd (List.isPrefixOf_iff_prefix.mp z) h
    rw [h2]
    cases z : (t.take p.length == p) with
    | false => rfl
    | true => exact absurd (List.prefix_iff_eq_take.mpr (beq_iff_eq.mp z).symm) h

theorem starts_eq (t p : Tx) : Txt.startswith (toS t) (toS p) = p.isPrefixOf t := by
  rw [← pre_eq]
  show (decide (0 + (toS p).length ≤ (toS t).length) && ((toS t).cps.extract 0 (0 + (toS p).length) == (toS p).cps)) = _
  have h1 : (toS t).cps.extract 0 (0 + (toS p).length) = (t.take p.length).toArray := by
    rw [toS_len]
    simp [toS]
  have h2 : ((t.take p.length).toArray == (toS p).cps) = (t.take p.length == p) := by
    rw [Bool.eq_iff_iff, beq_iff_eq, beq_iff_eq]
    unfold toS
    constructor
    · intro h; simpa using h
    · intro h; rw [h]
  rw [h1, h2, toS_len, toS_len]
  unfold TL.pre
  cases z : (t.take p.length == p) with
  | false => rw [Bool.and_false]
  | true =>
    have h3 := congrArg List.length (beq_iff_eq.mp z)
    rw [List.length_take] at h3
    rw [Bool.and_true, decide_eq_true_iff]
    omega
theorem se_starts {x : Str} {t : Tx} {j : Nat} {q : Pos} (ha : SE C φ X a fa) (hx : x = toS t) (hs : notSuper a = true) (hl : (apos.endLine == pos.line) = true) : SE C φ X (.Call (.Attribute a "startswith" apos) [.Constant (.str x) j q] [] pos) (eStarts fa t) := by
  refine ⟨fun N tk => (L2.pe_m1 PySem.F.slot_str_startswith PySem.F.type_str_startswith L2.mt_startswith (ha.run N tk) L2.pe_str (star_cons rfl) (mBase_by hs) hl).imp fun σ H Q ⟨g, s, hh, r, rs, ok⟩ => ?_⟩
  refine go r rs ok fun g1 h1 x cx H1 e1 r1 rx ok1 => ?_
  split at ok1
  · rename_i u
    refine ⟨⟨_, rx.str⟩, _, _, rx.str, rfl, ?_⟩
    rw [hx, starts_eq]
    exact okP r1 ok1 .mkB
  · exact ok1.elim
end
end TX

/-! TxF: calls of own defs, statements, loops, comprehensions -/
set_option Elab.async false
set_option linter.all false
set_option maxRecDepth 100000
set_option maxHeartbeats 1000000
set_option autoImplicit false
namespace TX
open PySem PySem.Spec PyProof.Rows
open L2 (V HO Hp Key upd upd_same upd_ne SqL SqT Rd HOk Cx Inv PE PT PW PS PSs PG PGs PI PA TE TT TA TS TG TGs TI It VK XK WX Takes Ends EP OpR tOp CallR tCB tCons tNil Sp Room FnOk)

theorem _root_.L2.PI.imp {X : Cx} {tg e : Expr} {t t' : TI} (h : PI X tg e t) (k : ∀ σ H R, t' σ H R → t σ H R) : PI X tg e t' := ⟨fun pins s σ H R I hw => h.run pins s σ H R I (k σ H R hw)⟩
theorem _root_.L2.PI.or {X : Cx} {tg e : Expr} {t t' : TI} (h : PI X tg e t) (h' : PI X tg e t') : PI X tg e (fun σ H R => t σ H R ∨ t' σ H R) := ⟨fun pins s σ H R I hw => hw.elim (h.run pins s σ H R I) (h'.run pins s σ H R I)⟩
theorem _root_.L2.PG.imp {X : Cx} {e : Expr} {t t' : TG} (h : PG X e t) (k : ∀ v σ H Q, t' v σ H Q → t v σ H Q) : PG X e t' := ⟨fun pins s σ H v u Q I r hw => h.run pins s σ H v u Q I r (k v σ H Q hw)⟩
theorem _root_.L2.PGs.imp {X : Cx} {e : List Expr} {t t' : TGs} (h : PGs X e t) (k : ∀ v σ H Q, t' v σ H Q → t v σ H Q) : PGs X e t' := ⟨fun pins s σ H v u Q I r hw => h.run pins s σ H v u Q I r (k v σ H Q hw)⟩

/-! ### own defs -/
/-- what a def promises -/
def spOf (C : Cfg) (f : List AV → AH → Out AV) : Sp := fun vs H Q E => ∃ g h xs, Rep C g h H ∧ RelL C g xs vs ∧ okG C g (f xs h) (fun x g' _ H' => ∀ v, RelA C g' x v → Q v H') (fun c H' => ∀ d, E (.ref (C.cA c)) d H')
/-- a def of the text that may be called by its name -/
structure FnI (C : Cfg) (P : Program) (w : World) (K : PySem.W.Frag) (mg : Str → Option Value) (base : Heap) (k : Nat) (x : Str) (f : List AV → AH → Out AV) : Prop where
  ex : ∃ (a : Addr) (fd : FuncData) (ps : List Str), FnOk P w K mg base (L2.CX P w) k a fd ps (spOf C f) ∧ mg x = some (.ref a) ∧ PySem.W.keepIn K (.ref a) = true ∧ L2.Binds K fd ps []
section
variable {C : Cfg} {φ : Fn} {X : Cx} {a b c e o i : Expr} {es : List Expr} {fa fb fc f : EF} {fs : AF} {pos p apos : Pos}
theorem call_passes {N : Nat → Hp → Prop} (tk : Takes X (wX C N)) : L2.Passes (L2.CX X.prog X.w) X (fun cls _ H => ∃ c, cls = .ref (C.cA c) ∧ N c H) :=
  L2.passes_call tk fun _ _ _ _ h => h
theorem call_read {N : Nat → Hp → Prop} {k : Nat} {fi : Nat} {σ : L2.St} {H : Hp} {Q : VK} (h : tE C φ (eCall fi fs) N σ H Q) :
    L2.tCall (spOf C (φ 0 fi)) [] (fun cls _ H => ∃ c, cls = .ref (C.cA c) ∧ N c H) (tAr C φ fs N) σ H Q := by
  obtain ⟨g, s, hh, r, rs, ok⟩ := h
  refine goA r rs ok fun g1 h1 xs vs H1 e1 r1 rl ok1 => ?_
  rw [List.append_nil]
  refine ⟨g1, h1, xs, r1, rl, ?_⟩
  cases z : φ 0 fi xs h1 with
  | ok x h2 => rw [z] at ok1; exact ok1
  | exc c h2 => rw [z] at ok1; exact fun g' H' e2 r2 d => ⟨c, rfl, ok1 g' H' e2 r2⟩
  | stuck => rw [z] at ok1; exact ok1
theorem se_call {k fi : Nat} {x : Str} (F : FnI C X.prog X.w X.K X.mg X.base k x (φ 0 fi)) (hr : Room k X.A) (hg : L2.Gl X x) (ha : SA C φ X (e :: es) fs) (hd : (x == ("__debug__" : Str)) = false) (hn : noStar e = true) (hp : (backTo pos (starEach es X.env)).any (·.1) = false) :
    SE C φ X (.Call (.Name x p) (e :: es) [] pos) (eCall fi fs) := by
  obtain ⟨a, fd, ps, F, hm, kp, b⟩ := F.ex
  exact ⟨fun N tk => (L2.pe_call F hr hg hm kp b .nil (call_passes tk) (ha.run N tk) hd (star_cons hn) hp).imp fun σ H Q h => call_read (k := k) h⟩
theorem se_call0 {k fi : Nat} {x : Str} (F : FnI C X.prog X.w X.K X.mg X.base k x (φ 0 fi)) (hr : Room k X.A) (hg : L2.Gl X x) (hd : (x == ("__debug__" : Str)) = false) :
    SE C φ X (.Call (.Name x p) [] [] pos) (eCall fi aNil) := by
  obtain ⟨a, fd, ps, F, hm, kp, b⟩ := F.ex
  refine ⟨fun N tk => (L2.pe_call0 F hr hg hm kp b .nil (call_passes tk) hd).imp fun σ H Q h => ?_⟩
  obtain ⟨g, s, hh, r, rs, ok⟩ := call_read (k := k) h
  exact ok.fin r [] .nil

/-! ### statements -/
def kF (C : Cfg) (D : Ends) : Fl → Gh → AH → Hp → Prop := fun fl g' _ H' => match fl with
  | .nx s' => ∀ σ', RelS C g' s' σ' → D.nx σ' H'
  | .rt v => ∀ u, RelA C g' v u → D.rt u H'
  | .bk s' => ∀ σ', RelS C g' s' σ' → D.bk σ' H'
  | .ct s' => ∀ σ', RelS C g' s' σ' → D.ct σ' H'
def tSt (C : Cfg) (φ : Fn) (f : SF) (N : Nat → Hp → Prop) : TS := fun D σ H => ∃ g s h, Rep C g h H ∧ RelS C g s σ ∧ okG C g (f φ s h) (kF C D) N
structure SS (C : Cfg) (φ : Fn) (X : Cx) (e : Stmt) (f : SF) : Prop where
  run : ∀ N, Takes X (wX C N) → PS X e (tSt C φ f N)
structure SSs (C : Cfg) (φ : Fn) (X : Cx) (e : List Stmt) (f : SF) : Prop where
  run : ∀ N, Takes X (wX C N) → PSs X e (tSt C φ f N)
variable {st : Stmt} {sts : List Stmt} {ba bb : SF}
theorem sss_nil : SSs C φ X [] sNil := ⟨fun N tk => L2.pss_nil.imp fun D σ H ⟨g, s, h, r, rs, ok⟩ => ok.fin r σ rs⟩
theorem sss_cons (h1 : SS C φ X st ba) (h2 : SSs C φ X sts bb) : SSs C φ X (st :: sts) (sSeq ba bb) := by
  refine ⟨fun N tk => (L2.pss_cons (h1.run N tk) (h2.run N tk)).imp fun D σ H ⟨g, s, h, r, rs, ok⟩ => ?_⟩
  refine ⟨g, s, h, r, rs, ?_⟩
  unfold sSeq at ok
  cases z : ba φ s h with
  | exc c h1 => rw [z] at ok; exact ok
  | stuck => rw [z] at ok; exact ok
  | ok fl h1 =>
    rw [z] at ok
    simp only [bind_ok] at ok
    cases fl with
    | nx s1 => exact fun g' H' e1 r1 σ' rs' => ⟨g', s1, h1, r1, rs', okG.ext ok e1⟩
    | rt v => exact ok
    | bk s1 => exact ok
    | ct s1 => exact ok
/-- a tail that looks at no object made before -/
theorem sss_cl (h1 : SSs C φ X sts bb) : SSs C φ X sts (sCl bb) := by
  refine ⟨fun N tk => (h1.run N tk).imp fun D σ H ⟨g, s, h, r, rs, ok⟩ => ?_⟩
  have rs2 : RelS C (g.aside H) (List.replicate s.length none) σ := by
    refine ⟨by rw [List.length_replicate]; exact rs.1, fun i x e => ?_⟩
    rw [List.getElem?_replicate] at e
    split at e <;> cases e
  refine ⟨g.aside H, List.replicate s.length none, [], r.aside, rs2, ?_⟩
  unfold sCl at ok
  cases z : bb φ (List.replicate s.length none) [] with
  | stuck => rw [z] at ok; exact ok
  | exc c h2 =>
    rw [z] at ok
    intro g2 H2 e2 r2
    obtain ⟨b1, b2⟩ := r.back e2 r2
    exact ok _ _ b1 b2
  | ok fl h2 =>
    rw [z] at ok
    cases fl with
    | nx s1 => exact ok.elim
    | bk s1 => exact ok.elim
    | ct s1 => exact ok.elim
    | rt v =>
      simp only at ok
      split at ok
      · rename_i hv
        intro g2 H2 e2 r2 u ru
        obtain ⟨b1, b2⟩ := r.back e2 r2
        exact ok _ _ b1 b2 u (RelA.ofFx (g := g2) (g3 := g.back g2) rfl hv ru)
      · exact ok.elim
theorem sss_one (h1 : SS C φ X st ba) : SSs C φ X [st] (sSeq ba sNil) := sss_cons h1 sss_nil
theorem ss_pass : SS C φ X (.Pass pos) sNil := ⟨fun N tk => L2.ps_pass.imp fun D σ H ⟨g, s, h, r, rs, ok⟩ => ok.fin r σ rs⟩
theorem ss_break : SS C φ X (.Break pos) sBrk := ⟨fun N tk => L2.ps_break.imp fun D σ H ⟨g, s, h, r, rs, ok⟩ => ok.fin r σ rs⟩
theorem ss_continue : SS C φ X (.Continue pos) sCnt := ⟨fun N tk => L2.ps_continue.imp fun D σ H ⟨g, s, h, r, rs, ok⟩ => ok.fin r σ rs⟩
theorem ss_doc {x : Str} {j : Nat} {q : Pos} : SS C φ X (.Expr (.Constant (.str x) j q) pos) sNil := ⟨fun N tk => L2.ps_doc.imp fun D σ H ⟨g, s, h, r, rs, ok⟩ => ok.fin r σ rs⟩
theorem ss_expr (ha : SE C φ X e f) (hs : swapsWith e none pos.line X.env = pure false) : SS C φ X (.Expr e pos) (sExp f) := by
  refine ⟨fun N tk => (L2.ps_expr (ha.run N tk) hs).imp fun D σ H ⟨g, s, h, r, rs, ok⟩ => ?_⟩
  exact go r rs ok fun g1 h1 x cx H1 e1 r1 rx ok1 => ok1.fin r1 σ (rs.mono e1)
theorem ss_ret (ha : SE C φ X e f) : SS C φ X (.Return (some e) pos) (sRet f) := by
  refine ⟨fun N tk => (L2.ps_ret (ha.run N tk)).imp fun D σ H ⟨g, s, h, r, rs, ok⟩ => ?_⟩
  exact go r rs ok fun g1 h1 x cx H1 e1 r1 rx ok1 => ok1.fin r1 cx rx
theorem ss_retN : SS C φ X (.Return none pos) (sRet (eC .non)) := ⟨fun N tk => L2.ps_retN.imp fun D σ H ⟨g, s, h, r, rs, ok⟩ => by
  have z := ok.fin r
  exact z .non (by simp [RelA])⟩
theorem ss_if {sa sb : List Stmt} (hc : SB C φ X c fc) (ha : SSs C φ X sa ba) (hb : SSs C φ X sb bb) : SS C φ X (.If c sa sb pos) (sIf fc ba bb) := by
  refine ⟨fun N tk => (L2.ps_if (hc.run N tk) (ha.run N tk) (hb.run N tk)).imp fun D σ H ⟨g, s, h, r, rs, ok⟩ => ?_⟩
  refine goB r rs ok fun g1 h1 d H1 e1 r1 ok1 => ?_
  cases d with
  | true => rw [if_pos rfl] at ok1 ⊢; exact ⟨g1, s, h1, r1, rs.mono e1, ok1⟩
  | false => rw [if_neg Bool.false_ne_true] at ok1 ⊢; exact ⟨g1, s, h1, r1, rs.mono e1, ok1⟩
/-- raise of an own class without own __init__ -/
structure ExcI (C : Cfg) (K : PySem.W.Frag) (mg : Str → Option Value) (x : Str) (c : Nat) : Prop where
  ex : ∃ (bmB : List Value) (B newId initId : String), ExcBaseFacts B newId initId bmB ∧ PySem.W.excIn K (C.cA c) bmB newId = true
  gC : mg x = some (.ref (C.cA c))
  kC : PySem.W.keepIn K (.ref (C.cA c)) = true
  sub : PySem.W.subIn K (.ref (C.cA c)) (.type "BaseException") = some true
  ty : PySem.W.typeIn K (.ref (C.cA c)) = some (.type "type")
theorem ss_raise {x m : Str} {j k : Nat} {p2 p3 : Pos} (A : At C X) (F : ExcI C X.K X.mg x k) (hg : L2.Gl X x) (hd : (x == ("__debug__" : Str)) = false) : SS C φ X (.Raise (some (.Call (.Name x p) [.Constant (.str m) j p2] [] p3)) none pos) (sRaise k) := by
  obtain ⟨bmB, B, newId, initId, F1, F2⟩ := F.ex
  refine ⟨fun N tk => (L2.ps_raise A.calm tk (L2.pmk_own F1 F2 F.gC F.kC (L2.raises_own F.sub F.ty) hg hd)).imp fun D σ H ⟨g, s, h, r, rs, ok⟩ => ?_⟩
  exact ⟨k, rfl, ok g H (Ext.refl g) r⟩

/-! ### targets -/
def Only (sl : List Nat) (σ σ' : L2.St) : Prop := σ'.length = σ.length ∧ ∀ j, j ∉ sl → σ'[j]? = σ[j]?
theorem Only.set {σ : L2.St} {i : Nat} {v : Option V} : Only [i] σ (σ.set i v) := ⟨by simp, fun j hj => by rw [List.getElem?_set_ne (fun z => hj (by simp [z]))]⟩
theorem Only.trans {a b : List Nat} {σ σ1 σ2 : L2.St} (h : Only a σ σ1) (k : Only b σ1 σ2) : Only (a ++ b) σ σ2 :=
  ⟨k.1.trans h.1, fun j hj => (k.2 j fun z => hj (List.mem_append_right _ z)).trans (h.2 j fun z => hj (List.mem_append_left _ z))⟩
def tGt (C : Cfg) (sl : List Nat) (g : TF) : TG := fun v σ H Q => ∃ g0 h s s1 x, Rep C g0 h H ∧ RelS C g0 s σ ∧ RelA C g0 x v ∧ g x s = some s1 ∧ ∀ σ', RelS C g0 s1 σ' → Only sl σ σ' → Q σ' H
def tGts (C : Cfg) (sl : List Nat) (g : List AV → St → Option St) : TGs := fun v σ H Q => ∃ g0 h s s1 x, Rep C g0 h H ∧ RelS C g0 s σ ∧ RelL C g0 x v ∧ g x s = some s1 ∧ ∀ σ', RelS C g0 s1 σ' → Only sl σ σ' → Q σ' H
structure ST (C : Cfg) (X : Cx) (tg : Expr) (sl : List Nat) (g : TF) : Prop where
  run : PG X tg (tGt C sl g)
structure STs (C : Cfg) (X : Cx) (tg : List Expr) (sl : List Nat) (g : List AV → St → Option St) : Prop where
  run : PGs X tg (tGts C sl g)
theorem st_name {k : Nat} {x : Str} (A : At C X) (hi : X.N[k]? = some x) (hx : L2.Loc X.env.scope x) (hf : X.fn x = true ∨ X.env.scope.names.lookup x = some .local) : ST C X (.Name x pos) [k] (gN k) := by
  refine ⟨(L2.pg_name A.nd hi hx hf).imp fun v σ H Q ⟨g0, h, s, s1, y, r, rs, ry, e, q⟩ => ?_⟩
  unfold gN at e
  cases e
  exact q _ (rs.set k ry) Only.set
theorem sts_nil : STs C X [] [] gsNil := by
  refine ⟨L2.pgs_nil.imp fun v σ H Q ⟨g0, h, s, s1, y, r, rs, ry, e, q⟩ => ?_⟩
  cases y with
  | cons a b => simp [gsNil] at e
  | nil =>
    simp only [gsNil, Option.some.injEq] at e
    subst e
    exact ⟨RelL.nil_iff.mp ry, q σ rs ⟨rfl, fun _ _ => rfl⟩⟩
def noStarT : Expr → Bool
  | .Starred _ _ => false
  | _ => true
theorem assign_cons {e : Expr} {es : List Expr} {env : Env} (h : noStarT e = true) : assignEach (e :: es) env = (false, assign e env) :: assignEach es env := by
  cases e <;> first | rfl | (simp [noStarT] at h)
theorem sts_cons {t : Expr} {ts : List Expr} {sl sl2 : List Nat} {g : TF} {gs : List AV → St → Option St} (h1 : ST C X t sl g) (h2 : STs C X ts sl2 gs) (hn : noStarT t = true) : STs C X (t :: ts) (sl ++ sl2) (gsCons g gs) := by
  refine ⟨(L2.pgs_cons h1.run h2.run (by rw [assign_cons hn]; rfl)).imp fun v σ H Q ⟨g0, h, s, s2, y, r, rs, ry, e, q⟩ => ?_⟩
  cases y with
  | nil => simp [gsCons] at e
  | cons y ys =>
    obtain ⟨v1, vr, rfl, r1, r2⟩ := RelL.cons_iff.mp ry
    simp only [gsCons] at e
    obtain ⟨s1, e1, e2⟩ := Option.bind_eq_some_iff.mp e
    refine ⟨v1, vr, rfl, g0, h, s, s1, y, r, rs, r1, e1, fun σ1 rs1 o1 => ?_⟩
    exact ⟨g0, h, s1, s2, ys, r, rs1, r2, e2, fun σ2 rs2 o2 => q σ2 rs2 (o1.trans o2)⟩
def plainTs : List Expr → Bool
  | [] => true
  | e :: es => noStarT e && plainTs es
theorem plainTs_len {env : Env} : ∀ {ts : List Expr}, plainTs ts = true → (assignEach ts env).length = ts.length ∧ (assignEach ts env).findIdx? (·.1) = none
  | [], _ => ⟨rfl, rfl⟩
  | e :: es, h => by
    simp only [plainTs, Bool.and_eq_true] at h
    obtain ⟨h1, h2⟩ := plainTs_len (env := env) h.2
    rw [assign_cons h.1]
    refine ⟨by simp [h1], ?_⟩
    rw [List.findIdx?_cons]
    simp [h2]
theorem st_tup {ts : List Expr} {k : Nat} {sl : List Nat} {gs : List AV → St → Option St} (A : At C X) (h : STs C X ts sl gs) (hp : plainTs ts = true) (hl : ∀ xs s s1, gs xs s = some s1 → xs.length = ts.length) : ST C X (.Tuple ts k pos) sl (gT gs) := by
  refine ⟨(L2.pg_tup A.calm h.run (plainTs_len hp).1 (plainTs_len hp).2).imp fun v σ H Q ⟨g0, h, s, s2, y, r, rs, ry, e, q⟩ => ?_⟩
  cases y with
  | tup xs =>
    simp only [gT] at e
    simp only [RelA] at ry
    obtain ⟨a, vs, rfl, h1, h2⟩ := ry
    rw [A.K]
    exact ⟨a, vs, rfl, SqT.mono (fun b o q => (r.fx b o q).1) h1, by rw [← h2.len]; exact hl _ _ _ e, g0, h, s, s2, xs, r, rs, h2, e, q⟩
  | _ => simp [gT] at e
def gsLen : List AV → Nat := List.length
theorem gsNil_len : ∀ xs s s1, gsNil xs s = some s1 → xs.length = 0 := fun xs s s1 h => by cases xs <;> simp_all [gsNil]
theorem gsCons_len {g : TF} {gs : List AV → St → Option St} {n : Nat} (h : ∀ xs s s1, gs xs s = some s1 → xs.length = n) : ∀ xs s s1, gsCons g gs xs s = some s1 → xs.length = n + 1 := fun xs s s1 e => by
  cases xs with
  | nil => simp [gsCons] at e
  | cons x xs =>
    simp only [gsCons] at e
    obtain ⟨s2, _, e2⟩ := Option.bind_eq_some_iff.mp e
    rw [List.length_cons, h _ _ _ e2]
/-- target = value -/
theorem ss_set {tg : Expr} {sl : List Nat} {g : TF} (ha : SE C φ X e f) (hg : ST C X tg sl g) (hn : noStarT tg = true) (hs : swapsWithSole [tg] e pos.line X.env = pure false) (hw : swappedStores [tg] e X.env = pure none) : SS C φ X (.Assign [tg] e pos) (sSet g f) := by
  refine ⟨fun N tk => (L2.ps_asg (ha.run N tk) hg.run hs hw (by rw [assign_cons hn]; rfl)).imp fun D σ H ⟨g0, s, h, r, rs, ok⟩ => ?_⟩
  refine go r rs ok fun g1 h1 x cx H1 e1 r1 rx ok1 => ?_
  cases z : g x s with
  | none => rw [z] at ok1; exact ok1.elim
  | some s1 =>
    rw [z] at ok1
    exact ⟨g1, h1, s, s1, x, r1, rs.mono e1, rx, z, fun σ' rs' _ => ok1.fin r1 σ' rs'⟩
/-- a, b = x, y, plain local names -/
theorem ss_par {k l : Nat} {x y : Str} {px py pt : Pos} {kt k2 : Nat} {pt2 : Pos} (A : At C X) (hi : X.N[k]? = some x) (hj : X.N[l]? = some y) (hij : k ≠ l) (hx : X.env.scope.names.lookup x = some .local) (hy : X.env.scope.names.lookup y = some .local) (ha : SA C φ X [a, b] fs)
    (hw : swappedStores [.Tuple [.Name x px, .Name y py] kt pt] (.Tuple [a, b] k2 pt2) X.env = pure (some [x, y])) :
    SS C φ X (.Assign [.Tuple [.Name x px, .Name y py] kt pt] (.Tuple [a, b] k2 pt2) pos) (sSet (gT (gsCons (gN k) (gsCons (gN l) gsNil))) (eTup fs)) := by
  refine ⟨fun N tk => (L2.ps_par A.calm A.nd hi hj hij hx hy (ha.run N tk) hw rfl).imp fun D σ H ⟨g0, s, h, r, rs, ok⟩ => ?_⟩
  have ok' : okG C g0 ((fs φ s h).bind fun xs h1 => (if xs.length ≤ SZ then (Out.ok (.tup xs) h1) else .stuck : Out AV).bind fun v h1 => match gT (gsCons (gN k) (gsCons (gN l) gsNil)) v s with | some s1 => .ok (.nx s1) h1 | none => .stuck) (kF C D) N := by
    unfold sSet eTup at ok
    cases z : fs φ s h with
    | ok xs h1 => rw [z] at ok; exact ok
    | exc c h1 => rw [z] at ok; exact ok
    | stuck => rw [z] at ok; exact ok
  refine goA r rs ok' fun g1 h1 xs vs H1 e1 r1 rl ok1 => ?_
  split at ok1
  · match xs, rl with
    | [], rl => exact ok1.elim
    | [_], rl => exact ok1.elim
    | [x1, x2], rl =>
      obtain ⟨v1, r1', rfl, q1, rl⟩ := RelL.cons_iff.mp rl
      obtain ⟨v2, r2', rfl, q2, rl⟩ := RelL.cons_iff.mp rl
      rw [RelL.nil_iff] at rl
      subst rl
      exact ⟨v1, v2, rfl, ok1.fin r1 _ (((rs.mono e1).set k q1).set l q2)⟩
    | _ :: _ :: _ :: _, rl => exact ok1.elim
  · exact ok1.elim
theorem ss_par3 {k l m : Nat} {x y z : Str} {px py pz pt : Pos} {kt k2 : Nat} {pt2 : Pos} (A : At C X) (hi : X.N[k]? = some x) (hj : X.N[l]? = some y) (hk : X.N[m]? = some z) (hij : k ≠ l) (hik : k ≠ m) (hjk : l ≠ m) (hx : X.env.scope.names.lookup x = some .local) (hy : X.env.scope.names.lookup y = some .local) (hz : X.env.scope.names.lookup z = some .local) (ha : SA C φ X [a, b, c] fs)
    (hw : swappedStores [.Tuple [.Name x px, .Name y py, .Name z pz] kt pt] (.Tuple [a, b, c] k2 pt2) X.env = pure (some [x, y, z])) :
    SS C φ X (.Assign [.Tuple [.Name x px, .Name y py, .Name z pz] kt pt] (.Tuple [a, b, c] k2 pt2) pos) (sSet (gT (gsCons (gN k) (gsCons (gN l) (gsCons (gN m) gsNil)))) (eTup fs)) := by
  refine ⟨fun N tk => (L2.ps_par3 A.calm A.nd hi hj hk hij hik hjk hx hy hz (ha.run N tk) hw rfl).imp fun D σ H ⟨g0, s, h, r, rs, ok⟩ => ?_⟩
  have ok' : okG C g0 ((fs φ s h).bind fun xs h1 => (if xs.length ≤ SZ then (Out.ok (.tup xs) h1) else .stuck : Out AV).bind fun v h1 => match gT (gsCons (gN k) (gsCons (gN l) (gsCons (gN m) gsNil))) v s with | some s1 => .ok (.nx s1) h1 | none => .stuck) (kF C D) N := by
    unfold sSet eTup at ok
    cases z : fs φ s h with
    | ok xs h1 => rw [z] at ok; exact ok
    | exc c h1 => rw [z] at ok; exact ok
    | stuck => rw [z] at ok; exact ok
  refine goA r rs ok' fun g1 h1 xs vs H1 e1 r1 rl ok1 => ?_
  split at ok1
  · match xs, rl with
    | [], rl => exact ok1.elim
    | [_], rl => exact ok1.elim
    | [_, _], rl => exact ok1.elim
    | [x1, x2, x3], rl =>
      obtain ⟨v1, r1', rfl, q1, rl⟩ := RelL.cons_iff.mp rl
      obtain ⟨v2, r2', rfl, q2, rl⟩ := RelL.cons_iff.mp rl
      obtain ⟨v3, r3', rfl, q3, rl⟩ := RelL.cons_iff.mp rl
      rw [RelL.nil_iff] at rl
      subst rl
      exact ⟨v1, v2, v3, rfl, ok1.fin r1 _ ((((rs.mono e1).set k q1).set l q2).set m q3)⟩
    | _ :: _ :: _ :: _ :: _, rl => exact ok1.elim
  · exact ok1.elim
end
end TX

/-! TxG: stores, loops, comprehensions -/
set_option Elab.async false
set_option linter.all false
set_option maxRecDepth 100000
set_option maxHeartbeats 1000000
set_option autoImplicit false
namespace TX
open PySem PySem.Spec PyProof.Rows
open L2 (V HO Hp Key upd upd_same upd_ne SqL SqT Rd HOk Cx Inv PE PT PW PS PSs PG PGs PI PA TE TT TA TS TG TGs TI It VK XK WX Takes Ends EP OpR tOp CallR tCB tCons tNil Sp Room FnOk)
section
variable {C : Cfg} {φ : Fn} {X : Cx} {a b c e o i : Expr} {es : List Expr} {fa fb fc fo fi f : EF} {fs : AF} {pos p apos : Pos}
theorem RelP.len' {g : Gh} {kvs : List (AV × AV)} {us : List (Key × V)} (h : RelP C g kvs us) : us.length = kvs.length := h.len.symm
theorem set_at {g : Gh} {h h4 : AH} {H : Hp} {x k v : AV} {cx ck cv : V} {Q : Hp → Prop} (r : Rep C g h H) (rx : RelA C g x cx) (rk : RelA C g k ck) (rv : RelA C g v cv) (e : setA x k v h = some h4) (hQ : ∀ H', Rep C g h4 H' → Q H') :
    L2.rSetL cx ck cv H Q ∨ L2.rSetD cx ck cv H Q := by
  unfold setA at e
  split at e
  · rename_i q
    simp only [RelA] at rx
    obtain ⟨hq, rfl⟩ := rx
    split at e
    · rename_i xs hg
      obtain ⟨u, h1, vs, rfl, rl⟩ := r.obj q _ hg
      split at e
      · rename_i j
        obtain ⟨m, hm, rfl⟩ := Option.map_eq_some_iff.mp e
        have e2 : L2.ixN vs.length j = some m := by rw [← rl.len]; exact hm
        exact .inl ⟨_, vs, j, m, rfl, rk.int, h1, e2, hQ _ (r.put hg ⟨_, rfl, rl.set rv m⟩)⟩
      · cases e
    · rename_i kvs hg
      obtain ⟨u, h1, us, rfl, rp⟩ := r.obj q _ hg
      split at e
      · rename_i hz
        simp only [Bool.and_eq_true, decide_eq_true_eq] at hz
        simp only [Option.some.injEq] at e
        subst e
        obtain ⟨kk, h2, rfl⟩ := key_of hz.1 rk
        refine .inr ⟨_, _, rfl, L2.DPut.k h1 (by rw [← rp.len]; exact hz.2), hQ _ (r.put hg ⟨_, rfl, rp.put h2 rv⟩)⟩
      · cases e
    · cases e
  · cases e
theorem pset_any (hu : X.A.units + 1 < cLine) : L2.PSet X (fun o i v H Q => L2.rSetL o i v H Q ∨ L2.rSetD o i v H Q) := fun pins s σ H o i v ov iv u Q I r1 r2 r3 h => h.elim (L2.set_list pins s σ H o i v ov iv u Q I r1 r2 r3) (L2.set_dict hu pins s σ H o i v ov iv u Q I r1 r2 r3)
/-- an index that is no slice -/
theorem assign_sub (hs : noSl i = true) (v : Value) : assign (.Subscript o i pos) X.env v = (do
      let ov ← holding [v] (eval o X.env)
      let iv ← holding [v, ov] (eval i X.env)
      standAt pos
      holding [v, ov, iv] (setItem ov iv v)
      release [v, ov, iv] []) := by
  cases i <;> first | rfl | (simp [noSl] at hs)
theorem aug_sub (hs : noSl i = true) : ∀ ov iv new, augStore i ov iv new = (do holding [new, ov, iv] (setItem ov iv new); release [new, ov, iv] []; pure .next) := by
  intro ov iv new
  cases i <;> first | rfl | (simp [noSl] at hs)
theorem ss_put {q : Pos} (A : At C X) (ha : SE C φ X e f) (ho : SE C φ X o fo) (hi : SE C φ X i fi) (hn : noSl i = true) (hs : swapsWithSole [.Subscript o i q] e pos.line X.env = pure false) :
    SS C φ X (.Assign [.Subscript o i q] e pos) (sPut fo fi f) := by
  have hu := A.hu
  refine ⟨fun N tk => (L2.ps_asg (ha.run N tk) (L2.pg_sub (ho.run N tk) (hi.run N tk) (pset_any (by omega)) (assign_sub hn)) hs rfl).imp fun D σ H ⟨g0, s, h, r, rs, ok⟩ => ?_⟩
  refine go r rs ok fun g1 h1 x cx H1 e1 r1 rx ok1 => go r1 (rs.mono e1) ok1 fun g2 h2 y cy H2 e2 r2 ry ok2 => go r2 ((rs.mono e1).mono e2) ok2 fun g3 h3 k ck H3 e3 r3 rk ok3 => ?_
  cases z : setA y k x h3 with
  | none => rw [z] at ok3; exact ok3.elim
  | some h4 =>
    rw [z] at ok3
    exact set_at r3 (ry.mono e3) rk ((rx.mono e2).mono e3) z fun H' r' => ok3 g3 H' (Ext.refl _) r' σ (((rs.mono e1).mono e2).mono e3)
def augOp : BO → Bool
  | .add => true
  | .sub => true
  | _ => false
theorem ip_of {op : BO} (h : augOp op = true) : ∃ k : Int → Int → Int, L2.PIp X (toOp op) (L2.ipI k) ∧ ∀ i j, intOp op i j = some (k i j) := by
  cases op <;> first | exact ⟨_, L2.ip_add, fun _ _ => rfl⟩ | exact ⟨_, L2.ip_sub, fun _ _ => rfl⟩ | (simp [augOp] at h)
theorem ss_aug {k : Nat} {x : Str} {op : BO} {q : Pos} (A : At C X) (hi : X.N[k]? = some x) (hx : L2.Loc X.env.scope x) (hf : X.fn x = true ∨ X.env.scope.names.lookup x = some .local) (ho : augOp op = true) (ha : SE C φ X e f) : SS C φ X (.AugAssign (.Name x q) (toOp op) e pos) (sAug k op f) := by
  obtain ⟨kk, h1, h2⟩ := ip_of (X := X) ho
  refine ⟨fun N tk => (L2.ps_aug A.nd hi hx (ha.run N tk) h1 hf).imp fun D σ H ⟨g0, s, h, r, rs, ok⟩ => ?_⟩
  unfold sAug at ok
  split at ok
  · rename_i y hy
    obtain ⟨v, hv, rv⟩ := rs.2 k y hy
    refine ⟨v, hv, go r rs ok fun g1 h1 z cz H1 e1 r1 rz ok1 => ?_⟩
    split at ok1
    · rename_i n m
      rw [h2] at ok1
      exact ⟨n, m, rv.int, rz.int, ok1.fin r1 _ ((rs.mono e1).set k .mkI)⟩
    · exact ok1.elim
  · exact ok.elim
theorem pget_any (hu : X.A.units + 1 < cLine) : L2.PGet X (fun x y H Q => L2.rIx X.K x y H Q ∨ ∃ a v, x = .ref a ∧ L2.DGet H a y (some v) ∧ Q v H) := by
  intro pins s σ H o i ov iv Q I ro ri h
  have hn := L2.line63
  rcases h with (⟨p, xs, k, z, rfl, rfl, hq, he, q⟩ | ⟨p, xs, k, z, rfl, rfl, hq, he, q⟩ | ⟨y, k, c, rfl, rfl, hz, he, q⟩) | ⟨a, v, rfl, hg, q⟩
  · cases ro
    obtain ⟨t, rfl⟩ := ri
    obtain ⟨its, r, pl, hz⟩ := I.list hq
    obtain ⟨j, h1, h2, h3, h4, h5⟩ := L2.atI_get he
    obtain ⟨w, ew, rw'⟩ := r.get h2
    have hl := r.length
    have fin : EP X pins σ Q w s := ⟨z, H, I, rw', q⟩
    by_cases h0 : 0 ≤ k
    · have hj : k.toNat = j := by
        rw [seqIndex_of h0 h5] at h1
        exact Option.some.inj h1
      exact wpAny_getItem_list (Q := EP X pins σ Q) pl.isList h0 (by omega) (x := w) (by rw [hj]; simpa using ew) fin
    · have hj : (k + (its.toArray.size : Int)).toNat = j := by
        rw [seqIndex_neg (by omega) h4] at h1
        rw [List.size_toArray, ← hl]
        exact Option.some.inj h1
      exact wpAny_getItem_list_neg (Q := EP X pins σ Q) pl.isList (by omega) (by rw [List.size_toArray] <;> omega) (by omega) (x := w) (by rw [hj]; simpa using ew) fin
  · cases ro
    obtain ⟨t, rfl⟩ := ri
    obtain ⟨its, r, pl, hz⟩ := I.tuple hq
    obtain ⟨j, h1, h2, h3, h4, h5⟩ := L2.atI_get he
    obtain ⟨w, ew, rw'⟩ := r.get h2
    have hl := r.length
    exact getItem_tuple (j := j) (Q := EP X pins σ Q) pl (by omega) (by omega) (by rw [List.size_toArray, ← hl]; exact h1) (x := w) (by simpa using ew) ⟨z, H, I, rw', q⟩
  · obtain ⟨t, rfl⟩ := ro
    obtain ⟨t', rfl⟩ := ri
    obtain ⟨j, h1, h2, h3, h4, h5⟩ := L2.atI_get he
    have hl : y.cps.toList.length = y.length := by simp [Str.length]
    rw [hl] at h1 h4 h5
    exact getItem_str (c := c) (by
      have e1 : decide (k < -(2 ^ 63 : Int)) = false := decide_eq_false (by omega)
      have e2 : decide (k ≥ 2 ^ 63) = false := decide_eq_false (by omega)
      rw [e1, e2, Bool.or_false]) (by rw [h1]; simpa using h2) ⟨.str ⟨#[c]⟩, H, I.tok _, ⟨_, rfl⟩, q⟩
  · cases ro
    exact L2.d_getItem hu I hg ri fun w' s' I' rw' => ⟨v, H, I', rw', q⟩
theorem ss_augI {op : BO} {q : Pos} (A : At C X) (ho : SE C φ X o fo) (hi : SE C φ X i fi) (hn : noSl i = true) (hop : augOp op = true) (ha : SE C φ X e f) : SS C φ X (.AugAssign (.Subscript o i q) (toOp op) e pos) (sAugI fo fi op f) := by
  have hu := A.hu
  obtain ⟨kk, h1, h2⟩ := ip_of (X := X) hop
  refine ⟨fun N tk => (L2.ps_augS (ho.run N tk) (hi.run N tk) (pget_any (by omega)) (ha.run N tk) h1 (pset_any (by omega)) (aug_sub hn)).imp fun D σ H ⟨g0, s, h, r, rs, ok⟩ => ?_⟩
  refine go r rs ok fun g1 h1 x cx H1 e1 r1 rx ok1 => go r1 (rs.mono e1) ok1 fun g2 h3 k ck H2 e2 r2 rk ok2 => ?_
  split at ok2
  · rename_i n hn
    refine (idx_run A.K).run g2 h3 H2 x k cx ck _ N r2 (rx.mono e2) rk ?_
    rw [hn]
    intro g' H' e' r' v rv
    cases rv.int
    have ok3 := okG.ext ok2 e'
    refine go r' (((rs.mono e1).mono e2).mono e') ok3 fun g4 h4 y cy H4 e4 r4 ry ok4 => ?_
    split at ok4
    · rename_i m
      rw [h2] at ok4
      refine ⟨n, m, rfl, ry.int, ?_⟩
      simp only at ok4
      cases z : setA x k (.int (kk n m)) h4 with
      | none => rw [z] at ok4; exact ok4.elim
      | some h5 =>
        rw [z] at ok4
        exact set_at r4 (((rx.mono e2).mono e').mono e4) ((rk.mono e').mono e4) .mkI z fun H5 r5 => ok4 g4 H5 (Ext.refl _) r5 σ ((((rs.mono e1).mono e2).mono e').mono e4)
    · exact ok4.elim
  · exact ok2.elim

/-! ### what is walked -/
/-- at each turn J gives the item, as long as what it walks stays -/
def Src (C : Cfg) (items : List AV) (gd : Gd) (g : Gh) (J : It) : Prop := ∀ g' h' H', Ext g g' → Rep C g' h' H' → gOk gd h' = true → ∀ i,
  (∀ x, items[i]? = some x → J.go i H' ∧ ∀ v H3, J.yld i H' v H3 → ∃ g3, Ext g' g3 ∧ Rep C g3 h' H3 ∧ RelA C g3 x v) ∧ (items.length ≤ i → J.stop i H')
def tI (C : Cfg) (φ : Fn) (f : IF_) (N : Nat → Hp → Prop) : TI := fun σ H R => ∃ g s h, Rep C g h H ∧ RelS C g s σ ∧ okG C g (f φ s h) (fun p g' _ H' => ∀ J, Src C p.1 p.2 g' J → R J H') N
structure SI (C : Cfg) (φ : Fn) (X : Cx) (tg e : Expr) (f : IF_) : Prop where
  run : ∀ N, Takes X (wX C N) → PI X tg e (tI C φ f N)
variable {tg : Expr}
/-- a list, as it stays -/
theorem lst_stay {g : Gh} {h : AH} {H : Hp} {x : AV} {cx : V} {xs : List AV} (r : Rep C g h H) (rx : RelA C g x cx) (e : seqOf x h = some xs) (nt : ∀ ys, x ≠ .tup ys) :
    ∃ a, cx = .ref a ∧ ∀ g' h' H', Ext g g' → Rep C g' h' H' → gOk (gdOf x h) h' = true → ∃ vs, H' a = some (.lst vs) ∧ RelL C g' xs vs := by
  cases x with
  | tup ys => exact absurd rfl (nt ys)
  | lst ys =>
    simp only [seqOf, Option.some.injEq] at e
    subst e
    simp only [RelA] at rx
    obtain ⟨a, vs, h1, h2, h3⟩ := rx
    exact ⟨a, h1, fun g' h' H' e' r' _ => ⟨vs, (r'.fx _ _ (e'.fx _ _ h2)).1, h3.mono e'⟩⟩
  | ref q =>
    simp only [RelA] at rx
    simp only [seqOf] at e
    split at e
    · rename_i ys hg
      simp only [Option.some.injEq] at e
      subst e
      refine ⟨_, rx.2, fun g' h' H' e' r' hk => ?_⟩
      have hk2 : hget h' q = some (.lst ys) := by
        simp only [gdOf, hg, gOk, List.all_cons, List.all_nil, Bool.and_true, decide_eq_true_eq] at hk
        exact hk
      obtain ⟨u, h1, vs, rfl, rl⟩ := r'.obj q _ hk2
      rw [e'.at_ q rx.1] at h1
      exact ⟨vs, h1, rl⟩
    · cases e
  | _ => simp [seqOf] at e
theorem tup_stay {g : Gh} {xs : List AV} {cx : V} (rx : RelA C g (.tup xs) cx) : ∃ a vs, cx = .ref a ∧ RelL C g xs vs ∧ ∀ g' h' H', Ext g g' → Rep C g' h' H' → SqT C.K H' a vs := by
  simp only [RelA] at rx
  obtain ⟨a, vs, h1, h2, h3⟩ := rx
  exact ⟨a, vs, h1, h3, fun g' h' H' e' r' => SqT.mono (fun b o q => (r'.fx b o (e'.fx _ _ q)).1) h2⟩
theorem Inv.nothing : True := trivial
theorem src_list {g : Gh} {xs : List AV} {gd : Gd} {a : Addr} (st : ∀ g' h' H', Ext g g' → Rep C g' h' H' → gOk gd h' = true → ∃ vs, H' a = some (.lst vs) ∧ RelL C g' xs vs) : Src C xs gd g (L2.Itl C.K a) := by
  intro g' h' H' e' r' hk i
  obtain ⟨vs, h1, rl⟩ := st g' h' H' e' r' hk
  refine ⟨fun x hx => ?_, fun hi => ⟨vs, SqL.of h1, by rw [← rl.len]; exact hi⟩⟩
  obtain ⟨u, hu, ru⟩ := rl.get hx
  refine ⟨⟨vs, u, SqL.of h1, hu⟩, fun v H3 hy => ?_⟩
  obtain ⟨rfl, q⟩ := hy
  have := q vs (SqL.of h1)
  rw [hu] at this
  cases this
  exact ⟨g', Ext.refl _, r', ru⟩
theorem src_tup {g : Gh} {xs : List AV} {gd : Gd} {a : Addr} {vs : List V} (rl : RelL C g xs vs) (st : ∀ g' h' H', Ext g g' → Rep C g' h' H' → SqT C.K H' a vs) : Src C xs gd g (L2.Itt C.K a) := by
  intro g' h' H' e' r' hk i
  have h1 := st g' h' H' e' r'
  refine ⟨fun x hx => ?_, fun hi => ⟨vs, h1, by rw [← rl.len]; exact hi⟩⟩
  obtain ⟨u, hu, ru⟩ := rl.get hx
  refine ⟨⟨vs, u, h1, hu⟩, fun v H3 hy => ?_⟩
  obtain ⟨rfl, q⟩ := hy
  have := q vs h1
  rw [hu] at this
  cases this
  exact ⟨g', Ext.refl _, r', ru.mono e'⟩
theorem src_str {g : Gh} {t : Tx} : Src C (t.map fun c => .str [c]) [] g (L2.Its (toS t)) := by
  intro g' h' H' e' r' hk i
  refine ⟨fun x hx => ?_, fun hi => ?_⟩
  · rw [List.getElem?_map] at hx
    obtain ⟨c, hc, rfl⟩ := Option.map_eq_some_iff.mp hx
    have hlt := (List.getElem?_eq_some_iff.mp hc).1
    refine ⟨by show i < t.toArray.size; simpa using hlt, fun v H3 hy => ?_⟩
    obtain ⟨rfl, d, hd, rfl⟩ := hy
    have hd2 : t[i]? = some d := by
      have := hd
      simpa [toS] using this
    rw [hc] at hd2
    cases hd2
    exact ⟨g', Ext.refl _, r', by simp only [RelA]; rfl⟩
  · show t.toArray.size ≤ i
    simpa using hi
theorem gOk_self {x : AV} {h : AH} : gOk (gdOf x h) h = true := by
  unfold gdOf gOk
  cases x with
  | ref q =>
    simp only
    split
    · rename_i o ho; simp [ho]
    · rfl
  | _ => rfl
/-- a text, a list, a tuple -/
theorem si_seq (A : At C X) (ha : SE C φ X a fa) : SI C φ X tg a (iSeq fa) := by
  refine ⟨fun N tk => (((L2.pi_list (ha.run N tk)).or (L2.pi_tup (ha.run N tk))).or (L2.pi_str (ha.run N tk))).imp fun σ H R ⟨g, s, h, r, rs, ok⟩ => ?_⟩
  cases z : fa φ s h with
  | exc c h1 =>
    unfold iSeq at ok; rw [z] at ok
    exact .inr ⟨g, s, h, r, rs, by rw [z]; exact ok⟩
  | stuck => unfold iSeq at ok; rw [z] at ok; exact ok.elim
  | ok x h1 =>
    unfold iSeq at ok
    rw [z] at ok
    simp only [bind_ok] at ok
    have key : (∃ t, x = .str t ∧ okG C g (.ok (t.map fun c => AV.str [c], ([] : Gd)) h1) (fun p g' _ H' => ∀ J, Src C p.1 p.2 g' J → R J H') N) ∨ ∃ xs, seqOf x h1 = some xs ∧ okG C g (.ok (xs, gdOf x h1) h1) (fun p g' _ H' => ∀ J, Src C p.1 p.2 g' J → R J H') N := by
      cases x with
      | str t => exact .inl ⟨t, rfl, ok⟩
      | _ =>
        right
        dsimp only at ok
        split at ok
        · rename_i xs hx
          exact ⟨xs, hx, ok⟩
        · exact ok.elim
    rcases key with ⟨t, rfl, ok⟩ | ⟨xs, hx, ok⟩
    · refine .inr ⟨g, s, h, r, rs, ?_⟩
      rw [z]
      exact fun g' H' e1 r1 v rv => ⟨_, rv.str, ok g' H' e1 r1 _ src_str⟩
    · by_cases htup : ∃ ys, x = .tup ys
      · obtain ⟨ys, rfl⟩ := htup
        simp only [seqOf, Option.some.injEq] at hx
        subst hx
        refine .inl (.inr ⟨g, s, h, r, rs, ?_⟩)
        rw [z]
        intro g' H' e1 r1 v rv
        obtain ⟨p, vs, rfl, rl, st⟩ := tup_stay rv
        rw [A.K]
        exact ⟨p, rfl, ⟨vs, st g' _ H' (Ext.refl _) r1⟩, ok g' H' e1 r1 _ (src_tup rl st)⟩
      · refine .inl (.inl ⟨g, s, h, r, rs, ?_⟩)
        rw [z]
        intro g' H' e1 r1 v rv
        obtain ⟨p, rfl, st⟩ := lst_stay r1 rv hx (fun ys e => htup ⟨ys, e⟩)
        rw [A.K]
        obtain ⟨vs, h2, _⟩ := st g' _ H' (Ext.refl _) r1 gOk_self
        exact ⟨p, rfl, ⟨vs, SqL.of h2⟩, ok g' H' e1 r1 _ (src_list st)⟩
theorem rng_len : ∀ (n : Nat) (lo : Int), (rng lo n).length = n
  | 0, _ => rfl
  | n + 1, lo => by simp [rng, rng_len n]
theorem rng_get : ∀ (n : Nat) (lo : Int) (i : Nat) (x : AV), (rng lo n)[i]? = some x → i < n ∧ x = .int (lo + i)
  | 0, _, _, _, h => by simp [rng] at h
  | n + 1, lo, 0, x, h => by
    simp [rng] at h
    exact ⟨by omega, by rw [← h]; simp⟩
  | n + 1, lo, i + 1, x, h => by
    simp only [rng, List.getElem?_cons_succ] at h
    obtain ⟨h1, h2⟩ := rng_get n (lo + 1) i x h
    exact ⟨by omega, by rw [h2]; congr 1; omega⟩
theorem src_rng {g : Gh} {lo : Int} {n : Nat} : Src C (rng lo n) [] g (L2.Itr lo n) := by
  intro g' h' H' e' r' hk i
  refine ⟨fun x hx => ?_, fun hi => ?_⟩
  · obtain ⟨h1, rfl⟩ := rng_get n lo i x hx
    refine ⟨h1, fun v H3 hy => ?_⟩
    obtain ⟨rfl, rfl⟩ := hy
    exact ⟨g', Ext.refl _, r', .mkI⟩
  · rw [rng_len] at hi
    exact hi
theorem rngOk_of {i : Int} (h : rngOk i = true) : -(2 ^ 62) ≤ i ∧ i < 2 ^ 62 := by simpa [rngOk] using h
theorem star1 (hn : noStar a = true) : starEach [a] X.env = [(false, eval a X.env)] := by rw [star_cons hn]; rfl
theorem si_rng1 (bn : Bn X "range") (ha : SE C φ X a fa) (hn : noStar a = true) : SI C φ X tg (.Call (.Name "range" p) [a] [] pos) (iRng1 fa) := by
  refine ⟨fun N tk => (L2.pi_range1 bn.gl bn.mg (L2.pa_cons (ha.run N tk) L2.pa_nil (star_cons hn)) (star1 hn)).imp fun σ H R ⟨g, s, h, r, rs, ok⟩ => ?_⟩
  refine go r rs ok fun g1 h1 x cx H1 e1 r1 rx ok1 => ?_
  split at ok1
  · split at ok1
    · rename_i hk
      obtain ⟨k1, k2⟩ := rngOk_of hk
      exact ⟨_, by rw [rx.int], k1, k2, ok1.fin r1 _ src_rng⟩
    · exact ok1.elim
  · exact ok1.elim
theorem si_rng2 (bn : Bn X "range") (ha : SE C φ X a fa) (hb : SE C φ X b fb) (hn : noStar a = true) (hn2 : noStar b = true) : SI C φ X tg (.Call (.Name "range" p) [a, b] [] pos) (iRng2 fa fb) := by
  refine ⟨fun N tk => (L2.pi_range2 bn.gl bn.mg (L2.pa_cons (ha.run N tk) (L2.pa_cons (hb.run N tk) L2.pa_nil (star_cons hn2)) (star_cons hn)) (by rw [star_cons hn, star_cons hn2]; rfl) (star1 hn2)).imp fun σ H R ⟨g, s, h, r, rs, ok⟩ => ?_⟩
  refine go r rs ok fun g1 h1 x cx H1 e1 r1 rx ok1 => go r1 (rs.mono e1) ok1 fun g2 h2 y cy H2 e2 r2 ry ok2 => ?_
  split at ok2
  · split at ok2
    · rename_i hk
      simp only [Bool.and_eq_true] at hk
      obtain ⟨k1, k2⟩ := rngOk_of hk.1
      obtain ⟨k3, k4⟩ := rngOk_of hk.2
      exact ⟨_, _, by rw [(rx.mono e2).int, ry.int], ⟨k1, k2, k3, k4⟩, ok2.fin r2 _ src_rng⟩
    · exact ok2.elim
  · exact ok2.elim
theorem lst_seq {x : AV} {h : AH} {xs : List AV} (e : lstOf x h = some xs) : seqOf x h = some xs ∧ ∀ ys, x ≠ .tup ys := by
  cases x <;> simp_all [lstOf, seqOf]
theorem enum_len : ∀ (xs : List AV) (k : Int), (enumL k xs).length = xs.length
  | [], _ => rfl
  | x :: r, k => by simp [enumL, enum_len r]
theorem enum_get : ∀ (xs : List AV) (k : Int) (i : Nat) (x : AV), (enumL k xs)[i]? = some x → ∃ y, xs[i]? = some y ∧ x = .tup [.int (k + i), y]
  | [], _, _, _, h => by simp [enumL] at h
  | y :: r, k, 0, x, h => by
    simp [enumL] at h
    exact ⟨y, rfl, by rw [← h]; simp⟩
  | y :: r, k, i + 1, x, h => by
    simp only [enumL, List.getElem?_cons_succ] at h
    obtain ⟨z, h1, h2⟩ := enum_get r (k + 1) i x h
    refine ⟨z, h1, ?_⟩
    rw [h2]
    have : k + 1 + (i : Int) = k + ((i + 1 : Nat) : Int) := by omega
    rw [this]
theorem pair_new {g : Gh} {h : AH} {H : Hp} {T : Addr} {x y : AV} {u v : V} (r : Rep C g h H) (hT : H T = none) (rx : RelA C g x u) (ry : RelA C g y v) :
    ∃ g3, Ext g g3 ∧ Rep C g3 h (upd H T (.tup [u, v])) ∧ RelA C g3 (.tup [x, y]) (.ref T) := by
  refine ⟨g.more T (.tup [u, v]), r.ext_more hT _, r.more hT (o := .tup [u, v]) trivial, ?_⟩
  simp only [RelA]
  exact ⟨T, [u, v], rfl, SqT.of upd_same, .cons (rx.mono (r.ext_more hT _)) (.cons (ry.mono (r.ext_more hT _)) .nil)⟩
theorem src_enum {g : Gh} {xs : List AV} {gd : Gd} {a : Addr} (st : ∀ g' h' H', Ext g g' → Rep C g' h' H' → gOk gd h' = true → ∃ vs, H' a = some (.lst vs) ∧ RelL C g' xs vs) : Src C (enumL 0 xs) gd g (L2.Ite C.K a) := by
  intro g' h' H' e' r' hk i
  obtain ⟨vs, h1, rl⟩ := st g' h' H' e' r' hk
  refine ⟨fun x hx => ?_, fun hi => ⟨vs, SqL.of h1, by rw [← rl.len]; rw [enum_len] at hi; exact hi⟩⟩
  obtain ⟨y, hy, rfl⟩ := enum_get _ _ _ _ hx
  obtain ⟨u, hu, ru⟩ := rl.get hy
  refine ⟨⟨vs, u, SqL.of h1, hu⟩, fun v H3 hyy => ?_⟩
  obtain ⟨T, w, rfl, hT, rfl, q⟩ := hyy
  have := q vs (SqL.of h1)
  rw [hu] at this
  cases this
  have e0 : (0 : Int) + (i : Int) = ((i : Nat) : Int) := by omega
  rw [e0]
  exact pair_new r' hT .mkI ru
/-! ### for, while -/
theorem gd_fst {gd : Gd} {h : AH} {α : Type} {o : Out α} {g : Gh} {K : α → Gh → AH → Hp → Prop} {N : Nat → Hp → Prop} (ok : okG C g (if gOk gd h = true then o else .stuck) K N) : gOk gd h = true ∧ okG C g o K N := by
  split at ok
  · rename_i hz; exact ⟨hz, ok⟩
  · exact ok.elim
theorem ss_for {sl : List Nat} {gt : TF} {it : Expr} {fi : IF_} {sb : List Stmt} {fb : SF} (A : At C X) (hp : PassesOwn (model X.prog X.w) X.A X.env X.xe) (hi : SI C φ X tg it fi) (hg : ST C X tg sl gt) (hb : SSs C φ X sb fb)
    (hs : ∀ x, foldedSetIterable it X.env x = pure x) : SS C φ X (.For tg it sb [] pos) (sFor fi gt fb) := by
  refine ⟨fun N tk => (L2.ps_for hp A.calm (hi.run N tk) hg.run (hb.run N tk) hs).imp fun D σ H ⟨g, s, h, r, rs, ok⟩ => ?_⟩
  refine ⟨g, s, h, r, rs, ?_⟩
  unfold sFor at ok
  cases z : fi φ s h with
  | exc c h1 => rw [z] at ok; exact ok
  | stuck => rw [z] at ok; exact ok
  | ok p h1 =>
    rw [z] at ok
    simp only [bind_ok] at ok
    intro g1 H1 e1 r1 J src
    have ok1 := okG.ext ok e1
    obtain ⟨items, gd⟩ := p
    refine ⟨fun i m σ' H' => m = items.length - i ∧ i ≤ items.length ∧ ∃ g' s' h', Ext g1 g' ∧ Rep C g' h' H' ∧ RelS C g' s' σ' ∧ okG C g' (forGo φ gt fb gd (items.drop i) s' h') (kF C D) N,
      ⟨items.length, by simp, Nat.zero_le _, g1, s, h1, Ext.refl _, r1, rs.mono e1, ok1⟩, ?_⟩
    rintro i m σ' H' ⟨rfl, hi, g', s', h', e', r', rs', ok'⟩
    by_cases hlt : i < items.length
    · rw [List.drop_eq_getElem_cons hlt] at ok'
      unfold forGo at ok'
      obtain ⟨hk, ok'⟩ := gd_fst ok'
      obtain ⟨q1, _⟩ := src g' h' H' e' r' hk i
      obtain ⟨jgo, jy⟩ := q1 items[i] (List.getElem?_eq_getElem hlt)
      refine .inr ⟨jgo, fun σ2 H2 => ∃ g' s' h', Ext g1 g' ∧ Rep C g' h' H2 ∧ RelS C g' s' σ2 ∧ okG C g' (forGo φ gt fb gd (items.drop (i + 1)) s' h') (kF C D) N, fun σ2 H2 q => ⟨items.length - (i + 1), by omega, rfl, hlt, q⟩, fun x H3 hy => ?_⟩
      obtain ⟨g3, e3, r3, rx⟩ := jy x H3 hy
      cases z2 : gt items[i] s' with
      | none => rw [z2] at ok'; exact ok'.elim
      | some s1 =>
        rw [z2] at ok'
        refine ⟨g3, h', s', s1, items[i], r3, rs'.mono e3, rx, z2, fun σ4 rs4 _ => ⟨g3, s1, h', r3, rs4, ?_⟩⟩
        have ok4 := okG.ext ok' e3
        simp only at ok4
        cases z3 : fb φ s1 h' with
        | exc c h2 => rw [z3] at ok4; exact ok4
        | stuck => rw [z3] at ok4; exact ok4
        | ok fl h2 =>
          rw [z3] at ok4
          simp only [bind_ok] at ok4
          cases fl with
          | nx s2 => exact fun g5 H5 e5 r5 σ5 rs5 => ⟨g5, s2, h2, (e'.trans e3).trans e5, r5, rs5, okG.ext ok4 e5⟩
          | ct s2 => exact fun g5 H5 e5 r5 σ5 rs5 => ⟨g5, s2, h2, (e'.trans e3).trans e5, r5, rs5, okG.ext ok4 e5⟩
          | bk s2 => exact fun g5 H5 e5 r5 σ5 rs5 => ok4 g5 H5 e5 r5 σ5 rs5
          | rt v => exact ok4
    · have hie : i = items.length := by omega
      rw [List.drop_eq_nil_of_le (by omega)] at ok'
      unfold forGo at ok'
      obtain ⟨hk, ok'⟩ := gd_fst ok'
      exact .inl ⟨(src g' h' H' e' r' hk i).2 (by show items.length ≤ i; omega), ok'.fin r' σ' rs'⟩
theorem ss_while {sb : List Stmt} {fb : SF} (hp : PassesOwn (model X.prog X.w) X.A X.env X.xe) (hc : SB C φ X c fc) (hb : SSs C φ X sb fb) : SS C φ X (.While c sb [] pos) (sWhile fc fb) := by
  refine ⟨fun N tk => (L2.ps_while hp (hc.run N tk) (hb.run N tk)).imp fun D σ H ⟨g, s, h, r, rs, ok⟩ => ?_⟩
  refine ⟨fun m σ' H' => ∃ g' s' h', Rep C g' h' H' ∧ RelS C g' s' σ' ∧ okG C g' (whGo φ fc fb m s' h') (kF C D) N, ⟨WF, g, s, h, r, rs, ok⟩, ?_⟩
  rintro m σ' H' ⟨g', s', h', r', rs', ok'⟩
  cases m with
  | zero => exact ok'.elim
  | succ m =>
    unfold whGo at ok'
    refine goB r' rs' ok' fun g1 h1 d H1 e1 r1 ok1 => ?_
    cases d with
    | false => rw [if_neg Bool.false_ne_true] at ok1 ⊢; exact ok1.fin r1 σ' (rs'.mono e1)
    | true =>
      rw [if_pos rfl] at ok1 ⊢
      refine ⟨fun σ2 H2 => ∃ g' s' h', Rep C g' h' H2 ∧ RelS C g' s' σ2 ∧ okG C g' (whGo φ fc fb m s' h') (kF C D) N, fun σ2 H2 q => ⟨m, Nat.lt_succ_self _, q⟩, ?_⟩
      refine ⟨g1, s', h1, r1, rs'.mono e1, ?_⟩
      cases z3 : fb φ s' h1 with
      | exc c h2 => rw [z3] at ok1; exact ok1
      | stuck => rw [z3] at ok1; exact ok1
      | ok fl h2 =>
        rw [z3] at ok1
        simp only [bind_ok] at ok1
        cases fl with
        | nx s2 => exact fun g5 H5 e5 r5 σ5 rs5 => ⟨g5, s2, h2, r5, rs5, okG.ext ok1 e5⟩
        | ct s2 => exact fun g5 H5 e5 r5 σ5 rs5 => ⟨g5, s2, h2, r5, rs5, okG.ext ok1 e5⟩
        | bk s2 => exact fun g5 H5 e5 r5 σ5 rs5 => ok1 g5 H5 e5 r5 σ5 rs5
        | rt v => exact ok1
end
end TX

/-! TxT: more sources: zip -/
set_option Elab.async false
set_option linter.all false
set_option maxRecDepth 100000
set_option maxHeartbeats 1000000
set_option autoImplicit false
namespace TX
open PySem PySem.Spec PyProof.Rows
open L2 (V HO Hp Key upd upd_same upd_ne SqL SqT Rd HOk Cx Inv PE PT PTs PW PS PSs PG PGs PI PA TE TT TA TS TG TGs TI It VK XK WX Takes Ends EP SP TP OpR tOp CallR tCB tCons tNil Sp Room FnOk)
theorem zip_get : ∀ (xs ys : List AV) (i : Nat) (x : AV), (zipL xs ys)[i]? = some x → ∃ u v, xs[i]? = some u ∧ ys[i]? = some v ∧ x = .tup [u, v]
  | [], _, _, _, h => by simp [zipL] at h
  | _ :: _, [], _, _, h => by simp [zipL] at h
  | u :: xs, v :: ys, 0, x, h => by
    simp [zipL] at h
    exact ⟨u, v, rfl, rfl, h.symm⟩
  | u :: xs, v :: ys, i + 1, x, h => by
    simp only [zipL, List.getElem?_cons_succ] at h
    obtain ⟨a, b, h1, h2, h3⟩ := zip_get xs ys i x h
    exact ⟨a, b, h1, h2, h3⟩
theorem zip_len : ∀ (xs ys : List AV) (i : Nat), (zipL xs ys).length ≤ i → xs.length ≤ i ∨ ys.length ≤ i
  | [], _, _, _ => .inl (Nat.zero_le _)
  | _ :: _, [], _, _ => .inr (Nat.zero_le _)
  | u :: xs, v :: ys, 0, h => by simp [zipL] at h
  | u :: xs, v :: ys, i + 1, h => by
    simp only [zipL, List.length_cons] at h
    rcases zip_len xs ys i (by omega) with z | z
    · exact .inl (by simp; omega)
    · exact .inr (by simp; omega)
section
variable {C : Cfg}
theorem src_zipL {g : Gh} {xs ys : List AV} {gd : Gd} {a b : Addr} (st : ∀ g' h' H', Ext g g' → Rep C g' h' H' → gOk gd h' = true → ∃ vs, H' a = some (.lst vs) ∧ RelL C g' xs vs)
    (st2 : ∀ g' h' H', Ext g g' → Rep C g' h' H' → gOk gd h' = true → ∃ vs, H' b = some (.lst vs) ∧ RelL C g' ys vs) : Src C (zipL xs ys) gd g (L2.Itz C.K a b) := by
  intro g' h' H' e' r' hk i
  obtain ⟨vs, h1, rl⟩ := st g' h' H' e' r' hk
  obtain ⟨ws, k1, sl⟩ := st2 g' h' H' e' r' hk
  refine ⟨fun x hx => ?_, fun hi => ⟨vs, ws, SqL.of h1, SqL.of k1, by rw [← rl.len, ← sl.len]; exact zip_len _ _ _ hi⟩⟩
  obtain ⟨y, z, hy, hz, rfl⟩ := zip_get _ _ _ _ hx
  obtain ⟨u, hu, ru⟩ := rl.get hy
  obtain ⟨w, hw, rw_⟩ := sl.get hz
  refine ⟨⟨vs, ws, u, w, SqL.of h1, SqL.of k1, hu, hw⟩, fun v H3 hyy => ?_⟩
  obtain ⟨T, p, q, rfl, hT, rfl, q1, q2⟩ := hyy
  have e1 := q1 vs (SqL.of h1)
  rw [hu] at e1
  cases e1
  have e2 := q2 ws (SqL.of k1)
  rw [hw] at e2
  cases e2
  exact pair_new r' hT ru rw_
theorem src_zipT {g : Gh} {xs ys : List AV} {gd : Gd} {a b : Addr} {vs ws : List V} (rl : RelL C g xs vs) (st : ∀ g' h' H', Ext g g' → Rep C g' h' H' → SqT C.K H' a vs)
    (sl : RelL C g ys ws) (st2 : ∀ g' h' H', Ext g g' → Rep C g' h' H' → SqT C.K H' b ws) : Src C (zipL xs ys) gd g (RZ.ItzT C.K a b) := by
  intro g' h' H' e' r' hk i
  have h1 := st g' h' H' e' r'
  have k1 := st2 g' h' H' e' r'
  refine ⟨fun x hx => ?_, fun hi => ⟨vs, ws, h1, k1, by rw [← rl.len, ← sl.len]; exact zip_len _ _ _ hi⟩⟩
  obtain ⟨y, z, hy, hz, rfl⟩ := zip_get _ _ _ _ hx
  obtain ⟨u, hu, ru⟩ := rl.get hy
  obtain ⟨w, hw, rw_⟩ := sl.get hz
  refine ⟨⟨vs, ws, u, w, h1, k1, hu, hw⟩, fun v H3 hyy => ?_⟩
  obtain ⟨T, p, q, rfl, hT, rfl, q1, q2⟩ := hyy
  have e1 := q1 vs h1
  rw [hu] at e1
  cases e1
  have e2 := q2 ws k1
  rw [hw] at e2
  cases e2
  exact pair_new r' hT (ru.mono e') (rw_.mono e')
end
section
variable {C : Cfg} {φ : Fn} {X : Cx} {a b : Expr} {fa fb : EF} {p pos : Pos}
theorem gOk_append {g1 g2 : Gd} {h : AH} (k : gOk (g1 ++ g2) h = true) : gOk g1 h = true ∧ gOk g2 h = true := by
  unfold gOk at *
  rw [List.all_append, Bool.and_eq_true] at k
  exact k
theorem gOk_append' {g1 g2 : Gd} {h : AH} (k1 : gOk g1 h = true) (k2 : gOk g2 h = true) : gOk (g1 ++ g2) h = true := by
  unfold gOk at *
  rw [List.all_append, Bool.and_eq_true]
  exact ⟨k1, k2⟩
theorem si_zip {elts : List Expr} {kk : Nat} {tpos : Pos} (A : At C X) (bn : Bn X "zip") (ha : SE C φ X a fa) (hb : SE C φ X b fb) (hn : noStar a = true) (hn2 : noStar b = true) : SI C φ X (.Tuple elts kk tpos) (.Call (.Name "zip" p) [a, b] [] pos) (iZip fa fb) := by
  refine ⟨fun N tk => (RZ.pi_zipA bn.gl bn.mg (L2.pa_cons (ha.run N tk) (L2.pa_cons (hb.run N tk) L2.pa_nil (star_cons hn2)) (star_cons hn)) (star_cons hn) (by rw [star1 hn2]; rfl)).imp fun σ H R ⟨g, s, h, r, rs, ok⟩ => ?_⟩
  refine go r rs ok fun g1 h1 x cx H1 e1 r1 rx ok1 => go r1 (rs.mono e1) ok1 fun g2 h2 y cy H2 e2 r2 ry ok2 => ?_
  cases zx : seqOf x h2 with
  | none => rw [zx] at ok2; exact ok2.elim
  | some xs =>
    cases zy : seqOf y h2 with
    | none => rw [zx, zy] at ok2; exact ok2.elim
    | some ys =>
      rw [zx, zy] at ok2
      simp only at ok2
      have rx2 := rx.mono e2
      split at ok2
      · obtain ⟨p1, vs, rfl, rl, st⟩ := tup_stay rx2
        obtain ⟨p2, ws, rfl, sl, st2⟩ := tup_stay ry
        simp only [seqOf, Option.some.injEq] at zx zy
        subst zx
        subst zy
        rw [A.K]
        exact ⟨p1, p2, vs, ws, rfl, .inr ⟨st g2 _ H2 (Ext.refl _) r2, st2 g2 _ H2 (Ext.refl _) r2, ok2.fin r2 _ (src_zipT rl st sl st2)⟩⟩
      · exact ok2.elim
      · exact ok2.elim
      · rename_i n1 n2 n3
        have nx : ∀ l, x ≠ .tup l := fun l z => by
          subst z
          cases y <;> first | exact n1 _ rfl _ rfl | exact n2 _ rfl | exact n3 _ rfl | simp_all
        have ny : ∀ l, y ≠ .tup l := fun l z => by
          subst z
          cases x <;> first | exact n1 _ rfl _ rfl | exact n2 _ rfl | exact n3 _ rfl | simp_all
        obtain ⟨p1, rfl, st⟩ := lst_stay r2 rx2 zx nx
        obtain ⟨p2, rfl, st2⟩ := lst_stay r2 ry zy ny
        obtain ⟨vs, h4, rl⟩ := st g2 _ H2 (Ext.refl _) r2 gOk_self
        obtain ⟨ws, k4, sl⟩ := st2 g2 _ H2 (Ext.refl _) r2 gOk_self
        rw [A.K]
        exact ⟨p1, p2, vs, ws, rfl, .inl ⟨SqL.of h4, SqL.of k4, ok2.fin r2 _ (src_zipL (fun g' h' H' e' r' k => st g' h' H' e' r' (gOk_append k).1) (fun g' h' H' e' r' k => st2 g' h' H' e' r' (gOk_append k).2))⟩⟩
end
end TX

/-! TxV: enumerate over a tuple -/
set_option Elab.async false
set_option linter.all false
set_option maxRecDepth 100000
set_option maxHeartbeats 2000000
set_option autoImplicit false
namespace PySem
open Sem (wp)
open AutoSeq1 (wpAny_loadPart')
theorem meets_enumerate_newT (l : Addr) (items : Array Value) (n : Nat) (dct : Option Addr) (sl : Array (Option Value)) :
    Meets (Builtin.«enumerate.__new__» ⟨[.type "enumerate", .ref l], []⟩) (fun _ R s => s.heap.get? l = some { cls := .type "tuple", data := .seq items n, dict := dct, slots := sl } ∧
      R (.ok (.ret (.ref (s.heap.push { cls := .type "tuple_iterator", data := .fields #[.ref l, .int 0 0] }).objs.size)))
        { s with heap := (s.heap.push { cls := .type "tuple_iterator", data := .fields #[.ref l, .int 0 0] }).push { cls := .type "enumerate", data := .fields #[.none, .bool false, .ref s.heap.objs.size, rawInt 0, .none, .none] } }) :=
  .of_wp fun prog w A R s h => by
    obtain ⟨hp, g, d, tk, os⟩ := s; obtain ⟨hl, h⟩ := h
    have hsub := sub_enumerate
    have hL : Heap.IsTuple (Shared.heap ⟨hp, g, d, tk, os⟩) l items := ⟨_, hl, rfl, n, rfl⟩
    wp_walk using wpAny_loadPart' hl
    refine wpAny_stack_any fun st => wpAny_pure ?_
    split
    · rename_i c _ _ _ _ _
      cases (c == Value.type "enumerate")
      · wp_walk using wpAny_loadPart' hl, wpAny_pyIter_tuple hL
        exact ⟨_, rfl, h⟩
      · wp_walk using wpAny_loadPart' hl, wpAny_pyIter_tuple hL
        exact ⟨_, rfl, h⟩
    · wp_walk using wpAny_loadPart' hl, wpAny_pyIter_tuple hL
      exact ⟨_, rfl, h⟩
theorem call_enumerate_tuple {prog : Program} {w : World} {A : Around} {E : Value → Shared → Prop} {s : Shared} {l : Addr} {items : Array Value} {Q : Value → Shared → Prop} (hL : s.heap.IsTuple l items)
    (h : ∀ h', IsEnum h' (s.heap.objs.size + 1) s.heap.objs.size 0 .none → h'.IsTupleIter s.heap.objs.size l 0 → h'.objs.size = s.heap.objs.size + 2 →
      (∀ b o, s.heap.get? b = some o → h'.get? b = some o) → Q (.ref (s.heap.objs.size + 1)) { s with heap := h' }) :
    wpAny (model prog w) A (call (.type "enumerate") [.ref l]) Q E s := by
  obtain ⟨⟨c, dct, dt, sl⟩, hl, hc, n, hd⟩ := hL
  replace hc : c = .type "tuple" := hc
  replace hd : dt = .seq items n := hd
  subst hc hd
  refine callType_new F.called_enumerate (by decide) (F.typeCall_enumerate_1 _) (F.newCall_enumerate_1 _) (fun obj => F.args_object_init_2 obj _) F.entry_enumerate_new
    (meets_enumerate_newT l items n dct sl) ⟨hl, ?_⟩
  have hz : (s.heap.push { cls := .type "tuple_iterator", data := .fields #[.ref l, .int 0 0] }).objs.size = s.heap.objs.size + 1 := Heap.size_push ..
  show _ ∧ _
  rw [hz]
  have he : IsEnum ((s.heap.push { cls := .type "tuple_iterator", data := .fields #[.ref l, .int 0 0] }).push
      { cls := .type "enumerate", data := .fields #[.none, .bool false, .ref s.heap.objs.size, rawInt 0, .none, .none] }) (s.heap.objs.size + 1) s.heap.objs.size 0 .none := by
    have := Heap.get?_push_size (s.heap.push { cls := .type "tuple_iterator", data := .fields #[.ref l, .int 0 0] })
      (o := { cls := .type "enumerate", data := .fields #[.none, .bool false, .ref s.heap.objs.size, rawInt 0, .none, .none] }) rfl
    rw [hz] at this; exact this
  refine ⟨⟨_, he, rfl⟩, h _ he ⟨_, Heap.get?_push_of_some _ (Heap.get?_push_size _ rfl), rfl, rfl⟩ (by rw [Heap.size_push, hz]) fun b o x => Heap.get?_push_of_some _ (Heap.get?_push_of_some _ x)⟩
end PySem
namespace TX
open PySem PySem.Spec PyProof.Rows
open L2 (V HO Hp Key upd upd_same upd_ne SqL SqT Rd HOk Cx Inv PE PT PTs PW PS PSs PG PGs PI PA TE TT TA TS TG TGs TI It VK XK WX Takes Ends EP SP TP OpR tOp CallR tCB tCons tNil Sp Room FnOk thn thnF Turn ObjOk FpOk ld_blt)
theorem wpAny_pyNext_enum_endT {prog : Program} {w : World} {A : Around} {E : Value → Shared → Prop} {s : Shared} {e it l : Addr} {i : Nat} {items : Array Value} {old : Value} {Q : Option Value → Shared → Prop} (hh : A.handled = none)
    (he : IsEnum s.heap e it i old) (hit : s.heap.IsTupleIter it l i) (hl : s.heap.IsTuple l items) (hx : items[i]? = none)
    (hQ : ∀ h', Heap.ExtBut it s.heap h' → Q none { s with heap := h' }) : wpAny (model prog w) A (pyNext (.ref e)) Q E s := by
  have hT : s.TypeIs (.ref e) "enumerate" := ⟨_, he, rfl⟩
  unfold pyNext
  refine wpAny_bind (wpAny_attempt (wpAny_callSpecial?_slot (name := Str.ofString "__next__") hT F.slot_enumerate_next
    (wpAny_call_entry F.slot_enumerate_next hT F.entry_enumerate_next ?_ (F.args_enumerate_next_1 _))))
  show wpAny _ _ (field (.ref e) 2 >>= _) _ _ _
  refine wpAny_bind (wpAny_field he rfl (x := .ref it) rfl ?_)
  refine wpAny_bind (wpAny_nextOf_tuple_end hh hit hl hx fun h' x he' hx' => ?_)
  obtain ⟨o, ho, hc⟩ := hx'
  refine wpAny_bind (wpAny_isInstance (T := "StopIteration") (b := true) ⟨o, ho, hc⟩ isSubtype_stop ?_)
  exact wpAny_pure (hQ _ he')
def IteT (K : PySem.W.Frag) (a : Addr) : It :=
  ⟨fun i H => ∃ (xs : List V) (x : V), SqT K H a xs ∧ xs[i]? = some x, fun i H v H' => ∃ T x, v = .ref T ∧ H T = none ∧ H' = upd H T (.tup [.int (i : Nat), x]) ∧ ∀ xs, SqT K H a xs → xs[i]? = some x, fun i H => ∃ xs : List V, SqT K H a xs ∧ xs.length ≤ i⟩
theorem turn_enumT {P : Program} {w : World} {K : PySem.W.Frag} {elts : List Expr} {kk : Nat} {tpos : Pos} (a e it : Addr) :
    Turn P w K (.Tuple elts kk tpos) (IteT K a) [e, it] e (fun i h => (∃ old, IsEnum h e it ((i : Nat) : Int) old) ∧ h.IsTupleIter it a i ∧ e ≠ it ∧ e ≠ a ∧ a ≠ it) where
  mem := by simp
  obj := fun i h st b hb => by
    obtain ⟨⟨old, he⟩, ⟨o, ho, hc, hd⟩, _⟩ := st
    have e' : b = e ∨ b = it := by simpa using hb
    rcases e' with z | z
    · rw [z]; exact ⟨_, he, fun v q => nomatch q⟩
    · rw [z]; exact ⟨o, ho, fun v q => by rw [hd] at q; cases q⟩
  keep := fun i h h' st k => let ⟨⟨old, he⟩, ⟨o, ho, r⟩, hne⟩ := st; ⟨⟨old, k e (by simp) _ he⟩, ⟨o, k it (by simp) _ ho, r⟩, hne⟩
  item := by
    intro X hP hw hK hc i pins s σ H E I hf st hg
    subst hP hw hK
    obtain ⟨⟨old, he⟩, hit, hne, hea, hai⟩ := st
    obtain ⟨xs, x, hq, hx⟩ := hg
    obtain ⟨its, rv, p, hz⟩ := I.tuple hq
    obtain ⟨u, hu, ru⟩ := rv.get hx
    have hel : e < s.heap.objs.size := Heap.lt_size he
    have hil : it < s.heap.objs.size := by obtain ⟨_, q, _⟩ := hit; exact Heap.lt_size q
    have hii : i < its.toArray.size := by
      have := (List.getElem?_eq_some_iff.mp hu).1
      simpa using this
    have D := Draws.tuple (prog := X.prog) (w := X.w) (A := X.A.in1) (I.ok.hd hc) it a hai its.toArray
    refine wpAny_pyNext_enum_itemD D he ⟨hit, p⟩ hii hne (by simp [hne, hea]) fun x2 h' tk hx2 ho hit' hT hsz hk => ?_
    have ex2 : x2 = u := by
      have z : its.toArray[i]? = some x2 := hx2
      simp [hu] at z
      exact z.symm
    subst ex2
    refine ⟨_, rfl, wpAny_letOwnedTupleGo_enum (s := { s with heap := h', toks := tk + 1 }) ho fun h'' he' sb => ?_⟩
    have hT2 : h''.get? s.heap.objs.size = some { cls := .type "tuple", data := .seq #[.int i tk, x2] } := (sb.2 _ (Nat.ne_of_gt hel)).trans hT
    have new : ObjOk X.prog X.w (upd H s.heap.objs.size (.tup [.int (i : Nat), x])) h'' s.heap.objs.size (.tup [.int (i : Nat), x]) :=
      ⟨by show 2 ≤ sizeLine; decide, [.int i tk, x2], .cons ⟨_, rfl⟩ (.cons ru .nil), ⟨_, hT2, rfl, _, rfl⟩⟩
    have I1 : Inv X pins σ (upd H s.heap.objs.size (.tup [.int (i : Nat), x])) { s with heap := h'', toks := tk + 1 } :=
      I.turnedNew (ch := [e, it]) (fun b ob hb q => (sb.2 b (fun z => hb (by simp [z]))).trans (hk b ob (fun z => hb (by simp [z])) (fun z => hb (by simp [z])) q)) hf (Nat.le_refl _) new
    obtain ⟨⟨o3, ho3, r3⟩, _⟩ := hit'
    refine ⟨.ref s.heap.objs.size, _, I1, rfl, ⟨_, x, rfl, I.hok.fresh (Nat.le_refl _), rfl, fun ys hy => by rw [I.tuple_inj hy hq]; exact hx⟩, ⟨⟨x2, ?_⟩, ⟨o3, (sb.2 it (Ne.symm hne)).trans ho3, r3⟩, hne, hea, hai⟩, fun b hb => ?_⟩
    · have e1 : ((i + 1 : Nat) : Int) = (i : Int) + 1 := by omega
      rw [e1]; exact he'
    · have hb' : b < s.heap.objs.size := by
        have e' : b = e ∨ b = it := by simpa using hb
        rcases e' with z | z
        · rw [z]; exact hel
        · rw [z]; exact hil
      rw [upd_ne (Nat.ne_of_lt hb')]
      exact (hf b hb).1
  done := by
    intro X hP hw hK hc i pins s σ H E I hf st hg
    subst hP hw hK
    obtain ⟨⟨old, he⟩, hit, hne, hea, hai⟩ := st
    obtain ⟨xs, hq, hx⟩ := hg
    obtain ⟨its, rv, p, hz⟩ := I.tuple hq
    obtain ⟨f0, f1, f2, f3, f4, f5⟩ := hf it (by simp)
    have hl := rv.length
    exact wpAny_pyNext_enum_endT (I.ok.hd hc) he hit p (by simp; omega) fun h' eb => ⟨rfl, I.turned (t' := s.toks) (fun b o hb q => eb b o hb q) f0 f1 f3 f4 f5⟩
  self := fun A i s Q E st h => let ⟨⟨_, he⟩, _⟩ := st; wpAny_pyIter_enum he h
def iEnumA (K : PySem.W.Frag) (ta : TA) : TI := fun σ H R => ta σ H fun vs H1 => ∃ a xs, vs = [.ref a] ∧ ((SqL K H1 a xs ∧ R (L2.Ite K a) H1) ∨ (SqT K H1 a xs ∧ R (IteT K a) H1))
theorem pi_enumA {X : Cx} {e : Expr} {ta : TA} {p pos tpos : Pos} {elts : List Expr} {kk : Nat} (hg : L2.Gl X "enumerate") (hm : X.mg "enumerate" = none) (ha : PA X [e] ta) (hs : starEach [e] X.env = [(false, eval e X.env)] := by rfl) :
    PI X (.Tuple elts kk tpos) (.Call (.Name "enumerate" p) [e] [] pos) (iEnumA X.K ta) := by
  refine ⟨fun pins s σ H R I h => ?_⟩
  refine wpAny_Call_Name_kw (ld_blt I hg hm boot_enumerate (PyProof.Rows.callWith_type1 (thn (ha.run pos pins s σ H _ I h) fun us s1 ⟨vs, H1, I1, r1, q1⟩ => ?_) hs rfl))
  obtain ⟨a, xs, ex, q1⟩ := q1
  subst ex
  cases r1 with
  | cons r rr =>
    cases rr
    cases r
    have fresh : ∀ b, b ∈ [s1.heap.objs.size + 1, s1.heap.objs.size] → FpOk X pins H1 b := fun b hb => by
      have e' : b = s1.heap.objs.size + 1 ∨ b = s1.heap.objs.size := by simpa using hb
      have hle : s1.heap.objs.size ≤ b := by
        rcases e' with z | z
        · rw [z]; exact Nat.le_add_right _ _
        · rw [z]; exact Nat.le_refl _
      exact I1.fpOk hle (I1.hok.fresh hle)
    rcases q1 with ⟨hq, q⟩ | ⟨hq, q⟩
    · obtain ⟨its, rv, p', hz⟩ := I1.list hq
      refine call_enumerate_list p'.isList fun h' he hit hsz hk => wpAny_pyIter_enum he ?_
      have I2 : Inv X pins σ H1 { s1 with heap := h' } := I1.kept (t' := s1.toks) hk
      exact ⟨s1.heap.objs.size + 1, [s1.heap.objs.size + 1, s1.heap.objs.size], _, _, H1, rfl, I2, L2.turn_enum a (s1.heap.objs.size + 1) s1.heap.objs.size, ⟨⟨.none, he⟩, hit, Nat.succ_ne_self _⟩, fresh, q⟩
    · obtain ⟨its, rv, p', hz⟩ := I1.tuple hq
      have hla : a < s1.heap.objs.size := by obtain ⟨o, ho, _⟩ := id p'; exact Heap.lt_size ho
      refine call_enumerate_tuple p' fun h' he hit hsz hk => wpAny_pyIter_enum he ?_
      have I2 : Inv X pins σ H1 { s1 with heap := h' } := I1.kept (t' := s1.toks) hk
      exact ⟨s1.heap.objs.size + 1, [s1.heap.objs.size + 1, s1.heap.objs.size], _, _, H1, rfl, I2, turn_enumT a (s1.heap.objs.size + 1) s1.heap.objs.size, ⟨⟨.none, he⟩, hit, Nat.succ_ne_self _, Nat.ne_of_gt (Nat.lt_succ_of_lt hla), Nat.ne_of_lt hla⟩, fresh, q⟩
section
variable {C : Cfg}
theorem src_enumT {g : Gh} {xs : List AV} {gd : Gd} {a : Addr} {vs : List V} (rl : RelL C g xs vs) (st : ∀ g' h' H', Ext g g' → Rep C g' h' H' → SqT C.K H' a vs) : Src C (enumL 0 xs) gd g (IteT C.K a) := by
  intro g' h' H' e' r' hk i
  have h1 := st g' h' H' e' r'
  refine ⟨fun x hx => ?_, fun hi => ⟨vs, h1, by rw [← rl.len]; rw [enum_len] at hi; exact hi⟩⟩
  obtain ⟨y, hy, rfl⟩ := enum_get _ _ _ _ hx
  obtain ⟨u, hu, ru⟩ := rl.get hy
  refine ⟨⟨vs, u, h1, hu⟩, fun v H3 hyy => ?_⟩
  obtain ⟨T, w, rfl, hT, rfl, q⟩ := hyy
  have := q vs h1
  rw [hu] at this
  cases this
  have e0 : (0 : Int) + (i : Int) = ((i : Nat) : Int) := by omega
  rw [e0]
  exact pair_new r' hT .mkI (ru.mono e')
end
section
variable {C : Cfg} {φ : Fn} {X : Cx} {a : Expr} {fa : EF} {p pos : Pos}
theorem si_enum {elts : List Expr} {kk : Nat} {tpos : Pos} (A : At C X) (bn : Bn X "enumerate") (ha : SE C φ X a fa) (hn : noStar a = true) : SI C φ X (.Tuple elts kk tpos) (.Call (.Name "enumerate" p) [a] [] pos) (iEnum fa) := by
  refine ⟨fun N tk => (pi_enumA bn.gl bn.mg (L2.pa_cons (ha.run N tk) L2.pa_nil (star_cons hn)) (star1 hn)).imp fun σ H R ⟨g, s, h, r, rs, ok⟩ => ?_⟩
  refine go r rs ok fun g1 h1 x cx H1 e1 r1 rx ok1 => ?_
  split at ok1
  · rename_i xs hx
    by_cases ht : ∃ ys, x = .tup ys
    · obtain ⟨ys, rfl⟩ := ht
      obtain ⟨q, vs, rfl, rl, st⟩ := tup_stay rx
      simp only [seqOf, Option.some.injEq] at hx
      subst hx
      rw [A.K]
      exact ⟨q, vs, rfl, .inr ⟨st g1 _ H1 (Ext.refl _) r1, ok1.fin r1 _ (src_enumT rl st)⟩⟩
    · obtain ⟨q, rfl, st⟩ := lst_stay r1 rx hx (fun ys z => ht ⟨ys, z⟩)
      obtain ⟨vs, h4, rl⟩ := st g1 _ H1 (Ext.refl _) r1 gOk_self
      rw [A.K]
      exact ⟨q, vs, rfl, .inl ⟨SqL.of h4, ok1.fin r1 _ (src_enum st)⟩⟩
  · exact ok1.elim
end
end TX

/-! TxH: comprehensions -/
set_option Elab.async false
set_option linter.all false
set_option maxRecDepth 100000
set_option maxHeartbeats 1000000
set_option autoImplicit false
namespace TX
open PySem PySem.Spec PyProof.Rows
open L2 (V HO Hp Key upd upd_same upd_ne SqL SqT Rd HOk Cx Inv PE PT PTs PW PS PSs PG PGs PI PA TE TT TA TS TG TGs TI It VK XK WX Takes Ends EP OpR tOp CallR tCB tCons tNil Sp Room FnOk)
theorem _root_.L2.PTs.imp {X : Cx} {e : List Expr} {t t' : TT} (h : PTs X e t) (k : ∀ σ H Q, t' σ H Q → t σ H Q) : PTs X e t' := ⟨fun pins s σ H Q I hw => h.run pins s σ H Q I (k σ H Q hw)⟩
section
variable {C : Cfg} {φ : Fn} {X : Cx} {a b c e o i : Expr} {es : List Expr} {fa fb fc fo f : EF} {fs : AF} {pos p apos : Pos}
/-- no error -/
def N0 : Nat → Hp → Prop := fun _ _ => False
theorem takesN0 : Takes X (wX C N0) := fun u s' x => (LamX.takes0 (X := X)) u s' (by
  obtain ⟨a, B, sI, pins, σ, H, cls, d, e, I, nb, up, sky, na, os, ag, w⟩ := x
  obtain ⟨c, _, h⟩ := w
  exact h.elim)
theorem Ext.keepS {g g' : Gh} (e : Ext g g') {D : Addr} (h : g.kx D = none) (o : Option HO) : Ext g (g'.keep D o) := ⟨e.n, e.at_, e.fx, fun a u k => by
  show (if a = D then o else g'.kx a) = some u
  rw [if_neg (fun z => by subst z; rw [h] at k; cases k)]
  exact e.kx a u k⟩
theorem wipe_len : ∀ (s : St) (vs : List Nat), (wipe s vs).length = s.length
  | s, [] => rfl
  | s, v :: vs => by unfold wipe; rw [List.length_set, wipe_len s vs]
theorem wipe_rel {g : Gh} {s : St} {σ : L2.St} (r : RelS C g s σ) : ∀ vs, RelS C g (wipe s vs) (L2.wipe σ vs)
  | [] => r
  | v :: vs => by
    have ih := wipe_rel r vs
    unfold wipe L2.wipe
    refine ⟨by simp [ih.1], fun j x h => ?_⟩
    by_cases hj : v = j
    · subst hj
      have hl : v < (wipe s vs).length := by
        have := (List.getElem?_eq_some_iff.mp h).1
        simpa using this
      rw [List.getElem?_set_self hl] at h
      cases h
    · rw [List.getElem?_set_ne hj] at h
      obtain ⟨u, h1, h2⟩ := ih.2 j x h
      exact ⟨u, by rw [List.getElem?_set_ne hj]; exact h1, h2⟩
theorem wipe_get : ∀ (vs : List Nat) (σ : L2.St) (j : Nat), (L2.wipe σ vs)[j]? = if j ∈ vs then (if j < σ.length then some none else none) else σ[j]?
  | [], σ, j => by simp [L2.wipe]
  | v :: vs, σ, j => by
    have ih := wipe_get vs σ j
    unfold L2.wipe
    by_cases hj : v = j
    · subst hj
      rw [if_pos (by simp)]
      by_cases hl : v < σ.length
      · rw [if_pos hl, List.getElem?_set_self (by rw [L2.wipe_length]; exact hl)]
      · rw [if_neg hl]
        rw [List.getElem?_eq_none]
        rw [List.length_set, L2.wipe_length]
        omega
    · rw [List.getElem?_set_ne hj, ih]
      have : (j ∈ v :: vs) ↔ j ∈ vs := by
        simp only [List.mem_cons]
        exact ⟨fun h => h.elim (fun z => absurd z.symm hj) id, .inr⟩
      simp only [this]
theorem wipe_only {σ σ' : L2.St} {sl vs : List Nat} (h : Only sl (L2.wipe σ vs) σ') (hs : ∀ j ∈ sl, j ∈ vs) : L2.wipe σ' vs = L2.wipe σ vs := by
  apply List.ext_getElem?
  intro j
  have hl : σ'.length = σ.length := by rw [h.1, L2.wipe_length]
  rw [wipe_get, wipe_get, hl]
  by_cases hj : j ∈ vs
  · rw [if_pos hj, if_pos hj]
  · rw [if_neg hj, if_neg hj, h.2 j (fun z => hj (hs j z)), wipe_get, if_neg hj]
theorem quiet_bind {α β : Type} {o : Out α} {f : α → AH → Out β} {g : Gh} {K : β → Gh → AH → Hp → Prop} {N : Nat → Hp → Prop} (ok : okG C g ((quiet o).bind f) K N) : ∃ a h, o = .ok a h ∧ okG C g (f a h) K N := by
  cases o with
  | ok a h => exact ⟨a, h, rfl, ok⟩
  | exc c h => exact ok.elim
  | stuck => exact ok.elim
theorem bind_eq_ok {α β : Type} {o : Out α} {f : α → AH → Out β} {y : β} {h' : AH} (e : o.bind f = .ok y h') : ∃ a h, o = .ok a h ∧ f a h = .ok y h' := by
  cases o with
  | ok a h => exact ⟨a, h, rfl, e⟩
  | exc c h => cases e
  | stuck => cases e
theorem tst_eq_ok {α : Type} {x : AV} {a b : Out α} {y : α} {h' : AH} (e : tst x a b = .ok y h') : ∃ c, x = .bl c ∧ (if c = true then a else b) = .ok y h' := by
  cases x <;> first | exact ⟨_, rfl, by rw [tst_bl] at e; exact e⟩ | cases e
theorem ite_eq_ok {α : Type} {c : Prop} [Decidable c] {a : Out α} {y : α} {h' : AH} (e : (if c then a else .stuck) = .ok y h') : c ∧ a = .ok y h' := by
  split at e
  · rename_i h; exact ⟨h, e⟩
  · cases e
/-- the reading of a comprehension -/
theorem lc_read {m : Bool} {vs sl : List Nat} {fi : IF_} {gt : TF} {σ : L2.St} {H : Hp} {Q : VK} {N : Nat → Hp → Prop} (hsl : ∀ j ∈ sl, j ∈ vs) (h : tE C φ (eLc m vs fi gt fc f) N σ H Q) :
    L2.tLc (tI C φ fi N) (tGt C sl gt) (tB C φ fc N0) (tE C φ f N0) vs σ H Q := by
  obtain ⟨g, s, h, r, rs, ok⟩ := h
  refine ⟨g, s, h, r, rs, ?_⟩
  unfold eLc at ok
  cases z : fi φ s h with
  | exc c h1 => rw [z] at ok; exact ok
  | stuck => rw [z] at ok; exact ok
  | ok p h1 =>
    rw [z] at ok
    simp only [bind_ok] at ok
    intro g1 H1 e1 r1 J src D hD
    have ok1 := okG.ext ok e1
    obtain ⟨items, gd⟩ := p
    simp only at ok1 src
    split at ok1
    · rename_i hz
      obtain ⟨ys, h2, e2, ok2⟩ := quiet_bind ok1
      have kD : g1.kx D = none := r1.freeKx hD
      have rs0 := wipe_rel (rs.mono e1) vs
      refine ⟨fun i m' H' => m' = items.length - i ∧ i ≤ items.length ∧ ∃ g' h' acc accA ys h2, Ext g1 g' ∧ Rep C g' h' H' ∧ g'.kx D = some (.lst acc) ∧ RelL C g' accA acc ∧ accA.length ≤ i ∧
          lcGo φ gt fc f (wipe s vs) gd (items.drop i) h' = .ok ys h2 ∧ okG C g1 (mkLst m (accA ++ ys) h2) (fun x g' _ H' => ∀ v, RelA C g' x v → Q v H') N,
        ⟨items.length, by simp, Nat.zero_le _, g1.keep D (some (.lst [])), h1, [], [], ys, h2, (Ext.refl g1).keepS kD _, r1.kept hD [], Gh.keep_same _ _ _, .nil, Nat.le_refl _, e2, ok2⟩, ?_⟩
      rintro i m' H' ⟨rfl, hi, g', h', acc, accA, ys, h2, e', r', kx', rl, hla, eq, okm⟩
      obtain ⟨hHD, _, _⟩ := r'.kx D _ kx'
      by_cases hlt : i < items.length
      · rw [List.drop_eq_getElem_cons hlt] at eq
        unfold lcGo at eq
        obtain ⟨hk, eq⟩ := ite_eq_ok eq
        obtain ⟨q1, _⟩ := src g' h' H' e' r' hk i
        obtain ⟨jgo, jy⟩ := q1 items[i] (List.getElem?_eq_getElem hlt)
        refine .inr ⟨jgo, fun H' => ∃ g' h' acc accA ys h2, Ext g1 g' ∧ Rep C g' h' H' ∧ g'.kx D = some (.lst acc) ∧ RelL C g' accA acc ∧ accA.length ≤ i + 1 ∧
            lcGo φ gt fc f (wipe s vs) gd (items.drop (i + 1)) h' = .ok ys h2 ∧ okG C g1 (mkLst m (accA ++ ys) h2) (fun x g' _ H' => ∀ v, RelA C g' x v → Q v H') N,
          fun H' q => ⟨items.length - (i + 1), by omega, rfl, hlt, q⟩, fun x H3 hy => ?_⟩
        obtain ⟨g3, e3, r3, rx⟩ := jy x H3 hy
        cases z2 : gt items[i] (wipe s vs) with
        | none => rw [z2] at eq; cases eq
        | some s1 =>
          rw [z2] at eq
          simp only at eq
          obtain ⟨bv, hb, eb, eq1⟩ := bind_eq_ok eq
          obtain ⟨bb, rfl, eq2⟩ := tst_eq_ok eq1
          clear eq1
          have e13 : Ext g1 g3 := e'.trans e3
          refine ⟨g3, h', wipe s vs, s1, items[i], r3, rs0.mono e13, rx, z2, fun σ2 rs2 o2 => ⟨wipe_only o2 hsl, g3, s1, h', r3, rs2, ?_⟩⟩
          rw [eb]
          intro g4 H4 e4 r4
          refine ⟨bb, rfl, ?_⟩
          cases bb with
          | false =>
            rw [if_neg Bool.false_ne_true] at eq2 ⊢
            exact ⟨g4, hb, acc, accA, ys, h2, e13.trans e4, r4, e4.kx _ _ (e3.kx _ _ kx'), (rl.mono e3).mono e4, by omega, eq2, okm⟩
          | true =>
            rw [if_pos rfl] at eq2 ⊢
            obtain ⟨y, hy2, ey, eq3⟩ := bind_eq_ok eq2
            obtain ⟨ys', h3, er, eq4⟩ := bind_eq_ok eq3
            cases eq4
            refine ⟨g4, s1, hb, r4, rs2.mono e4, ?_⟩
            rw [ey]
            intro g5 H5 e5 r5 v rv
            have kx5 : g5.kx D = some (.lst acc) := e5.kx _ _ (e4.kx _ _ (e3.kx _ _ kx'))
            obtain ⟨hD5, _, _⟩ := r5.kx D _ kx5
            have rl5 := ((rl.mono e3).mono e4).mono e5
            refine ⟨acc, hD5, by rw [← rl5.len]; exact Nat.lt_of_le_of_lt hla (Nat.lt_trans hlt hz), ?_⟩
            refine ⟨g5.keep D (some (.lst (acc ++ [v]))), hy2, acc ++ [v], accA ++ [y], ys', h2, ((e13.trans e4).trans e5).keepS kD _, r5.rekept kx5 _, Gh.keep_same _ _ _, rl5.keep.append (.cons rv.keep .nil), by rw [List.length_append]; simp; omega, er, ?_⟩
            have ea : accA ++ [y] ++ ys' = accA ++ (y :: ys') := by simp
            rw [ea]
            exact okm
      · have hie : i = items.length := by omega
        rw [List.drop_eq_nil_of_le (by omega)] at eq
        unfold lcGo at eq
        obtain ⟨hk, eq⟩ := ite_eq_ok eq
        cases eq
        rw [List.append_nil] at okm
        refine .inl ⟨(src g' h' H' e' r' hk i).2 (by omega), ?_⟩
        have rr := r'.unkept kx'
        have okm2 := okG.ext okm (e'.keepS kD none)
        obtain ⟨_, q⟩ := mkLst_at rr rl.keep okm2
        have := q D (if_pos rfl)
        rw [upd_unkept hHD] at this
        exact this
    · exact ok1.elim
variable {tg iter elt : Expr} {ifs : List Expr} {scope : Scope} {own : List (Str × Nat)} {sl : List Nat} {fi : IF_} {gt : TF}
/-- the parts of a comprehension -/
structure LcP (C : Cfg) (φ : Fn) (X : Cx) (elt tg iter : Expr) (ifs : List Expr) (scope : Scope) (own : List (Str × Nat)) (sl : List Nat) (fi : IF_) (gt : TF) (fc f : EF) : Prop where
  hi : SI C φ X tg iter fi
  ok : L2.BlkOk X.N X.env.scope scope own
  hg : ∀ (s : Shared) (H : Hp) (L : Addr) (cl : List (Str × Addr)) (fp : List Addr), ST C (X.blk s H scope (compEnvC scope cl L X.env) fp) tg sl gt
  ht : ∀ (s : Shared) (H : Hp) (L : Addr) (cl : List (Str × Addr)) (fp : List Addr), PTs (X.blk s H scope (compEnvC scope cl L X.env) fp) ifs (tB C φ fc N0)
  he : ∀ (s : Shared) (H : Hp) (L : Addr) (cl : List (Str × Addr)) (fp : List Addr), SE C φ (X.blk s H scope (compEnvC scope cl L X.env) fp) elt f
  hs : ∀ x, foldedSetIterable iter X.env x = pure x
  hsl : ∀ j ∈ sl, j ∈ own.map (·.2)
theorem pts_yes : PTs X [] (tB C φ eYes N0) := L2.pts_nil.imp fun σ H Q ⟨g, s, h, r, rs, ok⟩ => by
  obtain ⟨b, e, q⟩ := ok g H (Ext.refl g) r
  cases e
  exact q
theorem pts_if (h : SB C φ X c fc) : PTs X [c] (tB C φ fc N0) := L2.pts_one (h.run N0 takesN0)
theorem se_lc (A : At C X) (m : Bool) (L : LcP C φ X elt tg iter ifs scope own sl fi gt fc f) : SE C φ X (.ListComp elt [⟨tg, iter, ifs, 0⟩] scope pos) (eLc m (own.map (·.2)) fi gt fc f) := by
  refine ⟨fun N tk => (L2.pe_lc A.calm A.nd (L.hi.run N tk) L.ok (fun s H L' cl fp => (L.hg s H L' cl fp).run) (fun s H L' cl fp => L.ht s H L' cl fp) (fun s H L' cl fp => (L.he s H L' cl fp).run N0 takesN0) L.hs).imp fun σ H Q h => lc_read L.hsl h⟩
theorem ss_setLc {k : Nat} {y : Str} {py : Pos} {spos : Pos} (A : At C X) (m : Bool) (hy : X.N[k]? = some y) (hyl : X.env.scope.names.lookup y = some .local)
    (hsw : swapsWith (.ListComp elt [⟨tg, iter, ifs, 0⟩] scope pos) (some (.Name y py)) spos.line X.env = pure true) (L : LcP C φ X elt tg iter ifs scope own sl fi gt fc f) :
    SS C φ X (.Assign [.Name y py] (.ListComp elt [⟨tg, iter, ifs, 0⟩] scope pos) spos) (sSet (gN k) (eLc m (own.map (·.2)) fi gt fc f)) := by
  refine ⟨fun N tk => (L2.ps_setLc A.calm A.nd hy hyl hsw (L.hi.run N tk) L.ok (fun s H L' cl fp => (L.hg s H L' cl fp).run) (fun s H L' cl fp => L.ht s H L' cl fp) (fun s H L' cl fp => (L.he s H L' cl fp).run N0 takesN0) L.hs).imp fun D σ H ⟨g, s, h, r, rs, ok⟩ => ?_⟩
  refine lc_read (m := m) (fi := fi) (gt := gt) (fc := fc) (f := f) (N := N) (Q := fun x H1 => L2.gName k x σ H1 D.nx) L.hsl ⟨g, s, h, r, rs, ?_⟩
  unfold sSet at ok
  cases z : eLc m (own.map (·.2)) fi gt fc f φ s h with
  | exc c h1 => rw [z] at ok; exact ok
  | stuck => rw [z] at ok; exact ok
  | ok x h1 =>
    rw [z] at ok
    simp only [bind_ok, gN] at ok
    exact fun g' H' e1 r1 v rv => ok g' H' e1 r1 _ ((rs.mono e1).set k rv)
end
end TX

/-! TxI: lambdas handed to the def that tells how a call ends -/
set_option Elab.async false
set_option linter.all false
set_option maxRecDepth 100000
set_option maxHeartbeats 1000000
set_option autoImplicit false
namespace TX
open PySem PySem.Spec PyProof.Rows
open L2 (V HO Hp Key upd upd_same upd_ne SqL SqT Rd HOk Cx Inv PE PT PTs PW PS PSs PG PGs PI PA TE TT TA TS TG TGs TI It VK XK WX Takes Ends EP EP OpR tOp CallR tCB tCons tNil Sp Room FnOk thn)
section
variable {X : Cx} {pins : List (Addr × Obj)} {σ : L2.St} {H : Hp} {s : Shared}
abbrev lamObj (X : Cx) (params : Arguments) (body : Expr) (scope : Scope) (pm : Value) (c' : Addr) (ctv : Value) : Obj :=
  PySem.W.kla_obj "<lambda>" (X.env.qual ++ "<lambda>") params body scope (L2.cloFrom X.env.cells scope.names []) pm c' ctv
/-- all but the table at P stays -/
def ButP (P : Addr) (H H' : Hp) : Prop := ∀ b o, b ≠ P → H b = some o → H' b = some o
/-- a lambda is made; only its own table is written -/
theorem lam_mk {T : List (Addr × Str)} {c P : Addr} {params : Arguments} {body : Expr} {scope : Scope} {pos : Pos} {E : Value → Shared → Prop} {Q : Value → Shared → Prop} (I : Inv X pins σ H s) (TB : LamX.TabB X.base X.mg c P) (hcode : X.env.code = .ref c)
    (hm : (P, X.env.qual ++ "<lambda>") ∈ T) (hu : ∀ p ∈ T, p.1 = P → p.2 = X.env.qual ++ "<lambda>") (hT : LamX.Tabs T H) (hdef : defaultsOf params X.env = ([], [])) (hfree : ∀ y ∈ scope.names, y.2 = .free → ∃ c, X.env.cells.lookup y.1 = some c)
    (h : ∀ (f c' : Addr) (pm ctv : Value) (H1 : Hp) (s' : Shared), Inv X pins σ H1 s' → ButP P H H1 → LamX.Tabs T H1 → s'.heap.get? f = some (lamObj X params body scope pm c' ctv) → H1 f = none → s.heap.objs.size ≤ f →
      H1 c' = some (LamX.CodeO c' (X.env.qual ++ "<lambda>")) → (∀ b o, b ≠ P → s.heap.get? b = some o → s'.heap.get? b = some o) → (∃ ps, H P = some (.tbl ps)) → Q (.ref f) s') :
    wpAny (model X.prog X.w) X.A (eval (.Lambda params body scope pos) X.env) Q E s := by
  obtain ⟨ps, hP, ht, ha⟩ := hT _ hm
  have tabP : ∃ ps, H P = some (.tbl ps) := ⟨ps, hP⟩
  refine PySem.W.kla_eval hdef ?_
  have bP : s.heap.BuiltinsAt X.mg P := TB.bm.keeps I.bk
  have atP : s.heap.get? P = some { cls := .none, data := .fields ps } := I.hok P _ hP
  cases hc : codeAmong pos ps.toList with
  | some cv =>
    obtain ⟨c', e, hco⟩ := ha pos cv hc
    subst e
    refine PySem.W.kla_makeFunctionHit (mg := X.mg) (c := c) (P := P) (ps := ps) (L2.closure_ok hfree) I.ok.glob (I.mod.glob.keeps I.bk) hcode (TB.code.keeps I.bk) atP ht hc bP fun ctv h' tk hx hsz => ?_
    have J := I.kept (t' := tk) (h' := h'.push (lamObj X params body scope ((X.mg "__name__").getD .none) c' ctv)) fun b o e => Heap.get?_push_of_some _ (hx b o e)
    exact h h'.objs.size c' _ ctv H _ J (fun _ _ _ e => e) hT (Heap.get?_push_size _ rfl) (I.hok.fresh hsz) hsz hco (fun b o _ e => Heap.get?_push_of_some _ (hx b o e)) tabP
  | none =>
    refine PySem.W.kla_makeFunction (mg := X.mg) (c := c) (P := P) (ps := ps) (L2.closure_ok hfree) I.ok.glob (I.mod.glob.keeps I.bk) hcode (TB.code.keeps I.bk) atP ht hc TB.gP bP fun c' ctv h' tk hx hge hlt hrec htb => ?_
    obtain ⟨c2, oc, vs, t, e2, hoc, hd, hv⟩ := hrec
    cases e2
    have big : s.heap.objs.size ≤ h'.objs.size := Nat.le_trans hge (Nat.le_of_lt hlt)
    have nC : H c' = none := I.hok.fresh hge
    have J := LamX.inv_table (t' := tk) (more := #[rawInt pos.line, rawInt pos.col, .ref c']) (h' := h'.push (lamObj X params body scope ((X.mg "__name__").getD .none) c' ctv)) I hP
      (fun b o hb e => Heap.get?_push_of_some _ (hx b o hb e)) (Heap.get?_push_of_some _ htb) hge ⟨oc, vs, t, Heap.get?_push_of_some _ hoc, hd, hv⟩
    have stay : ButP P H (upd (upd H P (.tbl (ps ++ #[rawInt pos.line, rawInt pos.col, .ref c']))) c' (LamX.CodeO c' (X.env.qual ++ "<lambda>"))) := fun b o hb e => by
      rw [upd_ne (L2.ne_of_none e nC), upd_ne hb]
      exact e
    have codeStay : ∀ c0 q, H c0 = some (LamX.CodeO c0 q) → upd (upd H P (.tbl (ps ++ #[rawInt pos.line, rawInt pos.col, .ref c']))) c' (LamX.CodeO c' (X.env.qual ++ "<lambda>")) c0 = some (LamX.CodeO c0 q) := fun c0 q e =>
      stay c0 _ (fun z => by rw [z, hP] at e; exact LamX.codeO_ne ps (Option.some.inj e).symm) e
    have asL : (ps ++ #[rawInt pos.line, rawInt pos.col, .ref c']).toList = ps.toList ++ [rawInt pos.line, rawInt pos.col, .ref c'] := by simp
    have nf : h'.objs.size ≠ c' := Nat.ne_of_gt hlt
    have nfP : h'.objs.size ≠ P := Nat.ne_of_gt (Nat.lt_of_lt_of_le (Heap.lt_size atP) big)
    refine h h'.objs.size c' _ ctv _ _ J stay (fun p hp => ?_) (Heap.get?_push_size _ rfl) (by rw [upd_ne nf, upd_ne nfP]; exact I.hok.fresh big) big upd_same (fun b o hb e => Heap.get?_push_of_some _ (hx b o hb e)) tabP
    by_cases hb : p.1 = P
    · rw [hu p hp hb, hb]
      refine ⟨_, by rw [upd_ne (L2.ne_of_none hP nC), upd_same], by rw [asL]; exact PySem.TriplesOk_snoc _ _ _ _ ht, fun p' cv hcv => ?_⟩
      rw [asL] at hcv
      rcases LamX.among_app _ ht hcv with z | z
      · obtain ⟨c0, e1, e2⟩ := ha p' cv z
        exact ⟨c0, e1, codeStay _ _ e2⟩
      · exact ⟨c', z, upd_same⟩
    · obtain ⟨ps2, a1, a2, a3⟩ := hT p hp
      refine ⟨ps2, stay _ _ hb a1, a2, fun p' cv hcv => ?_⟩
      obtain ⟨c0, e1, e2⟩ := a3 p' cv hcv
      exact ⟨c0, e1, codeStay _ _ e2⟩
end

/-! ### the heap behind it -/
section
variable {C : Cfg} {g : Gh} {h : AH} {H H1 : Hp} {P : Addr}
theorem Rep.but (r : Rep C g h H) (b : ButP P H H1) (hP : ∃ ps, H P = some (.tbl ps)) (hT : LamX.Tabs C.tl H1) (hl : ∃ q, (P, q) ∈ C.tl) : Rep C g h H1 := by
  obtain ⟨ps, hP⟩ := hP
  have k : ∀ a o, H a = some o → (∀ q, o ≠ .tbl q) → H1 a = some o := fun a o e n => b a o (fun z => by subst z; rw [hP] at e; cases e; exact n _ rfl) e
  refine ⟨r.n, fun a o e => ?_, r.inj, r.dis, fun i o e => ?_, ⟨hT, fun p hp => ?_⟩, fun a o e => ?_, r.kd⟩
  · obtain ⟨e1, e2⟩ := r.fx a o e
    exact ⟨k a o e1 (fun q z => by subst z; exact e2), e2⟩
  · obtain ⟨u, e1, e2⟩ := r.obj i o e
    refine ⟨u, k _ _ e1 fun q z => ?_, e2⟩
    subst z
    cases o with
    | lst xs => obtain ⟨vs, z, _⟩ := e2; cases z
    | dct xs => obtain ⟨vs, z, _⟩ := e2; cases z
    | ins c xs => obtain ⟨dx, vs, z, _⟩ := e2; cases z
  · obtain ⟨ps2, e1, e2⟩ := r.sys.2 p hp
    by_cases hb : p = P
    · subst hb
      obtain ⟨q, hq⟩ := hl
      obtain ⟨ps3, f1, f2, _⟩ := hT _ hq
      exact ⟨ps3, f1, f2⟩
    · exact ⟨ps2, b _ _ hb e1, e2⟩
  · obtain ⟨e1, e2, e3⟩ := r.kx a o e
    refine ⟨k a _ e1 (fun q z => ?_), e2, e3⟩
    subst z
    rcases e3 with ⟨xs, z⟩ | ⟨us, z⟩ | ⟨c, dx, us, z⟩ | ⟨c, q, z⟩
    · cases z
    · cases z
    · cases z
    · exact LamX.codeO_ne _ z.symm
end

/-! ### what is told of a lambda -/
/-- the def that tells: try: return a() except x: return ret -/
structure TellI (C : Cfg) (K : PySem.W.Frag) (mg : Str → Option Value) (x : Str) (w : Ct) (ret : Tx) : Prop where
  ex : ∃ (g : Addr) (pg : Arguments) (sg : Scope) (dV kV doc pm cdv ct oc : Value) (an od : Option Addr) (osl : Array (Option Value)) (Ng : List Str) (a e : Str) (CS : Addr) (rt : Str) (j : Nat) (p1 p2 p3 p4 p5 p6 p7 p8 : Pos),
    mg x = some (.ref g) ∧ PySem.W.keepIn K (.ref g) = true ∧
    K.lookup g = some ⟨oc, od, .func (PySem.W.fnOf x x pg [.Try [.Return (some (.Call (.Name a p1) [] [] p2)) p3] [.ExceptHandler (some (.Name e p4)) none [.Return (some (.Constant (.str rt) j p5)) p6] p7] [] [] p8] sg dV kV doc pm an cdv ct), osl⟩ ∧
    PySem.W.codeIn K cdv x = true ∧ L2.Binds K (PySem.W.fnOf x x pg [.Try [.Return (some (.Call (.Name a p1) [] [] p2)) p3] [.ExceptHandler (some (.Name e p4)) none [.Return (some (.Constant (.str rt) j p5)) p6] p7] [] [] p8] sg dV kV doc pm an cdv ct) [a] [] ∧
    L2.FnScope Ng [a] sg ∧ Ng[0]? = some a ∧ L2.Vis sg a ∧ sg.names.lookup e = some .globalImplicit ∧ mg e = some (.ref CS) ∧ (e == ("__debug__" : Str)) = false ∧ (a == ("__debug__" : Str)) = false ∧ (a == ("__classdict__" : Str)) = false ∧ rt = toS ret ∧
    ∀ c, w c = some true → PySem.W.exmOne K (.ref (C.cA c)) (.ref CS) = some true
/-- what a lambda's maker must have -/
structure LamM (C : Cfg) (X : Cx) : Prop where
  ex : ∃ c P, LamX.TabB X.base X.mg c P ∧ X.env.code = .ref c ∧ (P, X.env.qual ++ "<lambda>") ∈ C.tl ∧ ∀ p ∈ C.tl, p.1 = P → p.2 = X.env.qual ++ "<lambda>"
section
variable {C : Cfg} {φ : Fn} {X : Cx} {f : EF}
theorem start0 {Ng : List Str} {v : V} : (L2.start Ng [v])[0]? = some (some v) := rfl
theorem LamM.nofr {pins : List (Addr × Obj)} {σ : L2.St} {H : Hp} {s : Shared} (I : Inv X pins σ H s) {f : Addr} (hf : s.heap.objs.size ≤ f) : f ∉ L2.frs X.stack := fun z => by
  rcases List.mem_cons.mp (I.stkSub _ z) with e | e
  · have h1 := I.lt
    rw [← e] at h1
    exact Nat.lt_irrefl _ (Nat.lt_of_lt_of_le h1 hf)
  · exact I.nofs hf e
/-- the lambda's own context lets an error out as its caller wishes -/
theorem lam_takes {A : Around} {outer : List Env} {s : Shared} {H : Hp} {E : XK} {scope : Scope} {fa c' : Addr} : Takes (LamX.lamCx X A outer s H E scope fa c') (wX C fun c H => ∀ d, E (.ref (C.cA c)) d H) :=
  (L2.takes_of (X := LamX.lamCx X A outer s H E scope fa c') (E := E) rfl rfl rfl rfl).imp fun cls d σ H ⟨c, e, q⟩ => by rw [e]; exact q d
/-- the parts of a lambda without parameters -/
structure LamP (C : Cfg) (φ : Fn) (X : Cx) (k : Nat) (params : Arguments) (body : Expr) (scope : Scope) (f : EF) : Prop where
  L : LamX.LamS X.env.scope scope
  hdef : defaultsOf params X.env = ([], [])
  hbind : ∀ (q : Str) (cl : List (Str × Addr)) (pm cv ctv : Value), bindArgs (PySem.W.kla_fn "<lambda>" q params body scope cl pm cv ctv) ⟨[], []⟩ = pure []
  hb : ∀ (A : Around) (outer : List Env) (s : Shared) (H : Hp) (E : XK) (fa c' : Addr), Room k (A.deeper (LamX.lamEnv X scope s.heap.objs.size fa c')) → SE C φ (LamX.lamCx X A outer s H E scope fa c') body f
/-- the lambda at fa is told of, from a state where its maker's names stand -/
theorem tell_code {x : Str} {w : Ct} {ret : Tx} {pins : List (Addr × Obj)} {σ : L2.St} {H : Hp} {s : Shared} {Q : VK} {params : Arguments} {body : Expr} {scope : Scope} {fa c' ga : Addr} {pm ctv : Value} {k : Nat} {g : Gh} {st : St} {h : AH} (TI : TellI C X.K X.mg x w ret) (I : Inv X pins σ H s)
    (P : LamP C φ X k params body scope f) (hga : X.mg x = some (.ref ga)) (hf : s.heap.get? fa = some (lamObj X params body scope pm c' ctv)) (hfn : H fa = none) (hfr : fa ∉ L2.frs X.stack) (hc : H c' = some (LamX.CodeO c' (X.env.qual ++ "<lambda>"))) (hr : Room (k + 2) X.A)
    (r : Rep C g h H) (rs : RelS C g st σ) {N : Nat → Hp → Prop} (ok : okG C g (told w ret (f φ st h)) (fun x g' _ H' => ∀ v, RelA C g' x v → Q v H') N) :
    codeAny (model X.prog X.w) X.A (.call (.ref ga) ⟨[.ref fa], []⟩) (L2.CR C8.CX0 X.stack X.prog X.w H s Q C8.E0) s := by
  obtain ⟨g0, pg, sg, dV, kV, doc, pm0, cdv, ct, oc, an, od, osl, Ng, a, e, CS, rt, j, p1, p2, p3, p4, p5, p6, p7, p8, m1, m2, m3, m4, m5, m6, m7, m8, m9, m10, m11, m12, m13, m14, m15⟩ := TI.ex
  rw [m1] at hga
  cases hga
  refine LamX.run_ofS (N := Ng) (ps := [a]) (us := [.ref fa]) (vs := [.ref fa]) m3 m4 m6 hr I.env0 (by have := m5 s [.ref fa] I.kIn rfl; exact this) (.cons rfl .nil) rfl fun hr' => ?_
  obtain ⟨t', ht', hq'⟩ := LamX.told_gives (X := X) (Ng := Ng) (x := x) (a := a) (e := e) (q := X.env.qual ++ "<lambda>") (ret := rt) (sg := sg) (g := ga) (CS := CS) (cdg := cdv) (j := j) (p1 := p1) (p2 := p2) (p3 := p3) (p4 := p4) (p5 := p5) (p6 := p6) (p7 := p7) (p8 := p8) m9 m10 m11 (fun f => start0) fa c' s H Q
    (fun E H' Q' => tE C φ f (fun c H => ∀ d, E (.ref (C.cA c)) d H) σ H' Q')
    (fun W pn xe E p1 p2 tk hW => LamX.pe_act (i := 0) I P.L hf hfn hfr (P.hbind _ _ _ _ _) tk hW hr' (fun A outer s H hr2 => (P.hb A outer s H E fa c' hr2).run _ lam_takes) m7 m8 m12 m13) hc (by
    refine ⟨g, st, h, r, rs, ?_⟩
    cases z : f φ st h with
    | stuck => rw [z] at ok; exact ok
    | ok v h1 => rw [z] at ok; exact ok
    | exc c h1 =>
      rw [z] at ok
      unfold told at ok
      simp only at ok
      split at ok
      · rename_i hw
        exact fun g' H' e1 r1 d => ⟨true, m15 c hw, fun _ => by rw [m14]; exact ok g' H' e1 r1 _ .mkS, fun z => nomatch z⟩
      · exact ok.elim)
  exact ⟨t', ht'.nox, hq'⟩
/-- x(lambda: body), x the def that tells -/
theorem se_told {x : Str} {w : Ct} {ret : Tx} {params : Arguments} {body : Expr} {scope : Scope} {k : Nat} {p lpos pos : Pos} (TI : TellI C X.K X.mg x w ret) (M : LamM C X) (P : LamP C φ X k params body scope f) (hr : Room (k + 2) X.A) (hg : L2.Gl X x) (hdb : (x == ("__debug__" : Str)) = false) :
    SE C φ X (.Call (.Name x p) [.Lambda params body scope lpos] [] pos) (eTold w ret f) := by
  obtain ⟨c, Pt, TB, hcode, hmT, hu⟩ := M.ex
  have TI' := TI
  obtain ⟨ga, pg, sg, dV, kV, doc, pm0, cdv, ct, oc, an, od, osl, Ng, a, e, CS, rt, j, p1, p2, p3, p4, p5, p6, p7, p8, m1, m2, m3, m4, _⟩ := TI'.ex
  refine ⟨fun N tk => ⟨fun pins s σ H Q I ⟨g, st, h, r, rs, ok⟩ => ?_⟩⟩
  refine wpAny_Call_Name_kw (L2.ld_glob I hg m1 ?_ hdb)
  refine PySem.W.callWith_K (h₀ := X.base) I.ok.mod.kin m2 ?_ (by rfl) (by rfl)
  show wpAny _ _ (spliced ((false, eval (.Lambda params body scope lpos) X.env) :: backTo pos (starEach [] X.env))) _ _ s
  refine Calls.spliced_cons (lam_mk I TB hcode hmT hu r.sys.1 P.hdef (P.L.has I.ok) fun fa c' pm ctv H1 s' I1 bP T1 hf hfn hge hc _ tabP => ?_)
  refine Calls.spliced_nil ⟨I1.kIn, ?_⟩
  have r1 := r.but bP tabP T1 ⟨_, hmT⟩
  have rc := tell_code (Q := Q) (N := N) (ga := ga) TI I1 P m1 hf hfn (LamM.nofr I hge) hc hr r1 rs ok
  refine wpAny_call (codeAny_mono rc fun r s2 hq => ?_)
  cases r with
  | error e => exact (show False from hq).elim
  | ok fl =>
    cases fl with
    | ret u => exact I1.after hq
    | next => exact False.elim hq
    | brk => exact False.elim hq
    | cont => exact False.elim hq
end
end TX

/-! TxJ: a list of lambdas, each told of in a comprehension -/
set_option Elab.async false
set_option linter.all false
set_option maxRecDepth 100000
set_option maxHeartbeats 1000000
set_option autoImplicit false
namespace TX
open PySem PySem.Spec PyProof.Rows
open L2 (V HO Hp Key upd upd_same upd_ne SqL SqT Rd HOk Cx Inv PE PT PTs PW PS PSs PG PGs PI PA TE TT TA TS TG TGs TI It VK XK WX Takes Ends EP SP TP OpR tOp CallR tCB tCons tNil Sp Room FnOk thn thnF)
section
variable {C : Cfg} {φ : Fn} {X : Cx} {k : Nat}
inductive LamL (C : Cfg) (φ : Fn) (X : Cx) (k : Nat) : List Expr → List EF → Prop
  | nil : LamL C φ X k [] []
  | cons {params : Arguments} {body : Expr} {scope : Scope} {pos : Pos} {f : EF} {es : List Expr} {fs : List EF} (h : LamP C φ X k params body scope f) (r : LamL C φ X k es fs) : LamL C φ X k (.Lambda params body scope pos :: es) (f :: fs)
/-- a made lambda -/
def LamAt (C : Cfg) (φ : Fn) (X : Cx) (k : Nat) (g : Gh) (pins : List (Addr × Obj)) (f : EF) (fa : Addr) : Prop :=
  ∃ params body scope pm c' ctv, LamP C φ X k params body scope f ∧ (fa, lamObj X params body scope pm c' ctv) ∈ pins ∧ fa ∉ L2.frs X.stack ∧ g.kx c' = some (LamX.CodeO c' (X.env.qual ++ "<lambda>"))
inductive LamsAt (C : Cfg) (φ : Fn) (X : Cx) (k : Nat) (g : Gh) (pins : List (Addr × Obj)) : List EF → List Addr → Prop
  | nil : LamsAt C φ X k g pins [] []
  | cons {f : EF} {fs : List EF} {a : Addr} {as : List Addr} (h : LamAt C φ X k g pins f a) (r : LamsAt C φ X k g pins fs as) : LamsAt C φ X k g pins (f :: fs) (a :: as)
theorem LamAt.mono {g g' : Gh} {pins pins' : List (Addr × Obj)} {f : EF} {fa : Addr} (e : ∀ a o, g.kx a = some o → g'.kx a = some o) (hp : ∀ p ∈ pins, p ∈ pins') (h : LamAt C φ X k g pins f fa) : LamAt C φ X k g' pins' f fa := by
  obtain ⟨params, body, scope, pm, c', ctv, h1, h2, h3, h4⟩ := h
  exact ⟨params, body, scope, pm, c', ctv, h1, hp _ h2, h3, e _ _ h4⟩
theorem LamsAt.mono {g g' : Gh} {pins pins' : List (Addr × Obj)} (e : ∀ a o, g.kx a = some o → g'.kx a = some o) (hp : ∀ p ∈ pins, p ∈ pins') {fs : List EF} {as : List Addr} (h : LamsAt C φ X k g pins fs as) : LamsAt C φ X k g' pins' fs as := by
  induction h with
  | nil => exact .nil
  | cons h r ih => exact .cons (h.mono e hp) ih
theorem LamsAt.get {g : Gh} {pins : List (Addr × Obj)} : ∀ {fs : List EF} {as : List Addr} (_ : LamsAt C φ X k g pins fs as) {i : Nat} {f : EF}, fs[i]? = some f → ∃ a, as[i]? = some a ∧ LamAt C φ X k g pins f a
  | _, _, .nil, i, f, h => by simp at h
  | _, _, .cons h r, 0, f, e => by simp at e; subst e; exact ⟨_, rfl, h⟩
  | _, _, .cons h r, i + 1, f, e => by
    simp only [List.getElem?_cons_succ] at e ⊢
    exact r.get e
theorem LamsAt.len {g : Gh} {pins : List (Addr × Obj)} {fs : List EF} {as : List Addr} (h : LamsAt C φ X k g pins fs as) : fs.length = as.length := by
  induction h with
  | nil => rfl
  | cons h r ih => simp [ih]
theorem LamAt.tr {g : Gh} {pins pn : List (Addr × Obj)} {f : EF} {fa : Addr} (hP : ∀ params body scope, LamP C φ X k params body scope f → LamP C φ (X.tr pn X.xe) k params body scope f) (h : LamAt C φ X k g pins f fa) : LamAt C φ (X.tr pn X.xe) k g pins f fa := by
  obtain ⟨params, body, scope, pm, c', ctv, h1, h2, h3, h4⟩ := h
  exact ⟨params, body, scope, pm, c', ctv, hP _ _ _ h1, h2, h3, h4⟩
theorem LamP.tr {params : Arguments} {body : Expr} {scope : Scope} {f : EF} {pn : List (Addr × Obj)} (h : LamP C φ X k params body scope f) : LamP C φ (X.tr pn X.xe) k params body scope f := ⟨h.L, h.hdef, h.hbind, h.hb⟩
theorem LamsAt.tr {g : Gh} {pins pn : List (Addr × Obj)} {fs : List EF} {as : List Addr} (h : LamsAt C φ X k g pins fs as) : LamsAt C φ (X.tr pn X.xe) k g pins fs as := by
  induction h with
  | nil => exact .nil
  | cons h r ih => exact .cons (h.tr fun _ _ _ => LamP.tr) ih
/-- the display of lambdas -/
theorem lams_disp {pos : Pos} (M : LamM C X) {es : List Expr} {fs : List EF} (LL : LamL C φ X k es fs) : ∀ {pins : List (Addr × Obj)} {σ : L2.St} {H : Hp} {s : Shared} {g : Gh} {h : AH} {E : Value → Shared → Prop} {Q : List Value → Shared → Prop}, Inv X pins σ H s → Rep C g h H →
    (∀ as pins' g' H' s', Inv X pins' σ H' s' → Ext g g' → Rep C g' h H' → LamsAt C φ X k g' pins' fs as → (∀ p ∈ pins, p ∈ pins') → Q (as.map Value.ref) s') →
    wpAny (model X.prog X.w) X.A (spliced (backTo pos (starEach es X.env))) Q E s := by
  obtain ⟨c, P, TB, hcode, hmT, hu⟩ := M.ex
  induction LL with
  | nil => exact fun I r hQ => Calls.spliced_nil (hQ [] _ _ _ _ I (Ext.refl _) r .nil fun _ h => h)
  | @cons params body scope lpos f es fs LP LL ih =>
    intro pins σ H s g h E Q I r hQ
    show wpAny _ _ (spliced ((false, eval (.Lambda params body scope lpos) X.env) :: backTo pos (starEach es X.env))) _ _ s
    refine Calls.spliced_cons (lam_mk I TB hcode hmT hu r.sys.1 LP.hdef (LP.L.has I.ok) fun fa c' pm ctv H1 s' I1 bP T1 hf hfn hge hc _ tabP => ?_)
    have r1 := r.but bP tabP T1 ⟨_, hmT⟩
    have r2 := r1.code hc
    have nc : Ext g (g.keep c' (some (LamX.CodeO c' (X.env.qual ++ "<lambda>")))) := ⟨Nat.le_refl _, fun _ _ => rfl, fun _ _ e => e, fun a u e => by
      show (if a = c' then _ else g.kx a) = some u
      by_cases z : a = c'
      · rw [if_pos z]
        subst z
        have e9 := (r1.kx _ _ e).1
        rw [hc] at e9
        exact e9
      · rw [if_neg z]; exact e⟩
    have I2 : Inv X (pins ++ [(fa, lamObj X params body scope pm c' ctv)]) σ H1 s' := I1.pins_of fun p hp => by
      rcases List.mem_append.mp hp with hp | hp
      · exact I1.pin p (List.mem_append_right _ hp)
      · simp only [List.mem_singleton] at hp
        subst hp
        exact ⟨hf, hfn, fun z => by
          have h1 := I.lt
          have z' : fa = X.env.locals := z
          rw [← z'] at h1
          exact Nat.lt_irrefl _ (Nat.lt_of_lt_of_le h1 hge), I.nofs hge, fun v z => by cases z⟩
    refine ih I2 r2 fun as pins' g' H' s2 I3 e' r' la sub => ?_
    refine hQ (fa :: as) pins' g' H' s2 I3 (nc.trans e') r' (.cons ⟨params, body, scope, pm, c', ctv, LP, sub _ (List.mem_append_right _ (List.mem_singleton.mpr rfl)), LamM.nofr I hge, e'.kx _ _ (if_pos rfl)⟩ la) fun p hp => sub p (List.mem_append_left _ hp)

/-- a call of the def that tells, of the lambda that a name holds -/
theorem pe_tellN {Y : Cx} {x : Str} {w : Ct} {ret : Tx} {pins0 : List (Addr × Obj)} {σX : L2.St} {st : St} {kf : Nat} {fx : Str} {pt pf pc : Pos} (TI : TellI C X.K X.mg x w ret) (hr : Room (k + 2) X.A)
    (eY : Y.prog = X.prog ∧ Y.w = X.w ∧ Y.K = X.K ∧ Y.mg = X.mg ∧ Y.base = X.base ∧ Y.A = X.A ∧ Y.stack = X.stack) (hg : L2.Gl Y x) (hdb : (x == ("__debug__" : Str)) = false)
    (hN : Y.N[kf]? = some fx) (hv : L2.Vis Y.env.scope fx) (hd : (fx == ("__debug__" : Str)) = false) (hcd : (fx == ("__classdict__" : Str)) = false)
    (back : ∀ pins σ H s, Inv Y pins σ H s → Inv X pins0 σX H s) :
    PE Y (.Call (.Name x pt) [.Name fx pf] [] pc) (fun σ H Q => ∃ fa f g h, σ[kf]? = some (some (.ref fa)) ∧ LamAt C φ X k g (X.pn ++ pins0) f fa ∧ Rep C g h H ∧ RelS C g st σX ∧ okG C g (told w ret (f φ st h)) (fun x g' _ H' => ∀ v, RelA C g' x v → Q v H') N0) := by
  obtain ⟨ga, pg, sg, dV, kV, doc, pm0, cdv, ct, oc, an, od, osl, Ng, a, e, CS, rt, j, p1, p2, p3, p4, p5, p6, p7, p8, m1, m2, m3, m4, _⟩ := TI.ex
  obtain ⟨y1, y2, y3, y4, y5, y6, y7⟩ := eY
  refine ⟨fun pins s σ H Q I ⟨fa, f, g, h, hs, la, r, rs, ok⟩ => ?_⟩
  refine wpAny_Call_Name_kw (L2.ld_glob I hg (by rw [y4]; exact m1) ?_ hdb)
  refine PySem.W.callWith_K (h₀ := Y.base) I.ok.mod.kin (by rw [y3]; exact m2) ?_ (by rfl) (by rfl)
  show wpAny _ _ (spliced ((false, eval (.Name fx pf) Y.env) :: backTo pc (starEach [] Y.env))) _ _ s
  refine Calls.spliced_cons (thn ((L2.pe_var (pos := pf) (i := kf) hN hv hd hcd).run pins s σ H (fun v H1 => v = .ref fa ∧ H1 = H) I ⟨.ref fa, hs, rfl, rfl⟩) fun u s1 ⟨v, H1, I1, r1, q1⟩ => ?_)
  obtain ⟨ev, eH⟩ := q1
  subst ev
  subst eH
  obtain rfl : u = Value.ref fa := r1
  refine Calls.spliced_nil ⟨I1.kIn, ?_⟩
  have J := back pins σ H1 s1 I1
  obtain ⟨params, body, scope, pm, c', ctv, LP, hp, hfr, hkx⟩ := la
  obtain ⟨hf, hfn, _⟩ := J.pin _ hp
  have rc := tell_code (Q := Q) (N := N0) (ga := ga) TI J LP m1 hf hfn hfr (r.kx _ _ hkx).1 hr r rs ok
  rw [← y1, ← y2, ← y6, ← y7] at rc
  refine wpAny_call (codeAny_mono rc fun r s2 hq => ?_)
  cases r with
  | error e => exact (show False from hq).elim
  | ok fl =>
    cases fl with
    | ret u => exact I1.after hq
    | next => exact False.elim hq
    | brk => exact False.elim hq
    | cont => exact False.elim hq
/-- the reading of the comprehension over the lambdas -/
def tBad (C : Cfg) (φ : Fn) (X : Cx) (k : Nat) (w : Ct) (ret : Tx) (kb : Nat) : TE := fun σ H Q => ∃ g st h D fs as hE, Rep C g h H ∧ RelS C g st σ ∧ σ[kb]? = some (some (.ref D)) ∧ g.kx D = some (.lst (as.map V.ref)) ∧ LamsAt C φ X k g X.pn fs as ∧
  toldAll w ret φ st fs h = some hE ∧ ∀ g' H' L, Ext g g' → Rep C g' hE H' → RelA C g' (.lst []) (.ref L) → Q (.ref L) H'
theorem pe_bad {x bad fx xr : Str} {w : Ct} {ret : Tx} {kb kf jq : Nat} {scope : Scope} {own : List (Str × Nat)} {elt : Expr} {pf pb pt pf2 pc pq pc2 pos : Pos} (A : At C X) (TI : TellI C X.K X.mg x w ret) (hr : Room (k + 2) X.A)
    (hNb : X.N[kb]? = some bad) (hvb : L2.Vis X.env.scope bad) (hdb : (bad == ("__debug__" : Str)) = false) (hcb : (bad == ("__classdict__" : Str)) = false)
    (ok : L2.BlkOk X.N X.env.scope scope own) (hown : own.map (·.2) = [kf]) (hNf : X.N[kf]? = some fx) (hdf : (fx == ("__debug__" : Str)) = false) (hcf : (fx == ("__classdict__" : Str)) = false) (hdx : (x == ("__debug__" : Str)) = false)
    (hlf : L2.Loc (L2.relS scope X.env.scope) fx) (hff : (fun y => scope.names.lookup y == some .cell) fx = true ∨ (L2.relS scope X.env.scope).names.lookup fx = some .local) (hgx : (L2.relS scope X.env.scope).names.lookup x = some .globalImplicit) (hxr : xr = toS ret) :
    PE X (.ListComp elt [⟨.Name fx pf, .Name bad pb, [.Compare (.Call (.Name x pt) [.Name fx pf2] [] pc) [.NotEq] [.Constant (.str xr) jq pq] pc2], 0⟩] scope pos) (tBad C φ X k w ret kb) := by
  refine ⟨fun pins s σ H Q I ⟨g, st, h, D, fs, as, hE, r, rs, hsb, hkD, LA, tA, hQ⟩ => ?_⟩
  have hi : PI X (.Name fx pf) (.Name bad pb) (L2.iList X.K (L2.tVar kb)) := L2.pi_list (L2.pe_var hNb hvb hdb hcb)
  have hHD := (r.kx _ _ hkD).1
  have hiR : L2.iList X.K (L2.tVar kb) σ H (fun J H1 => J = L2.Itl X.K D ∧ H1 = H) := ⟨.ref D, hsb, D, rfl, ⟨_, SqL.of hHD⟩, rfl, rfl⟩
  rw [eval_ListComp]
  have hfree : ∀ y ∈ scope.names, y.2 = .free → ∃ c, X.env.cells.lookup y.1 = some c := fun y hy e => (ok.free y hy e).elim (fun z => I.ok.has _ (.inl z)) fun z => I.ok.has _ (.inr z)
  refine wpAny_comprehension_free (use := none) rfl (fun _ => rfl) (L2.closure_ok hfree) ok.kind (fun y hy e => by rw [ok.uniq y hy, e]) (thn (hi.run pins s σ H _ I hiR) fun xv s1 hx => thn hx fun itv s2 h2 => ?_)
  obtain ⟨it, fp, tn, J, H2, e, I2, Tn, st2, f2, eJ, eH⟩ := h2
  subst e eJ eH
  refine wpAny_newObj_type (L2.newEnv_comp ?_) (by show 0 ≤ sizeLine; decide)
  have hDn : H2 s2.heap.objs.size = none := I2.hok.fresh (Nat.le_refl _)
  have ptsz : ∀ b ∈ fp, b < s2.heap.objs.size := fun b hb => by
    obtain ⟨o, e, _⟩ := Tn.obj _ _ st2 b hb
    exact Heap.lt_size e
  have I3 : Inv X pins σ (upd H2 s2.heap.objs.size (.lst [])) { s2 with heap := s2.heap.push { cls := .type "list", data := .seq ([] : List Value).toArray } } :=
    I2.laid (t' := s2.toks) (fun b o e => Heap.get?_push_of_some _ e) (Nat.le_refl _) ⟨Nat.zero_le _, [], 0, .nil, Heap.get?_push_size _ rfl⟩
  have r3 := r.more hDn (o := .lst []) trivial
  have e3 := r.ext_more hDn (.lst [])
  have rL : RelA C (g.more s2.heap.objs.size (.lst [])) (.lst []) (.ref s2.heap.objs.size) := by
    simp only [RelA]
    exact ⟨_, [], rfl, upd_same, .nil⟩
  generalize hLd : s2.heap.objs.size = Ld at *
  generalize hs3 : ({ s2 with heap := s2.heap.push { cls := .type "list", data := .seq ([] : List Value).toArray } } : Shared) = s3 at *
  generalize hH3 : upd H2 Ld (.lst []) = H3 at *
  have h3h : s3.heap = s2.heap.push { cls := .type "list", data := .seq ([] : List Value).toArray } := by rw [← hs3]
  have fp3 : ∀ b ∈ fp, L2.FpOk X pins H3 b ∧ b < s3.heap.objs.size := fun b hb => by
    have hlt := ptsz b hb
    refine ⟨⟨?_, (f2 b hb).2⟩, by rw [h3h, Heap.size_push]; exact Nat.lt_succ_of_lt (by rw [hLd]; exact hlt)⟩
    rw [← hH3, upd_ne (Nat.ne_of_lt hlt)]
    exact (f2 b hb).1
  have st3 : tn 0 s3.heap := Tn.keep _ _ _ st2 fun b _ o e => by rw [h3h]; exact Heap.get?_push_of_some _ e
  have I4 := L2.block_start I3 ok A.nd fp3
  show codeAny _ _ (.compStart (.ListComp elt [⟨.Name fx pf, .Name bad pb, [.Compare (.Call (.Name x pt) [.Name fx pf2] [] pc) [.NotEq] [.Constant (.str xr) jq pq] pc2], 0⟩] scope pos) 0 (.ref it) (.ref Ld) (compEnvC scope (cellsFrom (s3.heap.objs.size + 1) scope.names (L2.cloFrom X.env.cells scope.names [])) s3.heap.objs.size X.env)) (compPost (model X.prog X.w) X.A X.xe none (EP X pins σ Q) (.ref Ld) s3.heap.objs.size) _
  have esc : (compEnvC scope (cellsFrom (s3.heap.objs.size + 1) scope.names (L2.cloFrom X.env.cells scope.names [])) s3.heap.objs.size X.env).scope = L2.relS scope X.env.scope := rfl
  have eL : (compEnvC scope (cellsFrom (s3.heap.objs.size + 1) scope.names (L2.cloFrom X.env.cells scope.names [])) s3.heap.objs.size X.env).locals = s3.heap.objs.size := rfl
  generalize hce : compEnvC scope (cellsFrom (s3.heap.objs.size + 1) scope.names (L2.cloFrom X.env.cells scope.names [])) s3.heap.objs.size X.env = ce at *
  generalize hs4 : ({ s3 with heap := pushCells (s3.heap.push { cls := .type "dict", data := .dict #[] }) scope.names } : Shared) = s4 at *
  have st4 : tn 0 s4.heap := Tn.keep _ _ _ st3 fun b _ o e => by rw [← hs4]; exact pushCells_keeps _ _ _ _ (Heap.get?_push_of_some _ e)
  -- back in the maker's context
  have back : ∀ pins' σ' H' s', Inv (X.blk s3 H3 scope ce fp) pins' σ' H' s' → Inv X pins σ H' s' := fun pins' σ' H' s' I' =>
    I3.call' (ch := fp) I'.os I'.base I'.hok I'.bare fun b hb => ⟨(fp3 b hb).1.2.2.2.1, (fp3 b hb).1.2.1, (fp3 b hb).1.2.2.2.2.1, (fp3 b hb).1.2.2.2.2.2⟩
  have stat : ∀ {σ' : L2.St} {H' : Hp} {s' : Shared}, Inv (X.blk s3 H3 scope ce fp) [] σ' H' s' → (∀ b ∈ fp, H' b = none) → ∀ b ∈ fp, L2.FpOk (X.blk s3 H3 scope ce fp) [] H' b := fun {σ' H' s'} I' hn b hb =>
    ⟨hn b hb, (I'.ok.exf b hb).1, I'.ok.exfs b hb, .inl hb, fun x c e => (I'.ok.exf b hb).2 x c e, fun p hp => absurd (show p ∈ ([] : List (Addr × Obj)) ++ [] from hp) (by simp)⟩
  have pg : PG (X.blk s3 H3 scope ce fp) (.Name fx pf) (L2.gName kf) := L2.pg_name A.nd hNf (by show L2.Loc ce.scope fx; rw [esc]; exact hlf) (by
    rcases hff with z | z
    · exact .inl z
    · right; show ce.scope.names.lookup fx = _; rw [esc]; exact z)
  have AB : At C (X.blk s3 H3 scope ce fp) := ⟨A.K, A.calm, A.nd, A.hu⟩
  have pe := pe_tellN (C := C) (φ := φ) (X := X) (k := k) (Y := X.blk s3 H3 scope ce fp) (st := st) (σX := σ) (pins0 := pins) (kf := kf) (fx := fx) (pt := pt) (pf := pf2) (pc := pc) TI hr ⟨rfl, rfl, rfl, rfl, rfl, rfl, rfl⟩ (by show ce.scope.names.lookup x = _; rw [esc]; exact hgx) hdx hNf (by
    show L2.Vis ce.scope fx
    rw [esc]
    exact hlf.elim .inl fun z => .inr (.inl z)) hdf hcf back
  obtain ⟨rne, hne1, hne2⟩ := cmp_ok AB .ne
  have ptst := L2.pt_cmpR (X := X.blk s3 H3 scope ce fp) (pos := pc2) hne1 pe (L2.pe_str (x := xr) (j := jq) (pos := pq)) (by rfl)
  have loop : codeAny (model X.prog X.w) X.A (.compLoop (.ListComp elt [⟨.Name fx pf, .Name bad pb, [.Compare (.Call (.Name x pt) [.Name fx pf2] [] pc) [.NotEq] [.Constant (.str xr) jq pq] pc2], 0⟩] scope pos) 0 (.ref it) (.ref Ld) ce) (compPost (model X.prog X.w) X.A X.xe none (EP X pins σ Q) (.ref Ld) s3.heap.objs.size) s4 := by
    have nfp : ∀ b ∈ fp, H3 b = none := fun b hb => (fp3 b hb).1.1
    refine L2.compLoop_any (fun n s' => ∃ i H' g' h', Inv (X.blk s3 H3 scope ce fp) [] (L2.wipe σ (own.map (·.2))) H' s' ∧ tn i s'.heap ∧ (∀ b ∈ fp, H' b = none) ∧ n = fs.length - i ∧ i ≤ fs.length ∧ Ext (g.more Ld (.lst [])) g' ∧ Rep C g' h' H' ∧ toldAll w ret φ st (fs.drop i) h' = some hE) ?_ fs.length
      ⟨0, H3, _, h, I4, st4, nfp, by simp, Nat.zero_le _, Ext.refl _, r3, tA⟩
    rintro n s5 ⟨i, H5, g5, h5, I5, st5, n5, rfl, hi5, e5, r5, t5⟩
    have hD5 : H5 D = some (.lst (as.map V.ref)) := (r5.kx _ _ (e5.kx _ _ (e3.kx _ _ hkD))).1
    by_cases hlt : i < fs.length
    · obtain ⟨a, ha, la⟩ := LA.get (List.getElem?_eq_getElem hlt)
      have hget : (as.map V.ref)[i]? = some (.ref a) := by rw [List.getElem?_map, ha]; rfl
      have go : (L2.Itl X.K D).go i H5 := ⟨_, _, SqL.of hD5, hget⟩
      rw [List.drop_eq_getElem_cons hlt] at t5
      unfold toldAll at t5
      have key : ∃ h6, told w ret (fs[i] φ st h5) = .ok (.str ret) h6 ∧ toldAll w ret φ st (fs.drop (i + 1)) h6 = some hE := by
        split at t5
        · rename_i t h6 et
          split at t5
          · rename_i e; subst e; exact ⟨h6, et, t5⟩
          · cases t5
        · cases t5
      obtain ⟨h6, et, t6⟩ := key
      have ti := Tn.item (X.blk s3 H3 scope ce fp) rfl rfl rfl A.calm i [] s5 _ H5 (fun _ _ => False) I5 (stat I5 n5) st5 go
      refine thnF ti fun rr s6 ⟨u, hr6, h6'⟩ => ?_
      subst hr6
      refine thnF h6' fun _ s7 ⟨xv, H7, I7, r7, y7, st7, n7⟩ => ?_
      obtain ⟨rfl, y7⟩ := y7
      have hx7 := y7 _ (SqL.of hD5)
      rw [hget] at hx7
      cases hx7
      have I7' := I7.pinned (stat I7 n7) (Tn.obj _ _ st7)
      refine thnF (pg.run _ s7 _ H7 (.ref a) u (fun σ8 H8 => σ8 = (L2.wipe σ (own.map (·.2))).set kf (some (.ref a)) ∧ H8 = H7) I7' r7 ⟨rfl, rfl⟩) fun _ s8 ⟨σ8, H8, I8, e8, eH8⟩ => ?_
      subst e8 eH8
      have hkf : kf < (L2.wipe σ (own.map (·.2))).length := by
        rw [L2.wipe_length, I.len]
        exact (List.getElem?_eq_some_iff.mp hNf).1
      have hw : L2.tTest (tOp rne (fun σ1 H Q => ∃ fa f g h, σ1[kf]? = some (some (.ref fa)) ∧ LamAt C φ X k g (X.pn ++ pins) f fa ∧ Rep C g h H ∧ RelS C g st σ ∧ okG C g (told w ret (f φ st h)) (fun x g' _ H' => ∀ v, RelA C g' x v → Q v H') N0) (L2.tC (.str xr))) ((L2.wipe σ (own.map (·.2))).set kf (some (.ref a))) H8 (fun b H9 => b = false ∧ ∃ g9, Ext g5 g9 ∧ Rep C g9 h6 H9) := by
        refine ⟨a, fs[i], g5, h5, List.getElem?_set_self hkf, la.mono (fun p o e => e5.kx _ _ (e3.kx _ _ e)) (fun p hp => List.mem_append_left _ hp), r5, (rs.mono e3).mono e5, ?_⟩
        rw [et]
        intro g' H' e' r' v rv
        refine hne2.run g' h6 H' (.str ret) (.str ret) v (.str xr) _ N0 r' rv (by rw [hxr]; exact .mkS) ?_
        have ec : cmpA .ne (.str ret) (.str ret) h6 = .ok (.bl false) h6 := by
          simp [cmpA, still, eqA, AV.flat, notO, someB]
        rw [ec]
        exact fun g2 H2 e2 r2 z rz => ⟨false, rz.bl, rfl, g2, e'.trans e2, r2⟩
      refine thnF ((L2.pts_one ptst).run _ s8 _ H8 _ I8 hw) fun b s9 ⟨H9, I9, hb, g9, e9, r9⟩ => ?_
      subst hb
      rw [if_neg Bool.false_ne_true]
      refine ⟨fs.length - (i + 1), by omega, i + 1, H9, g9, h6, (I9.unpinned (pins := [])).weak (by rw [List.length_set]) (fun j v ej => ?_), Tn.keep _ _ _ st7 fun b hb o e => (I9.pin (b, o) (List.mem_append_right _ (List.mem_append_right _ (L2.mem_pinsAt hb e)))).1, fun b hb => ?_, rfl, hlt, e5.trans e9, r9, t6⟩
      · obtain ⟨_, hj⟩ := L2.wipe_some ej
        rw [List.getElem?_set_ne (fun z => hj (by rw [hown, z]; simp))]
        exact ej
      · obtain ⟨o, e, _⟩ := Tn.obj _ _ st7 b hb
        exact (I9.pin (b, o) (List.mem_append_right _ (List.mem_append_right _ (L2.mem_pinsAt hb e)))).2.1
    · have hie : i = fs.length := by omega
      rw [List.drop_eq_nil_of_le (by omega)] at t5
      unfold toldAll at t5
      cases t5
      have stop : (L2.Itl X.K D).stop i H5 := ⟨_, SqL.of hD5, by rw [List.length_map, ← LA.len]; omega⟩
      refine thnF (Tn.done (X.blk s3 H3 scope ce fp) rfl rfl rfl A.calm i [] s5 _ H5 (fun _ _ => False) I5 (stat I5 n5) st5 stop) fun rr s6 ⟨hr6, I6⟩ => ?_
      subst hr6
      have I7 := back _ _ _ _ I6
      have nC : H5 s3.heap.objs.size = none := by
        have z : H5 ce.locals = none := I6.free
        rw [eL] at z
        exact z
      obtain ⟨m, hn, _⟩ := I6.loc
      have hn : s6.heap.Ns ce.locals m := hn
      rw [eL] at hn
      obtain ⟨q0, q1, q2, q3, q4, q5⟩ := I3.fpOk (Nat.le_refl _) nC
      exact ⟨m, hn, fun h'' sb => ⟨.ref Ld, H5, I7.turned (t' := s6.toks) (fun b o hb e => (sb.2 b hb).trans e) q0 q1 q3 q4 q5, rfl, hQ g5 H5 Ld (e3.trans e5) r5 (rL.mono e5)⟩⟩
  exact codeAny_compStart_list loop (Tn.self X.A 0 _ _ _ st4 loop)

/-- what is known ahead of the test over the lambdas; behind it: P -/
def tKnown (C : Cfg) (φ : Fn) (X : Cx) (k : Nat) (w : Ct) (ret : Tx) (kb : Nat) (P : L2.St → Hp → Prop) : L2.St → Hp → Prop := fun σ H => ∃ g st h D fs as hE, Rep C g h H ∧ RelS C g st σ ∧ σ[kb]? = some (some (.ref D)) ∧ g.kx D = some (.lst (as.map V.ref)) ∧ LamsAt C φ X k g X.pn fs as ∧
  toldAll w ret φ st fs h = some hE ∧ ∀ g' H', Ext g g' → Rep C g' hE H' → P σ H'
theorem pt_badcmp {lc : Expr} {w : Ct} {ret : Tx} {kb : Nat} {pl pcc : Pos} (A : At C X) (h : PE X lc (tBad C φ X k w ret kb)) : PT X (.Compare lc [.NotEq] [.List [] pl] pcc) (fun σ H Q => tKnown C φ X k w ret kb (fun _ H' => Q false H') σ H) := by
  obtain ⟨rne, hne1, hne2⟩ := cmp_ok A .ne
  refine (L2.pt_cmpR (pos := pcc) hne1 h ((se_lst (pos := pl) false (sa_nil (C := C) (φ := φ) (X := X))).run N0 takesN0) (by rfl)).imp fun σ H Q ⟨g, st, h, D, fs, as, hE, r, rs, h1, h2, h3, h4, hQ⟩ => ?_
  refine ⟨g, st, h, D, fs, as, hE, r, rs, h1, h2, h3, h4, fun g' H' L e' r' rl => ?_⟩
  refine ⟨g', st, hE, r', rs.mono e', ?_⟩
  have e0 : eLst false aNil φ st hE = .ok (.lst []) hE := by
    simp [eLst, aNil, mkLst, mk, SZ]
  rw [e0]
  intro g2 H2 e2 r2 v rv
  refine hne2.run g2 hE H2 (.lst []) (.lst []) (.ref L) v _ N0 r2 (rl.mono e2) rv ?_
  have ec : cmpA .ne (.lst []) (.lst []) hE = .ok (.bl false) hE := by
    simp [cmpA, still, eqA, AV.flat, AV.data, AV.dataL, AV.dep, AV.depL, notO, someB]
  rw [ec]
  exact fun g3 H3 e3 r3 z rz => ⟨false, rz.bl, hQ g3 H3 ((e'.trans e2).trans e3) r3⟩
/-- the test alone -/
theorem pt_bad1 {test : Expr} {w : Ct} {ret : Tx} {kb : Nat} {N : Nat → Hp → Prop} (h : PT X test (fun σ H Q => tKnown C φ X k w ret kb (fun _ H' => Q false H') σ H)) : PT X test (fun σ H Q => tKnown C φ X k w ret kb (fun σ H' => tB C φ (eC (.bl false)) N σ H' Q) σ H) := by
  refine h.imp fun σ H Q ⟨g, st, h, D, fs, as, hE, r, rs, h1, h2, h3, h4, hQ⟩ => ⟨g, st, h, D, fs, as, hE, r, rs, h1, h2, h3, h4, fun g' H' e' r' => ?_⟩
  obtain ⟨g1, s1, hh, r1, rs1, ok⟩ := hQ g' H' e' r'
  obtain ⟨b, e, q⟩ := ok.fin r1
  cases e
  exact q
/-- .. or more -/
theorem pt_bad2 {cmp b : Expr} {rest : List Expr} {fm : EF} {w : Ct} {ret : Tx} {kb : Nat} {N : Nat → Hp → Prop} {pos : Pos} (h : PT X cmp (fun σ H Q => tKnown C φ X k w ret kb (fun _ H' => Q false H') σ H)) (hm : SW C φ X (.BoolOp .Or (b :: rest) pos) fm) (tk : Takes X (wX C N)) :
    PT X (.BoolOp .Or (cmp :: b :: rest) pos) (fun σ H Q => tKnown C φ X k w ret kb (fun σ H' => tB C φ fm N σ H' Q) σ H) := by
  refine (L2.pw_or h (hm.run N tk)).pt.imp fun σ H Q ⟨g, st, h, D, fs, as, hE, r, rs, h1, h2, h3, h4, hQ⟩ => ⟨g, st, h, D, fs, as, hE, r, rs, h1, h2, h3, h4, fun g' H' e' r' => ?_⟩
  show if false = true then _ else _
  rw [if_neg Bool.false_ne_true]
  exact hQ g' H' e' r'
theorem takes_tr {W : WX} {pn : List (Addr × Obj)} (tk : Takes X W) (ok : X.Ok) (hp : ∀ p ∈ X.pn, p ∈ pn) : Takes (X.tr pn X.xe) W := fun u s' ⟨a, B, sI, pins, σ, H, cls, d, e, I, nb, up, sky, na, os, ag, w⟩ =>
  tk u s' ⟨a, B, sI, [], σ, H, cls, d, e, ⟨ok, I.os, I.bare, I.base, I.loc, I.cell, I.free, I.freeC, fun p hq => I.pin p (List.mem_append_left _ (hp p (by rw [List.append_nil] at hq; exact hq))), I.hok, I.len⟩, nb, up, sky, na, os, ag, w⟩
theorem SP.ofTr {pn pins : List (Addr × Obj)} {D : Ends} {f : Flow} {s' : Shared} (ok : X.Ok) (hp : ∀ p ∈ X.pn ++ pins, p ∈ pn) (h : SP (X.tr pn X.xe) [] D f s') : SP X pins D f s' := by
  have back : ∀ {σ : L2.St} {H : Hp}, Inv (X.tr pn X.xe) [] σ H s' → Inv X pins σ H s' := fun {σ H} I => ⟨ok, I.os, I.bare, I.base, I.loc, I.cell, I.free, I.freeC, fun p hq => I.pin p (List.mem_append_left _ (hp p hq)), I.hok, I.len⟩
  cases f with
  | next => obtain ⟨σ', H', I, q⟩ := h; exact ⟨σ', H', back I, q⟩
  | brk => obtain ⟨σ', H', I, q⟩ := h; exact ⟨σ', H', back I, q⟩
  | cont => obtain ⟨σ', H', I, q⟩ := h; exact ⟨σ', H', back I, q⟩
  | ret v => obtain ⟨x, σ', H', I, r, q⟩ := h; exact ⟨x, σ', H', back I, r, q⟩
/-- bad = [lambda: .., ..]; if [.. for f in bad if told(f) != ret] != [] or ..: sa else: sb; rest -/
theorem sss_bad {bad : Str} {w : Ct} {ret : Tx} {kb : Nat} {es : List Expr} {fs : List EF} {test : Expr} {fm : EF} {sa sb rest : List Stmt} {ba bb br : SF} {pb pl ps pi : Pos} (A : At C X) (M : LamM C X) (LL : LamL C φ X k es fs) (hz : es.length ≤ SZ)
    (hN : X.N[kb]? = some bad) (hx : L2.Loc X.env.scope bad) (hf : X.fn bad = true ∨ X.env.scope.names.lookup bad = some .local) (hs : swapsWith (.List es pl) (some (.Name bad pb)) ps.line X.env = pure false)
    (hT : ∀ pn N, Takes (X.tr pn X.xe) (wX C N) → PT (X.tr pn X.xe) test (fun σ H Q => tKnown C φ (X.tr pn X.xe) k w ret kb (fun σ H' => tB C φ fm N σ H' Q) σ H))
    (ha : ∀ pn, SSs C φ (X.tr pn X.xe) sa ba) (hb : ∀ pn, SSs C φ (X.tr pn X.xe) sb bb) (hr : ∀ pn, SSs C φ (X.tr pn X.xe) rest br) (LE : LamL C φ X k es fs → es.length = fs.length) :
    SSs C φ X (.Assign [.Name bad pb] (.List es pl) ps :: .If test sa sb pi :: rest) (sBad kb fs w ret (sSeq (sIf fm ba bb) br)) := by
  refine ⟨fun N tk => ⟨fun pins s σ H D I ⟨g, st, h, r, rs, ok⟩ => ?_⟩⟩
  unfold sBad at ok
  split at ok
  · rename_i hsb
    split at ok
    · rename_i hE tA
      refine wpAny_execs_cons (wpAny_Assign_Name (wpAny_List_spliced (lams_disp M LL I r fun as pins' g' H' s' I' e' r' la sub => ⟨by rw [List.length_map, ← la.len, ← LE LL]; exact hz, ?_⟩)) hs)
      have hDn : H' s'.heap.objs.size = none := I'.hok.fresh (Nat.le_refl _)
      have rv : L2.Vals (as.map V.ref) (as.map Value.ref) := by
        clear la
        induction as with
        | nil => exact .nil
        | cons a as ih => exact .cons rfl ih
      have I2 : Inv X pins' σ (upd H' s'.heap.objs.size (.lst (as.map V.ref))) { s' with heap := s'.heap.push { cls := .type "list", data := .seq (as.map Value.ref).toArray } } :=
        I'.laid (t' := s'.toks) (fun b o e => Heap.get?_push_of_some _ e) (Nat.le_refl _) ⟨by rw [List.length_map, ← la.len, ← LE LL]; exact hz, _, 0, rv, Heap.get?_push_size _ rfl⟩
      have r2 := r'.kept hDn (as.map V.ref)
      have e2 : Ext g' (g'.keep s'.heap.objs.size (some (.lst (as.map V.ref)))) := Rep.ext_keep (r'.freeKx hDn)
      refine L2.store_ok I2 A.nd hN hx (v := .ref s'.heap.objs.size) rfl (fun s3 I3 => ?_) hf
      show wpAny (model X.prog X.w) X.A (execs (.If test sa sb pi :: rest) X.env) (SP X pins D) X.xe s3
      have J := I3.toTry X.xe
      have tk' := takes_tr (pn := X.pn ++ pins') tk I.ok (fun p hp => List.mem_append_left _ hp)
      have rs' : RelS C (g'.keep s'.heap.objs.size (some (.lst (as.map V.ref)))) st (σ.set kb (some (.ref s'.heap.objs.size))) := by
        refine ⟨by rw [List.length_set]; exact rs.1, fun j x hj => ?_⟩
        by_cases hk : kb = j
        · subst hk
          rw [hsb] at hj
          cases hj
        · obtain ⟨v, h1, h2⟩ := rs.2 j x hj
          exact ⟨v, by rw [List.getElem?_set_ne hk]; exact h1, (h2.mono e').mono e2⟩
      have hkl : kb < σ.length := by rw [I.len]; exact (List.getElem?_eq_some_iff.mp hN).1
      have run := (L2.pss_cons (L2.ps_if (pos := pi) (hT (X.pn ++ pins') N tk') ((ha (X.pn ++ pins')).run N tk') ((hb (X.pn ++ pins')).run N tk')) ((hr (X.pn ++ pins')).run N tk')).run [] s3 _ _ D J ?_
      · exact wpAny_mono run (fun f s4 q => SP.ofTr I.ok (fun p hp => (List.mem_append.mp hp).elim (fun z => List.mem_append_left _ z) fun z => List.mem_append_right _ (sub p z)) q) fun _ _ q => q
      · refine ⟨_, st, h, s'.heap.objs.size, fs, as, hE, r2, rs', List.getElem?_set_self hkl, Gh.keep_same _ _ _, ?_, tA, fun g3 H3 e3 r3 => ?_⟩
        · exact LamsAt.tr (la.mono e2.kx (fun p hp => List.mem_append_right _ hp))
        · have ok3 := okG.ext ok ((e'.trans e2).trans e3)
          have ok4 : okG C g3 ((fm φ st hE).bind fun x h1 => tst x ((ba φ st h1).bind (seqK φ br)) ((bb φ st h1).bind (seqK φ br))) (kF C D) N := by
            unfold sSeq sIf at ok3
            cases z : fm φ st hE with
            | exc c h1 => rw [z] at ok3; exact ok3
            | stuck => rw [z] at ok3; exact ok3
            | ok x h1 =>
              rw [z] at ok3
              simp only [bind_ok] at ok3 ⊢
              cases x <;> first | (rw [tst_bl] at ok3 ⊢; split at ok3 <;> simp_all) | exact ok3
          refine goB r3 (rs'.mono e3) ok4 fun g5 h5 d H5 e5 r5 ok5 => ?_
          have fin : ∀ {bx : SF}, okG C g5 ((bx φ st h5).bind (seqK φ br)) (kF C D) N → tSt C φ bx N { D with nx := tSt C φ br N D } (σ.set kb (some (.ref s'.heap.objs.size))) H5 := fun {bx} okx => by
            refine ⟨g5, st, h5, r5, (rs'.mono e3).mono e5, ?_⟩
            cases z : bx φ st h5 with
            | exc c h1 => rw [z] at okx; exact okx
            | stuck => rw [z] at okx; exact okx
            | ok fl h1 =>
              rw [z] at okx
              simp only [bind_ok] at okx
              cases fl with
              | nx s1 => exact fun g7 H7 e7 r7 σ7 rs7 => ⟨g7, s1, h1, r7, rs7, okG.ext okx e7⟩
              | rt v => exact okx
              | bk s1 => exact okx
              | ct s1 => exact okx
          cases d with
          | true => rw [if_pos rfl] at ok5 ⊢; exact fin ok5
          | false => rw [if_neg Bool.false_ne_true] at ok5 ⊢; exact fin ok5
    · exact ok.elim
  · exact ok.elim
end
end TX

/-! TxK: more built-ins: max, min of lists; list(range); split, join -/
set_option Elab.async false
set_option linter.all false
set_option maxRecDepth 100000
set_option maxHeartbeats 1000000
set_option autoImplicit false
namespace TX
open PySem PySem.Spec PyProof.Rows
open PySem.W (dataLt maxD minD AlikeAll alike alikeAll keyToks keyToksAll readsAll_at max_list_data min_list_data)
open L2 (V HO Hp Key upd upd_same upd_ne SqL SqT Rd HOk Cx Inv PE PT PTs PW PS PSs PG PGs PI PA TE TT TA TS TG TGs TI It VK XK WX Takes Ends EP SP TP OpR tOp CallR tCB tCons tNil Sp Room FnOk)
section
variable {C : Cfg} {φ : Fn} {X : Cx} {a b o e : Expr} {fa fb fo : EF} {p p2 pos apos : Pos}
/-! ### max, min -/
theorem prD (q : Int × Int) : toD (prA q) = .tuple [.int q.1, .int q.2] := by simp [prA, toD, toDL]
theorem dataLt_pair (q r : Int × Int) : dataLt (toD (prA q)) (toD (prA r)) = plt q r := by
  rw [prD, prD]
  unfold dataLt plt
  simp only [keyToks, keyToksAll, List.cons_append, List.nil_append]
  rw [PyProof.Rows.lex_self]
  by_cases h : q.1 = r.1
  · rw [h, PyProof.Rows.lex_self, PyProof.Rows.lex_self]
    by_cases h2 : q.2 = r.2
    · rw [h2, PyProof.Rows.lex_self, PyProof.Rows.lex_self]
      simp [PyProof.Rows.lexLt]
    · rw [PyProof.Rows.lex_diff (by simpa using h2)]
      simp [itemLt]
  · rw [PyProof.Rows.lex_diff (by simpa using h)]
    simp [itemLt, h]
theorem maxD_prs : ∀ (ts : List (Int × Int)) (t : Int × Int), maxD (toD (prA t)) ((ts.map prA).map toD) = toD (prA (maxOf plt t ts))
  | [], t => rfl
  | u :: r, t => by
    have ih := maxD_prs r
    unfold maxD at ih ⊢
    rw [List.map_cons, List.map_cons, List.foldl_cons, dataLt_pair]
    unfold maxOf
    cases plt t u <;> exact ih _
theorem minD_prs : ∀ (ts : List (Int × Int)) (t : Int × Int), minD (toD (prA t)) ((ts.map prA).map toD) = toD (prA (minOf plt t ts))
  | [], t => rfl
  | u :: r, t => by
    have ih := minD_prs r
    unfold minD at ih ⊢
    rw [List.map_cons, List.map_cons, List.foldl_cons, dataLt_pair]
    unfold minOf
    cases plt u t <;> exact ih _
theorem alike_prs (ts : List (Int × Int)) : AlikeAll ((ts.map prA).map toD) := by
  refine ⟨fun x hx y hy => ?_, fun x hx => ?_⟩
  · simp only [List.map_map, List.mem_map, Function.comp] at hx hy
    obtain ⟨q, _, rfl⟩ := hx
    obtain ⟨r, _, rfl⟩ := hy
    rw [prD, prD]
    simp [alike, alikeAll]
  · simp only [List.map_map, List.mem_map, Function.comp] at hx
    obtain ⟨q, _, rfl⟩ := hx
    rw [prD]
    simp
theorem depth_prs : ∀ ts : List (Int × Int), PyData.depthAll ((ts.map prA).map toD) ≤ 2
  | [] => by simp [PyData.depthAll]
  | t :: r => by
    have ih := depth_prs r
    rw [List.map_cons, List.map_cons, prD]
    simp only [PyData.depthAll, PyData.depth]
    omega
/-- of pairs: the place of the greatest, the least -/
def rMM (K : PySem.W.Frag) (mx : Bool) : List V → Hp → VK → Prop := fun xs H Q => ∃ (a : Addr) (vs : List V) (t : Int × Int) (ts : List (Int × Int)), xs = [.ref a] ∧ SqL K H a vs ∧ L2.DpAll K H vs (((t :: ts).map prA).map toD) ∧
  ∀ (i : Nat) (v : V), vs[i]? = some v → ((t :: ts).map prA)[i]? = some (prA (if mx then maxOf plt t ts else minOf plt t ts)) → Q v H
theorem pr_inj {q r : Int × Int} (h : toD (prA q) = toD (prA r)) : q = r := by
  rw [prD, prD] at h
  simp at h
  exact Prod.ext h.1 h.2
theorem cr_mm (hc : X.calm = true) (hu : X.A.units + 65 < cLine) (mx : Bool) : CallR X (.builtin (if mx then "max" else "min")) (rMM X.K mx) := by
  intro pins s σ H xs us Q I r h
  obtain ⟨l, vs, t, ts, rfl, hs, hd, q⟩ := h
  obtain ⟨its, rv, hl, hz⟩ := I.list hs
  rw [L2.Vals.ref1 r]
  obtain ⟨as, hr⟩ := L2.Dp.readsAll I _ vs its hd rv
  have hr' : ReadsAll s.heap its.toArray.toList (toD (prA t) :: (ts.map prA).map toD) as := by simpa using hr
  have hdep := depth_prs (t :: ts)
  have al := alike_prs (t :: ts)
  have fin : ∀ (g : Int × Int) (i : Nat) (v : Value) (h' : Heap) (tk : Nat) (bs : List Addr), its.toArray[i]? = some v → Reads h' v (toD (prA g)) bs → (∀ b o, s.heap.get? b = some o → h'.get? b = some o) →
      (∀ w, vs[i]? = some w → ((t :: ts).map prA)[i]? = some (prA g) → Q w H) → EP X pins σ Q v { s with heap := h', toks := tk } := fun g i v h' tk bs hv hrd hk hq => by
    have hv2 : its[i]? = some v := by simpa using hv
    have hi : i < vs.length := by rw [rv.length]; exact (List.getElem?_eq_some_iff.mp hv2).1
    obtain ⟨u, hu1, hu2⟩ := rv.get (List.getElem?_eq_getElem hi)
    rw [hv2] at hu1
    cases hu1
    obtain ⟨bs2, r2, hlt, _, _⟩ := readsAll_at hr' i v (by simpa using hv)
    obtain ⟨e1, _⟩ := PyProof.Rows.reads_det (h := s.heap) (h' := h') (fun b o e _ => hk b o e) r2 hrd
    refine ⟨vs[i], H, I.kept hk, hu2, hq _ (List.getElem?_eq_getElem hi) ?_⟩
    have hlt2 : i < (t :: ts).length := by simpa using hlt
    have e2 : (toD (prA t) :: (ts.map prA).map toD).getD i .none = toD (prA (t :: ts)[i]) := by
      have : (toD (prA t) :: (ts.map prA).map toD) = (((t :: ts).map prA).map toD) := rfl
      rw [this, List.getD_eq_getElem?_getD, List.getElem?_map, List.getElem?_map, List.getElem?_eq_getElem hlt2]
      rfl
    rw [e2] at e1
    have e3 := pr_inj e1
    rw [List.getElem?_map, List.getElem?_eq_getElem hlt2, ← e3]
    rfl
  have hdep' : PyData.depthAll (toD (prA t) :: (ts.map prA).map toD) ≤ 2 := hdep
  cases mx with
  | true =>
    refine max_list_data (I.ok.hd hc) hl.isList hr' al (by omega) fun i v h' tk bs hv hrd hk => ?_
    rw [maxD_prs] at hrd
    exact fin _ i v h' tk bs hv hrd hk fun w h1 h2 => q i w h1 h2
  | false =>
    refine min_list_data (I.ok.hd hc) hl.isList hr' al (by omega) fun i v h' tk bs hv hrd hk => ?_
    rw [minD_prs] at hrd
    exact fin _ i v h' tk bs hv hrd hk fun w h1 h2 => q i w h1 h2

theorem dpAll_of {g : Gh} {H : Hp} (k : ∀ a o, g.fx a = some o → H a = some o) : ∀ {xs : List AV} {vs : List V}, RelL C g xs vs → (∀ x ∈ xs, x.data = true) → L2.DpAll C.K H vs (xs.map toD)
  | [], _, h, _ => by rw [RelL.nil_iff] at h; subst h; exact .nil
  | x :: xs, _, h, d => by
    obtain ⟨v, r, rfl, h1, h2⟩ := RelL.cons_iff.mp h
    exact .cons (toD_dp k (d x List.mem_cons_self) h1) (dpAll_of k h2 fun y hy => d y (List.mem_cons_of_mem _ hy))
theorem mx_run : UnB C (fun xs H Q => L2.rMax C.K xs H Q ∨ rMM C.K true xs H Q) (uA .max) := by
  refine ⟨fun g h H x cx Q N r rx ok => ?_⟩
  unfold uA at ok
  simp only at ok
  split at ok
  · rename_i xs z
    obtain ⟨p, vs, rfl, rl, h1⟩ := lst_at r rx z
    simp only [uL] at ok
    split at ok
    · rename_i v e
      unfold maxA at e
      split at e
      · rename_i i is ei
        cases e
        have ev := ints_rel rl ei
        rw [ev] at h1
        refine .inl ⟨p, i :: is, rfl, SqL.of h1, by simp, fun m hm hge => ?_⟩
        have e2 : m = maxOf ilt i is := Int.le_antisymm (maxOf_ge is i m hm) (hge _ (maxOf_mem ilt is i))
        rw [e2]
        exact okP r ok .mkI
      · cases e
      · rename_i ei
        split at e
        · rename_i t ts et
          cases e
          obtain ⟨ex, _⟩ := prs_rel rl et
          have hd := dpAll_of (H := H) (fun b o q => (r.fx b o q).1) rl (by
            rw [ex]
            intro y hy
            obtain ⟨q, _, rfl⟩ := List.mem_map.mp hy
            simp [prA, AV.data, AV.dataL])
          rw [ex] at hd
          refine .inr ⟨p, vs, t, ts, rfl, SqL.of h1, hd, fun i v hv hi => ?_⟩
          rw [if_pos rfl] at hi
          rw [← ex] at hi
          obtain ⟨u, hu1, hu2⟩ := rl.get hi
          rw [hv] at hu1
          cases hu1
          exact okP r ok hu2
        · cases e
    · exact ok.elim
  · exact ok.elim
theorem mn_run : UnB C (fun xs H Q => L2.rMin C.K xs H Q ∨ rMM C.K false xs H Q) (uA .min) := by
  refine ⟨fun g h H x cx Q N r rx ok => ?_⟩
  unfold uA at ok
  simp only at ok
  split at ok
  · rename_i xs z
    obtain ⟨p, vs, rfl, rl, h1⟩ := lst_at r rx z
    simp only [uL] at ok
    split at ok
    · rename_i v e
      unfold minA at e
      split at e
      · rename_i i is ei
        cases e
        have ev := ints_rel rl ei
        rw [ev] at h1
        refine .inl ⟨p, i :: is, rfl, SqL.of h1, by simp, fun m hm hge => ?_⟩
        have e2 : m = minOf ilt i is := Int.le_antisymm (hge _ (minOf_mem ilt is i)) (minOf_le is i m hm)
        rw [e2]
        exact okP r ok .mkI
      · cases e
      · rename_i ei
        split at e
        · rename_i t ts et
          cases e
          obtain ⟨ex, _⟩ := prs_rel rl et
          have hd := dpAll_of (H := H) (fun b o q => (r.fx b o q).1) rl (by
            rw [ex]
            intro y hy
            obtain ⟨q, _, rfl⟩ := List.mem_map.mp hy
            simp [prA, AV.data, AV.dataL])
          rw [ex] at hd
          refine .inr ⟨p, vs, t, ts, rfl, SqL.of h1, hd, fun i v hv hi => ?_⟩
          rw [if_neg Bool.false_ne_true] at hi
          rw [← ex] at hi
          obtain ⟨u, hu1, hu2⟩ := rl.get hi
          rw [hv] at hu1
          cases hu1
          exact okP r ok hu2
        · cases e
    · exact ok.elim
  · exact ok.elim
theorem se_mxl (A : At C X) (bn : Bn X "max") (ha : SE C φ X a fa) (hn : noStar a = true) : SE C φ X (.Call (.Name "max" p) [a] [] pos) (eU .max fa) :=
  se_callB (k := uA .max) (by rw [← A.K]; exact .or (L2.cr_max A.calm) (cr_mm A.calm A.hu true)) bn (by rfl) mx_run ha hn (by decide) (by decide)
theorem se_mnl (A : At C X) (bn : Bn X "min") (ha : SE C φ X a fa) (hn : noStar a = true) : SE C φ X (.Call (.Name "min" p) [a] [] pos) (eU .min fa) :=
  se_callB (k := uA .min) (by rw [← A.K]; exact .or (L2.cr_min A.calm) (cr_mm A.calm A.hu false)) bn (by rfl) mn_run ha hn (by decide) (by decide)

/-! ### list(range(a, b)) -/
theorem rng_rel {g : Gh} : ∀ (n : Nat) (i : Int), RelL C g (rng i n) ((List.range n).map fun k => V.int (i + (k : Nat)))
  | 0, i => .nil
  | n + 1, i => by
    have ih : RelL C g (rng (i + 1) n) ((List.range n).map fun k => V.int (i + 1 + (k : Nat))) := rng_rel n (i + 1)
    rw [List.range_succ_eq_map, List.map_cons, List.map_map]
    unfold rng
    refine .cons (by simp only [RelA]; simp) ?_
    have e : ((fun k : Nat => V.int (i + (k : Nat))) ∘ Nat.succ) = fun k : Nat => V.int (i + 1 + (k : Nat)) := by
      funext k
      show V.int (i + ((k + 1 : Nat) : Int)) = _
      congr 1
      omega
    rw [e]
    exact ih
theorem se_lrg (A : At C X) (m : Bool) {q : Pos} (bl : Bn X "list") (br : Bn X "range") (ha : SE C φ X a fa) (hb : SE C φ X b fb) (hn : noStar a = true) (hn2 : noStar b = true) :
    SE C φ X (.Call (.Name "list" p) [.Call (.Name "range" p2) [a, b] [] q] [] pos) (eLRg m fa fb) := by
  refine ⟨fun N tk => (L2.pe_listRg A.calm bl.gl bl.mg (L2.prg_2 br.gl br.mg (ha.run N tk) (hb.run N tk) (by rw [star_cons hn]) (by rw [star_cons hn2]) (by rw [star_cons hn2]; rfl)) (by rfl)).imp fun σ H Q ⟨g, s, h, r, rs, ok⟩ => ?_⟩
  refine go r rs ok fun g1 h1 x cx H1 e1 r1 rx ok1 => go r1 (rs.mono e1) ok1 fun g2 h2 y cy H2 e2 r2 ry ok2 => ?_
  split at ok2
  · rename_i i j
    split at ok2
    · rename_i hk
      simp only [Bool.and_eq_true, decide_eq_true_eq] at hk
      obtain ⟨k1, k2⟩ := rngOk_of hk.1.1
      obtain ⟨k3, k4⟩ := rngOk_of hk.1.2
      refine ⟨i, j, (rx.mono e2).int, ry.int, ⟨k1, k2, k3, k4, Nat.le_trans hk.2 (by decide)⟩, fun q hq => ?_⟩
      exact mk_at r2 (rng_rel _ _) ok2 q hq
    · exact ok2.elim
  · exact ok2.elim

/-! ### split, join -/
theorem spl_one (c : Nat) : ∀ (t acc : Tx), TL.spl [c] 0 acc t = splitGo c acc t
  | [], acc => rfl
  | d :: r, acc => by
    unfold TL.spl splitGo
    have e : TL.pre [c] (d :: r) = decide (d = c) := by
      unfold TL.pre
      simp only [List.length_cons, List.length_nil, List.take_succ_cons, List.take_zero]
      rw [Bool.eq_iff_iff, beq_iff_eq, decide_eq_true_iff]
      simp
    rw [e]
    by_cases h : d = c
    · simp only [decide_eq_true h, if_true, if_pos h]
      show acc :: TL.spl [c] 0 [] r = _
      rw [spl_one c r []]
    · simp only [decide_eq_false h, Bool.false_eq_true, if_false, if_neg h]
      exact spl_one c r _
theorem split_tx (t : Tx) (c : Nat) (hc : c < 256) : (Txt.split (toS t) (toS [c])).map (fun s => s.cps.toList) = splitTx t c := by
  have hk : ¬ Builtin.Str.strKind (toS t) < Builtin.Str.strKind (toS [c]) := TL.kind_ok (by simp [toS, hc])
  have := TL.split_spl (toS t) (toS [c]) (by simp [TL.tl, toS]) hk
  have e1 : TL.tl (toS [c]) = [c] := toS_list _
  have e2 : TL.tl (toS t) = t := toS_list _
  rw [e1, e2, spl_one] at this
  exact this
theorem se_split (m : Bool) {x : Str} {c j : Nat} {q : Pos} (ho : SE C φ X o fo) (hx : x = toS [c]) (hc : c < 256) (hs : notSuper o = true) (hl : (apos.endLine == pos.line) = true) : SE C φ X (.Call (.Attribute o "split" apos) [.Constant (.str x) j q] [] pos) (eSplit m fo c) := by
  refine ⟨fun N tk => (L2.pe_m1 PySem.F.slot_str_split PySem.F.type_str_split L2.mt_split (ho.run N tk) L2.pe_str (star_cons rfl) (mBase_by hs) hl).imp fun σ H Q ⟨g, s, hh, r, rs, ok⟩ => ?_⟩
  refine go r rs ok fun g1 h1 x cx H1 e1 r1 rx ok1 => ?_
  split at ok1
  · rename_i t
    split at ok1
    · rename_i hz
      refine ⟨⟨_, rx.str⟩, toS t, x, rx.str, rfl, by rw [hx, toS_len]; rfl, by rw [toS_len]; exact hz, ?_⟩
      have rl : RelL C g1 ((splitTx t c).map .str) ((Txt.split (toS t) x).map V.str) := by
        rw [hx, ← split_tx t c hc, List.map_map]
        have e : (Txt.split (toS t) (toS [c])).map V.str = ((Txt.split (toS t) (toS [c])).map (fun s => s.cps.toList)).map fun t => V.str (toS t) := by
          rw [List.map_map]
          apply List.map_congr_left
          intro s _
          simp only [Function.comp, toS_of]
        rw [e, ← List.map_map]
        exact relL_strs _
      exact (mkLst_at r1 rl ok1).2
    · exact ok1.elim
  · exact ok1.elim
theorem join_tx (sep : Tx) : ∀ ss : List Tx, TL.joinL sep ss = joinTx sep ss
  | [] => rfl
  | [a] => rfl
  | a :: b :: r => by
    unfold TL.joinL joinTx
    rw [join_tx sep (b :: r), List.append_assoc]
theorem se_join {x : Str} {sep : Tx} {j : Nat} {q : Pos} (A : At C X) (ha : SE C φ X a fa) (hx : x = toS sep) (hn : noStar a = true) (hl : (apos.endLine == pos.line) = true) : SE C φ X (.Call (.Attribute (.Constant (.str x) j q) "join" apos) [a] [] pos) (eJoin sep fa) := by
  refine ⟨fun N tk => (L2.pe_m1 PySem.F.slot_str_join PySem.F.type_str_join L2.mt_join L2.pe_str (ha.run N tk) (star1 hn) (mBase_by rfl) hl).imp fun σ H Q ⟨g, s, hh, r, rs, ok⟩ => ?_⟩
  refine ⟨⟨x, rfl⟩, ?_⟩
  refine go r rs ok fun g1 h1 y cy H1 e1 r1 ry ok1 => ?_
  split at ok1
  · rename_i xs hs
    obtain ⟨p, vs, rfl, rl, h2⟩ := seq_at r1 ry hs
    split at ok1
    · rename_i ss es
      split at ok1
      · rename_i hz
        have ev := strs_rel rl es
        have ev2 : vs = (ss.map toS).map V.str := by rw [ev, List.map_map]; rfl
        refine ⟨x, p, ss.map toS, rfl, rfl, ?_, ?_, ?_⟩
        · rw [← ev2, A.K]
          exact seq_SqLT h2
        · rw [List.map_map, List.length_map, hx, toS_len]
          have : ((fun s : Str => s.length) ∘ toS) = List.length := by funext t; exact toS_len t
          rw [this]
          exact hz
        · have ej : Txt.join x (ss.map toS) = toS (joinTx sep ss) := by
            rw [hx, ← join_tx]
            exact SX.join_S sep ss
          rw [ej]
          exact okP r1 ok1 .mkS
      · exact ok1.elim
    · exact ok1.elim
  · exact ok1.elim
end
end TX

/-! TxP: generator expressions -/
set_option Elab.async false
set_option linter.all false
set_option maxRecDepth 100000
set_option maxHeartbeats 2000000
set_option autoImplicit false
namespace TX
open PySem PySem.Spec PyProof.Rows
open L2 (V HO Hp Key upd upd_same upd_ne SqL SqT Rd HOk Cx Inv PE PT PTs PW PS PSs PG PGs PI PA TE TT TA TS TG TGs TI It VK XK WX Takes Ends EP SP TP OpR tOp CallR tCB tCons tNil Sp Room FnOk thn thnF)
/-- the run of a generator expression: what it hands out, the heap at each; fin: the heap at its end, if it comes there -/
inductive LcTr (φ : Fn) (g : TF) (c e : EF) (s0 : St) (gd : Gd) : List AV → AH → List (AV × AH) → Option AH → Prop
  | done {h : AH} (hk : gOk gd h = true) : LcTr φ g c e s0 gd [] h [] (some h)
  | skip {x : AV} {r : List AV} {h h1 : AH} {s1 : St} {tr : List (AV × AH)} {fin : Option AH} (hk : gOk gd h = true) (hg : g x s0 = some s1) (hc : c φ s1 h = .ok (.bl false) h1) (t : LcTr φ g c e s0 gd r h1 tr fin) : LcTr φ g c e s0 gd (x :: r) h tr fin
  | give {x y : AV} {r : List AV} {h h1 h2 : AH} {s1 : St} {tr : List (AV × AH)} {fin : Option AH} (hk : gOk gd h = true) (hg : g x s0 = some s1) (hc : c φ s1 h = .ok (.bl true) h1) (he : e φ s1 h1 = .ok y h2) (t : LcTr φ g c e s0 gd r h2 tr fin) :
      LcTr φ g c e s0 gd (x :: r) h ((y, h2) :: tr) fin
  | stop {x y : AV} {r : List AV} {h h1 h2 : AH} {s1 : St} (hk : gOk gd h = true) (hg : g x s0 = some s1) (hc : c φ s1 h = .ok (.bl true) h1) (he : e φ s1 h1 = .ok y h2) : LcTr φ g c e s0 gd (x :: r) h [(y, h2)] none
theorem over_gen {A : Around} {elt : Expr} {gs : List Comprehension} {scope : Scope} {pos : Pos} {it acc : Value} {env : Env} : A.over (.compLoop (.GeneratorExp elt gs scope pos) 0 it acc env) [] = A.deeper env := by
  first
    | rfl
    | (obtain ⟨hd, d, fr, gs, u⟩ := A; simp [Around.over, Around.deeper, marksOver, frameCount, unitsOf, envsOf, guardsOf, pushEnvs, pushGuards, Code.envs, Code.env?, Code.isFrame, Code.guards, Code.isGuard, Code.weight, Code.frames, Code.isCreation, Code.isCaller, Code.cUnits])
theorem over_gen0 {A : Around} {elt : Expr} {gs : List Comprehension} {scope : Scope} {pos : Pos} {it acc : Value} {env : Env} : A.over (.compStart (.GeneratorExp elt gs scope pos) 0 it acc env) [] = A.deeper env := by
  first
    | rfl
    | (obtain ⟨hd, d, fr, gs, u⟩ := A; simp [Around.over, Around.deeper, marksOver, frameCount, unitsOf, envsOf, guardsOf, pushEnvs, pushGuards, Code.envs, Code.env?, Code.isFrame, Code.guards, Code.isGuard, Code.weight, Code.frames, Code.isCreation, Code.isCaller, Code.cUnits])
section
variable {C : Cfg} {φ : Fn} {Y : Cx} {B : Around}
/-- the loop of a generator expression, in its own frame's context Y -/
theorem seg_items {R : GenEnd} {Pr : Protocol} {elt tg iter : Expr} {ifs : List Expr} {scope : Scope} {pos : Pos} {it : Addr} {fp : List Addr} {tn : Nat → Heap → Prop} {J : It} {gt : TF} {fc f : EF} {gd : Gd} {g0 : Gh} {s0 : St} {σ0 : L2.St} {own sl : List Nat} {allI : List AV} {FIN : Option AH} {TR : List (AV × AH)}
    {CONS : List V → List (Addr × Obj) → Prop} {NT : Nat}
    (hc : Y.calm = true) (hA : Y.A = B.deeper Y.env) (hco : Y.env.scope.isCoroutine = false) (hpn : Y.pn = []) (hex : Y.ex = fp) (hxe : Y.xe = fun _ _ => False) (rs0 : RelS C g0 s0 σ0)
    (Tn : L2.Turn Y.prog Y.w Y.K tg J fp it tn) (src : Src C allI gd g0 J) (pg : PG Y tg (tGt C sl gt)) (pt : PTs Y ifs (tB C φ fc N0)) (pe : PE Y elt (tE C φ f N0))
    (hσ0 : L2.wipe σ0 own = σ0) (hsl : ∀ j ∈ sl, j ∈ own) (hCf : ∀ cvs PN, CONS cvs PN → ∀ p ∈ PN, p.1 ∉ fp)
    (hR : ∀ n s₀ s' H' g' h' PN cvs, FIN = some h' → Inv Y PN σ0 H' s' → Ext g0 g' → Rep C g' h' H' → RelL C g' (TR.map (·.1)) cvs → CONS cvs PN → n + cvs.length = NT → R n s₀ (.ok .next) s')
    (hY : ∀ n s₀ s' H' g' h' PN cvs pre rest y cv v (kap : Resume → Shared → Prop), TR = pre ++ (y, h') :: rest → Inv Y PN σ0 H' s' → Ext g0 g' → Rep C g' h' H' → RelL C g' (pre.map (·.1)) cvs → CONS cvs PN → (n + 1) + cvs.length = NT → L2.RelV cv v → RelA C g' y cv →
      ((rest ≠ [] ∨ FIN.isSome = true) → ∀ s'' PN', Inv Y PN' σ0 H' s'' → CONS (cvs ++ [cv]) PN' → (∀ b ∈ fp, ∀ o, s'.heap.get? b = some o → s''.heap.get? b = some o) → kap (.send .none) s'') → Pr n s₀ v s' kap) :
    ∀ (items : List AV) (h : AH) (tr : List (AV × AH)) (fin : Option AH) (_ : LcTr φ gt fc f s0 gd items h tr fin) (i : Nat) (pre : List (AV × AH)) (n : Nat) (s₀ s : Shared) (g : Gh) (H : Hp) (cvs : List V) (PN : List (Addr × Obj)), allI.drop i = items → fin = FIN → TR = pre ++ tr → tr.length ≤ n → n + cvs.length = NT →
      Inv Y PN σ0 H s → tn i s.heap → (∀ b ∈ fp, H b = none) → Ext g0 g → Rep C g h H → RelL C g (pre.map (·.1)) cvs → CONS cvs PN →
      Seg (model Y.prog Y.w) B R Pr n s₀ (.compLoop (.GeneratorExp elt [⟨tg, iter, ifs, 0⟩] scope pos) 0 (.ref it) .none Y.env) ((model Y.prog Y.w).den (.compLoop (.GeneratorExp elt [⟨tg, iter, ifs, 0⟩] scope pos) 0 (.ref it) .none Y.env)) [] s := by
  have hov : B.over (.compLoop (.GeneratorExp elt [⟨tg, iter, ifs, 0⟩] scope pos) 0 (.ref it) .none Y.env) [] = Y.A := over_gen.trans hA.symm
  have stat : ∀ {σ' : L2.St} {H' : Hp} {s' : Shared} {PN : List (Addr × Obj)} {cvs : List V}, Inv Y PN σ' H' s' → CONS cvs PN → (∀ b ∈ fp, H' b = none) → ∀ b ∈ fp, L2.FpOk Y PN H' b := fun {σ' H' s' PN cvs} I hC hn b hb =>
    ⟨hn b hb, (I.ok.exf b (by rw [hex]; exact hb)).1, I.ok.exfs b (by rw [hex]; exact hb), .inl (by rw [hex]; exact hb), fun x c e => (I.ok.exf b (by rw [hex]; exact hb)).2 x c e, fun p hp z => hCf _ _ hC p (by rw [hpn] at hp; exact hp) (by rw [z]; exact hb)⟩
  have thnY : ∀ {α : Type} {t : Sem α} {Q Q' : α → Shared → Prop} {E : Value → Shared → Prop} {s : Shared}, wpAny (model Y.prog Y.w) Y.A t Q Y.xe s → (∀ a s, Q a s → Q' a s) → wpAny (model Y.prog Y.w) Y.A t Q' E s := fun {α t Q Q' E s} h k => by
    rw [hxe] at h
    exact thnF h k
  -- an item, and what comes of it
  have turn : ∀ {x : AV} {r : List AV} {h h1 : AH} {s1 : St} {b : Bool} {n : Nat} {s₀ s : Shared} {i : Nat} {pre : List (AV × AH)} {g : Gh} {H : Hp} {cvs : List V} {PN : List (Addr × Obj)}, gOk gd h = true → gt x s0 = some s1 → fc φ s1 h = .ok (.bl b) h1 → allI.drop i = x :: r →
      Inv Y PN σ0 H s → tn i s.heap → (∀ b ∈ fp, H b = none) → Ext g0 g → Rep C g h H → RelL C g (pre.map (·.1)) cvs → CONS cvs PN →
      (b = false → ∀ σ8 s9 H9 g9 fpp, Inv Y (PN ++ fpp) σ8 H9 s9 → L2.wipe σ8 own = σ0 → Ext g0 g9 → Rep C g9 h1 H9 → RelL C g9 (pre.map (·.1)) cvs → (∀ b ∈ fp, ∃ o, (b, o) ∈ fpp) → (∀ h'' : Heap, (∀ p ∈ fpp, h''.get? p.1 = some p.2) → tn (i + 1) h'') →
        Seg (model Y.prog Y.w) B R Pr n s₀ (.compLoop (.GeneratorExp elt [⟨tg, iter, ifs, 0⟩] scope pos) 0 (.ref it) .none Y.env) ((model Y.prog Y.w).den (.compLoop (.GeneratorExp elt [⟨tg, iter, ifs, 0⟩] scope pos) 0 (.ref it) .none Y.env)) [] s9) →
      (b = true → ∃ n' y h2, n = n' + 1 ∧ f φ s1 h1 = .ok y h2 ∧ ∀ σ8 s9 H9 g9 fpp cv v, Inv Y (PN ++ fpp) σ8 H9 s9 → L2.wipe σ8 own = σ0 → Ext g0 g9 → Rep C g9 h2 H9 → RelL C g9 (pre.map (·.1)) cvs → L2.RelV cv v → RelA C g9 y cv → (∀ b ∈ fp, ∃ o, (b, o) ∈ fpp) → (∀ h'' : Heap, (∀ p ∈ fpp, h''.get? p.1 = some p.2) → tn (i + 1) h'') →
        ∀ kap : Resume → Shared → Prop, (∀ s'', Seg (model Y.prog Y.w) B R Pr n' s'' (.compLoop (.GeneratorExp elt [⟨tg, iter, ifs, 0⟩] scope pos) 0 (.ref it) .none Y.env) ((model Y.prog Y.w).den (.compLoop (.GeneratorExp elt [⟨tg, iter, ifs, 0⟩] scope pos) 0 (.ref it) .none Y.env)) [] s'' → kap (.send .none) s'') → Pr n' s₀ v s9 kap) →
      Seg (model Y.prog Y.w) B R Pr n s₀ (.compLoop (.GeneratorExp elt [⟨tg, iter, ifs, 0⟩] scope pos) 0 (.ref it) .none Y.env) ((model Y.prog Y.w).den (.compLoop (.GeneratorExp elt [⟨tg, iter, ifs, 0⟩] scope pos) 0 (.ref it) .none Y.env)) [] s := by
    intro x r h h1 s1 b n s₀ s i pre g H cvs PN hk hgt hfc hdr I st fr e0 rp rl hC contF contT
    have hxi : allI[i]? = some x := by
      have := congrArg (fun l : List AV => l[0]?) hdr
      simpa using this
    obtain ⟨q1, _⟩ := src g h H e0 rp hk i
    obtain ⟨jgo, jy⟩ := q1 x hxi
    show Seg _ B _ _ _ s₀ _ ((compTurn (.GeneratorExp elt [⟨tg, iter, ifs, 0⟩] scope pos) 0 (.ref it) .none Y.env).onRaise (leaving Y.env)) [] s
    rw [compTurn_gen, Sem.onRaise_eq_wrap]
    refine seg_bind_wrap (wpAny_standAt ?_)
    refine seg_bind_wrap ?_
    rw [hov]
    refine thnF (Tn.item Y rfl rfl rfl hc i PN s σ0 H (fun _ _ => False) I (stat I hC fr) st jgo) fun rr s6 ⟨u, hr6, h6⟩ => ?_
    subst hr6
    refine seg_bind_wrap ?_
    rw [hov]
    refine thnF h6 fun _ s7 ⟨xv, H7, I7, r7, y7, st7, n7⟩ => ?_
    obtain ⟨g7, e7, rp7, rx7⟩ := jy xv H7 y7
    have I7' := I7.pinned (stat I7 hC n7) (Tn.obj _ _ st7)
    refine seg_bind_wrap ?_
    rw [hov]
    refine thnY (pg.run _ s7 σ0 H7 xv u (fun σ8 H8 => RelS C g7 s1 σ8 ∧ L2.wipe σ8 own = σ0 ∧ H8 = H7) I7' r7 ⟨g7, h, s0, s1, x, rp7, rs0.mono (e0.trans e7), rx7, hgt, fun σ' rs' on => ⟨rs', by
      have on' : Only sl (L2.wipe σ0 own) σ' := by rw [hσ0]; exact on
      rw [wipe_only on' hsl, hσ0], rfl⟩⟩) fun _ s8 ⟨σ8, H8, I8, rs8, w8, eH8⟩ => ?_
    subst eH8
    refine seg_bind_wrap ?_
    rw [hov]
    refine thnY (pt.run _ s8 σ8 H8 (fun b' H9 => b' = b ∧ ∃ g9, Ext g7 g9 ∧ Rep C g9 h1 H9) I8 ⟨g7, s1, h, rp7, rs8, by
      rw [hfc]
      exact fun g' H' e' r' => ⟨b, rfl, rfl, g', e', r'⟩⟩) fun b' s9 ⟨H9, I9, hb, g9, e9, rp9⟩ => ?_
    subst hb
    have hfp : ∀ b ∈ fp, ∃ o, (b, o) ∈ L2.pinsAt fp s7.heap := fun b hb => by
      obtain ⟨o, e, _⟩ := Tn.obj _ _ st7 b hb
      exact ⟨o, L2.mem_pinsAt hb e⟩
    have htn : ∀ h'' : Heap, (∀ p ∈ L2.pinsAt fp s7.heap, h''.get? p.1 = some p.2) → tn (i + 1) h'' := fun h'' hp => Tn.keep _ _ _ st7 fun b hb o e => hp (b, o) (L2.mem_pinsAt hb e)
    cases b' with
    | false =>
      simp only [Bool.false_eq_true, if_false]
      exact seg_again rfl (contF rfl σ8 s9 H9 g9 _ I9 w8 ((e0.trans e7).trans e9) rp9 ((rl.mono e7).mono e9) hfp htn)
    | true =>
      obtain ⟨n', y, h2, rfl, hfy, contT⟩ := contT rfl
      simp only [if_true]
      have hy : ∀ v, yieldOut Y.env v = yieldValue v := fun v => by simp only [yieldOut, hco, Bool.false_eq_true, if_false]
      simp only [hy]
      rw [Sem.bind_eq_wrap', Sem.bind_eq_wrap', Sem.wrap_wrap, Sem.wrap_wrap]
      refine seg_wrap ?_
      rw [hov]
      refine thnY (pe.run _ s9 σ8 H9 (fun cv H10 => ∃ g10, Ext g9 g10 ∧ Rep C g10 h2 H10 ∧ RelA C g10 y cv) I9 ⟨g9, s1, h1, rp9, rs8.mono e9, by
        rw [hfy]
        exact fun g' H' e' r' v rv => ⟨g', e', r', rv⟩⟩) fun v s10 ⟨cv, H10, I10, rv, g10, e10, rp10, ra⟩ => ?_
      refine seg_at (seg_yield rfl rfl rfl (contT σ8 s10 H10 g10 _ cv v I10 w8 (((e0.trans e7).trans e9).trans e10) rp10 (((rl.mono e7).mono e9).mono e10) rv ra hfp htn _ fun s'' hs => ?_))
      exact seg_again rfl hs
  intro items h tr fin t
  induction t with
  | @done h hk =>
    intro i pre n s₀ s g H cvs PN hd hf hT hn hNT I st fr e0 rp rl hC
    have hle : allI.length ≤ i := by
      have := congrArg List.length hd
      simp at this
      omega
    show Seg _ B _ _ _ s₀ _ ((compTurn (.GeneratorExp elt [⟨tg, iter, ifs, 0⟩] scope pos) 0 (.ref it) .none Y.env).onRaise (leaving Y.env)) [] s
    rw [compTurn_gen, Sem.onRaise_eq_wrap]
    refine seg_bind_wrap (wpAny_standAt ?_)
    refine seg_bind_wrap ?_
    rw [hov]
    refine thnF (Tn.done Y rfl rfl rfl hc i PN s σ0 H (fun _ _ => False) I (stat I hC fr) st ((src g _ H e0 rp hk i).2 hle)) fun rr s6 ⟨hr6, I6⟩ => ?_
    subst hr6
    rw [List.append_nil] at hT
    exact seg_end (.ok .next) (hR n s₀ s6 H g _ PN cvs hf.symm I6 e0 rp (by rw [hT]; exact rl) hC hNT)
  | @skip x r h h1 s1 tr fin hk hg hc1 t ih =>
    intro i pre n s₀ s g H cvs PN hd hf hT hn hNT I st fr e0 rp rl hC
    have hd2 : allI.drop (i + 1) = r := by
      have := congrArg List.tail hd
      simpa using this
    refine turn hk hg hc1 hd I st fr e0 rp rl hC (fun _ σ8 s9 H9 g9 fpp I9 w8 e9 rp9 rl9 hfp htn => ?_) fun z => nomatch z
    refine ih (i + 1) pre n s₀ s9 g9 H9 cvs PN hd2 hf hT hn hNT ((I9.unpinned).weak (by rw [← w8, L2.wipe_length]) fun j v e => by rw [← w8] at e; exact (L2.wipe_some e).1) (htn _ fun p hp => (I9.pin p (List.mem_append_right _ (List.mem_append_right _ hp))).1) (fun b hb => ?_) e9 rp9 rl9 hC
    obtain ⟨o, ho⟩ := hfp b hb
    exact (I9.pin (b, o) (List.mem_append_right _ (List.mem_append_right _ ho))).2.1
  | @give x y r h h1 h2 s1 tr fin hk hg hc1 he t ih =>
    intro i pre n s₀ s g H cvs PN hd hf hT hn hNT I st fr e0 rp rl hC
    have hd2 : allI.drop (i + 1) = r := by
      have := congrArg List.tail hd
      simpa using this
    refine turn hk hg hc1 hd I st fr e0 rp rl hC (fun z => nomatch z) fun _ => ?_
    obtain ⟨n', rfl⟩ : ∃ n', n = n' + 1 := ⟨n - 1, by simp at hn; omega⟩
    refine ⟨n', y, h2, rfl, he, fun σ8 s9 H9 g9 fpp cv v I9 w8 e9 rp9 rl9 rv ra hfp htn kap hkap => ?_⟩
    have I10 : Inv Y PN σ0 H9 s9 := (I9.unpinned).weak (by rw [← w8, L2.wipe_length]) fun j v e => by rw [← w8] at e; exact (L2.wipe_some e).1
    refine hY n' s₀ s9 H9 g9 h2 PN cvs pre tr y cv v kap hT I10 e9 rp9 rl9 hC (by omega) rv ra fun _ s'' PN' I'' hC'' hk'' => hkap s'' ?_
    have kfp : ∀ p ∈ fpp, p.1 ∈ fp → s''.heap.get? p.1 = some p.2 := fun p hp hm => hk'' p.1 hm p.2 (I9.pin p (List.mem_append_right _ (List.mem_append_right _ hp))).1
    refine ih (i + 1) (pre ++ [(y, h2)]) n' s'' s'' g9 H9 (cvs ++ [cv]) PN' hd2 hf (by rw [hT]; simp) (by simp at hn; exact hn) (by rw [List.length_append]; simp; omega) I'' ?_ (fun b hb => ?_) e9 rp9 (by rw [List.map_append]; exact rl9.append (.cons ra .nil)) hC''
    · have h0 : tn (i + 1) s9.heap := htn _ fun p hp => (I9.pin p (List.mem_append_right _ (List.mem_append_right _ hp))).1
      exact Tn.keep _ _ _ h0 fun b hb o e => hk'' b hb o e
    · obtain ⟨o, ho⟩ := hfp b hb
      exact (I9.pin (b, o) (List.mem_append_right _ (List.mem_append_right _ ho))).2.1
  | @stop x y r h h1 h2 s1 hk hg hc1 he =>
    intro i pre n s₀ s g H cvs PN hd hf hT hn hNT I st fr e0 rp rl hC
    refine turn hk hg hc1 hd I st fr e0 rp rl hC (fun z => nomatch z) fun _ => ?_
    obtain ⟨n', rfl⟩ : ∃ n', n = n' + 1 := ⟨n - 1, by simp at hn; omega⟩
    refine ⟨n', y, h2, rfl, he, fun σ8 s9 H9 g9 fpp cv v I9 w8 e9 rp9 rl9 rv ra hfp htn kap hkap => ?_⟩
    have I10 : Inv Y PN σ0 H9 s9 := (I9.unpinned).weak (by rw [← w8, L2.wipe_length]) fun j v e => by rw [← w8] at e; exact (L2.wipe_some e).1
    exact hY n' s₀ s9 H9 g9 h2 PN cvs pre [] y cv v kap hT I10 e9 rp9 rl9 hC (by omega) rv ra fun z => by
      rcases z with z | z
      · exact absurd rfl z
      · rw [← hf] at z; cases z
end

/-! ### the frame of a generator expression -/
def genCx (X : Cx) (s : Shared) (H : Hp) (scope : Scope) (code : Value) (fp : List Addr) : Cx :=
  { X with
    A := X.A.in4.in1.deeper (genEnv scope (L2.cloFrom X.env.cells scope.names []) s.heap.objs.size code builtinsNs X.env), s_0 := s, H_0 := H, env := genEnv scope (L2.cloFrom X.env.cells scope.names []) s.heap.objs.size code builtinsNs X.env
    outer := X.stack, stack := genEnv scope (L2.cloFrom X.env.cells scope.names []) s.heap.objs.size code builtinsNs X.env :: X.stack, ex := fp, fn := fun _ => false, calm := true, pn := [], xe := fun _ _ => False }
theorem inv_gen {X : Cx} {pins : List (Addr × Obj)} {σ : L2.St} {H : Hp} {s s5 : Shared} {scope : Scope} {own : List (Str × Nat)} {code : Value} {fp : List Addr} {m : Str → Option Value} (I : Inv X pins σ H s) (hc : X.calm = true) (hN : X.N.Nodup) (ok : L2.BlkOk X.N X.env.scope scope own) (hcell : ∀ y ∈ scope.names, y.2 ≠ .cell)
    (hfp : ∀ b ∈ fp, L2.FpOk X pins H b ∧ b < s.heap.objs.size) (k : ∀ b o, s.heap.get? b = some o → s5.heap.get? b = some o) (hns : s5.heap.Ns s.heap.objs.size m) (os : s5.os = s.os) (bare : AllBare s5.gens)
    (PN : List (Addr × Obj)) (hPN : ∀ p ∈ PN, s5.heap.get? p.1 = some p.2 ∧ H p.1 = none ∧ p.1 ≠ s.heap.objs.size ∧ p.1 ∉ L2.frs X.stack ∧ ∀ v, p.2.data ≠ .cell v) :
    Inv (genCx X s H scope code fp) PN (L2.wipe σ (own.map (·.2))) H s5 := by
  have hfree : ∀ y ∈ scope.names, y.2 = .free → ∃ c, X.env.cells.lookup y.1 = some c := fun y hy e => (ok.free y hy e).elim (fun z => I.ok.has _ (.inl z)) fun z => I.ok.has _ (.inr z)
  have cm : ∀ {y c}, (L2.cloFrom X.env.cells scope.names []).lookup y = some c → X.env.cells.lookup y = some c := fun {y c} e => by
    rcases L2.cloFrom_mem (PySem.mem_of_lookup e) with hm | ⟨h1, h2⟩
    · cases hm
    · obtain ⟨c1, hc⟩ := hfree _ h1 rfl
      have hc : X.env.cells.lookup y = some c1 := hc
      have e2 : c = c1 := by rw [h2, hc]; rfl
      rw [e2]
      exact hc
  have look : ∀ {y}, scope.names.lookup y = some .free → ∃ c, (L2.cloFrom X.env.cells scope.names []).lookup y = some c := fun {y} hl => by
    have hy : (y, NameKind.free) ∈ scope.names := PySem.mem_of_lookup hl
    exact L2.mem_lookup (L2.cloFrom_has (cells := X.env.cells) (acc := []) hy)
  have okY : (genCx X s H scope code fp).Ok := by
    refine ⟨I.ok.mod, ok.kind, I.ok.glob, rfl, Nat.le_refl _, fun y z c e1 e2 => I.ok.inj y z c (cm e1) (cm e2), fun y hy => ?_, fun y c z _ => Bool.noConfusion z, fun _ => I.ok.hd hc, Around.frames_deeper I.ok.frames, .inr ⟨rfl, rfl⟩, fun b hb => ⟨Nat.ne_of_lt (hfp b hb).2, fun y c e => (hfp b hb).1.2.2.2.2.1 y c (cm e)⟩, I.bs,
      Nat.le_trans I.ok.bsz I.sz, fun b o e hb => ?_, fun b hb z => ?_, I.stack, I.stkFree⟩
    · have hy : scope.names.lookup y = some .cell ∨ scope.names.lookup y = some .free := hy
      rcases hy with hy | hy
      · exact absurd rfl (hcell _ (PySem.mem_of_lookup hy))
      · exact look hy
    · rcases (hfp b hb).1.2.2.2.1 with z | z
      · exact I.ok.noex b o e z
      · exact absurd (Nat.lt_of_lt_of_le (Heap.lt_size e) (Nat.le_trans I.ok.bsz z)) (Nat.lt_irrefl _)
    · rcases List.mem_cons.mp (I.stkSub b z) with z | z
      · exact (hfp b hb).1.2.1 z
      · exact (hfp b hb).1.2.2.1 z
  refine ⟨okY, os, bare, L2.Un.kept k, ⟨m, hns, fun i y v e1 e2 e3 => ?_⟩, fun y c e => ?_, I.hok.fresh (Nat.le_refl _), fun y c e => I.freeC y c (cm e), fun p hp => ?_, I.hok.kept k, by rw [L2.wipe_length]; exact I.len⟩
  · obtain ⟨e2, hne⟩ := L2.wipe_some e2
    have e3 : L2.Vis scope y := e3
    have hfr : scope.names.lookup y = some .free := by
      have no : ∀ kd, scope.names.lookup y = some kd → (kd = .local ∨ kd = .cell) → False := fun kd e hh => by
        rcases ok.own _ (PySem.mem_of_lookup e) hh with e' | e'
        · obtain ⟨p, hp, hpy⟩ := List.mem_map.mp e'
          have e4 := ok.ix p hp
          have hpy : p.1 = y := hpy
          rw [hpy] at e4
          exact hne (List.mem_map.mpr ⟨p, hp, L2.nodup_ix hN e4 e1⟩)
        · exact e' (List.mem_of_getElem? e1)
      rcases e3 with z | z | z
      · exact (no _ z (.inl rfl)).elim
      · exact (no _ z (.inr rfl)).elim
      · exact z
    obtain ⟨m2, hn2, hl⟩ := I.loc
    have hvis : L2.Vis X.env.scope y := (ok.free _ (PySem.mem_of_lookup hfr) rfl).elim (fun k => .inr (.inl k)) (fun k => .inr (.inr k))
    obtain ⟨u, ru, q⟩ := hl i y v e1 e2 hvis
    obtain ⟨c, h2⟩ := look hfr
    refine ⟨u, ru, .inr ⟨.inr hfr, c, h2, ?_⟩⟩
    have h1 := cm h2
    rcases q with ⟨kk, _⟩ | ⟨_, c', e', z⟩
    · have kk : X.env.scope.names.lookup y = some .local := kk
      rcases ok.free _ (PySem.mem_of_lookup hfr) rfl with k' | k' <;> rw [show X.env.scope.names.lookup y = _ from k'] at kk <;> cases kk
    · rw [h1] at e'
      cases e'
      exact z.keeps k
  · obtain ⟨w, z⟩ := I.cell y c (cm e)
    exact ⟨w, z.keeps k⟩
  · have hp : p ∈ ([] : List (Addr × Obj)) ++ PN := hp
    rw [List.nil_append] at hp
    exact hPN p hp

/-- what the maker of a generator expression must have -/
structure GenM (C : Cfg) (X : Cx) : Prop where
  ex : ∃ c P, LamX.TabB X.base X.mg c P ∧ X.env.code = .ref c ∧ P ∈ C.tg ∧ ∀ p ∈ C.tl, p.1 ≠ P
theorem Rep.tbl {C : Cfg} {g : Gh} {h : AH} {H : Hp} {P : Addr} {ps ps' : Array Value} (r : Rep C g h H) (hP : H P = some (.tbl ps)) (ht : TriplesOk ps'.toList) (hl : ∀ p ∈ C.tl, p.1 ≠ P) : Rep C g h (upd H P (.tbl ps')) := by
  have ne : ∀ {a : Addr} {o : HO}, H a = some o → (∀ q, o ≠ .tbl q) → upd H P (.tbl ps') a = some o := fun {a o} e n => by
    rw [upd_ne (fun z => by subst z; rw [hP] at e; cases e; exact n _ rfl)]
    exact e
  refine ⟨r.n, fun a o e => ?_, r.inj, r.dis, fun i o e => ?_, ⟨fun p hp => ?_, fun p hp => ?_⟩, fun a o e => ?_, r.kd⟩
  · obtain ⟨e1, e2⟩ := r.fx a o e
    exact ⟨ne e1 (fun q z => by subst z; exact e2), e2⟩
  · obtain ⟨u, e1, e2⟩ := r.obj i o e
    refine ⟨u, ne e1 fun q z => ?_, e2⟩
    subst z
    cases o with
    | lst xs => obtain ⟨vs, z, _⟩ := e2; cases z
    | dct xs => obtain ⟨vs, z, _⟩ := e2; cases z
    | ins c xs => obtain ⟨dx, vs, z, _⟩ := e2; cases z
  · obtain ⟨ps2, a1, a2, a3⟩ := r.sys.1 p hp
    refine ⟨ps2, by rw [upd_ne (hl p hp)]; exact a1, a2, fun pos cv hc => ?_⟩
    obtain ⟨c, e1, e2⟩ := a3 pos cv hc
    exact ⟨c, e1, ne e2 fun q => LamX.codeO_ne q⟩
  · obtain ⟨ps2, a1, a2⟩ := r.sys.2 p hp
    by_cases hb : p = P
    · subst hb
      exact ⟨ps', upd_same, ht⟩
    · exact ⟨ps2, by rw [upd_ne hb]; exact a1, a2⟩
  · obtain ⟨e1, e2, e3⟩ := r.kx a o e
    refine ⟨ne e1 (fun q z => ?_), e2, e3⟩
    subst z
    rcases e3 with ⟨xs, z⟩ | ⟨us, z⟩ | ⟨c, dx, us, z⟩ | ⟨c, q, z⟩
    · cases z
    · cases z
    · cases z
    · exact LamX.codeO_ne _ z.symm
theorem upd_id {H : Hp} {P : Addr} {o : HO} (h : H P = some o) : upd H P o = H := by
  funext a
  by_cases z : a = P
  · subst z; rw [upd_same, h]
  · rw [upd_ne z]
section
variable {C : Cfg} {φ : Fn} {X : Cx}
/-- a generator, made -/
structure GenAt0 (C : Cfg) (X : Cx) (pins : List (Addr × Obj)) (σ : L2.St) (scope : Scope) (elt tg iter : Expr) (ifs : List Expr) (gpos : Pos) (items : List AV) (gd : Gd) (h1 : AH) (g : Gh) (ga : Addr) (s5 : Shared) : Prop where
  ex : ∃ (g1 : Gh) (H4 : Hp) (s4 : Shared) (it : Addr) (fp : List Addr) (tn : Nat → Heap → Prop) (J : It) (code : Value) (m : Str → Option Value) (gi : Nat),
    Ext g g1 ∧ Rep C g1 h1 H4 ∧ Inv X pins σ H4 s4 ∧ L2.Turn X.prog X.w X.K tg J fp it tn ∧ tn 0 s4.heap ∧ (∀ b ∈ fp, L2.FpOk X pins H4 b ∧ b < s4.heap.objs.size) ∧ Src C items gd g1 J ∧
    (∀ b o, s4.heap.get? b = some o → s5.heap.get? b = some o) ∧ s5.heap.Ns s4.heap.objs.size m ∧ s5.os = s4.os ∧ AllBare s5.gens ∧ s4.heap.objs.size < ga ∧ ga < s5.heap.objs.size ∧ s5.heap.IsGen ga gi ∧
    s5.gens[gi]? = some (.fresh (.compStart (.GeneratorExp elt [⟨tg, iter, ifs, 0⟩] scope gpos) 0 (.ref it) .none (genEnv scope (L2.cloFrom X.env.cells scope.names []) s4.heap.objs.size code builtinsNs X.env)))
theorem gen_mk {pins : List (Addr × Obj)} {σ : L2.St} {H : Hp} {s : Shared} {N : Nat → Hp → Prop} {elt tg iter : Expr} {ifs : List Expr} {scope : Scope} {own : List (Str × Nat)} {gpos : Pos} {fi : IF_} {g : Gh} {st : St} {h : AH} {k : Nat} {Q : Value → Shared → Prop}
    (G : GenM C X) (hr : Room k X.A) (hi : SI C φ X tg iter fi) (tk : Takes X (wX C N)) (ok : L2.BlkOk X.N X.env.scope scope own) (hco : scope.isCoroutine = false) (hcell : ∀ y ∈ scope.names, y.2 ≠ .cell) (h0 : scope.names.lookup (".0" : Str) = some NameKind.local)
    (hs : ∀ v, genFold iter X.env v = pure v) (I : Inv X pins σ H s) (r : Rep C g h H) (rs : RelS C g st σ)
    (hok : okG C g (fi φ st h) (fun p g' h' H' => ∀ ga s5, GenAt0 C X pins σ scope elt tg iter ifs gpos p.1 p.2 h' g ga s5 → Q (.ref ga) s5) N) :
    wpAny (model X.prog X.w) X.A (eval (.GeneratorExp elt [⟨tg, iter, ifs, 0⟩] scope gpos) X.env) Q X.xe s := by
  obtain ⟨c, P, TB, hcode, hPg, hPl⟩ := G.ex
  have hfree : ∀ y ∈ scope.names, y.2 = .free → ∃ c, X.env.cells.lookup y.1 = some c := fun y hy e => (ok.free y hy e).elim (fun z => I.ok.has _ (.inl z)) fun z => I.ok.has _ (.inr z)
  refine wpAny_GeneratorExp_make hco (L2.closure_ok hfree) hcell h0 ok.kind (by have := hr.dp; omega) ?_ hs
  refine thn ((hi.run N tk).run pins s σ H (fun J H1 => ∃ g1 items gd h1, Ext g g1 ∧ Rep C g1 h1 H1 ∧ Src C items gd g1 J ∧ ∀ ga s5, GenAt0 C X pins σ scope elt tg iter ifs gpos items gd h1 g ga s5 → Q (.ref ga) s5) I ⟨g, st, h, r, rs, by
    cases z : fi φ st h with
    | exc c h1 => rw [z] at hok; exact hok
    | stuck => rw [z] at hok; exact hok
    | ok p h1 =>
      rw [z] at hok
      exact fun g' H' e' r' J src => ⟨g', p.1, p.2, h1, e', r', src, hok g' H' e' r'⟩⟩) fun xv s1 hx => thn hx fun itv s2 h2 => ?_
  obtain ⟨it, fp, tn, J, H2, e, I2, Tn, st2, f2, g1, items, gd, h1, e1, r2, src, hQ⟩ := h2
  subst e
  refine ⟨I2.nolimit, ?_⟩
  obtain ⟨ps, hP, ht⟩ := r2.sys.2 P hPg
  have hPs : s2.heap.get? P = some { cls := .none, data := .fields ps } := I2.hok P _ hP
  have hPlt : P < s2.heap.objs.size := Heap.lt_size hPs
  have cd : PySem.W.CodeHd s2.heap c P := TB.code.keeps fun b u e => I2.bk b u e
  have ptsz : ∀ b ∈ fp, b < s2.heap.objs.size := fun b hb => by
    obtain ⟨o, e, _⟩ := Tn.obj _ _ st2 b hb
    exact Heap.lt_size e
  have fpP : ∀ b ∈ fp, b ≠ P := fun b hb z => by
    have := (f2 b hb).1
    rw [z, hP] at this
    cases this
  have cont : ∀ (code : Value) (h3 : Heap) (tk3 : Nat) (ps' : Array Value), Heap.ExtBut P s2.heap h3 → s2.heap.objs.size ≤ h3.objs.size → h3.get? P = some { cls := .none, data := .fields ps' } → (∃ more, ps' = ps ++ more) → TriplesOk ps'.toList →
      wpAny (model X.prog X.w) X.A (builtinsFor X.env.globals X.env.builtins) (fun bi s₄ =>
        ∀ h', h'.Ns s₄.heap.objs.size (fun y => if y = ".0" then some (.ref it) else none) → Heap.SameBut s₄.heap.objs.size (s₄.heap.push { cls := .type "frame", data := .dict #[] }) h' →
          Q (.ref h'.objs.size) { s₄ with
            gens := s₄.gens.push (.fresh (.compStart (.GeneratorExp elt [⟨tg, iter, ifs, 0⟩] scope gpos) 0 (.ref it) .none (genEnv scope (L2.cloFrom X.env.cells scope.names []) s₄.heap.objs.size code bi X.env))),
            toks := s₄.toks + 1 + 1 + 1,
            heap := h'.push { cls := .type "generator", data := .fields #[.int s₄.gens.size 0, .str "<genexpr>" (s₄.toks + 1), .str (X.env.qual ++ "<genexpr>") (s₄.toks + 1 + 1)] } }) X.xe { s2 with heap := h3, toks := tk3 } := by
    intro code h3 tk3 ps' hx3 hsz hP3 hmore ht3
    obtain ⟨more, em⟩ := hmore
    obtain ⟨bm, ob, b1, b2, b3, b4, b5, b6, b7, b8⟩ := TB.bm
    have keep3 : ∀ b u, b ≠ P → s2.heap.get? b = some u → h3.get? b = some u := fun b u hb e => hx3 b u hb e
    have I4 : Inv X pins σ (upd H2 P (.tbl (ps ++ more))) { s2 with heap := h3, gens := s2.gens, drawn := s2.drawn, toks := tk3 } := GxR.inv_tab (more := more) (h' := h3) (g' := s2.gens) (d' := s2.drawn) (t' := tk3) I2 hP keep3 (by rw [← em]; exact hP3) I2.bare
    have r4 : Rep C g1 h1 (upd H2 P (.tbl (ps ++ more))) := r2.tbl hP (by rw [← em]; exact ht3) hPl
    refine wpAny_builtinsFor (m := X.mg) (by rw [I2.ok.glob]; exact (I2.mod.glob.keeps I2.bk).extBut hx3 TB.gP) b1 b2 (keep3 _ _ b4 (I2.bk _ _ b5)) b6 b7 b8 ?_
    intro h' hn' hsb
    have hz' : h'.objs.size = h3.objs.size + 1 := by rw [hsb.1, Heap.size_push]
    have k45 : ∀ b o, h3.get? b = some o → (h'.push { cls := .type "generator", data := .fields #[.int s2.gens.size 0, .str "<genexpr>" (tk3 + 1), .str (X.env.qual ++ "<genexpr>") (tk3 + 1 + 1)] }).get? b = some o := fun b o e =>
      Heap.get?_push_of_some _ (hsb.extBut b o (Nat.ne_of_lt (Heap.lt_size e)) (Heap.get?_push_of_some _ e))
    refine hQ _ _ ⟨g1, _, { s2 with heap := h3, toks := tk3 }, it, fp, tn, J, code, _, s2.gens.size, e1, r4, I4, Tn, Tn.keep _ _ _ st2 fun b hb o e => keep3 b o (fpP b hb) e, fun b hb => ⟨⟨?_, (f2 b hb).2⟩, Nat.lt_of_lt_of_le (ptsz b hb) hsz⟩, src, k45, hn'.push _, rfl, ?_, ?_, ?_, ?_, ?_⟩
    · rw [upd_ne (fpP b hb)]
      exact (f2 b hb).1
    · exact I2.bare.push rfl
    · show h3.objs.size < h'.objs.size
      omega
    · show h'.objs.size < (h'.push _).objs.size
      rw [Heap.size_push]
      exact Nat.lt_succ_self _
    · exact ⟨_, _, _, Heap.get?_push_size _ rfl, rfl, rfl, rfl⟩
    · exact Array.getElem?_push_size ..
  cases hf : codeAmong gpos ps.toList with
  | none =>
    refine wpAny_genexprCodeX hcode (cd.code hPs ht) (cd.tab hPs) hf fun c' h' tk hx hge hlt hco' _ htab' _ => ?_
    obtain ⟨o1, vs, f1, tf, fl, tg, inF, tx, tt, op, _, _, _, _, _, _, _, _, _, htr, _⟩ := hco'
    exact cont _ h' tk _ hx (Nat.le_trans hge (Nat.le_of_lt hlt)) htab'.2 ⟨_, rfl⟩ htr
  | some cv =>
    refine wpAny_genexprCode_hit hcode (cd.code hPs ht) hf ?_
    exact cont cv s2.heap s2.toks ps (Heap.ExtBut.refl _ _) (Nat.le_refl _) hPs ⟨#[], by simp⟩ ht
end

/-! ### the generator resumed -/
section
variable {C : Cfg} {φ : Fn} {X : Cx}
/-- the generator at ga is to be resumed: what it hands out from here is told by TR, FIN; USER: what the one that walks it keeps beside -/
structure GW (C : Cfg) (X : Cx) (pins : List (Addr × Obj)) (σ : L2.St) (g0 : Gh) (TR : List (AV × AH)) (FIN : Option AH) (USER : List V → List (Addr × Obj) → Prop) (ga gi : Nat) where
  Y : Cx
  fp : List Addr
  σ0 : L2.St
  s4 : Shared
  H4 : Hp
  NT : Nat
  hNT : NT = TR.length + 1
  I4 : Inv X pins σ H4 s4
  hfp : ∀ b ∈ fp, L2.FpOk X pins H4 b ∧ b < s4.heap.objs.size
  prog : Y.prog = X.prog
  w : Y.w = X.w
  fs : Y.fs = L2.frs X.stack
  ex : Y.ex = fp
  h0 : Y.H_0 = H4
  s0 : Y.s_0 = s4
  big : s4.heap.objs.size < ga
  calm : X.calm = true
  hpn : Y.pn = []
variable {pins : List (Addr × Obj)} {σ : L2.St} {g0 : Gh} {TR : List (AV × AH)} {FIN : Option AH} {USER : List V → List (Addr × Obj) → Prop} {ga gi : Nat}
def genObj (o : Obj) (s : Shared) (ga gi : Nat) : Prop := s.heap.get? ga = some o ∧ s.heap.IsGen ga gi
def GW.CONS (W : GW C X pins σ g0 TR FIN USER ga gi) (cvs : List V) (PN : List (Addr × Obj)) : Prop := (∃ o, (ga, o) ∈ PN ∧ ∀ s : Shared, s.heap.get? ga = some o → s.heap.IsGen ga gi) ∧ (∀ p ∈ PN, p.1 ∉ W.fp) ∧ USER cvs PN
def GW.R (W : GW C X pins σ g0 TR FIN USER ga gi) : Nat → Shared → Shared → Prop := fun n _ s' => ∃ H' g' h' PN cvs, FIN = some h' ∧ Inv W.Y PN W.σ0 H' s' ∧ Ext g0 g' ∧ Rep C g' h' H' ∧ RelL C g' (TR.map (·.1)) cvs ∧ W.CONS cvs PN ∧ n + cvs.length = W.NT
def GW.Pr (W : GW C X pins σ g0 TR FIN USER ga gi) : Protocol := fun n _ v s' kap => ∃ H' g' h' PN cvs pre rest y cv, TR = pre ++ (y, h') :: rest ∧ Inv W.Y PN W.σ0 H' s' ∧ Ext g0 g' ∧ Rep C g' h' H' ∧ RelL C g' (pre.map (·.1)) cvs ∧ W.CONS cvs PN ∧ (n + 1) + cvs.length = W.NT ∧ L2.RelV cv v ∧ RelA C g' y cv ∧
  ((rest ≠ [] ∨ FIN.isSome = true) → ∀ s'' PN', Inv W.Y PN' W.σ0 H' s'' → W.CONS (cvs ++ [cv]) PN' → (∀ b ∈ W.fp, ∀ o, s'.heap.get? b = some o → s''.heap.get? b = some o) → kap (.send .none) s'')
/-- j items are handed out -/
def GW.At (W : GW C X pins σ g0 TR FIN USER ga gi) (j : Nat) (s : Shared) : Prop :=
  s.heap.IsGen ga gi ∧ s.heap.NoLimit ∧ j ≤ TR.length ∧ ∃ gs, s.gens[gi]? = some gs ∧ gs.Goes (model X.prog X.w) X.A.in4.in1 (fun n s₀ r s₁ => r = .ok .next ∧ W.R n s₀ s₁) W.Pr (W.NT - j) (.send .none) (s.setGen gi .running)
/-- back in the maker's context -/
theorem GW.back (W : GW C X pins σ g0 TR FIN USER ga gi) {PN : List (Addr × Obj)} {H' : Hp} {s s' : Shared} (I : Inv W.Y PN W.σ0 H' s) (hh : ∀ b o, s.heap.get? b = some o → s'.heap.get? b = some o) (os : s'.os = s.os) (hb : AllBare s'.gens) : Inv X pins σ H' s' := by
  have u := I.base
  rw [W.fs, W.ex, W.h0, W.s0] at u
  have o := I.os
  rw [W.s0] at o
  have hk := I.hok
  rw [W.prog, W.w] at hk
  exact W.I4.call' (ch := W.fp) (os.trans o) (u.trans (L2.Un.kept hh)) (hk.kept hh) hb fun b hb => ⟨(W.hfp b hb).1.2.2.2.1, (W.hfp b hb).1.2.1, (W.hfp b hb).1.2.2.2.2.1, (W.hfp b hb).1.2.2.2.2.2⟩
/-- the frame's state, other generators and tokens beside -/
theorem inv_gens {Y : Cx} {PN : List (Addr × Obj)} {σ : L2.St} {H : Hp} {s : Shared} (I : Inv Y PN σ H s) {gens : Array GenState} {toks : Nat} {dr : Drawn} (hb : AllBare gens) : Inv Y PN σ H { s with gens := gens, toks := toks, drawn := dr } :=
  ⟨I.ok, I.os, hb, I.base, I.loc, I.cell, I.free, I.freeC, I.pin, I.hok, I.len⟩
theorem GW.nolimit (W : GW C X pins σ g0 TR FIN USER ga gi) {PN : List (Addr × Obj)} {H' : Hp} {s : Shared} (I : Inv W.Y PN W.σ0 H' s) : s.heap.NoLimit := I.nolimit
theorem GW.isGen (W : GW C X pins σ g0 TR FIN USER ga gi) {cvs : List V} {PN : List (Addr × Obj)} {H' : Hp} {s : Shared} (I : Inv W.Y PN W.σ0 H' s) (hC : W.CONS cvs PN) : s.heap.IsGen ga gi := by
  obtain ⟨⟨o, h1, h2⟩, _⟩ := hC
  exact h2 s (I.pin _ (List.mem_append_right _ h1)).1
/-- what stands when an item has come -/
structure GW.Got (W : GW C X pins σ g0 TR FIN USER ga gi) (j : Nat) (v : Value) (s' : Shared) : Prop where
  ex : ∃ H' g' h' PN cvs pre rest y cv, TR = pre ++ (y, h') :: rest ∧ pre.length = j ∧ cvs.length = j ∧ Inv W.Y PN W.σ0 H' s' ∧ Ext g0 g' ∧ Rep C g' h' H' ∧ RelL C g' (pre.map (·.1)) cvs ∧ W.CONS cvs PN ∧ L2.RelV cv v ∧ RelA C g' y cv ∧ gi < s'.gens.size ∧
    ((rest ≠ [] ∨ FIN.isSome = true) → ∀ s'' PN', Inv W.Y PN' W.σ0 H' s'' → W.CONS (cvs ++ [cv]) PN' → (∀ b ∈ W.fp, ∀ o, s'.heap.get? b = some o → s''.heap.get? b = some o) → s''.gens = s'.gens → W.At (j + 1) s'')
structure GW.End (W : GW C X pins σ g0 TR FIN USER ga gi) (s' : Shared) : Prop where
  ex : ∃ H' g' h' PN cvs, FIN = some h' ∧ Inv W.Y PN W.σ0 H' s' ∧ Ext g0 g' ∧ Rep C g' h' H' ∧ RelL C g' (TR.map (·.1)) cvs ∧ W.CONS cvs PN
theorem GW.next (W : GW C X pins σ g0 TR FIN USER ga gi) (hr : X.A.depth + 1 < recursionLimit) {j : Nat} {s : Shared} {E : Value → Shared → Prop} {Q : Option Value → Shared → Prop} (st : W.At j s)
    (hY : ∀ v s', W.Got j v s' → Q (some v) s') (hE : ∀ s', W.End s' → TR.length = j → Q none s') : wpAny (model X.prog X.w) X.A.in4 (pyNext (.ref ga)) Q E s := by
  obtain ⟨hg, hl, hj, gs, hgs, hgo⟩ := st
  have hgl : gi < s.gens.size := (Array.getElem?_eq_some_iff.mp hgs).1
  have hh : X.A.in4.handled = none := W.I4.ok.hd W.calm
  refine GenW.wpAny_gsz (n := gi + 1) hgl (wpAny_pyNext_genexpQ (P := W.R) hh hl (by show X.A.depth < _; omega) hg hgs hgo (fun v s₁ gs' hb hv => ?_) (fun s₁ hp h' hk => ?_))
  · intro hsz
    obtain ⟨H', g', h', PN, cvs, pre, rest, y, cv, hT, I, e, r, rl, hC, hn, rv, ra, kk⟩ := hv
    have hpl : pre.length = cvs.length := by
      have := rl.len
      rw [List.length_map] at this
      exact this
    have hTl : TR.length = pre.length + (rest.length + 1) := by rw [hT]; simp
    have hjj : cvs.length = j ∧ 0 < W.NT - j := by
      have : (W.NT - j - 1 + 1) + cvs.length = W.NT := hn
      have := W.hNT
      omega
    have I2 : Inv W.Y PN W.σ0 H' (s₁.setGen gi gs') := inv_gens I (L2.allBare_setGen I.bare hb)
    have hsz2 : gi < s₁.gens.size := by
      have q : (s₁.setGen gi gs').gens.size = s₁.gens.size := GenW.setGen_size _ _ _
      have hsz' : gi + 1 ≤ (s₁.setGen gi gs').gens.size := hsz
      omega
    refine hY v _ ⟨H', g', h', PN, cvs, pre, rest, y, cv, hT, ?_, hjj.1, I2, e, r, rl, hC, rv, ra, by rw [GenW.setGen_size]; exact hsz2, fun hm s'' PN' I'' hC'' hk'' eg => ?_⟩
    · omega
    · obtain ⟨m, hm2⟩ : ∃ m, W.NT - j = m + 1 := ⟨W.NT - j - 1, by omega⟩
      have hk0 := kk hm (s''.setGen gi .running) PN' (inv_gens I'' (L2.allBare_setGen I''.bare rfl)) hC'' (fun b hb o e => hk'' b hb o e)
      rw [hm2] at hk0
      have e1 : W.NT - (j + 1) = m := by omega
      refine ⟨W.isGen I'' hC'', I''.nolimit, by omega, gs', ?_, ?_⟩
      · rw [eg]; exact L2.setGen_at hsz2
      · rw [e1]; exact hk0
  · intro hsz
    obtain ⟨H', g', hh', PN, cvs, hf, I, e, r, rl, hC, hn⟩ := hp
    have I2 : Inv W.Y PN W.σ0 H' { s₁.setGen gi .finished with heap := h' } := inv_gens (I.kept (t' := s₁.toks) hk) (L2.allBare_setGen I.bare rfl)
    refine hE _ ⟨H', g', hh', PN, cvs, hf, I2, e, r, rl, hC⟩ ?_
    have h1 := rl.len
    rw [List.length_map] at h1
    have h2 : (W.NT - j) + cvs.length = W.NT := hn
    have h3 := W.hNT
    omega

theorem FpOk_gen {pins : List (Addr × Obj)} {σ : L2.St} {H : Hp} {s : Shared} {b : Addr} {L : Addr} (I : Inv X pins σ H s) (h : L2.FpOk X pins H b ∧ b < s.heap.objs.size) (hL : L = s.heap.objs.size) : b ≠ L := by
  rw [hL]
  exact Nat.ne_of_lt h.2
/-- the generator just made, ready to be resumed -/
theorem gw_start {pins : List (Addr × Obj)} {σ : L2.St} {elt tg iter : Expr} {ifs : List Expr} {scope : Scope} {own : List (Str × Nat)} {sl : List Nat} {gpos : Pos} {gt : TF} {fc f : EF} {items : List AV} {gd : Gd} {h1 : AH} {g : Gh} {ga : Addr} {s5 : Shared} {st : St} {USER : List V → List (Addr × Obj) → Prop} {TR : List (AV × AH)} {FIN : Option AH}
    (hcalm : X.calm = true) (hN : X.N.Nodup) (ok : L2.BlkOk X.N X.env.scope scope own) (hcell : ∀ y ∈ scope.names, y.2 ≠ .cell) (hco : scope.isCoroutine = false) (hsl : ∀ j ∈ sl, j ∈ own.map (·.2)) (rs : RelS C g st σ)
    (pg : ∀ (s : Shared) (H : Hp) (code : Value) (fp : List Addr), PG (genCx X s H scope code fp) tg (tGt C sl gt)) (pt : ∀ (s : Shared) (H : Hp) (code : Value) (fp : List Addr), PTs (genCx X s H scope code fp) ifs (tB C φ fc N0)) (pe : ∀ (s : Shared) (H : Hp) (code : Value) (fp : List Addr), PE (genCx X s H scope code fp) elt (tE C φ f N0))
    (hLc : LcTr φ gt fc f (wipe st (own.map (·.2))) gd items h1 TR FIN)
    (G : GenAt0 C X pins σ scope elt tg iter ifs gpos items gd h1 g ga s5) :
    ∃ g1 gi, Ext g g1 ∧ ∃ W : GW C X pins σ g1 TR FIN USER ga gi, ∃ o H4, s5.heap.IsGen ga gi ∧ ga < s5.heap.objs.size ∧ (∀ s : Shared, s.heap.get? ga = some o → s.heap.IsGen ga gi) ∧ (∀ b ∈ W.fp, b ≠ ga ∧ b < s5.heap.objs.size) ∧ Inv W.Y [(ga, o)] W.σ0 H4 s5 ∧ Rep C g1 h1 H4 ∧
      ∀ s6 PN6, Inv W.Y PN6 W.σ0 H4 s6 → W.CONS [] PN6 → (∀ b ∈ W.fp, ∀ o, s5.heap.get? b = some o → s6.heap.get? b = some o) → s6.gens = s5.gens → W.At 0 s6 := by
  obtain ⟨g1, H4, s4, it, fp, tn, J, code, m, gi, e1, r1, I4, Tn, st4, hfp, src, keep, hns, os, hb, hga1, hga2, hgen, hfresh⟩ := G.ex
  have hgas : s4.heap.objs.size ≤ ga := Nat.le_of_lt hga1
  have gafp : ∀ b ∈ fp, b ≠ ga := fun b hb z => by
    have h0 := (hfp b hb).2
    rw [z] at h0
    exact absurd (Nat.lt_of_lt_of_le h0 hgas) (Nat.lt_irrefl _)
  have hobj : ∃ o, s5.heap.get? ga = some o ∧ (∀ v, o.data ≠ .cell v) ∧ ∀ s : Shared, s.heap.get? ga = some o → s.heap.IsGen ga gi := by
    obtain ⟨oo, n1, n2, ho, hrest⟩ := hgen
    exact ⟨_, ho, fun v z => (by rw [hrest.2.1] at z; cases z), fun s e => ⟨oo, n1, n2, e, hrest⟩⟩
  obtain ⟨o, hoo, hncell, hisg⟩ := hobj
  have I5 : Inv (genCx X s4 H4 scope code fp) [(ga, o)] (L2.wipe σ (own.map (·.2))) H4 s5 := inv_gen I4 hcalm hN ok hcell hfp keep hns os hb [(ga, o)] fun p hp => by
    have e : p = (ga, o) := by simpa using hp
    subst e
    exact ⟨hoo, I4.hok.fresh hgas, Nat.ne_of_gt hga1, fun z => (List.mem_cons.mp (I4.stkSub _ z)).elim (Nat.ne_of_gt (Nat.lt_of_lt_of_le I4.lt hgas)) (I4.nofs hgas), hncell⟩
  have hσ0 : L2.wipe (L2.wipe σ (own.map (·.2))) (own.map (·.2)) = L2.wipe σ (own.map (·.2)) := by
    apply List.ext_getElem?
    intro j
    rw [wipe_get, wipe_get, L2.wipe_length]
    split <;> rfl
  refine ⟨g1, gi, e1, ⟨genCx X s4 H4 scope code fp, fp, L2.wipe σ (own.map (·.2)), s4, H4, TR.length + 1, rfl, I4, hfp, rfl, rfl, rfl, rfl, rfl, rfl, hga1, hcalm, rfl⟩, o, H4, hgen, hga2, hisg, fun b hb => ⟨gafp b hb, Nat.lt_of_lt_of_le (hfp b hb).2 (Nat.le_of_lt (Nat.lt_trans hga1 hga2))⟩, I5, r1, fun s6 PN6 I66 hC0 kfp eg => ?_⟩
  obtain ⟨⟨o6, hp6, his6⟩, _⟩ := id hC0
  have hfr := hfresh
  rw [← eg] at hfr
  refine ⟨his6 _ (I66.pin _ (List.mem_append_right _ hp6)).1, I66.nolimit, Nat.zero_le _, _, hfr, ?_⟩
  refine ⟨rfl, ?_⟩
  have loop := fun s₀ s (I : Inv (genCx X s4 H4 scope code fp) PN6 (L2.wipe σ (own.map (·.2))) H4 s) (st' : tn 0 s.heap) => seg_items (Y := genCx X s4 H4 scope code fp) (B := X.A.in4.in1) (elt := elt) (iter := iter) (scope := scope) (pos := gpos)
    (R := fun n s₀ r s₁ => r = .ok .next ∧ ∃ H' g' h' PN cvs, FIN = some h' ∧ Inv (genCx X s4 H4 scope code fp) PN (L2.wipe σ (own.map (·.2))) H' s₁ ∧ Ext g1 g' ∧ Rep C g' h' H' ∧ RelL C g' (TR.map (·.1)) cvs ∧ ((∃ o', (ga, o') ∈ PN ∧ ∀ s : Shared, s.heap.get? ga = some o' → s.heap.IsGen ga gi) ∧ (∀ p ∈ PN, p.1 ∉ fp) ∧ USER cvs PN) ∧ n + cvs.length = TR.length + 1)
    (Pr := fun n _ v s' kap => ∃ H' g' h' PN cvs pre rest y cv, TR = pre ++ (y, h') :: rest ∧ Inv (genCx X s4 H4 scope code fp) PN (L2.wipe σ (own.map (·.2))) H' s' ∧ Ext g1 g' ∧ Rep C g' h' H' ∧ RelL C g' (pre.map (·.1)) cvs ∧ ((∃ o', (ga, o') ∈ PN ∧ ∀ s : Shared, s.heap.get? ga = some o' → s.heap.IsGen ga gi) ∧ (∀ p ∈ PN, p.1 ∉ fp) ∧ USER cvs PN) ∧ (n + 1) + cvs.length = TR.length + 1 ∧ L2.RelV cv v ∧ RelA C g' y cv ∧
      ((rest ≠ [] ∨ FIN.isSome = true) → ∀ s'' PN', Inv (genCx X s4 H4 scope code fp) PN' (L2.wipe σ (own.map (·.2))) H' s'' → ((∃ o', (ga, o') ∈ PN' ∧ ∀ s : Shared, s.heap.get? ga = some o' → s.heap.IsGen ga gi) ∧ (∀ p ∈ PN', p.1 ∉ fp) ∧ USER (cvs ++ [cv]) PN') → (∀ b ∈ fp, ∀ o, s'.heap.get? b = some o → s''.heap.get? b = some o) → kap (.send .none) s''))
    (CONS := fun cvs PN => (∃ o', (ga, o') ∈ PN ∧ ∀ s : Shared, s.heap.get? ga = some o' → s.heap.IsGen ga gi) ∧ (∀ p ∈ PN, p.1 ∉ fp) ∧ USER cvs PN) (NT := TR.length + 1) (FIN := FIN) (TR := TR)
    rfl rfl hco rfl rfl rfl (wipe_rel (rs.mono e1) (own.map (·.2))) Tn src (pg s4 H4 code fp) (pt s4 H4 code fp) (pe s4 H4 code fp) hσ0 hsl (fun cvs PN h => h.2.1)
    (fun n s₀ s' H' g' h' PN cvs a1 a2 a3 a4 a5 a6 a7 => ⟨rfl, H', g', h', PN, cvs, a1, a2, a3, a4, a5, a6, a7⟩)
    (fun n s₀ s' H' g' h' PN cvs pre rest y cv v kap a1 a2 a3 a4 a5 a6 a7 a8 a9 a10 => ⟨H', g', h', PN, cvs, pre, rest, y, cv, a1, a2, a3, a4, a5, a6, a7, a8, a9, a10⟩)
    items h1 TR FIN hLc 0 [] (TR.length + 1) s₀ s g1 H4 [] PN6 rfl rfl rfl (Nat.le_succ _) rfl I st' (fun b hb => (hfp b hb).1.1) (Ext.refl _) r1 .nil hC0
  have st6 : tn 0 s6.heap := Tn.keep _ _ _ (Tn.keep _ _ _ st4 fun b hb o e => keep b o e) fun b hb o e => kfp b hb o e
  have I7 : Inv (genCx X s4 H4 scope code fp) PN6 (L2.wipe σ (own.map (·.2))) H4 (s6.setGen gi .running) := inv_gens I66 (L2.allBare_setGen I66.bare rfl)
  have lp := loop (s6.setGen gi .running) (s6.setGen gi .running) I7 st6
  show Seg (model X.prog X.w) X.A.in4.in1 _ _ _ _ _ ((compStart (.GeneratorExp elt [⟨tg, iter, ifs, 0⟩] scope gpos) 0 (.ref it) .none _).onRaise (leaving _)) [] _
  unfold compStart
  rw [Sem.onRaise_eq_wrap]
  show Seg _ _ _ _ _ _ _ ((ask >>= _).wrap _ _ _ _) [] _
  refine seg_bind_wrap (wpAny_askSetting ?_)
  split
  · exact seg_again rfl lp
  · first
      | exact seg_bind_wrap (wpAny_rule (seg_bind_wrap (wpAny_standAt (seg_bind_wrap (Tn.self _ 0 _ _ _ st6 (seg_again rfl lp))))))
      | (refine seg_bind_wrap (wpAny_rule ?_); show Seg _ _ _ _ _ _ _ ((standAt iter.pos >>= _).wrap _ _ _ _) [] _; exact seg_bind_wrap (wpAny_standAt (seg_bind_wrap (Tn.self _ 0 _ _ _ st6 (seg_again rfl lp)))))
/-- around in1 -/
theorem GW.next1 (W : GW C X pins σ g0 TR FIN USER ga gi) (hr : X.A.depth + 1 < recursionLimit) {j : Nat} {s : Shared} {E : Value → Shared → Prop} {Q : Option Value → Shared → Prop} (st : W.At j s)
    (hY : ∀ v s', W.Got j v s' → Q (some v) s') (hE : ∀ s', W.End s' → TR.length = j → Q none s') : wpAny (model X.prog X.w) X.A.in1 (pyNext (.ref ga)) Q E s :=
  wpAny_of_in1 (A := X.A.in1) (wpAny_of_in1 (A := X.A.in1.in1) (wpAny_of_in1 (A := X.A.in1.in1.in1) (W.next hr st hY hE)))
/-- the readings of any -/
structure AnyOk (b : Bool) (h2 : AH) (TR : List (AV × AH)) (FIN : Option AH) : Prop where
  at_ : ∀ pre y h' rest, TR = pre ++ (y, h') :: rest → (y = .bl false ∧ (rest ≠ [] ∨ FIN.isSome = true)) ∨ (y = .bl true ∧ b = true ∧ h' = h2)
  fin : ∀ h', FIN = some h' → b = false ∧ h' = h2
  ne : TR ≠ [] ∨ FIN.isSome = true
theorem any_tr {gt : TF} {fc f : EF} {s0 : St} {gd : Gd} {b : Bool} {h2 : AH} : ∀ (items : List AV) (h : AH), anyGo φ gt fc f s0 gd items h = .ok b h2 → ∃ TR FIN, LcTr φ gt fc f s0 gd items h TR FIN ∧ AnyOk b h2 TR FIN
  | [], h, e => by
    unfold anyGo at e
    obtain ⟨hk, e⟩ := ite_eq_ok e
    cases e
    exact ⟨[], some _, .done hk, ⟨fun pre y h' rest z => absurd z (by simp), fun h' z => (by cases z; exact ⟨rfl, rfl⟩), .inr rfl⟩⟩
  | x :: r, h, e => by
    unfold anyGo at e
    obtain ⟨hk, e⟩ := ite_eq_ok e
    cases hg : gt x s0 with
    | none => rw [hg] at e; cases e
    | some s1 =>
      rw [hg] at e
      simp only at e
      obtain ⟨bv, hb, eb, e1⟩ := bind_eq_ok e
      obtain ⟨bb, rfl, e2⟩ := tst_eq_ok e1
      cases bb with
      | false =>
        rw [if_neg Bool.false_ne_true] at e2
        obtain ⟨TR, FIN, t, ok⟩ := any_tr r hb e2
        exact ⟨TR, FIN, .skip hk hg eb t, ok⟩
      | true =>
        rw [if_pos rfl] at e2
        obtain ⟨y, hy2, ey, e3⟩ := bind_eq_ok e2
        obtain ⟨cc, rfl, e4⟩ := tst_eq_ok e3
        cases cc with
        | true =>
          rw [if_pos rfl] at e4
          cases e4
          refine ⟨[(.bl true, _)], none, .stop hk hg eb ey, ⟨fun pre y h' rest z => .inr ?_, fun h' z => (by cases z), .inl (by simp)⟩⟩
          cases pre with
          | nil =>
            simp at z
            exact ⟨z.1.1.symm, rfl, z.1.2.symm⟩
          | cons p q =>
            have := congrArg List.length z
            simp at this
        | false =>
          rw [if_neg Bool.false_ne_true] at e4
          obtain ⟨TR, FIN, t, ok⟩ := any_tr r hy2 e4
          refine ⟨(.bl false, hy2) :: TR, FIN, .give hk hg eb ey t, ⟨fun pre y h' rest z => ?_, ok.fin, .inl (by simp)⟩⟩
          cases pre with
          | nil =>
            simp at z
            obtain ⟨⟨z1, z2⟩, z3⟩ := z
            subst z1 z2 z3
            exact .inl ⟨rfl, ok.ne⟩
          | cons p q =>
            simp at z
            exact ok.at_ q y h' rest z.2
/-- any's loop -/
theorem any_loop {b : Bool} {h2 : AH} {R : Result → Shared → Prop} (W : GW C X pins σ g0 TR FIN (fun _ _ => True) ga gi) (hr : X.A.depth + 1 < recursionLimit) (ok : AnyOk b h2 TR FIN)
    (hR : ∀ s' g' H', Inv X pins σ H' s' → Ext g0 g' → Rep C g' h2 H' → R (.ok (.ret (.bool b))) s') :
    ∀ (k j : Nat) (s : Shared), TR.length - j = k → W.At j s → codeAny (model X.prog X.w) X.A (.builtin "any.loop" ⟨[.ref ga], []⟩) R s := by
  intro k
  induction k with
  | zero =>
    intro j s hk hst
    refine codeAny_builtin F.entry_any_loop ?_
    rw [Around.under_plainId F.plain_any_loop _]
    show wpAny _ X.A.in1 (pyNext (.ref ga) >>= _) _ _ s
    refine wpAny_bind (W.next1 hr hst (fun v s' hG => ?_) (fun s' hE hj => ?_))
    · obtain ⟨H', g', h', PN, cvs, pre, rest, y, cv, hT, hp, _⟩ := hG.ex
      have := congrArg List.length hT
      simp at this
      omega
    · obtain ⟨H', g', h', PN, cvs, hF, I, e, r, rl, hC⟩ := hE.ex
      obtain ⟨rfl, rfl⟩ := ok.fin _ hF
      exact wpAny_bind (wpAny_rule (wpAny_pure (hR s' g' H' (W.back I (fun _ _ e => e) rfl I.bare) e r)))
  | succ k ih =>
    intro j s hk hst
    refine codeAny_builtin F.entry_any_loop ?_
    rw [Around.under_plainId F.plain_any_loop _]
    show wpAny _ X.A.in1 (pyNext (.ref ga) >>= _) _ _ s
    refine wpAny_bind (W.next1 hr hst (fun v s' hG => ?_) (fun s' hE hj => by omega))
    obtain ⟨H', g', h', PN, cvs, pre, rest, y, cv, hT, hp, hcl, I, e, r, rl, hC, rv, ra, hgi, kk⟩ := hG.ex
    rcases ok.at_ pre y h' rest hT with ⟨rfl, hm⟩ | ⟨rfl, rfl, rfl⟩
    · have e1 : cv = .bl false := ra
      subst e1
      have e2 : v = .bool false := rv
      subst e2
      refine wpAny_bind (wpAny_holding (wpAny_truthy_bool ?_))
      refine wpAny_bind (wpAny_letGo ?_)
      simp only [Bool.false_eq_true, if_false]
      exact wpAny_pure ⟨plainId_quiet F.plain_any_loop _, ih (j + 1) _ (by omega) (kk hm s' PN I ⟨hC.1, hC.2.1, trivial⟩ (fun _ _ _ e => e) rfl)⟩
    · have e1 : cv = .bl true := ra
      subst e1
      have e2 : v = .bool true := rv
      subst e2
      refine wpAny_bind (wpAny_holding (wpAny_truthy_bool ?_))
      refine wpAny_bind (wpAny_letGo ?_)
      simp only [if_true]
      exact wpAny_bind (wpAny_rule (wpAny_pure (hR s' g' H' (W.back I (fun _ _ e => e) rfl I.bare) e r)))
end
section
variable {C : Cfg} {φ : Fn} {X : Cx}
/-- the parts of a generator expression -/
structure GnP (C : Cfg) (φ : Fn) (X : Cx) (elt tg iter : Expr) (ifs : List Expr) (scope : Scope) (own : List (Str × Nat)) (sl : List Nat) (fi : IF_) (gt : TF) (fc f : EF) : Prop where
  hi : SI C φ X tg iter fi
  ok : L2.BlkOk X.N X.env.scope scope own
  hco : scope.isCoroutine = false
  hcell : ∀ y ∈ scope.names, y.2 ≠ .cell
  h0 : scope.names.lookup (".0" : Str) = some NameKind.local
  hg : ∀ (s : Shared) (H : Hp) (code : Value) (fp : List Addr), ST C (genCx X s H scope code fp) tg sl gt
  ht : ∀ (s : Shared) (H : Hp) (code : Value) (fp : List Addr), PTs (genCx X s H scope code fp) ifs (tB C φ fc N0)
  he : ∀ (s : Shared) (H : Hp) (code : Value) (fp : List Addr), SE C φ (genCx X s H scope code fp) elt f
  hs : ∀ v, genFold iter X.env v = pure v
  hsl : ∀ j ∈ sl, j ∈ own.map (·.2)
variable {elt tg iter : Expr} {ifs : List Expr} {scope : Scope} {own : List (Str × Nat)} {sl : List Nat} {fi : IF_} {gt : TF} {fc f : EF} {p gpos pos : Pos} {k : Nat}
theorem se_any (A : At C X) (hr : Room (k + 2) X.A) (G : GenM C X) (hg : L2.Gl X "any") (hm : X.mg "any" = none) (P : GnP C φ X elt tg iter ifs scope own sl fi gt fc f) :
    SE C φ X (.Call (.Name "any" p) [.GeneratorExp elt [⟨tg, iter, ifs, 0⟩] scope gpos] [] pos) (eAny (own.map (·.2)) fi gt fc f) := by
  have he : starEach [.GeneratorExp elt [⟨tg, iter, ifs, 0⟩] scope gpos] X.env = (false, eval (.GeneratorExp elt [⟨tg, iter, ifs, 0⟩] scope gpos) X.env) :: starEach [] X.env := rfl
  refine ⟨fun N tk => ⟨fun pins s σ H Q I ⟨g, st, h, r, rs, ok⟩ => ?_⟩⟩
  refine wpAny_Call_Name_kw (L2.ld_blt I hg hm boot_any ?_)
  refine PyProof.Rows.callWith_builtin1 ?_ he (by rfl)
  rw [he]
  show wpAny _ _ (spliced ((false, eval (.GeneratorExp elt [⟨tg, iter, ifs, 0⟩] scope gpos) X.env) :: backTo pos (starEach [] X.env))) _ _ s
  refine Calls.spliced_cons (gen_mk G hr P.hi tk P.ok P.hco P.hcell P.h0 P.hs I r rs ?_)
  unfold eAny at ok
  cases z : fi φ st h with
  | exc c h1 => rw [z] at ok; exact ok
  | stuck => rw [z] at ok; exact ok
  | ok p h1 =>
    rw [z] at ok
    simp only [bind_ok] at ok
    intro g' H' e1 r1 ga s5 hG
    obtain ⟨b, h2, e2, ok2⟩ := quiet_bind ok
    obtain ⟨TR, FIN, hLc, hAn⟩ := any_tr p.1 h1 e2
    obtain ⟨g1, gi, e3, W, o, H4, hgen, _, hisg, hfo, I5, r5, hSt⟩ := gw_start (USER := fun _ _ => True) A.calm A.nd P.ok P.hcell P.hco P.hsl rs (fun s H code fp => (P.hg s H code fp).run) P.ht (fun s H code fp => (P.he s H code fp).run N0 takesN0) hLc hG
    have hAt := hSt s5 [(ga, o)] I5 ⟨⟨o, by simp, hisg⟩, fun p hp => (by
      have e : p = (ga, o) := by simpa using hp
      subst e
      exact fun z => (hfo _ z).1 rfl), trivial⟩ (fun _ _ _ e => e) rfl
    refine Calls.spliced_nil ?_
    have hroom : X.A.depth + 1 < recursionLimit := by have := hr.dp; omega
    refine call_function_tree F.kind_any F.plain_any F.entry_any (F.args_any1 _) ?_
    unfold Builtin.«any»
    refine wpAny_bind (m := oneArg "any" _) (wpAny_pure ?_)
    refine wpAny_bind (wpAny_pyIter_gen hgen ?_)
    refine wpAny_pure ⟨plainId_quiet F.plain_any_loop _, any_loop W hroom hAn (fun s' g9 H9 I9 e9 r9 => ?_) _ 0 s5 rfl hAt⟩
    exact ⟨.bl b, H9, I9, rfl, ok2 g9 H9 (e3.trans e9) r9 _ rfl⟩
end
end TX
namespace TX
open PySem PySem.Spec PyProof.Rows
open L2 (V HO Hp Key upd upd_same upd_ne SqL SqT Rd HOk Cx Inv PE PT PTs PW PS PSs PG PGs PI PA TE TT TA TS TG TGs TI It VK XK WX Takes Ends EP SP TP OpR tOp CallR tCB tCons tNil Sp Room FnOk thn thnF Vals)
section
variable {C : Cfg} {φ : Fn} {X : Cx} {pins : List (Addr × Obj)} {σ : L2.St} {g0 : Gh} {TR : List (AV × AH)} {FIN : Option AH} {ga gi : Nat}
def lsObj (acc : Array Value) (c : Nat) : Obj := { cls := .type "list", dict := none, data := .seq acc c, slots := #[] }
/-- S holds f of what has come -/
def holdsAt (S : Addr) (F : List V → Obj → Prop) : List V → List (Addr × Obj) → Prop := fun cvs PN => ∃ o, (S, o) ∈ PN ∧ F cvs o
/-- the user's object written -/
theorem inv_put {Y : Cx} {σ0 : L2.St} {H' : Hp} {s : Shared} {h' : Heap} {t' : Nat} {S : Addr} {o o' oS : Obj} (I : Inv Y [(ga, o), (S, oS)] σ0 H' s) (hg : S ≠ ga) (hS0 : Y.s_0.heap.objs.size ≤ S) (hpn : Y.pn = []) (hcl : ∀ x c, Y.env.cells.lookup x = some c → c ≠ S)
    (k : ∀ b o, b ≠ S → s.heap.get? b = some o → h'.get? b = some o) (hS : h'.get? S = some o') (hd : ∀ v, o'.data ≠ .cell v) : Inv Y [(ga, o), (S, o')] σ0 H' { s with heap := h', toks := t' } := by
  obtain ⟨a1, a2, a3, a4, a5⟩ := I.pin (S, oS) (List.mem_append_right _ (by simp))
  have I1 : Inv Y [(ga, o)] σ0 H' s := I.pins_of fun p hp => I.pin p (List.mem_append_right _ (by
    have e : p = (ga, o) := by simpa using hp
    rw [e]; simp))
  have I2 : Inv Y [(ga, o)] σ0 H' { s with heap := h', toks := t' } := I1.turned k a2 a3 (.inr hS0) hcl fun p hp => by
    rw [hpn] at hp
    have e : p = (ga, o) := by simpa using hp
    rw [e]
    exact Ne.symm hg
  refine I2.pins_of fun p hp => ?_
  rcases List.mem_cons.mp hp with e | hp
  · subst e
    exact I2.pin _ (List.mem_append_right _ (by simp))
  · have e : p = (S, o') := by simpa using hp
    subst e
    exact ⟨hS, a2, a3, a4, hd⟩
/-- a new object pinned -/
theorem inv_pin {Y : Cx} {σ0 : L2.St} {H' : Hp} {s : Shared} {o oS : Obj} {t' : Nat} (I : Inv Y [(ga, o)] σ0 H' s) (hd : ∀ v, oS.data ≠ .cell v) (hst : oS.isFreed = false) : Inv Y [(ga, o), (s.heap.objs.size, oS)] σ0 H' { s with heap := s.heap.push oS, toks := t' } := by
  have I2 : Inv Y [(ga, o)] σ0 H' { s with heap := s.heap.push oS, toks := t' } := I.kept fun b u e => Heap.get?_push_of_some _ e
  refine I2.pins_of fun p hp => ?_
  rcases List.mem_cons.mp hp with e | hp
  · subst e
    exact I2.pin _ (List.mem_append_right _ (by simp))
  · have e : p = (s.heap.objs.size, oS) := by simpa using hp
    subst e
    exact ⟨Heap.get?_push_size _ hst, I.hok.fresh (Nat.le_refl _), Nat.ne_of_gt I.lt, fun z => I.nofs (Nat.le_refl _) z, hd⟩

theorem pins2 {p : Addr × Obj} {a b : Addr} {o o' : Obj} (h : p ∈ [(a, o), (b, o')]) : p.1 = a ∨ p.1 = b := by
  rcases List.mem_cons.mp h with e | h
  · exact .inl (by rw [e])
  · exact .inr (by rw [List.mem_singleton.mp h])
def FList (cvs : List V) (o : Obj) : Prop := ∃ acc c, o = lsObj acc c ∧ Vals cvs acc.toList
theorem Vals.push {cvs : List V} {acc : Array Value} {cv : V} {v : Value} (h : Vals cvs acc.toList) (r : L2.RelV cv v) : Vals (cvs ++ [cv]) (acc.push v).toList := by
  rw [Array.toList_push]
  exact Paired.snoc h r
/-- what stands when a list has been filled -/
structure Filled (C : Cfg) (X : Cx) (pins : List (Addr × Obj)) (σ : L2.St) (g0 : Gh) (TR : List (AV × AH)) (FIN : Option AH) (S : Addr) (s' : Shared) : Prop where
  ex : ∃ H' g' h' cvs acc c, FIN = some h' ∧ Inv X pins σ H' s' ∧ Ext g0 g' ∧ Rep C g' h' H' ∧ RelL C g' (TR.map (·.1)) cvs ∧ s'.heap.get? S = some (lsObj acc c) ∧ Vals cvs acc.toList ∧ acc.size = TR.length
theorem extend_loop {S : Addr} {A' : Around} {res : Value} {R : Result → Shared → Prop} (W : GW C X pins σ g0 TR FIN (holdsAt S FList) ga gi) (hr : X.A.depth + 1 < recursionLimit) (hz : TR.length ≤ sizeLine) (hSg : S ≠ ga) (hS0 : W.s4.heap.objs.size ≤ S)
    (nx : ∀ (t : Sem (Option Value)) (Q : Option Value → Shared → Prop) (E : Value → Shared → Prop) (s : Shared), wpAny (model X.prog X.w) X.A.in4 t Q E s → wpAny (model X.prog X.w) A'.in1 t Q E s)
    (hcl : ∀ x c, W.Y.env.cells.lookup x = some c → c ≠ S) (hFe : ∀ b ∈ W.fp, b ≠ S) (hFg : ∀ b ∈ W.fp, b ≠ ga) (hpn : W.Y.pn = []) (hsome : FIN.isSome = true)
    (hR : ∀ s', Filled C X pins σ g0 TR FIN S s' → R (.ok (.ret res)) s') :
    ∀ (k j : Nat) (s : Shared), TR.length - j = k → W.At j s → codeAny (model X.prog X.w) A' (.builtin "list.extend.loop" ⟨[.ref S, .ref ga, res], []⟩) R s := by
  intro k
  induction k with
  | zero =>
    intro j s hk hst
    refine codeAny_builtin F.entry_extend_loop ?_
    rw [Around.under_plainId F.plain_extend_loop _]
    show wpAny _ A'.in1 (pyNext (.ref ga) >>= _) _ _ s
    refine wpAny_bind (nx _ _ _ _ (W.next hr hst (fun v s' hG => ?_) (fun s' hE hj => ?_)))
    · obtain ⟨H', g', h', PN, cvs, pre, rest, y, cv, hT, hp, _⟩ := hG.ex
      have := congrArg List.length hT
      simp at this
      omega
    · obtain ⟨H', g', h', PN, cvs, hF, I, e, r, rl, hC⟩ := hE.ex
      obtain ⟨oS, hmS, acc, c, rfl, hv⟩ := hC.2.2
      refine wpAny_pure (hR s' ⟨H', g', h', cvs, acc, c, hF, W.back I (fun _ _ e => e) rfl I.bare, e, r, rl, (I.pin _ (List.mem_append_right _ hmS)).1, hv, ?_⟩)
      have h1 : cvs.length = acc.size := by simpa using hv.length
      have h2 := rl.len
      rw [List.length_map] at h2
      omega
  | succ k ih =>
    intro j s hk hst
    refine codeAny_builtin F.entry_extend_loop ?_
    rw [Around.under_plainId F.plain_extend_loop _]
    show wpAny _ A'.in1 (pyNext (.ref ga) >>= _) _ _ s
    refine wpAny_bind (nx _ _ _ _ (W.next hr hst (fun v s' hG => ?_) (fun s' hE hj => by omega)))
    obtain ⟨H', g', h', PN, cvs, pre, rest, y, cv, hT, hp, hcl', I, e, r, rl, hC, rv, ra, hgi, kk⟩ := hG.ex
    obtain ⟨oS, hmS, acc, c, rfl, hv⟩ := hC.2.2
    obtain ⟨⟨o, hmo, hiso⟩, _⟩ := hC
    have hTl : TR.length = pre.length + (rest.length + 1) := by rw [hT]; simp
    have hasz : acc.size = j := by
      have h1 : cvs.length = acc.size := by simpa using hv.length
      omega
    have hS1 := (I.pin _ (List.mem_append_right _ hmS)).1
    have I2 : Inv W.Y [(ga, o), (S, lsObj acc c)] W.σ0 H' s' := I.pins_of fun p hp => by
      rcases List.mem_cons.mp hp with e | hp
      · subst e
        exact I.pin _ (List.mem_append_right _ hmo)
      · have e : p = (S, lsObj acc c) := by simpa using hp
        subst e
        exact I.pin _ (List.mem_append_right _ hmS)
    show wpAny _ A'.in1 (updateSeq S (·.push v) >>= _) _ _ _
    refine wpAny_bind ?_
    refine wpAny_updateSeq hS1 rfl (wpAny_pure ⟨plainId_quiet F.plain_extend_loop _, ih (j + 1) _ (by omega) ?_⟩) (by omega) (by show (acc.push v).size ≤ sizeLine + 1; rw [Array.size_push]; omega)
    have oth : ∀ b o, b ≠ S → s'.heap.get? b = some o → (s'.heap.update S (Obj.mapSeq (·.push v))).get? b = some o := fun b o hb e => (Heap.get?_update_other _ _ (Ne.symm hb)).trans e
    have hS2 := Heap.get?_update_self (Obj.mapSeq (·.push v)) hS1 rfl
    have I3 := inv_put (t' := s'.toks) I2 hSg (by rw [W.s0]; exact hS0) hpn hcl oth hS2 (fun v z => by cases z)
    exact kk (.inr hsome) _ [(ga, o), (S, _)] I3 ⟨⟨o, by simp, hiso⟩, fun p hp z => (pins2 hp).elim (fun q => hFg _ z q) (fun q => hFe _ z q), ⟨_, List.mem_cons_of_mem _ (List.mem_singleton.mpr rfl), _, _, rfl, Vals.push hv rv⟩⟩ (fun b hb o e => oth b o (hFe b hb) e) rfl
/-- what a generator just made is ready for -/
structure Ready {S : Addr} (W : GW C X pins σ g0 TR FIN (holdsAt S FList) ga gi) (o : Obj) (H4 : Hp) (s5 : Shared) : Prop where
  gen : s5.heap.IsGen ga gi
  lt : ga < s5.heap.objs.size
  is : ∀ s : Shared, s.heap.get? ga = some o → s.heap.IsGen ga gi
  fp : ∀ b ∈ W.fp, b ≠ ga ∧ b < s5.heap.objs.size
  inv : Inv W.Y [(ga, o)] W.σ0 H4 s5
  pn : W.Y.pn = []
  go : ∀ s6 PN6, Inv W.Y PN6 W.σ0 H4 s6 → W.CONS [] PN6 → (∀ b ∈ W.fp, ∀ o, s5.heap.get? b = some o → s6.heap.get? b = some o) → s6.gens = s5.gens → W.At 0 s6
  s4 : W.s4.heap.objs.size ≤ s5.heap.objs.size
/-- filling the list at S from the generator -/
theorem extend_gw {B : Around} {res : Value} {S : Addr} {R : Result → Shared → Prop} {Qf : PySem.Fin → Shared → Prop} {E : Value → Shared → Prop} {s5 : Shared} {o : Obj} {H4 : Hp} {h' : Heap} {n t' : Nat} (W : GW C X pins σ g0 TR FIN (holdsAt S FList) ga gi) (hr : X.A.depth + 1 < recursionLimit) (hz : TR.length ≤ sizeLine) (hsome : FIN.isSome = true) (Rd : Ready W o H4 s5)
    (nx : ∀ (t : Sem (Option Value)) (Q : Option Value → Shared → Prop) (E : Value → Shared → Prop) (s : Shared), wpAny (model X.prog X.w) X.A.in4 t Q E s → wpAny (model X.prog X.w) B.in1 t Q E s)
    (hSS : S = s5.heap.objs.size) (hs : h'.get? S = some (lsObj #[] n)) (hk : ∀ b u, s5.heap.get? b = some u → h'.get? b = some u)
    (hQ : ∀ s', codeAny (model X.prog X.w) B (.builtin "list.extend.loop" ⟨[.ref S, .ref ga, res], []⟩) R s' → Qf (.again (.builtin "list.extend.loop" ⟨[.ref S, .ref ga, res], []⟩)) s')
    (hR : ∀ s', Filled C X pins σ g0 TR FIN S s' → R (.ok (.ret res)) s') :
    wpAny (model X.prog X.w) B.in1 (Builtin.List.listExtendWith (.ref S) (.ref ga) res) Qf E { s5 with heap := h', toks := t' } := by
  have hSg : S ≠ ga := by rw [hSS]; exact Nat.ne_of_gt Rd.lt
  have hsz : s5.heap.objs.size ≤ S := by rw [hSS]; exact Nat.le_refl _
  have tyG : ∀ {h : Heap}, (∀ b u, s5.heap.get? b = some u → h.get? b = some u) → h.IsGen ga gi := fun {h} q => Rd.gen.keeps q
  unfold Builtin.List.listExtendWith
  refine wpAny_bind (wpAny_typeOf (Heap.IsGen.typeIs (s := { s5 with heap := _, toks := _ }) (tyG hk)) ?_)
  have h1 : Builtin.List.listSameRef (.ref S) (.ref ga) = false := by simp [Builtin.List.listSameRef, hSg]
  have h2 : (Value.type "generator" == Value.type "list") = false := by decide
  have h3 : (Value.type "generator" == Value.type "tuple") = false := by decide
  simp only [h1, h2, h3, Bool.or_false, Bool.false_eq_true, if_false]
  refine wpAny_bind (wpAny_pyIter_gen (s := { s5 with heap := _, toks := _ }) (tyG hk) ?_)
  refine wpAny_bind (wpAny_holding ?_)
  unfold Builtin.List.listLengthHint
  refine wpAny_bind (wpAny_specialOf (Heap.IsGen.typeIs (s := { s5 with heap := _, toks := _ }) (tyG hk)) F.gen_no_len ?_)
  show wpAny _ B.in1 (specialOf (Value.ref ga) (Str.ofString "__length_hint__") >>= _) _ _ _
  refine wpAny_bind (wpAny_specialOf (Heap.IsGen.typeIs (s := { s5 with heap := _, toks := _ }) (tyG hk)) F.gen_no_hint ?_)
  refine wpAny_pure ?_
  show wpAny _ B.in1 (rule "list.extend.makes-room" >>= fun _ => Builtin.List.listTouch (.ref S) >>= fun _ =>
    again (.builtin "list.extend.loop" ⟨[.ref S, .ref ga, res], []⟩)) _ _ _
  refine wpAny_bind (wpAny_rule ?_)
  refine wpAny_bind ?_
  show wpAny _ B.in1 (updateSeq S (·.push .none) >>= fun _ => updateSeq S (·.pop)) _ _ _
  refine wpAny_bind (wpAny_updateSeq hs rfl ?_)
  have hS3 := Heap.get?_update_self (Obj.mapSeq (·.push Value.none)) hs rfl
  refine wpAny_updateSeq (hz := by seq_fits) hS3 rfl ?_
  have hS4 := Heap.get?_update_self (Obj.mapSeq (·.pop)) hS3 rfl
  have oth : ∀ b u, s5.heap.get? b = some u → ((h'.update S (Obj.mapSeq (·.push Value.none))).update S (Obj.mapSeq (·.pop))).get? b = some u := fun b u e => by
    have hne : S ≠ b := fun z => by
      have := Heap.lt_size e
      rw [← z] at this
      exact absurd (Nat.lt_of_lt_of_le this hsz) (Nat.lt_irrefl _)
    exact (Heap.get?_update_other _ _ hne).trans ((Heap.get?_update_other _ _ hne).trans (hk b u e))
  have I6 : Inv W.Y [(ga, o)] W.σ0 H4 { s5 with heap := (h'.update S (Obj.mapSeq (·.push Value.none))).update S (Obj.mapSeq (·.pop)), toks := t' } := Rd.inv.kept oth
  have hY : W.Y.s_0.heap.objs.size ≤ S := by rw [W.s0]; exact Nat.le_trans Rd.s4 hsz
  have hclS : ∀ x c, W.Y.env.cells.lookup x = some c → c ≠ S := fun x c e z => by
    obtain ⟨v, q⟩ := Rd.inv.cell x c e
    exact absurd (Nat.lt_of_lt_of_le q.lt (by rw [z]; exact hsz)) (Nat.lt_irrefl _)
  have I7 : Inv W.Y [(ga, o), (S, lsObj #[] (n + 1 + 1))] W.σ0 H4 { s5 with heap := (h'.update S (Obj.mapSeq (·.push Value.none))).update S (Obj.mapSeq (·.pop)), toks := t' } := I6.pins_of fun p hp => by
    rcases List.mem_cons.mp hp with e | hp
    · subst e
      exact I6.pin _ (List.mem_append_right _ (by simp))
    · have e : p = (S, lsObj #[] (n + 1 + 1)) := by simpa using hp
      subst e
      exact ⟨hS4, Rd.inv.hok.fresh hsz, Nat.ne_of_gt (Nat.lt_of_lt_of_le Rd.inv.lt hsz), fun z => Rd.inv.nofs hsz z, fun v z => by cases z⟩
  refine wpAny_pure (hQ _ ?_)
  refine extend_loop W hr hz hSg (by exact Nat.le_trans Rd.s4 hsz) nx hclS (fun b hb z => absurd (Rd.fp b hb).2 (by rw [z]; exact Nat.not_lt.mpr hsz)) (fun b hb => (Rd.fp b hb).1) Rd.pn hsome hR _ 0 _ rfl ?_
  refine Rd.go _ _ I7 ⟨⟨o, by simp, Rd.is⟩, fun p hp z => (pins2 hp).elim (fun q => (Rd.fp _ z).1 q) (fun q => absurd (Rd.fp _ z).2 (by rw [q]; exact Nat.not_lt.mpr hsz)), ⟨_, List.mem_cons_of_mem _ (List.mem_singleton.mpr rfl), _, _, rfl, .nil⟩⟩ (fun b hb o e => oth b o e) rfl
theorem collect_gw {B : Around} {Q : List Value → Shared → Prop} {E : Value → Shared → Prop} {s5 : Shared} {o : Obj} {H4 : Hp} (W : GW C X pins σ g0 TR FIN (holdsAt s5.heap.objs.size FList) ga gi) (hr : X.A.depth + 1 < recursionLimit) (hz : TR.length ≤ sizeLine) (hsome : FIN.isSome = true) (Rd : Ready W o H4 s5)
    (nx : ∀ (t : Sem (Option Value)) (Q : Option Value → Shared → Prop) (E : Value → Shared → Prop) (s : Shared), wpAny (model X.prog X.w) X.A.in4 t Q E s → wpAny (model X.prog X.w) B.in1 t Q E s)
    (hQ : ∀ s' H' g' h' cvs acc, FIN = some h' → Inv X pins σ H' s' → Ext g0 g' → Rep C g' h' H' → RelL C g' (TR.map (·.1)) cvs → Vals cvs acc → acc.length = TR.length → Q acc s') : wpAny (model X.prog X.w) B (collect (.ref ga)) Q E s5 := by
  unfold collect
  refine wpAny_bind (wpAny_runValue (codeAny_builtin F.entry_proto_collect ?_))
  rw [Around.under_plainId F.plain_proto_collect _]
  show wpAny _ B.in1 (newList [] >>= fun l => again (.builtin "list.__iadd__" ⟨[l, .ref ga], []⟩)) _ _ s5
  refine wpAny_bind (wpAny_newObj_type ?_)
  refine wpAny_pure ⟨plainId_quiet F.plain_list_iadd _, codeAny_builtin F.entry_list_iadd ?_⟩
  rw [Around.under_plainId F.plain_list_iadd _]
  show wpAny _ B.in1 (Builtin.List.listExtendWith (.ref s5.heap.objs.size) (.ref ga) (.ref s5.heap.objs.size)) _ _ _
  refine extend_gw (t' := s5.toks) (n := 0) W hr hz hsome Rd nx rfl (Heap.get?_push_size _ rfl) (fun b u e => Heap.get?_push_of_some _ e) (fun s' hc => ⟨plainId_quiet F.plain_extend_loop _, hc⟩) fun s' hF => ?_
  obtain ⟨H', g', h', cvs, acc, c, h1, h2, h3, h4, h5, h6, h7, h8⟩ := hF.ex
  show wpAny _ B (load s5.heap.objs.size >>= _) _ _ s'
  refine wpAny_bind (wpAny_load h6 ?_)
  exact wpAny_pure (hQ s' H' g' h' cvs acc.toList h1 h2 h3 h4 h5 h7 (by simpa using h8))
/-- tuple(generator) -/
theorem call_tuple_gw {Q : Value → Shared → Prop} {E : Value → Shared → Prop} {s5 : Shared} {o : Obj} {H4 : Hp} (W : GW C X pins σ g0 TR FIN (holdsAt s5.heap.objs.size FList) ga gi) (hr : X.A.depth + 1 < recursionLimit) (hz : TR.length ≤ sizeLine) (hsome : FIN.isSome = true) (Rd : Ready W o H4 s5)
    (hQ : ∀ s' H' g' h' cvs acc, FIN = some h' → Inv X pins σ H' s' → Ext g0 g' → Rep C g' h' H' → RelL C g' (TR.map (·.1)) cvs → Vals cvs acc → acc.length = TR.length → Q (.ref s'.heap.objs.size) { s' with heap := s'.heap.push { cls := .type "tuple", data := .seq acc.toArray } }) :
    wpAny (model X.prog X.w) X.A (call (.type "tuple") [.ref ga]) Q E s5 := by
  refine callType_codes (Q₁ := fun obj s₁ => s₁.TypeIs obj "tuple" ∧ Q obj s₁) F.called_tuple (F.typeCall_tuple_1 _) F.entry_object_init ?_ fun obj s₁ h₁ => ?_
  · refine codeAny_of_tree ?_
    show wpAny _ X.A.in1.in1 (do checkBuiltinCall "tuple.__new__" ⟨[.type "tuple", .ref ga], []⟩; again (.builtin "tuple.__new__" ⟨[.type "tuple", .ref ga], []⟩)) _ _ s5
    refine wpAny_bind (wpAny_of_eq (F.newCall_tuple_1 _) (wpAny_pure ⟨plainId_quiet F.plain_tuple_new _, codeAny_builtin F.entry_tuple_new ?_⟩))
    rw [Around.under_plainId F.plain_tuple_new _]
    have hsub := sub_tuple_self
    have hinit := init_tuple_lookup
    have hmh := madeHere_tuple
    have hTI : s5.TypeIs (.ref ga) "generator" := Rd.gen.typeIs
    wp_walk using wpAny_typeOf hTI, collect_gw W hr hz hsome Rd (fun t Q E s h => wpAny_of_in1 (A := X.A.in1.in1.in1) h)
    intro s' H' g' h' cvs acc a1 a2 a3 a4 a5 a6 a7
    show wpAny _ _ (Builtin.Tuple.tupleExact acc.toArray >>= fun v => ret v) _ _ _
    unfold Builtin.Tuple.tupleExact
    refine wpAny_bind (wpAny_newObj_type ?_ (by show acc.toArray.size ≤ sizeLine; simp only [List.size_toArray]; rw [a7]; exact hz))
    exact wpAny_pure ⟨⟨_, Heap.get?_push_size _ rfl, rfl⟩, hQ s' H' g' h' cvs acc a1 a2 a3 a4 a5 a6 a7⟩
  · exact ⟨h₁.1, F.args_object_init_2 obj _, object_init_meets F.called_tuple.init.lookup F.called_tuple.made (by decide) X.prog X.w X.A.in1 _ s₁ ⟨h₁.1, rfl, h₁.2⟩⟩
/-- sorted(generator) -/
theorem call_sorted_gw {Q : Value → Shared → Prop} {E : Value → Shared → Prop} {s5 : Shared} {o : Obj} {H4 : Hp} (W : GW C X pins σ g0 TR FIN (holdsAt s5.heap.objs.size FList) ga gi) (hr : X.A.depth + 1 < recursionLimit) (hz : TR.length ≤ sizeLine) (hsome : FIN.isSome = true) (Rd : Ready W o H4 s5)
    (hQ : ∀ s' H' g' h' cvs vs, FIN = some h' → Inv X pins σ H' s' → Ext g0 g' → Rep C g' h' H' → RelL C g' (TR.map (·.1)) cvs → Vals cvs vs → vs.length = TR.length →
      ∀ (h₁ : Heap) (a : Addr), h₁.get? a = some (seqObj "list" vs.toArray 0) → s'.heap.objs.size ≤ a → (∀ b o, s'.heap.get? b = some o → h₁.get? b = some o) → ∀ (R : PySem.Fin → Shared → Prop) (E : Value → Shared → Prop), (∀ s2, Q (.ref a) s2 → R (.done (.ret .none)) s2) →
        wpAny (model X.prog X.w) X.A.in1.in1 (Builtin.«list.sort» ⟨[.ref a], []⟩) R E { s' with heap := h₁ }) :
    wpAny (model X.prog X.w) X.A (call (.builtin "sorted") [.ref ga]) Q E s5 := by
  refine Calls.call_function_entry kind_sorted plain_sorted entry_sorted (args_sorted1 _) ?_
  unfold Builtin.«sorted»
  refine wpAny_bind (m := checkCount "sorted" 1 1 _) (wpAny_pure ?_)
  refine wpAny_bind (collect_gw W hr hz hsome Rd (fun t Q E s h => wpAny_of_in1 (A := X.A.in1.in1) (wpAny_of_in1 (A := X.A.in1.in1.in1) h)) fun s' H' g' h' cvs vs a1 a2 a3 a4 a5 a6 a7 => ?_)
  have hzv : vs.length ≤ sizeLine := by rw [a7]; exact hz
  refine wpAny_bind (wpAny_newList ?_ hzv)
  have hoL : (s'.heap.push (seqObj "list" vs.toArray 0)).get? s'.heap.objs.size = some (seqObj "list" vs.toArray 0) := Heap.get?_push_size _ rfl
  show wpAny _ _ _ _ _ { s' with heap := s'.heap.push (seqObj "list" vs.toArray 0) }
  refine wpAny_bind (wpAny_holding (wpAny_call_entry slot_list_sort ⟨_, hoL, rfl⟩ entry_list_sort (hQ s' H' g' h' cvs vs a1 a2 a3 a4 a5 a6 a7 _ _ hoL (Nat.le_refl _) (fun b o q => Heap.get?_push_of_some _ q) _ _ fun s2 hq => ⟨_, rfl, ?_⟩) (args_list_sort _)))
  exact wpAny_pure ⟨_, rfl, hq⟩
theorem lc_tr {gt : TF} {fc f : EF} {s0 : St} {gd : Gd} {h2 : AH} : ∀ (items : List AV) (h : AH) (ys : List AV), lcGo φ gt fc f s0 gd items h = .ok ys h2 → ∃ TR, LcTr φ gt fc f s0 gd items h TR (some h2) ∧ TR.map (·.1) = ys ∧ TR.length ≤ items.length
  | [], h, ys, e => by
    unfold lcGo at e
    obtain ⟨hk, e⟩ := ite_eq_ok e
    cases e
    exact ⟨[], .done hk, rfl, Nat.le_refl _⟩
  | x :: r, h, ys, e => by
    unfold lcGo at e
    obtain ⟨hk, e⟩ := ite_eq_ok e
    cases hg : gt x s0 with
    | none => rw [hg] at e; cases e
    | some s1 =>
      rw [hg] at e
      simp only at e
      obtain ⟨bv, hb, eb, e1⟩ := bind_eq_ok e
      obtain ⟨bb, rfl, e2⟩ := tst_eq_ok e1
      cases bb with
      | false =>
        rw [if_neg Bool.false_ne_true] at e2
        obtain ⟨TR, t, e5, e6⟩ := lc_tr r hb _ e2
        exact ⟨TR, .skip hk hg eb t, e5, Nat.le_succ_of_le e6⟩
      | true =>
        rw [if_pos rfl] at e2
        obtain ⟨y, hy2, ey, e3⟩ := bind_eq_ok e2
        obtain ⟨ys', h3, er, e4⟩ := bind_eq_ok e3
        cases e4
        obtain ⟨TR, t, e5, e6⟩ := lc_tr r hy2 _ er
        exact ⟨(y, hy2) :: TR, .give hk hg eb ey t, by rw [List.map_cons, e5], Nat.succ_le_succ e6⟩
end
section
variable {C : Cfg} {φ : Fn} {X : Cx}
variable {elt tg iter : Expr} {ifs : List Expr} {scope : Scope} {own : List (Str × Nat)} {sl : List Nat} {fi : IF_} {gt : TF} {fc f : EF} {p gpos pos : Pos} {k : Nat}
theorem SZ_le : SZ ≤ sizeLine := by first | decide | (unfold SZ sizeLine; omega) | decide +kernel
/-- a generator expression, made, its run told -/
theorem gn_core {pins : List (Addr × Obj)} {σ : L2.St} {H : Hp} {s : Shared} {g : Gh} {st : St} {h : AH} {b : UB} {N : Nat → Hp → Prop} {Q : VK} {Q' : Value → Shared → Prop} (A : At C X) (hr : Room (k + 2) X.A) (G : GenM C X) (P : GnP C φ X elt tg iter ifs scope own sl fi gt fc f) (tk : Takes X (wX C N)) (I : Inv X pins σ H s) (r : Rep C g h H) (rs : RelS C g st σ)
    (ok : okG C g (eGen b (own.map (·.2)) fi gt fc f φ st h) (fun x g' _ H' => ∀ v, RelA C g' x v → Q v H') N)
    (hQ : ∀ s5 ga gi g0 TR h2 o H4 (W : GW C X pins σ g0 TR (some h2) (holdsAt s5.heap.objs.size FList) ga gi), Ext g g0 → Ready W o H4 s5 → TR.length ≤ sizeLine → okG C g (uL b (TR.map (·.1)) h2) (fun x g' _ H' => ∀ v, RelA C g' x v → Q v H') N → Q' (.ref ga) s5) :
    wpAny (model X.prog X.w) X.A (eval (.GeneratorExp elt [⟨tg, iter, ifs, 0⟩] scope gpos) X.env) Q' X.xe s := by
  refine gen_mk G hr P.hi tk P.ok P.hco P.hcell P.h0 P.hs I r rs ?_
  unfold eGen at ok
  cases z : fi φ st h with
  | exc c h1 => rw [z] at ok; exact ok
  | stuck => rw [z] at ok; exact ok
  | ok p h1 =>
    rw [z] at ok
    simp only [bind_ok] at ok
    intro g' H' e1 r1 ga s5 hG
    split at ok
    · rename_i hz
      obtain ⟨ys, h2, e2, ok2⟩ := quiet_bind ok
      obtain ⟨TR, hLc, rfl, hle⟩ := lc_tr p.1 h1 ys e2
      obtain ⟨g1, gi, e3, W, o, H4, hgen, hlt, hisg, hfo, I5, r5, hSt⟩ := gw_start (USER := holdsAt s5.heap.objs.size FList) A.calm A.nd P.ok P.hcell P.hco P.hsl rs (fun s H code fp => (P.hg s H code fp).run) P.ht (fun s H code fp => (P.he s H code fp).run N0 takesN0) hLc hG
      refine hQ s5 ga gi g1 TR h2 o H4 W e3 ⟨hgen, hlt, hisg, hfo, I5, W.hpn, hSt, ?_⟩ (Nat.le_trans hle (Nat.le_trans (Nat.le_of_lt hz) SZ_le)) ok2
      · exact Nat.le_of_lt (Nat.lt_trans W.big hlt)
    · exact ok.elim
/-- tuple(generator) -/
theorem se_genTuple (A : At C X) (hr : Room (k + 2) X.A) (G : GenM C X) (hg : L2.Gl X "tuple") (hm : X.mg "tuple" = none) (P : GnP C φ X elt tg iter ifs scope own sl fi gt fc f) :
    SE C φ X (.Call (.Name "tuple" p) [.GeneratorExp elt [⟨tg, iter, ifs, 0⟩] scope gpos] [] pos) (eGen .tuple (own.map (·.2)) fi gt fc f) := by
  have he : starEach [.GeneratorExp elt [⟨tg, iter, ifs, 0⟩] scope gpos] X.env = (false, eval (.GeneratorExp elt [⟨tg, iter, ifs, 0⟩] scope gpos) X.env) :: starEach [] X.env := rfl
  refine ⟨fun N tk => ⟨fun pins s σ H Q I ⟨g, st, h, r, rs, ok⟩ => ?_⟩⟩
  refine wpAny_Call_Name_kw (L2.ld_blt I hg hm boot_tuple ?_)
  refine PyProof.Rows.callWith_type1 ?_ he (by rfl)
  rw [he]
  show wpAny _ _ (spliced ((false, eval (.GeneratorExp elt [⟨tg, iter, ifs, 0⟩] scope gpos) X.env) :: backTo pos (starEach [] X.env))) _ _ s
  refine Calls.spliced_cons (gn_core (b := .tuple) A hr G P tk I r rs ok fun s5 ga gi g0 TR h2 o H4 W e0 Rd hz ok2 => ?_)
  refine Calls.spliced_nil ?_
  have hroom : X.A.depth + 1 < recursionLimit := by have := hr.dp; omega
  refine call_tuple_gw W hroom hz rfl Rd fun s' H' g' h' cvs acc h1 I' e' r' rl hv hl => ?_
  cases h1
  have hn := I'.hok.fresh (Nat.le_refl s'.heap.objs.size)
  refine ⟨.ref s'.heap.objs.size, upd H' s'.heap.objs.size (.tup cvs), I'.laid (t' := s'.toks) (fun b u e => Heap.get?_push_of_some _ e) (Nat.le_refl _) ⟨?_, acc, hv, ?_⟩, rfl, tup_at r' rl (okG.ext ok2 (e0.trans e')) _ hn⟩
  · rw [hv.length, hl]; exact hz
  · exact ⟨_, Heap.get?_push_size _ rfl, rfl, 0, rfl⟩
/-- the list sorted -/
theorem sort_done {pins : List (Addr × Obj)} {σ : L2.St} {H' : Hp} {s' : Shared} {g' : Gh} {h2 : AH} {m : Bool} {zs : List AV} {ws : List V} {vs : List Value} {out : Array Value} {h₁ : Heap} {a : Addr} {Q : VK} {N : Nat → Hp → Prop} (I' : Inv X pins σ H' s') (r' : Rep C g' h2 H') (ha : h₁.get? a = some (seqObj "list" vs.toArray 0)) (hsz : s'.heap.objs.size ≤ a) (hk : ∀ b o, s'.heap.get? b = some o → h₁.get? b = some o)
    (hl : ws.length ≤ sizeLine) (hv : Vals ws out.toList) (rl : RelL C g' zs ws) (ok : okG C g' (mk m zs h2) (fun x g' _ H' => ∀ v, RelA C g' x v → Q v H') N) :
    EP X pins σ Q (.ref a) { s' with heap := sortedHeap h₁ a vs out } := by
  obtain ⟨e, he⟩ := PyProof.Rows.sortedHeap_at (out := out) ha
  refine ⟨.ref a, upd H' a (.lst ws), I'.laid (t' := s'.toks) (fun b u q => ?_) hsz ⟨hl, out.toList, e, hv, he⟩, rfl, mk_at r' rl ok _ (I'.hok.fresh hsz)⟩
  have hlt := Heap.lt_size q
  rw [PyProof.Rows.sortedHeap_old (Nat.ne_of_lt (Nat.lt_of_lt_of_le hlt hsz)) (Nat.lt_of_lt_of_le hlt (Nat.le_of_lt (Nat.lt_of_le_of_lt hsz (Heap.lt_size ha))))]
  exact hk b u q
theorem paired_okS {R : Int × Int → V → Prop} {ts : List (Int × Int)} {xs : List V} (h : Paired R ts xs) : ts.length = xs.length := Paired.length h
/-- sorted(generator) -/
theorem se_genSorted (A : At C X) (m : Bool) (hr : Room (k + 2) X.A) (G : GenM C X) (hg : L2.Gl X "sorted") (hm : X.mg "sorted" = none) (P : GnP C φ X elt tg iter ifs scope own sl fi gt fc f) :
    SE C φ X (.Call (.Name "sorted" p) [.GeneratorExp elt [⟨tg, iter, ifs, 0⟩] scope gpos] [] pos) (eGen (.sorted m) (own.map (·.2)) fi gt fc f) := by
  have he : starEach [.GeneratorExp elt [⟨tg, iter, ifs, 0⟩] scope gpos] X.env = (false, eval (.GeneratorExp elt [⟨tg, iter, ifs, 0⟩] scope gpos) X.env) :: starEach [] X.env := rfl
  refine ⟨fun N tk => ⟨fun pins s σ H Q I ⟨g, st, h, r, rs, ok⟩ => ?_⟩⟩
  refine wpAny_Call_Name_kw (L2.ld_blt I hg hm boot_sorted ?_)
  refine PyProof.Rows.callWith_builtin1 ?_ he (by rfl)
  rw [he]
  show wpAny _ _ (spliced ((false, eval (.GeneratorExp elt [⟨tg, iter, ifs, 0⟩] scope gpos) X.env) :: backTo pos (starEach [] X.env))) _ _ s
  refine Calls.spliced_cons (gn_core (b := .sorted m) A hr G P tk I r rs ok fun s5 ga gi g0 TR h2 o H4 W e0 Rd hz ok2 => ?_)
  refine Calls.spliced_nil ?_
  have hroom : X.A.depth + 1 < recursionLimit := by have := hr.dp; omega
  refine call_sorted_gw W hroom hz rfl Rd fun s' H' g' h' cvs vs h1 I' e' r' rl hv hl h₁ a ha hsz hk R E hR => ?_
  cases h1
  have hzv : vs.length ≤ sizeLine := by rw [hl]; exact hz
  have ok3 := okG.ext ok2 (e0.trans e')
  simp only [uL] at ok3
  split at ok3
  · rename_i ys e
    unfold sortA at e
    split at e
    · rename_i ns en
      simp only [Option.some.injEq] at e
      rw [← e] at ok3
      rw [ints_rel rl en] at hv
      refine list_sort_treeAny ha hv.ints hzv fun out ns' q1 q2 q3 => ?_
      have ok4 := ok3
      rw [← sortI_of q2 q3] at ok4
      refine hR _ (sort_done (s' := s') (m := m) I' r' ha hsz hk ?_ (L2.vals_of_ints q1) (relL_ints _) ok4)
      rw [List.length_map, q2.length_eq]
      have := hv.length
      rw [List.length_map] at this
      omega
    · split at e
      · rename_i ss es
        split at e
        · rename_i hz64
          simp only [Option.some.injEq] at e
          rw [← e] at ok3
          have ev := strs_rel rl es
          have ev2 : cvs = (ss.map toS).map V.str := by rw [ev, List.map_map]; rfl
          rw [ev2] at hv
          have hS := hv.strs
          refine list_sort_treeKAny strKind_oneLt ha hS.keysOf (fun v₁ v₂ rest e => keyKind_strs (by rw [← e]; exact hS)) hzv fun st' hp hs => ?_
          obtain ⟨ss', q1, q2, q3⟩ := sorted_out_str hS hp hs
          refine hR _ (sort_done (s' := s') I' r' ha hsz hk ?_ (L2.vals_of_strs q1) (by rw [sortS_of q2 q3]; exact relL_strs _) ok3)
          rw [List.length_map, q2.length_eq]
          have := hv.length
          rw [List.length_map] at this
          omega
        · cases e
      · split at e
        · rename_i ts et
          simp only [Option.some.injEq] at e
          rw [← e] at ok3
          obtain ⟨_, hp⟩ := prs_rel rl et
          have hR0 : ∀ (p : Int × Int) v, (∃ t, v = V.ref t ∧ SqT C.K g'.fx t [.int p.1, .int p.2]) → IsPr X.K H' p v := fun p v ⟨t, e1, e2⟩ => ⟨t, e1, SqT.mono (fun b o q => (r'.fx b o q).1) (by rw [A.K]; exact e2)⟩
          obtain ⟨t1, t2⟩ := paired_two I' hR0 hp hv
          refine SrtO.list_sort_ord (SrtO.swo_lex (twoOf X.K H')) ha hzv (fun h2 => ?_) fun out o1 o2 => ?_
          · refine SrtO.pairs_sortableO (s := { s' with heap := h₁ }) (by omega) (fun v hm => ?_) fun o q => ?_
            · obtain ⟨_, t, e, hq⟩ := t2 v hm
              obtain ⟨js, rj, ⟨o, ho, hc, n, hdat⟩, _⟩ := I'.tuple hq
              obtain ⟨u1, u2, rfl, r1, r2⟩ := L2.vals2 rj
              obtain ⟨k1, rfl⟩ := r1
              obtain ⟨k2, rfl⟩ := r2
              exact ⟨t, o, k1, k2, n, e, hk _ _ ho, hc, hdat⟩
            · have e' : some o = some (seqObj "list" vs.toArray 0) := q.symm.trans ha
              cases e'
              intro c
              exact absurd (Value.type.inj c) (by decide)
          · have all : ∀ v ∈ out, (∃ t, L2.backV v = V.ref t ∧ SqT C.K g'.fx t [.int (twoOf X.K H' v).1, .int (twoOf X.K H' v).2]) ∧ ∃ t, v = Value.ref t := fun v hv => let ⟨z1, t, z2, _⟩ := t2 v (o2.perm.mem_iff.mp hv); ⟨z1, t, z2⟩
            obtain ⟨b1, b2⟩ := back_pairs (R := fun p v => ∃ t, v = V.ref t ∧ SqT C.K g'.fx t [.int p.1, .int p.2]) all
            refine hR _ (sort_done (s' := s') (m := m) (N := N) I' r' ha hsz hk ?_ (by rw [List.toList_toArray]; exact b2) (relL_prs b1) ?_)
            · rw [List.length_map, o2.perm.length_eq]
              exact hzv
            · have eo : out.map (twoOf X.K H') = isort plt ts := isort_of lin_pair (by rw [← t1]; exact o2.perm.map _) (List.pairwise_map.mpr (List.Pairwise.imp (fun {x y} z => (by rw [← plt_lexB]; exact z)) o1))
              rw [eo]
              exact ok3
        · cases e
  · exact ok3.elim
end
end TX

/-! TxU: sum of a generator expression -/
set_option Elab.async false
set_option linter.all false
set_option maxRecDepth 100000
set_option maxHeartbeats 2000000
set_option autoImplicit false
namespace TX
open PySem PySem.Spec PyProof.Rows
open L2 (V HO Hp Key upd upd_same upd_ne SqL SqT Rd HOk Cx Inv PE PT PTs PW PS PSs PG PGs PI PA TE TT TA TS TG TGs TI It VK XK WX Takes Ends EP SP TP OpR tOp CallR tCB tCons tNil Sp Room FnOk thn thnF Vals)
section
variable {C : Cfg} {φ : Fn} {X : Cx} {pins : List (Addr × Obj)} {σ : L2.St} {g0 : Gh} {TR : List (AV × AH)} {FIN : Option AH} {ga gi : Nat}
theorem ints_of : ∀ {xs : List AV} {is : List Int}, intsO xs = some is → xs = is.map .int
  | [], is, e => by
    unfold intsO at e
    cases e
    rfl
  | x :: r, is, e => by
    unfold intsO at e
    split at e
    · rename_i z; cases z
    · rename_i i r2 z
      cases z
      cases h : intsO r with
      | none => rw [h] at e; cases e
      | some js =>
        rw [h] at e
        cases e
        rw [ints_of h]
        rfl
    · cases e
/-- the running sum's cell -/
def FOne (cvs : List V) (o : Obj) : Prop := ∃ i t c, o = lsObj #[.int i t] c
theorem sum_loop {S : Addr} {is : List Int} {R : Result → Shared → Prop} (W : GW C X pins σ g0 TR FIN (holdsAt S FOne) ga gi) (hr : X.A.depth + 1 < recursionLimit) (hSg : S ≠ ga) (hS0 : W.s4.heap.objs.size ≤ S)
    (hcl : ∀ x c, W.Y.env.cells.lookup x = some c → c ≠ S) (hFe : ∀ b ∈ W.fp, b ≠ S) (hFg : ∀ b ∈ W.fp, b ≠ ga) (hpn : W.Y.pn = []) (hsome : FIN.isSome = true) (his : TR.map (·.1) = is.map .int)
    (hR : ∀ s' H' g' h' t, FIN = some h' → Inv X pins σ H' s' → Ext g0 g' → Rep C g' h' H' → R (.ok (.ret (.int is.sum t))) s') :
    ∀ (k j : Nat) (s : Shared) (a : Int) (tA : Tok) (c : Nat) (stage : Int), (stage = 0 ∨ stage = 2) → TR.length - j = k → a = (is.take j).sum → s.heap.get? S = some (lsObj #[.int a tA] c) → W.At j s →
      codeAny (model X.prog X.w) X.A (.builtin "sum.loop" ⟨[.ref ga, .ref S, rawInt stage, rawInt 0], []⟩) R s := by
  have hlen : TR.length = is.length := by simpa using congrArg List.length his
  intro k
  induction k with
  | zero =>
    intro j s a tA c stage hstage hk ha hS hst
    refine codeAny_builtin F.entry_sum_loop ?_
    rw [Around.under_plainId F.plain_sum_loop _]
    show wpAny _ X.A.in1 (seqItems? (.ref S) >>= _) _ _ s
    refine wpAny_bind (wpAny_seqItems hS rfl ?_)
    show wpAny _ X.A.in1 (tryCatch (pyNext (.ref ga)) _ >>= _) _ _ s
    refine wpAny_bind (wpAny_tryCatch (W.next1 hr hst (fun v s' hG => ?_) (fun s' hE hj => ?_)))
    · obtain ⟨H', g', h', PN, cvs, pre, rest, y, cv, hT, hp, _⟩ := hG.ex
      have := congrArg List.length hT
      simp at this
      omega
    · obtain ⟨H', g', h', PN, cvs, hF, I, e, r, rl, hC⟩ := hE.ex
      have e1 : a = is.sum := by rw [ha, List.take_of_length_le (by omega)]
      subst e1
      exact wpAny_pure (hR s' H' g' h' tA hF (W.back I (fun _ _ e => e) rfl I.bare) e r)
  | succ k ih =>
    intro j s a tA c stage hstage hk ha hS hst
    refine codeAny_builtin F.entry_sum_loop ?_
    rw [Around.under_plainId F.plain_sum_loop _]
    show wpAny _ X.A.in1 (seqItems? (.ref S) >>= _) _ _ s
    refine wpAny_bind (wpAny_seqItems hS rfl ?_)
    show wpAny _ X.A.in1 (tryCatch (pyNext (.ref ga)) _ >>= _) _ _ s
    refine wpAny_bind (wpAny_tryCatch (W.next1 hr hst (fun v s' hG => ?_) (fun s' hE hj => by omega)))
    obtain ⟨H', g', h', PN, cvs, pre, rest, y, cv, hT, hp, hcl', I, e, r, rl, hC, rv, ra, hgi, kk⟩ := hG.ex
    obtain ⟨oS, hmS, i0, t0, c0, rfl⟩ := hC.2.2
    obtain ⟨⟨o, hmo, hiso⟩, _⟩ := hC
    have hyj : is[j]?.map AV.int = some y := by
      have z := congrArg (fun l => l[j]?) his
      simp only [List.getElem?_map] at z
      rw [← z, hT, List.getElem?_append_right (by omega)]
      simp [hp]
    cases hij : is[j]? with
    | none => rw [hij] at hyj; cases hyj
    | some n =>
    rw [hij] at hyj
    simp only [Option.map_some, Option.some.injEq] at hyj
    subst hyj
    have ecv : cv = V.int n := ra.int
    subst ecv
    obtain ⟨t, rfl⟩ : ∃ t, v = .int n t := rv
    have hsum : a + n = (is.take (j + 1)).sum := by
      rw [ha, List.take_add_one, hij]
      simp
    have hS1 := (I.pin _ (List.mem_append_right _ hmS)).1
    have I2 : Inv W.Y [(ga, o), (S, lsObj #[.int i0 t0] c0)] W.σ0 H' s' := I.pins_of fun p hp => by
      rcases List.mem_cons.mp hp with e | hp
      · subst e
        exact I.pin _ (List.mem_append_right _ hmo)
      · have e : p = (S, lsObj #[.int i0 t0] c0) := by simpa using hp
        subst e
        exact I.pin _ (List.mem_append_right _ hmS)
    have fin : ∀ (h9 : Heap) (t9 : Nat) (tk : Tok) (c9 : Nat), (∀ b o, b ≠ S → s'.heap.get? b = some o → h9.get? b = some o) → h9.get? S = some (lsObj #[.int (a + n) tk] c9) → ∀ st9, (st9 = 0 ∨ st9 = 2) →
        codeAny (model X.prog X.w) X.A (.builtin "sum.loop" ⟨[.ref ga, .ref S, rawInt st9, rawInt 0], []⟩) R { s' with heap := h9, toks := t9 } := fun h9 t9 tk c9 oth hS2 st9 h9s => by
      refine ih (j + 1) _ (a + n) tk c9 st9 h9s (by omega) hsum hS2 ?_
      have I3 := inv_put (t' := t9) I2 hSg (by rw [W.s0]; exact hS0) hpn hcl oth hS2 (fun v z => by cases z)
      exact kk (.inr hsome) _ [(ga, o), (S, _)] I3 ⟨⟨o, by simp, hiso⟩, fun p hp z => (pins2 hp).elim (fun q => hFg _ z q) (fun q => hFe _ z q), ⟨_, List.mem_cons_of_mem _ (List.mem_singleton.mpr rfl), _, _, _, rfl⟩⟩ (fun b hb o e => oth b o (hFe b hb) e) rfl
    rcases hstage with rfl | rfl
    · show wpAny _ X.A.in1 (if (_ : Bool) = true then (mkInt (a + n) >>= _) else _) _ _ _
      split
      · refine wpAny_bind (wpAny_mkInt ?_)
        show wpAny _ X.A.in1 (updateSeq S (fun _ => #[.int (a + n) s'.toks]) >>= _) _ _ _
        refine wpAny_bind ?_
        refine wpAny_updateSeq hS1 rfl (wpAny_pure ⟨plainId_quiet F.plain_sum_loop _, fin _ _ s'.toks _ (fun b o hb e => (Heap.get?_update_other _ _ (Ne.symm hb)).trans e) (Heap.get?_update_self _ hS1 rfl) 0 (.inl rfl)⟩)
      · refine wpAny_bind (wpAny_rule ?_)
        refine wpAny_bind (wpAny_attempt (wpAny_holding (PySem.P.add_int ?_)))
        show wpAny _ X.A.in1 (updateSeq S (fun _ => #[.int (a + n) s'.toks]) >>= _) _ _ _
        refine wpAny_bind ?_
        refine wpAny_updateSeq hS1 rfl ?_
        have hS2 := Heap.get?_update_self (Obj.mapSeq fun _ => #[Value.int (a + n) s'.toks]) hS1 rfl
        refine wpAny_bind (wpAny_letGo ?_)
        refine wpAny_bind ?_
        exact wpAny_updateSeq hS2 rfl (wpAny_pure ⟨plainId_quiet F.plain_sum_loop _, fin _ _ s'.toks _ (fun b o hb e => (Heap.get?_update_other _ _ (Ne.symm hb)).trans ((Heap.get?_update_other _ _ (Ne.symm hb)).trans e)) (Heap.get?_update_self _ hS2 rfl) 2 (.inr rfl)⟩)
    · show wpAny _ X.A.in1 ((holding [Value.int n t] (binaryOp .Add (.int a tA) (.int n t))).attempt >>= _) _ _ _
      refine wpAny_bind (wpAny_attempt (wpAny_holding (PySem.P.add_int ?_)))
      show wpAny _ X.A.in1 (updateSeq S (fun _ => #[.int (a + n) s'.toks]) >>= _) _ _ _
      refine wpAny_bind ?_
      refine wpAny_updateSeq hS1 rfl ?_
      have hS2 := Heap.get?_update_self (Obj.mapSeq fun _ => #[Value.int (a + n) s'.toks]) hS1 rfl
      refine wpAny_bind (wpAny_letGo ?_)
      refine wpAny_bind ?_
      exact wpAny_updateSeq hS2 rfl (wpAny_pure ⟨plainId_quiet F.plain_sum_loop _, fin _ _ s'.toks _ (fun b o hb e => (Heap.get?_update_other _ _ (Ne.symm hb)).trans ((Heap.get?_update_other _ _ (Ne.symm hb)).trans e)) (Heap.get?_update_self _ hS2 rfl) 2 (.inr rfl)⟩)
/-- what a generator just made is ready for, whatever the user holds -/
structure ReadyF {S : Addr} {FF : List V → Obj → Prop} (W : GW C X pins σ g0 TR FIN (holdsAt S FF) ga gi) (o : Obj) (H4 : Hp) (s5 : Shared) : Prop where
  gen : s5.heap.IsGen ga gi
  lt : ga < s5.heap.objs.size
  is : ∀ s : Shared, s.heap.get? ga = some o → s.heap.IsGen ga gi
  fp : ∀ b ∈ W.fp, b ≠ ga ∧ b < s5.heap.objs.size
  inv : Inv W.Y [(ga, o)] W.σ0 H4 s5
  pn : W.Y.pn = []
  go : ∀ s6 PN6, Inv W.Y PN6 W.σ0 H4 s6 → W.CONS [] PN6 → (∀ b ∈ W.fp, ∀ o, s5.heap.get? b = some o → s6.heap.get? b = some o) → s6.gens = s5.gens → W.At 0 s6
  s4 : W.s4.heap.objs.size ≤ s5.heap.objs.size
variable {elt tg iter : Expr} {ifs : List Expr} {scope : Scope} {own : List (Str × Nat)} {sl : List Nat} {fi : IF_} {gt : TF} {fc f : EF} {p gpos pos : Pos} {k : Nat}
theorem gn_coreF (FF : List V → Obj → Prop) {pins : List (Addr × Obj)} {σ : L2.St} {H : Hp} {s : Shared} {g : Gh} {st : St} {h : AH} {b : UB} {N : Nat → Hp → Prop} {Q : VK} {Q' : Value → Shared → Prop} (A : At C X) (hr : Room (k + 2) X.A) (G : GenM C X) (P : GnP C φ X elt tg iter ifs scope own sl fi gt fc f) (tk : Takes X (wX C N)) (I : Inv X pins σ H s) (r : Rep C g h H) (rs : RelS C g st σ)
    (ok : okG C g (eGen b (own.map (·.2)) fi gt fc f φ st h) (fun x g' _ H' => ∀ v, RelA C g' x v → Q v H') N)
    (hQ : ∀ s5 ga gi g0 TR h2 o H4 (W : GW C X pins σ g0 TR (some h2) (holdsAt s5.heap.objs.size FF) ga gi), Ext g g0 → ReadyF W o H4 s5 → TR.length ≤ sizeLine → okG C g (uL b (TR.map (·.1)) h2) (fun x g' _ H' => ∀ v, RelA C g' x v → Q v H') N → Q' (.ref ga) s5) :
    wpAny (model X.prog X.w) X.A (eval (.GeneratorExp elt [⟨tg, iter, ifs, 0⟩] scope gpos) X.env) Q' X.xe s := by
  refine gen_mk G hr P.hi tk P.ok P.hco P.hcell P.h0 P.hs I r rs ?_
  unfold eGen at ok
  cases z : fi φ st h with
  | exc c h1 => rw [z] at ok; exact ok
  | stuck => rw [z] at ok; exact ok
  | ok p h1 =>
    rw [z] at ok
    simp only [bind_ok] at ok
    intro g' H' e1 r1 ga s5 hG
    split at ok
    · rename_i hz
      obtain ⟨ys, h2, e2, ok2⟩ := quiet_bind ok
      obtain ⟨TR, hLc, rfl, hle⟩ := lc_tr p.1 h1 ys e2
      obtain ⟨g1, gi, e3, W, o, H4, hgen, hlt, hisg, hfo, I5, r5, hSt⟩ := gw_start (USER := holdsAt s5.heap.objs.size FF) A.calm A.nd P.ok P.hcell P.hco P.hsl rs (fun s H code fp => (P.hg s H code fp).run) P.ht (fun s H code fp => (P.he s H code fp).run N0 takesN0) hLc hG
      refine hQ s5 ga gi g1 TR h2 o H4 W e3 ⟨hgen, hlt, hisg, hfo, I5, W.hpn, hSt, ?_⟩ (Nat.le_trans hle (Nat.le_trans (Nat.le_of_lt hz) SZ_le)) ok2
      · exact Nat.le_of_lt (Nat.lt_trans W.big hlt)
    · exact ok.elim
/-- sum(generator) -/
theorem se_genSum (A : At C X) (hr : Room (k + 2) X.A) (G : GenM C X) (hg : L2.Gl X "sum") (hm : X.mg "sum" = none) (P : GnP C φ X elt tg iter ifs scope own sl fi gt fc f) :
    SE C φ X (.Call (.Name "sum" p) [.GeneratorExp elt [⟨tg, iter, ifs, 0⟩] scope gpos] [] pos) (eGen .sum (own.map (·.2)) fi gt fc f) := by
  have he : starEach [.GeneratorExp elt [⟨tg, iter, ifs, 0⟩] scope gpos] X.env = (false, eval (.GeneratorExp elt [⟨tg, iter, ifs, 0⟩] scope gpos) X.env) :: starEach [] X.env := rfl
  refine ⟨fun N tk => ⟨fun pins s σ H Q I ⟨g, st, h, r, rs, ok⟩ => ?_⟩⟩
  refine wpAny_Call_Name_kw (L2.ld_blt I hg hm boot_sum ?_)
  refine PyProof.Rows.callWith_builtin1 ?_ he (by rfl)
  rw [he]
  show wpAny _ _ (spliced ((false, eval (.GeneratorExp elt [⟨tg, iter, ifs, 0⟩] scope gpos) X.env) :: backTo pos (starEach [] X.env))) _ _ s
  refine Calls.spliced_cons (gn_coreF FOne (b := .sum) A hr G P tk I r rs ok fun s5 ga gi g0 TR h2 o H4 W e0 Rd hz ok2 => ?_)
  refine Calls.spliced_nil ?_
  have hroom : X.A.depth + 1 < recursionLimit := by have := hr.dp; omega
  replace ok2 : okG C g (match intsO (TR.map (·.1)) with
    | some is => .ok (.int is.sum) h2
    | none => .stuck) (fun x g' _ H' => ∀ v, RelA C g' x v → Q v H') N := ok2
  cases his : intsO (TR.map (·.1)) with
  | none => rw [his] at ok2; exact ok2.elim
  | some is =>
    rw [his] at ok2
    simp only at ok2
    refine call_function_tree F.kind_sum F.plain_sum F.entry_sum (F.args_sum1 _) ?_
    unfold Builtin.«sum»
    simp only [List.length_cons, List.length_nil]
    rw [if_neg (by decide)]
    refine wpAny_bind (wpAny_of_eq (show Builtin.Builtins.bindParams "sum" ["start"] 0 { } = pure [none] from rfl) ?_)
    refine wpAny_bind (wpAny_pyIter_gen Rd.gen ?_)
    refine wpAny_bind (wpAny_mkInt ?_)
    refine wpAny_bind (wpAny_pure ?_)
    simp only [List.forIn_cons, List.forIn_nil]
    refine wpAny_bind (wpAny_bind (wpAny_bind (wpAny_isInstance (T := "int") (b := false) (typeIs_int _ _ _) PySem.sub_int_str ?_)))
    simp only [Bool.false_eq_true, if_false]
    refine wpAny_pure (wpAny_bind (wpAny_bind (wpAny_isInstance (T := "int") (b := false) (typeIs_int _ _ _) sub_int_bytes ?_)))
    simp only [Bool.false_eq_true, if_false]
    refine wpAny_pure (wpAny_bind (wpAny_bind (wpAny_isInstance (T := "int") (b := false) (typeIs_int _ _ _) sub_int_bytearray ?_)))
    simp only [Bool.false_eq_true, if_false]
    refine wpAny_pure (wpAny_pure ?_)
    refine wpAny_bind (wpAny_newObj_type ?_)
    have I7 := inv_pin (oS := lsObj #[.int 0 s5.toks] 0) (t' := s5.toks + 1) Rd.inv (fun v z => by cases z) rfl
    have hclS : ∀ x c, W.Y.env.cells.lookup x = some c → c ≠ s5.heap.objs.size := fun x c e z => by
      obtain ⟨v, q⟩ := Rd.inv.cell x c e
      exact absurd q.lt (by rw [z]; exact Nat.lt_irrefl _)
    refine wpAny_pure ⟨plainId_quiet F.plain_sum_loop _, sum_loop (S := s5.heap.objs.size) W hroom (Nat.ne_of_gt Rd.lt) Rd.s4 hclS (fun b hb => Nat.ne_of_lt (Rd.fp b hb).2) (fun b hb => (Rd.fp b hb).1) Rd.pn rfl (ints_of his)
      (fun s' H' g' h' t hF I' e' r' => ?_) _ 0 _ 0 s5.toks 0 0 (Or.inl rfl) rfl (by simp) (Heap.get?_push_size _ rfl) ?_⟩
    · cases hF
      exact ⟨.int is.sum, H', I', ⟨t, rfl⟩, ok2 g' H' (e0.trans e') r' _ .mkI⟩
    · exact Rd.go _ _ I7 ⟨⟨o, by simp, Rd.is⟩, fun p hp z => (pins2 hp).elim (fun q => (Rd.fp _ z).1 q) (fun q => Nat.ne_of_lt (Rd.fp _ z).2 q), ⟨_, List.mem_cons_of_mem _ (List.mem_singleton.mpr rfl), _, _, _, rfl⟩⟩ (fun b hb o e => Heap.get?_push_of_some _ e) rfl
end
end TX

/-! TxR: a list grows -/
set_option Elab.async false
set_option linter.all false
set_option maxRecDepth 100000
set_option maxHeartbeats 1000000
set_option autoImplicit false
namespace TX
open PySem PySem.Spec PyProof.Rows
open L2 (V HO Hp Key upd upd_same upd_ne SqL SqT Rd HOk Cx Inv PE PT PW PS PSs PG PGs PI PA TE TT TA TS TG TGs TI It VK XK WX Takes Ends EP OpR tOp CallR tCB tCons tNil Sp Room FnOk)
section
variable {C : Cfg} {φ : Fn} {X : Cx} {a b c e o i : Expr} {es : List Expr} {fa fb fc fo fi f : EF} {fs : AF} {pos p apos : Pos}
theorem app_at {g : Gh} {h h4 : AH} {H : Hp} {x v : AV} {cx cv : V} {Q : VK} (r : Rep C g h H) (rx : RelA C g x cx) (rv : RelA C g v cv) (e : appA x v h = some h4) (hQ : ∀ H', Rep C g h4 H' → Q .non H') :
    L2.rAppend cx [cv] H Q := by
  unfold appA at e
  split at e
  · rename_i q
    simp only [RelA] at rx
    obtain ⟨hq, rfl⟩ := rx
    split at e
    · rename_i xs hg
      obtain ⟨u, h1, vs, rfl, rl⟩ := r.obj q _ hg
      split at e
      · rename_i hz
        cases e
        have hl := rl.len
        exact ⟨_, vs, cv, rfl, rfl, h1, by rw [← hl]; exact hz, hQ _ (r.put hg ⟨_, rfl, RelL.append rl (.cons rv .nil)⟩)⟩
      · cases e
    · cases e
  · cases e
theorem tyV_lst {g : Gh} {h : AH} {H : Hp} {x : AV} {cx : V} {xs : List AV} (A : C.K = X.K) (r : Rep C g h H) (rx : RelA C g x cx) (e : lstOf x h = some xs) : L2.tyV X.K "list" cx H := by
  unfold lstOf at e
  split at e
  · simp only [RelA] at rx
    obtain ⟨a, vs, rfl, h1, _⟩ := rx
    exact .inl ⟨rfl, _, .inl (.inl (r.fx _ _ h1).1)⟩
  · rename_i q
    simp only [RelA] at rx
    obtain ⟨hq, rfl⟩ := rx
    split at e
    · rename_i ys hg
      obtain ⟨u, h1, vs, rfl, rl⟩ := r.obj q _ hg
      exact .inl ⟨rfl, _, .inl (.inl h1)⟩
    · cases e
  · cases e
theorem se_app (A : At C X) (ho : SE C φ X o fo) (ha : SE C φ X e f) (hs : notSuper o = true) (hn : noStar e = true) (hl : (apos.endLine == pos.line) = true) :
    SE C φ X (.Call (.Attribute o "append" apos) [e] [] pos) (eApp fo f) := by
  refine ⟨fun N tk => (L2.pe_bm PySem.F.plainAttrs_list PySem.F.slot_list_append PySem.F.type_list_append L2.mt_append (ho.run N tk) ((sa_cons ha sa_nil hn).run N tk) (mBase_by hs) (by rw [star1 hn]; rfl) hl (star_cons hn) rfl).imp fun σ H Q ⟨g, s, hh, r, rs, ok⟩ => ?_⟩
  refine go r rs ok fun g1 h1 x cx H1 e1 r1 rx ok1 => ?_
  split at ok1
  · rename_i xs hx
    refine ⟨tyV_lst A.K.symm r1 rx hx, g1, s, h1, r1, rs.mono e1, ?_⟩
    unfold aCons aNil
    cases z : f φ s h1 with
    | ok v h2 =>
      rw [z] at ok1
      simp only [bind_ok] at ok1 ⊢
      intro g2 H2 e2 r2 vs rl
      obtain ⟨cv, vs2, rfl, rv, rn⟩ := rl
      cases rn
      have ok2 := okG.ext ok1 e2
      cases w : appA x v h2 with
      | none => rw [w] at ok2; exact ok2.elim
      | some h3 =>
        rw [w] at ok2
        exact app_at r2 (rx.mono e2) rv w fun H' r' => ok2 g2 H' (Ext.refl _) r' .non (by simp [RelA])
    | exc c h2 => rw [z] at ok1; exact ok1
    | stuck => rw [z] at ok1; exact ok1
  · exact ok1.elim
end
end TX

/-! TxS: classes -/
set_option Elab.async false
set_option linter.all false
set_option maxRecDepth 100000
set_option maxHeartbeats 1000000
set_option autoImplicit false
namespace TX
open PySem PySem.Spec PyProof.Rows
open L2 (V HO Hp Key upd upd_same upd_ne SqL SqT Rd HOk Cx Inv PE PT PW PS PSs PG PGs PI PA TE TT TA TS TG TGs TI It VK XK WX Takes Ends EP OpR tOp CallR tCB tCons tNil Sp Room FnOk)
section
variable {C : Cfg} {g : Gh}
theorem lookup_key {us : List (Str × V)} {k : Str} {v : V} (f : Str) : List.lookup f ((k, v) :: us) = if f = k then some v else us.lookup f := by
  by_cases e : f = k
  · subst e; simp [List.lookup]
  · have : (f == k) = false := by simpa using e
    simp [List.lookup, this, e]
theorem RelF.get {f : Tx} : ∀ {fs : List (Tx × AV)} {us : List (Str × V)} {v : AV}, RelF C g fs us → fget f fs = some v → ∃ u, us.lookup (toS f) = some u ∧ RelA C g v u
  | [], _, _, _, e => by cases e
  | (k, x) :: r, us, v, h, e => by
    simp only [RelF] at h
    obtain ⟨w, us2, rfl, h1, h2⟩ := h
    unfold fget at e
    rw [lookup_key]
    split at e
    · rename_i hk
      cases e
      exact ⟨w, by rw [if_pos (by rw [hk])], h1⟩
    · rename_i hk
      obtain ⟨u, h3, h4⟩ := RelF.get h2 e
      exact ⟨u, by rw [if_neg (fun z => hk (toS_inj z.symm)), h3], h4⟩
theorem RelF.none {f : Tx} : ∀ {fs : List (Tx × AV)} {us : List (Str × V)}, RelF C g fs us → fget f fs = none → us.lookup (toS f) = none
  | [], us, h, _ => by
    simp only [RelF] at h
    subst h
    rfl
  | (k, x) :: r, us, h, e => by
    simp only [RelF] at h
    obtain ⟨w, us2, rfl, h1, h2⟩ := h
    unfold fget at e
    rw [lookup_key]
    split at e
    · cases e
    · rename_i hk
      rw [if_neg (fun z => hk (toS_inj z.symm))]
      exact RelF.none h2 e
theorem RelF.put {f : Tx} {v : AV} {u : V} (hv : RelA C g v u) : ∀ {fs : List (Tx × AV)} {us : List (Str × V)}, RelF C g fs us → RelF C g (fput f v fs) (L2.putF (toS f) u us)
  | [], us, h => by
    simp only [RelF] at h
    subst h
    exact ⟨u, [], rfl, hv, rfl⟩
  | (k, x) :: r, us, h => by
    simp only [RelF] at h
    obtain ⟨w, us2, rfl, h1, h2⟩ := h
    show RelF C g (if k = f then (k, v) :: r else (k, x) :: fput f v r) (if toS k = toS f then (toS k, u) :: us2 else (toS k, w) :: L2.putF (toS f) u us2)
    by_cases e : k = f
    · rw [if_pos e, if_pos (by rw [e])]
      exact ⟨u, us2, rfl, hv, h2⟩
    · rw [if_neg e, if_neg (fun z => e (toS_inj z))]
      exact ⟨w, _, rfl, h1, RelF.put hv h2⟩
theorem RelF.len : ∀ {fs : List (Tx × AV)} {us : List (Str × V)}, RelF C g fs us → fs.length = us.length
  | [], us, h => by simp only [RelF] at h; subst h; rfl
  | (k, x) :: r, us, h => by
    simp only [RelF] at h
    obtain ⟨w, us2, rfl, h1, h2⟩ := h
    simp [RelF.len h2]
theorem ins_at {h : AH} {H : Hp} {x : AV} {cx : V} {c : Nat} {fs : List (Tx × AV)} (r : Rep C g h H) (rx : RelA C g x cx) (e : insOf x h = some (c, fs)) : ∃ a dx us, cx = .ref a ∧ H a = some (.ins (C.cA c) dx us) ∧ RelF C g fs us := by
  unfold insOf at e
  split at e
  · rename_i q
    simp only [RelA] at rx
    obtain ⟨hq, rfl⟩ := rx
    split at e
    · rename_i c2 fs2 hg
      cases e
      obtain ⟨u, h1, dx, us, rfl, rl⟩ := r.obj q _ hg
      exact ⟨_, dx, us, rfl, h1, rl⟩
    · cases e
  · cases e
/-- an object laid that is no value's -/
theorem Rep.junk {h : AH} {H : Hp} (r : Rep C g h H) {p : Addr} (hp : H p = none) (o : HO) : Rep C g h (upd H p o) := by
  refine ⟨r.n, fun a w e => ?_, r.inj, r.dis, fun i w e => ?_, r.sys.new hp, fun a w e => ?_, r.kd⟩
  · obtain ⟨e1, e2⟩ := r.fx a w e
    exact ⟨by rw [upd_ne (fun z => by subst z; rw [hp] at e1; cases e1)]; exact e1, e2⟩
  · obtain ⟨u, e1, e2⟩ := r.obj i w e
    exact ⟨u, by rw [upd_ne (r.at_ne hp (by rw [r.n]; exact hget_lt e))]; exact e1, e2⟩
  · obtain ⟨e1, e2, e3⟩ := r.kx a w e
    exact ⟨by rw [upd_ne (r.kx_ne hp e)]; exact e1, e2, e3⟩
end
theorem meth_eval {o : Expr} {m : Str} {apos pos : Pos} {args : List Expr} {env : Env} (hbase : attributeBase o m env (eval o env) = eval o env)
    (hfew : methodCallForm (args.length + ([] : List Keyword).length) (backTo pos (starEach args env)) (backToKw pos (keywordEach [] env)) = true) (hline : (apos.endLine == pos.line) = true) :
    eval (.Call (.Attribute o m apos) args [] pos) env = (do
      let ov ← eval o env
      standAt apos.atName
      let (f, first) ← holding [ov] (getMethod ov m (do return (← importBound o env).getD true))
      callWith pos f first (backTo pos (starEach args env)) (backToKw pos (keywordEach [] env))) := by
  rw [arm_eval_Call, hbase]
  unfold methodCall
  have hpos : methodCallPos true o env apos pos = pure pos := by unfold methodCallPos; simp [hline]
  rw [hfew, hpos]
  rfl
theorem form_of {args : List Expr} {pos : Pos} {env : Env} (h : (backTo pos (starEach args env)).any (·.1) = false) (hl : args.length < 30) : methodCallForm (args.length + ([] : List Keyword).length) (backTo pos (starEach args env)) (backToKw pos (keywordEach [] env)) = true := by
  unfold methodCallForm
  have h1 : (backTo pos (starEach args env)).all (fun x => !x.1) = true := by
    rw [List.all_eq_true]
    intro x hx
    have := List.any_eq_false.mp h x hx
    simpa using this
  have h2 : decide (args.length + ([] : List Keyword).length + (if (backToKw pos (keywordEach [] env)).isEmpty then 0 else 1) < 30) = true := by
    have : (backToKw pos (keywordEach [] env)).isEmpty = true := rfl
    simp only [this, if_true, List.length_nil, Nat.add_zero]
    exact decide_eq_true hl
  rw [h1, h2]
  rfl
/-- what a class must have for an attribute -/
structure ClF (C : Cfg) (K : PySem.W.Frag) (c : Nat) (f : Str) : Prop where
  cls : L2.Cls K (C.cA c)
  no : L2.NoAttr K (C.cA c) f
/-- a method of a class -/
structure MeI (C : Cfg) (P : Program) (w : World) (K : PySem.W.Frag) (mg : Str → Option Value) (base : Heap) (k : Nat) (c : Nat) (m : Str) (f : List AV → AH → Out AV) : Prop where
  cls : L2.Cls K (C.cA c)
  ex : ∃ (a : Addr) (fd : FuncData) (ps : List Str), FnOk P w K mg base (L2.CX P w) k a fd ps (spOf C f) ∧ L2.Meth K (C.cA c) m a ∧ L2.Binds K fd ps []
/-- a class that is made by its name; dvs what stands for arguments that are not given -/
structure MkI (C : Cfg) (P : Program) (w : World) (K : PySem.W.Frag) (mg : Str → Option Value) (base : Heap) (k : Nat) (c : Nat) (x : Str) (dvs : List AV) (f : List AV → AH → Out AV) : Prop where
  gC : mg x = some (.ref (C.cA c))
  ex : ∃ (a : Addr) (fd : FuncData) (ps : List Str) (ds : List Value) (dcs : List V), FnOk P w K mg base (L2.CX P w) k a fd ps (spOf C f) ∧ L2.Mk K (C.cA c) a ∧ L2.Binds K fd ps ds ∧ L2.Vals dcs ds ∧ ∀ g, RelL C g dvs dcs
section
variable {C : Cfg} {φ : Fn} {X : Cx} {a b c e o i : Expr} {es : List Expr} {fa fb fc fo fi f : EF} {fs : AF} {pos p apos : Pos}
theorem se_fld {cs : List Nat} {n : Tx} {fn : Str} (hF : ∀ c ∈ cs, ClF C X.K c fn) (hn : fn = toS n) (ho : SE C φ X o fo) (hs : notSuper o = true) : SE C φ X (.Attribute o fn pos) (eFld cs n fo) := by
  refine ⟨fun N tk => (L2.pe_fld (ho.run N tk) (mBase_by hs)).imp fun σ H Q ⟨g, s, hh, r, rs, ok⟩ => ?_⟩
  refine go r rs ok fun g1 h1 x cx H1 e1 r1 rx ok1 => ?_
  unfold fldA at ok1
  split at ok1
  · rename_i v hv
    split at hv
    · rename_i c fs hi
      split at hv
      · rename_i hc
        obtain ⟨a, dx, us, rfl, h2, rl⟩ := ins_at r1 rx hi
        obtain ⟨u, h3, h4⟩ := rl.get hv
        exact ⟨a, _, dx, us, u, rfl, h2, (hF c hc).cls, (hF c hc).no, by rw [hn]; exact h3, ok1.fin r1 u h4⟩
      · cases hv
    · cases hv
  · exact ok1.elim
theorem setF_at {cs : List Nat} {n : Tx} {fn : Str} {g : Gh} {h h4 : AH} {H : Hp} {x v : AV} {cx cv : V} {Q : Hp → Prop} (hF : ∀ c ∈ cs, ClF C X.K c fn) (hn : fn = toS n) (r : Rep C g h H) (rx : RelA C g x cx) (rv : RelA C g v cv) (e : setF cs n x v h = some h4) (hQ : ∀ H', Rep C g h4 H' → Q H') :
    ∃ a c dx us, cx = .ref a ∧ H a = some (.ins (C.cA c) dx us) ∧ c ∈ cs ∧ us.length < 1000 ∧ Q (upd H a (.ins (C.cA c) dx (L2.putF fn cv us))) := by
  unfold setF at e
  split at e
  · rename_i q
    simp only [RelA] at rx
    obtain ⟨hq, rfl⟩ := rx
    split at e
    · rename_i c fs hg
      obtain ⟨u, h1, dx, us, rfl, rl⟩ := r.obj q _ hg
      split at e
      · rename_i hc
        cases e
        refine ⟨_, c, dx, us, rfl, h1, hc.1, by rw [← rl.len]; exact hc.2, hQ _ (r.put hg ⟨dx, _, by rw [hn], rl.put rv⟩)⟩
      · cases e
    · cases e
  · cases e
theorem ss_fld {cs : List Nat} {n : Tx} {fn : Str} {q : Pos} (hF : ∀ c ∈ cs, ClF C X.K c fn) (hn : fn = toS n) (ho : SE C φ X o fo) (ha : SE C φ X e f) (hs : swapsWith e (some (.Attribute o fn q)) pos.line X.env = pure false) :
    SS C φ X (.Assign [.Attribute o fn q] e pos) (sFld cs n fo f) := by
  refine ⟨fun N tk => (L2.ps_fld (ho.run N tk) (ha.run N tk) hs).imp fun D σ H ⟨g, s, hh, r, rs, ok⟩ => ?_⟩
  refine go r rs ok fun g1 h1 x cx H1 e1 r1 rx ok1 => go r1 (rs.mono e1) ok1 fun g2 h2 y cy H2 e2 r2 ry ok2 => ?_
  cases z : setF cs n y x h2 with
  | none => rw [z] at ok2; exact ok2.elim
  | some h3 =>
    rw [z] at ok2
    obtain ⟨a, c, dx, us, e3, e4, e5, e6, e7⟩ := setF_at (X := X) (Q := fun H' => D.nx σ H') hF hn r2 ry (rx.mono e2) z fun H' r' => ok2 g2 H' (Ext.refl _) r' σ ((rs.mono e1).mono e2)
    exact ⟨a, _, dx, us, e3, e4, (hF c e5).cls, (hF c e5).no, e6, e7⟩
theorem inop_of {op : BO} (h : augOp op = true) : ∃ k : Int → Int → Int, L2.InOp X (toOp op) (fun x y H Q => ∃ i j, x = .int i ∧ y = .int j ∧ Q (.int (k i j)) H) ∧ ∀ i j, intOp op i j = some (k i j) := by
  cases op <;> first | exact ⟨_, L2.in_add, fun _ _ => rfl⟩ | exact ⟨_, L2.in_sub, fun _ _ => rfl⟩ | (simp [augOp] at h)
theorem ss_fldA {cs : List Nat} {n : Tx} {fn : Str} {op : BO} {q : Pos} (hF : ∀ c ∈ cs, ClF C X.K c fn) (hn : fn = toS n) (hop : augOp op = true) (ho : SE C φ X o fo) (ha : SE C φ X e f) :
    SS C φ X (.AugAssign (.Attribute o fn q) (toOp op) e pos) (sFldA cs n fo op f) := by
  obtain ⟨kk, k1, k2⟩ := inop_of (X := X) hop
  refine ⟨fun N tk => (L2.ps_fldaug (ho.run N tk) (ha.run N tk) k1).imp fun D σ H ⟨g, s, hh, r, rs, ok⟩ => ?_⟩
  refine go r rs ok fun g1 h1 x cx H1 e1 r1 rx ok1 => ?_
  split at ok1
  · rename_i c fs hi
    split at ok1
    · rename_i hc
      split at ok1
      · rename_i av hv
        obtain ⟨a, dx, us, rfl, h2, rl⟩ := ins_at r1 rx hi
        obtain ⟨u, h3, h4⟩ := rl.get hv
        have := h4.int
        subst this
        refine ⟨a, _, dx, us, _, rfl, h2, (hF c hc).cls, (hF c hc).no, by rw [hn]; exact h3, ?_⟩
        refine go r1 (rs.mono e1) ok1 fun g2 h2' y cy H2 e2 r2 ry ok2 => ?_
        split at ok2
        · rename_i bv
          rw [k2] at ok2
          refine ⟨_, _, rfl, ry.int, ?_⟩
          simp only at ok2
          cases z : setF [c] n x (.int (kk av bv)) h2' with
          | none => rw [z] at ok2; exact ok2.elim
          | some h3' =>
            rw [z] at ok2
            obtain ⟨a', c', dx', us', e3, e4, e5, e6, e7⟩ := setF_at (X := X) (Q := fun H' => D.nx σ H') (cs := [c]) (fun c2 h => by rw [List.mem_singleton.mp h]; exact hF c hc) hn r2 (rx.mono e2) (cv := .int (kk av bv)) .mkI z fun H' r' => ok2 g2 H' (Ext.refl _) r' σ ((rs.mono e1).mono e2)
            cases e3
            have hcc : c' = c := List.mem_singleton.mp e5
            subst hcc
            exact ⟨dx', us', e4, e6, e7⟩
        · exact ok2.elim
      · exact ok1.elim
    · exact ok1.elim
  · exact ok1.elim
/-! ### calls of methods -/
theorem meth_read {N : Nat → Hp → Prop} {n : Tx} {m : Str} {ci fi : Nat} {σ : L2.St} {H : Hp} {Q : VK} (hn : m = toS n) (h : tE C φ (eMeth ci n fi fo fs) N σ H Q) {to : TE} (hto : ∀ σ H Q, tE C φ fo N σ H Q → to σ H Q) :
    L2.tMeth (C.cA ci) m (spOf C (φ 0 fi)) [] (fun cls _ H => ∃ c, cls = .ref (C.cA c) ∧ N c H) to (tAr C φ fs N) σ H Q := by
  obtain ⟨g, s, hh, r, rs, ok⟩ := h
  refine hto _ _ _ (go r rs ok fun g1 h1 x cx H1 e1 r1 rx ok1 => ?_)
  split at ok1
  · rename_i c' fs' hi
    split at ok1
    · rename_i hc
      obtain ⟨rfl, hm⟩ := hc
      obtain ⟨a, dx, us, rfl, h2, rl⟩ := ins_at r1 rx hi
      refine ⟨a, dx, us, rfl, h2, by rw [hn]; exact rl.none hm, ?_⟩
      refine goA r1 (rs.mono e1) ok1 fun g2 h2' xs vs H2 e2 r2 rl2 ok2 => ?_
      rw [List.append_nil]
      refine ⟨g2, h2', x :: xs, r2, .cons (rx.mono e2) rl2, ?_⟩
      cases z : φ 0 fi (x :: xs) h2' with
      | ok x h3 => rw [z] at ok2; exact ok2
      | exc c h3 => rw [z] at ok2; exact fun g' H' e3 r3 d => ⟨c, rfl, ok2 g' H' e3 r3⟩
      | stuck => rw [z] at ok2; exact ok2
    · exact ok1.elim
  · exact ok1.elim
theorem se_meth {k ci fi : Nat} {n : Tx} {m : Str} (F : MeI C X.prog X.w X.K X.mg X.base k ci m (φ 0 fi)) (hn : m = toS n) (hr : Room k X.A) (ho : SE C φ X o fo) (ha : SA C φ X (e :: es) fs) (hs : notSuper o = true) (hst : noStar e = true)
    (hp : (backTo pos (starEach es X.env)).any (·.1) = false) (hl : (apos.endLine == pos.line) = true) (hlen : (e :: es).length < 30) : SE C φ X (.Call (.Attribute o m apos) (e :: es) [] pos) (eMeth ci n fi fo fs) := by
  obtain ⟨a, fd, ps, F1, F2, F3⟩ := F.ex
  have hp2 : (backTo pos (starEach (e :: es) X.env)).any (·.1) = false := by
    rw [star_cons hst]
    exact hp
  refine ⟨fun N tk => (L2.pe_meth (ho.run N tk) F.cls F2 F1 hr F3 .nil (call_passes tk) (ha.run N tk) (star_cons hst) hp (meth_eval (mBase_by hs) (form_of hp2 hlen) hl)).imp fun σ H Q h => meth_read hn h fun _ _ _ h => h⟩
theorem se_meth0 {k ci fi : Nat} {n : Tx} {m : Str} (F : MeI C X.prog X.w X.K X.mg X.base k ci m (φ 0 fi)) (hn : m = toS n) (hr : Room k X.A) (ho : SE C φ X o fo) (hs : notSuper o = true)
    (hl : (apos.endLine == pos.line) = true) : SE C φ X (.Call (.Attribute o m apos) [] [] pos) (eMeth ci n fi fo aNil) := by
  obtain ⟨a, fd, ps, F1, F2, F3⟩ := F.ex
  refine ⟨fun N tk => (L2.pe_meth0 (ho.run N tk) F.cls F2 F1 hr F3 .nil (call_passes tk) (meth_eval (mBase_by hs) (form_of rfl (by decide)) hl)).imp fun σ H Q h => ?_⟩
  have z := meth_read hn h (to := tE C φ fo N) fun _ _ _ h => h
  obtain ⟨g, s, hh, r, rs, ok⟩ := z
  refine ⟨g, s, hh, r, rs, ?_⟩
  cases e : fo φ s hh with
  | exc c h1 => rw [e] at ok; exact ok
  | stuck => rw [e] at ok; exact ok
  | ok x h1 =>
    rw [e] at ok
    intro g' H' e1 r1 v rv
    obtain ⟨a, dx, us, e2, e3, e4, g2, s2, h2, r2, rs2, ok2⟩ := ok g' H' e1 r1 v rv
    exact ⟨a, dx, us, e2, e3, e4, ok2.fin r2 [] .nil⟩
/-- one reading or another -/
theorem se_alt (h1 : SE C φ X e fa) (h2 : SE C φ X e fb) : SE C φ X e (eAlt fa fb) := by
  refine ⟨fun N tk => ((h1.run N tk).or (h2.run N tk)).imp fun σ H Q ⟨g, s, hh, r, rs, ok⟩ => ?_⟩
  unfold eAlt at ok
  cases z : fa φ s hh with
  | ok x h => rw [z] at ok; exact .inl ⟨g, s, hh, r, rs, by rw [z]; exact ok⟩
  | exc c h => rw [z] at ok; exact .inl ⟨g, s, hh, r, rs, by rw [z]; exact ok⟩
  | stuck => rw [z] at ok; exact .inr ⟨g, s, hh, r, rs, ok⟩
/-! ### instances made -/
theorem make_read {N : Nat → Hp → Prop} {ci fi : Nat} {dvs : List AV} {dcs : List V} {σ : L2.St} {H : Hp} {Q : VK} (hd : ∀ g, RelL C g dvs dcs) (h : tE C φ (eMake ci fi dvs fs) N σ H Q) :
    L2.tMake (C.cA ci) (spOf C (φ 0 fi)) dcs (fun cls _ H => ∃ c, cls = .ref (C.cA c) ∧ N c H) (tAr C φ fs N) σ H Q := by
  obtain ⟨g, s, hh, r, rs, ok⟩ := h
  refine goA r rs ok fun g1 h1 xs vs H1 e1 r1 rl ok1 => ?_
  intro x dx hx hdx hne
  have r2 := r1.junk hdx (.own x)
  have hx2 : upd H1 dx (.own x) x = none := by rw [upd_ne (fun z => hne z.symm)]; exact hx
  have r3 := r2.new hx2 (o := .ins ci []) (u := .ins (C.cA ci) dx []) ⟨dx, [], rfl, rfl⟩
  have xt := r2.ext_obj (p := x)
  have hn := r1.n
  refine ⟨g1.obj x, .ins ci [] :: h1, .ref h1.length :: (xs ++ dvs), r3, .cons (by
    simp only [RelA]
    refine ⟨?_, ?_⟩
    · show h1.length < g1.n + 1
      omega
    · show V.ref x = V.ref (if h1.length = g1.n then x else g1.at_ h1.length)
      rw [if_pos hn.symm]) ((rl.mono xt).append (hd _)), ?_⟩
  unfold mkIns at ok1
  cases z : φ 0 fi (.ref h1.length :: (xs ++ dvs)) (.ins ci [] :: h1) with
  | stuck => rw [z] at ok1; exact ok1
  | exc c h3 => rw [z] at ok1; exact fun g' H' e3 r3 d => ⟨c, rfl, ok1 g' H' (xt.trans e3) r3⟩
  | ok y h3 =>
    rw [z] at ok1
    cases y <;> first | exact ok1.elim | skip
    intro g' H' e3 r4 v rv
    have : v = .non := by simpa [RelA] using rv
    refine ⟨this, ok1 g' H' (xt.trans e3) r4 _ ?_⟩
    simp only [RelA]
    have h5 := e3.n
    have h6 : (g1.obj x).n = g1.n + 1 := rfl
    refine ⟨by omega, ?_⟩
    rw [e3.at_ h1.length (by omega)]
    show V.ref x = V.ref (if h1.length = g1.n then x else g1.at_ h1.length)
    rw [if_pos hn.symm]
theorem se_make {k ci fi : Nat} {x : Str} {dvs : List AV} (F : MkI C X.prog X.w X.K X.mg X.base k ci x dvs (φ 0 fi)) (hr : Room (k + 1) X.A) (hg : L2.Gl X x) (ha : SA C φ X (e :: es) fs) (hd : (x == ("__debug__" : Str)) = false) (hst : noStar e = true)
    (hp : (backTo pos (starEach es X.env)).any (·.1) = false) : SE C φ X (.Call (.Name x p) (e :: es) [] pos) (eMake ci fi dvs fs) := by
  obtain ⟨a, fd, ps, ds, dcs, F1, F2, F3, F4, F5⟩ := F.ex
  exact ⟨fun N tk => (L2.pe_make F2 F1 hr hg F.gC F3 F4 (call_passes tk) (ha.run N tk) hd (star_cons hst) hp).imp fun σ H Q h => make_read F5 h⟩
theorem se_make0 {k ci fi : Nat} {x : Str} {dvs : List AV} (F : MkI C X.prog X.w X.K X.mg X.base k ci x dvs (φ 0 fi)) (hr : Room (k + 1) X.A) (hg : L2.Gl X x) (hd : (x == ("__debug__" : Str)) = false) : SE C φ X (.Call (.Name x p) [] [] pos) (eMake ci fi dvs aNil) := by
  obtain ⟨a, fd, ps, ds, dcs, F1, F2, F3, F4, F5⟩ := F.ex
  refine ⟨fun N tk => (L2.pe_make0 F2 F1 hr hg F.gC F3 F4 (call_passes tk) hd).imp fun σ H Q h => ?_⟩
  obtain ⟨g, s, hh, r, rs, ok⟩ := make_read F5 h
  exact ok.fin r [] .nil
end
end TX

/-! TxX: displays of dicts, min of many, tuple(range), count: sound -/
set_option Elab.async false
set_option linter.all false
set_option maxRecDepth 100000
set_option maxHeartbeats 1000000
set_option autoImplicit false
namespace TX
open PySem PySem.Spec PyProof.Rows
open L2 (V HO Hp Key upd upd_same upd_ne SqL SqT Rd HOk Cx Inv PE PT PTs PW PS PSs PG PGs PI PA TE TT TA TS TG TGs TI It VK XK WX Takes Ends EP SP TP OpR tOp CallR tCB tCons tNil Sp Room FnOk)
/-! ### a dict that is being made -/
section
variable {C : Cfg} {g : Gh} {h : AH} {H : Hp}
theorem Rep.keptD (r : Rep C g h H) {p : Addr} (hp : H p = none) (xs : List (Key × V)) : Rep C (g.keep p (some (.dK xs))) h (L2.upd H p (.dK xs)) := by
  refine ⟨r.n, fun a o e => ?_, r.inj, r.dis, fun i o e => ?_, r.sys.new hp, fun a o e => ?_, fun i hi => ?_⟩
  · obtain ⟨e1, e2⟩ := r.fx a o e
    exact ⟨by rw [upd_ne (fun z => by subst z; rw [hp] at e1; cases e1)]; exact e1, e2⟩
  · obtain ⟨u, e1, e2⟩ := r.obj i o e
    exact ⟨u, by show L2.upd H p _ (g.at_ i) = _; rw [upd_ne (r.at_ne hp (by rw [r.n]; exact hget_lt e))]; exact e1, e2.keep⟩
  · have e : (if a = p then some (HO.dK xs) else g.kx a) = some o := e
    by_cases z : a = p
    · rw [if_pos z] at e
      cases e
      subst z
      exact ⟨upd_same, r.freeFx hp, .inr (.inl ⟨xs, rfl⟩)⟩
    · rw [if_neg z] at e
      obtain ⟨e1, e2, e3⟩ := r.kx a o e
      exact ⟨by rw [upd_ne z]; exact e1, e2, e3⟩
  · show (if g.at_ i = p then _ else g.kx (g.at_ i)) = none
    rw [if_neg (r.at_ne hp hi)]
    exact r.kd i hi
theorem Rep.unkeptD (r : Rep C g h H) {p : Addr} {xs : List (Key × V)} (hp : g.kx p = some (.dK xs)) : Rep C (g.keep p none) h (fun a => if a = p then none else H a) := by
  obtain ⟨h1, h2, _⟩ := r.kx p _ hp
  have na : ∀ i, i < g.n → g.at_ i ≠ p := fun i hi z => by
    have := r.kd i hi
    rw [z, hp] at this
    cases this
  have nt : ∀ a u, H a = some u → (∀ xs, u ≠ .dK xs) → a ≠ p := fun a u e n z => by
    subst z
    rw [h1] at e
    cases e
    exact n _ rfl
  refine ⟨r.n, fun a o e => ?_, r.inj, r.dis, fun i o e => ?_, ⟨fun q hq => ?_, fun P hP => ?_⟩, fun a o e => ?_, fun i hi => ?_⟩
  · obtain ⟨e1, e2⟩ := r.fx a o e
    exact ⟨by rw [if_neg (fun z => by subst z; have e : g.fx a = some o := e; rw [h2] at e; cases e)]; exact e1, e2⟩
  · obtain ⟨u, e1, e2⟩ := r.obj i o e
    exact ⟨u, by show (if g.at_ i = p then none else H (g.at_ i)) = _; rw [if_neg (na i (by rw [r.n]; exact hget_lt e))]; exact e1, e2.keep⟩
  · obtain ⟨ps, a1, a2, a3⟩ := r.sys.1 q hq
    refine ⟨ps, (if_neg (nt _ _ a1 fun xs z => nomatch z)).trans a1, a2, fun pos cv hc => ?_⟩
    obtain ⟨c, e1, e2⟩ := a3 pos cv hc
    exact ⟨c, e1, (if_neg (nt _ _ e2 fun xs z => by unfold LamX.CodeO at z; cases z)).trans e2⟩
  · obtain ⟨ps, a1, a2⟩ := r.sys.2 P hP
    exact ⟨ps, (if_neg (nt _ _ a1 fun xs z => nomatch z)).trans a1, a2⟩
  · have e : (if a = p then none else g.kx a) = some o := e
    by_cases z : a = p
    · rw [if_pos z] at e; cases e
    · rw [if_neg z] at e
      obtain ⟨e1, e2, e3⟩ := r.kx a o e
      exact ⟨by rw [if_neg z]; exact e1, e2, e3⟩
  · show (if g.at_ i = p then none else g.kx (g.at_ i)) = none
    rw [if_neg (na i hi)]
    exact r.kd i hi
end
section
variable {C : Cfg} {φ : Fn} {X : Cx} {a b c e o i : Expr} {es : List Expr} {fa fb fc fo f : EF} {fs : AF} {pos p p2 apos : Pos}
theorem putsL_rel {g : Gh} : ∀ {more kvs : List (AV × AV)} {us ws : List (Key × V)}, RelP C g kvs us → RelP C g more ws → RelP C g (putsL kvs more) (L2.mergeK us ws)
  | [], kvs, us, ws, h1, h2 => by
    simp only [RelP] at h2
    subst h2
    exact h1
  | (k, x) :: r, kvs, us, ws, h1, h2 => by
    simp only [RelP] at h2
    obtain ⟨k', v, r', rfl, h3, h4, h5⟩ := h2
    exact putsL_rel (kvs := putK k x kvs) (us := L2.putK us k' v) (ws := r') (h1.put h3 h4) h5
/-- the pairs of a display -/
structure SDP (C : Cfg) (φ : Fn) (X : Cx) (pos : Pos) (keys : List (Option Expr)) (vals : List Expr) (ps : List (EF × EF)) : Prop where
  run : ∀ N, Takes X (wX C N) → ∃ trs, L2.PPs X pos keys vals trs ∧ ∀ σ H Q, (∃ g s h, Rep C g h H ∧ RelS C g s σ ∧ okG C g (dpGo φ s ps h) (fun kvs g' _ H' => ∀ us, RelP C g' kvs us → Q (us.map fun kv => (L2.kV kv.1, kv.2)) H') N) → L2.tPairs trs σ H Q
  len : keys.length = vals.length ∧ keys.length = ps.length
  all : keys.all (·.isSome) = true
theorem sdp_nil : SDP C φ X pos [] [] [] := ⟨fun N tk => ⟨[], L2.pps_nil, fun σ H Q ⟨g, s, h, r, rs, ok⟩ => ok.fin r [] (by simp only [RelP])⟩, ⟨rfl, rfl⟩, rfl⟩
theorem sdp_cons {k v : Expr} {fk fv : EF} {keys : List (Option Expr)} {vals : List Expr} {ps : List (EF × EF)} (hk : SE C φ X k fk) (hv : SE C φ X v fv) (hr : SDP C φ X pos keys vals ps) : SDP C φ X pos (some k :: keys) (v :: vals) ((fk, fv) :: ps) := by
  refine ⟨fun N tk => ?_, ⟨by simp [hr.len.1], by simp [hr.len.2]⟩, by simp [hr.all]⟩
  obtain ⟨trs, h1, h2⟩ := hr.run N tk
  refine ⟨_, L2.pps_cons (hk.run N tk) (hv.run N tk) h1, fun σ H Q ⟨g, s, h, r, rs, ok⟩ => ?_⟩
  unfold dpGo at ok
  show tE C φ fk N σ H _
  refine go r rs ok fun g1 hh1 x cx H1 e1 r1 rx ok1 => ?_
  refine go r1 (rs.mono e1) ok1 fun g2 hh2 y cy H2 e2 r2 ry ok2 => ?_
  split at ok2
  · rename_i hkey
    obtain ⟨kk, hk1, hk2⟩ := key_of hkey rx
    subst hk2
    refine h2 σ H2 _ ⟨g2, s, hh2, r2, (rs.mono e1).mono e2, ?_⟩
    cases z : dpGo φ s ps hh2 with
    | ok kvs h3 =>
      rw [z] at ok2
      intro g3 H3 e3 r3 us ru
      have ok3 := okG.ext ok2 e3
      have := ok3.fin r3 ((kk, cy) :: us) (by
        simp only [RelP]
        exact ⟨kk, cy, us, rfl, hk1, ry.mono e3, ru⟩)
      exact this
    | exc c h3 => rw [z] at ok2; exact ok2
    | stuck => rw [z] at ok2; exact ok2
  · exact ok2.elim
theorem se_dct0 (m : Bool) : SE C φ X (.Dict [] [] pos) (eDct m []) := by
  refine ⟨fun N tk => L2.pe_dnewK.imp fun σ H Q ⟨g, s, h, r, rs, ok⟩ => ?_⟩
  unfold eDct at ok
  rw [if_pos (by decide)] at ok
  exact mkD_at (vs := []) r (by simp only [putsL, RelP]) ok
theorem se_dct (m : Bool) {keys : List (Option Expr)} {vals : List Expr} {ps : List (EF × EF)} (hp : SDP C φ X pos keys vals ps) (h0 : keys ≠ []) (h15 : keys.length ≤ 15) : SE C φ X (.Dict keys vals pos) (eDct m ps) := by
  refine ⟨fun N tk => ?_⟩
  obtain ⟨trs, h1, h2⟩ := hp.run N tk
  refine (L2.pe_disp h1 hp.all hp.len.1 h0 h15).imp fun σ H Q ⟨g, s, h, r, rs, ok⟩ => ?_
  intro D hD
  have kD : g.kx D = none := r.freeKx hD
  unfold eDct at ok
  rw [if_pos (by rw [← hp.len.2]; exact h15)] at ok
  have eK : Ext g (g.keep D (some (.dK []))) := Rep.ext_keep kD
  refine h2 σ _ _ ⟨g.keep D (some (.dK [])), s, h, r.keptD hD [], rs.mono eK, ?_⟩
  have ok0 := ok
  have ok := okG.ext ok eK
  cases z : dpGo φ s ps h with
  | ok kvs h3 =>
    rw [z] at ok
    intro g3 H3 e3 r3 us ru
    have ok3 := okG.ext ok e3
    have kx3 : g3.kx D = some (.dK []) := e3.kx _ _ (Gh.keep_same _ _ _)
    obtain ⟨hHD, _, _⟩ := r3.kx D _ kx3
    refine ⟨hHD, us, rfl, ?_, ?_⟩
    · have l1 : ∀ {ps : List (EF × EF)} {h h3 : AH} {kvs : List (AV × AV)}, dpGo φ s ps h = .ok kvs h3 → kvs.length = ps.length := by
        intro ps
        induction ps with
        | nil => intro h h3 kvs e; unfold dpGo at e; cases e; rfl
        | cons q qs ih =>
          intro h h3 kvs e
          unfold dpGo at e
          obtain ⟨x, hx, ex, e⟩ := bind_eq_ok e
          obtain ⟨y, hy, ey, e⟩ := bind_eq_ok e
          split at e
          · obtain ⟨ps', hp', ep, e⟩ := bind_eq_ok e
            cases e
            simp [ih ep]
          · cases e
      have l2 := l1 z
      have l3 := ru.len
      have := hp.len.2
      omega
    · have rr := r3.unkeptD kx3
      have okm : okG C (g3.keep D none) (mkD m (putsL [] kvs) h3) (fun x g' _ H' => ∀ v, RelA C g' x v → Q v H') N := by
        have := okG.ext ok0 ((eK.trans e3).keepS kD none)
        rw [z] at this
        exact this
      have := mkD_at rr (putsL_rel (kvs := []) (us := []) (by simp only [RelP]) ru.keep) okm D (if_pos rfl)
      rw [show (L2.upd H3 D (HO.dK (L2.mergeK [] us))) = L2.upd (fun a => if a = D then none else H3 a) D (HO.dK (L2.mergeK [] us)) by
        funext a
        by_cases z : a = D
        · subst z; rw [upd_same, upd_same]
        · rw [upd_ne z, upd_ne z, if_neg z]]
      exact this
  | exc c h3 => rw [z] at ok; exact ok
  | stuck => rw [z] at ok; exact ok
/-! ### min of many -/
theorem minOf_snoc (lt : Int → Int → Bool) : ∀ (l : List Int) (a x : Int), minOf lt a (l ++ [x]) = if lt x (minOf lt a l) then x else minOf lt a l
  | [], a, x => rfl
  | b :: r, a, x => minOf_snoc lt r (if lt b a then b else a) x
theorem best_min {xs : Array (Int × Tok)} : ∀ (k : Nat), numAt xs (argBest (fun i j => decide (numAt xs i < numAt xs j)) k) = minOf ilt (numAt xs 0) ((List.range k).map fun i => numAt xs (i + 1))
  | 0 => rfl
  | k + 1 => by
    rw [List.range_succ, List.map_append]
    show _ = minOf ilt (numAt xs 0) (_ ++ [numAt xs (k + 1)])
    rw [minOf_snoc, ← best_min k]
    show numAt xs (if decide (numAt xs (k + 1) < numAt xs (argBest _ k)) = true then k + 1 else argBest _ k) = if ilt _ _ = true then _ else _
    unfold ilt
    split <;> rfl
end
section
variable {prog : Program} {w : World} {A : Around} {E : Value → Shared → Prop} {s : Shared}
theorem args_min7 (a b c d e f g : Value) : argsOk "min" ⟨[a, b, c, d, e, f, g], []⟩ := by unfold argsOk; kernel_rfl
theorem call_min_seven {a b c d e f g : Value} {Q : Value → Shared → Prop}
    (h : wpAny (model prog w) A.in1 (pyIter (.ref s.heap.objs.size)) (fun it s₂ => ∃ I fp wr n P St bt, it = .ref I ∧ Walks prog w A.in1 I fp wr n P St ∧ St 0 s₂.heap ∧ (∀ b ∈ fp, b < s₂.heap.objs.size) ∧ 0 < n ∧ CmpOf prog w A.in1 .Lt P bt ∧
      ∀ v h' tk, P (argBest bt (n - 1)) v → (∀ b o, b ∉ wr → s₂.heap.get? b = some o → h'.get? b = some o) → Q v { s₂ with heap := h', toks := tk }) E
      { s with heap := s.heap.push { cls := .type "tuple", data := .seq #[a, b, c, d, e, f, g] } }) :
    wpAny (model prog w) A (call (.builtin "min") [a, b, c, d, e, f, g]) Q E s := by
  have hname : (toString "min" ++ toString ".loop" : String) = "min.loop" := by decide
  refine call_function_tree PySem.F.kind_min PySem.F.plain_min PySem.F.entry_min (args_min7 _ _ _ _ _ _ _) ?_
  show wpAny _ A.in1 (Builtin.Builtins.bindParams "min" ["key", "default"] 0 ⟨[], []⟩ >>= _) _ _ s
  refine wpAny_bind (wpAny_of_eq (show Builtin.Builtins.bindParams "min" ["key", "default"] 0 ⟨[], []⟩ = pure [none, none] from rfl) ?_)
  show wpAny _ A.in1 (newTuple [a, b, c, d, e, f, g] >>= _) _ _ s
  refine wpAny_bind (wpAny_newObj_type ?_)
  refine wpAny_bind (wpAny_mono h (fun it s₂ h₂ => ?_) fun _ _ e => e)
  obtain ⟨I, fp, wr, n, P, St, bt, rfl, W, hst, hfp, hn, hcmp, hQ⟩ := h₂
  refine wpAny_bind (wpAny_newObj_type ?_)
  have hSf : s₂.heap.objs.size ∉ fp := fun hm => Nat.lt_irrefl _ (hfp _ hm)
  rw [hname]
  refine wpAny_pure ⟨plainId_quiet PySem.F.plain_min_loop _, codeAny_min_loop_first W bt hcmp s₂.heap.objs.size hSf hn (W.frame _ _ _ hst fun b _ o e => Heap.get?_push_of_some _ e) (Heap.get?_push_size _ rfl) fun v h' tk hP hk => ?_⟩
  exact hQ v h' tk hP fun b o hbw e => hk b o hbw (Nat.ne_of_lt (Heap.lt_size e)) (Heap.get?_push_of_some _ e)
theorem min_seven_ints {x0 x1 x2 x3 x4 x5 x6 : Int × Tok} {Q : Value → Shared → Prop} (hh : A.handled = none)
    (h : ∀ h' tk t, (∀ d o, s.heap.get? d = some o → h'.get? d = some o) → Q (.int (minOf ilt x0.1 [x1.1, x2.1, x3.1, x4.1, x5.1, x6.1]) t) { s with heap := h', toks := tk }) :
    wpAny (model prog w) A (call (.builtin "min") [.int x0.1 x0.2, .int x1.1 x1.2, .int x2.1 x2.2, .int x3.1 x3.2, .int x4.1 x4.2, .int x5.1 x5.2, .int x6.1 x6.2]) Q E s := by
  have hT : (s.heap.push { cls := .type "tuple", data := .seq #[.int x0.1 x0.2, .int x1.1 x1.2, .int x2.1 x2.2, .int x3.1 x3.2, .int x4.1 x4.2, .int x5.1 x5.2, .int x6.1 x6.2] }).IsTuple s.heap.objs.size (intItems #[x0, x1, x2, x3, x4, x5, x6]) := ⟨_, Heap.get?_push_size _ rfl, rfl, 0, by simp [intItems]⟩
  refine call_min_seven (wpAny_pyIter_tuple hT ?_)
  have hsz : (s.heap.push { cls := .type "tuple", data := .seq #[.int x0.1 x0.2, .int x1.1 x1.2, .int x2.1 x2.2, .int x3.1 x3.2, .int x4.1 x4.2, .int x5.1 x5.2, .int x6.1 x6.2] }).objs.size = s.heap.objs.size + 1 := Heap.size_push ..
  refine ⟨_, [_, s.heap.objs.size], [_], _, _, _, _, rfl, Walks.tuple (A := A.in1) hh _ s.heap.objs.size (by rw [hsz]; exact Nat.ne_of_lt (Nat.lt_succ_self _)) (intItems #[x0, x1, x2, x3, x4, x5, x6]),
    ⟨⟨_, Heap.get?_push_size _ rfl, rfl, rfl⟩, hT.push _⟩, fun d hd => ?_, by simp [intItems], CmpOf.ints_lt (numAt #[x0, x1, x2, x3, x4, x5, x6]) (fun _ _ => intItems_at), fun v h' tk hP hk => ?_⟩
  · show d < ((s.heap.push _).push _).objs.size
    rw [Heap.size_push, hsz]
    rcases List.mem_cons.mp hd with rfl | hd
    · rw [hsz]; exact Nat.lt_succ_self _
    · rcases List.mem_cons.mp hd with rfl | hd
      · exact Nat.lt_succ_of_lt (Nat.lt_succ_self _)
      · cases hd
  · have hold : ∀ d o, s.heap.get? d = some o → h'.get? d = some o := fun d o e => by
      refine hk d o (fun hm => ?_) (Heap.get?_push_of_some _ (Heap.get?_push_of_some _ e))
      rcases List.mem_cons.mp hm with e1 | hm
      · have := Heap.lt_size e; rw [e1, hsz] at this; exact Nat.lt_irrefl _ (Nat.lt_of_succ_lt this)
      · cases hm
    obtain ⟨t, rfl⟩ := intItems_at hP
    have hb := best_min (xs := #[x0, x1, x2, x3, x4, x5, x6]) 6
    have hsz2 : (intItems #[x0, x1, x2, x3, x4, x5, x6]).size - 1 = 6 := by simp [intItems]
    rw [hsz2, hb]
    exact h h' tk t hold
end
section
variable {C : Cfg} {φ : Fn} {X : Cx} {a b c e o i : Expr} {es : List Expr} {fa fb fc fo f : EF} {fs : AF} {pos p p2 apos : Pos}
theorem call_min7 (hc : X.calm = true) : CallR X (.builtin "min") (fun xs H Q => ∃ a ns, xs = (a :: ns).map V.int ∧ ns.length = 6 ∧ Q (.int (minOf ilt a ns)) H) := by
  intro pins s σ H xs us Q I r h
  obtain ⟨a, ns, rfl, hl, q⟩ := h
  match ns, hl with
  | [b, c, d, e, f, g], _ =>
    simp only [List.map_cons, List.map_nil] at r
    cases r with
    | cons r0 r => cases r with
      | cons r1 r => cases r with
        | cons r2 r => cases r with
          | cons r3 r => cases r with
            | cons r4 r => cases r with
              | cons r5 r => cases r with
                | cons r6 r =>
                  cases r
                  obtain ⟨t0, rfl⟩ := r0
                  obtain ⟨t1, rfl⟩ := r1
                  obtain ⟨t2, rfl⟩ := r2
                  obtain ⟨t3, rfl⟩ := r3
                  obtain ⟨t4, rfl⟩ := r4
                  obtain ⟨t5, rfl⟩ := r5
                  obtain ⟨t6, rfl⟩ := r6
                  exact min_seven_ints (x0 := (a, t0)) (x1 := (b, t1)) (x2 := (c, t2)) (x3 := (d, t3)) (x4 := (e, t4)) (x5 := (f, t5)) (x6 := (g, t6)) (I.ok.hd hc) fun h' tk t k => ⟨V.int (minOf ilt a [b, c, d, e, f, g]), H, I.kept k, ⟨t, rfl⟩, q⟩
theorem se_min7 (A : At C X) (bn : Bn X "min") (ha : SA C φ X (e :: es) fs) (hs : starEach (e :: es) X.env = (false, eval e X.env) :: starEach es X.env) (hp : (backTo pos (starEach es X.env)).any (·.1) = false) : SE C φ X (.Call (.Name "min" p) (e :: es) [] pos) (eMin7 fs) := by
  refine ⟨fun N tk => (L2.pe_callB (call_min7 A.calm) bn.gl bn.mg (by rfl) (ha.run N tk) (by decide) (by decide) hs hp).imp fun σ H Q ⟨g, s, h, r, rs, ok⟩ => ?_⟩
  refine goA r rs ok fun g1 h1 xs vs H1 e1 r1 rl ok1 => ?_
  split at ok1
  · rename_i i ns hi
    split at ok1
    · rename_i hl
      have := ints_rel rl hi
      exact ⟨i, ns, this, hl, ok1.fin r1 _ (by simp [RelA])⟩
    · exact ok1.elim
  · exact ok1.elim
/-! ### tuple(range(a, b)) -/
theorem se_trg (A : At C X) {q : Pos} (bl : Bn X "tuple") (br : Bn X "range") (ha : SE C φ X a fa) (hb : SE C φ X b fb) (hn : noStar a = true) (hn2 : noStar b = true) :
    SE C φ X (.Call (.Name "tuple" p) [.Call (.Name "range" p2) [a, b] [] q] [] pos) (eTRg fa fb) := by
  refine ⟨fun N tk => (L2.pe_tupRg A.calm bl.gl bl.mg (L2.prg_2 br.gl br.mg (ha.run N tk) (hb.run N tk) (by rw [star_cons hn]) (by rw [star_cons hn2]) (by rw [star_cons hn2]; rfl)) (by rfl)).imp fun σ H Q ⟨g, s, h, r, rs, ok⟩ => ?_⟩
  refine go r rs ok fun g1 h1 x cx H1 e1 r1 rx ok1 => go r1 (rs.mono e1) ok1 fun g2 h2 y cy H2 e2 r2 ry ok2 => ?_
  split at ok2
  · rename_i i j
    split at ok2
    · rename_i hk
      simp only [Bool.and_eq_true, decide_eq_true_eq] at hk
      obtain ⟨k1, k2⟩ := rngOk_of hk.1.1
      obtain ⟨k3, k4⟩ := rngOk_of hk.1.2
      refine ⟨i, j, (rx.mono e2).int, ry.int, ⟨k1, k2, k3, k4, Nat.le_trans hk.2 (by decide)⟩, fun q hq => ?_⟩
      exact tup_at r2 (rng_rel _ _) ok2 q hq
    · exact ok2.elim
  · exact ok2.elim
/-! ### o.count(e) -/
theorem se_count (A : At C X) (ho : SE C φ X o fo) (ha : SE C φ X e f) (hs : notSuper o = true) (hn : noStar e = true) (hl : (apos.endLine == pos.line) = true) :
    SE C φ X (.Call (.Attribute o "count" apos) [e] [] pos) (eCount fo f) := by
  refine ⟨fun N tk => (L2.pe_bm PySem.F.plainAttrs_list PySem.F.slot_list_count PySem.F.type_list_count L2.mt_lcount (ho.run N tk) ((sa_cons ha sa_nil hn).run N tk) (mBase_by hs) (by rw [star1 hn]; rfl) hl (star_cons hn) rfl).imp fun σ H Q ⟨g, s, hh, r, rs, ok⟩ => ?_⟩
  refine go r rs ok fun g1 h1 x cx H1 e1 r1 rx ok1 => ?_
  split at ok1
  · rename_i xs hx
    refine ⟨tyV_lst A.K.symm r1 rx hx, g1, s, h1, r1, rs.mono e1, ?_⟩
    unfold aCons aNil
    cases z : f φ s h1 with
    | ok v h2 =>
      rw [z] at ok1
      simp only [bind_ok] at ok1 ⊢
      intro g2 H2 e2 r2 vs rl
      obtain ⟨cv, vs2, rfl, rv, rn⟩ := rl
      cases rn
      have ok2 := okG.ext ok1 e2
      unfold cntA at ok2
      split at ok2
      · rename_i u hu
        split at hu
        · rename_i ys k hy
          obtain ⟨p, ws, rfl, rl2, h3⟩ := lst_at r2 (rx.mono e2) hy
          cases hz : intsO ys with
          | none => rw [hz] at hu; cases hu
          | some ns =>
            rw [hz] at hu
            cases hu
            have e3 := ints_rel rl2 hz
            subst e3
            refine ⟨p, ns, k, rfl, by rw [rv.int], ?_, ok2.fin r2 _ (by simp [RelA])⟩
            rw [A.K]
            exact SqL.of h3
        · cases hu
      · exact ok2.elim
    | exc c h2 => rw [z] at ok1; exact ok1
    | stuck => rw [z] at ok1; exact ok1
  · exact ok1.elim
end
end TX

/-! TxL: the translator: from the text to its meaning, each step with its proof -/
set_option Elab.async false
set_option linter.all false
set_option maxRecDepth 100000
set_option maxHeartbeats 1000000
set_option autoImplicit false
namespace TX
open PySem PySem.Spec PyProof.Rows
open L2 (V HO Hp Key upd upd_same upd_ne SqL SqT Rd HOk Cx Inv PE PT PTs PW PS PSs PG PGs PI PA TE TT TA TS TG TGs TI It VK XK WX Takes Ends EP SP TP OpR tOp CallR tCB tCons tNil Sp Room FnOk)
/-- what a global name is -/
inductive GI where
  | bltn
  | fn (i : Nat)
  | exc (c : Nat)
  | tell (w : List Nat) (ret : Tx)
  | val (v : AV)
  | cls (c fi : Nat) (alts : List (Nat × List AV))
  | fld (f : Str) (cs : List Nat)
  | mth (m : Str) (ms : List (Nat × Nat))
structure TC where
  N : List Str
  sc : Scope
  top : Str → Bool
  gl : List (Str × GI)
  chg : List (Nat × Nat)
  dp : Nat
  lam : Bool
  gen : Bool
def TC.ch (T : TC) (p : Pos) : Bool := T.chg.any fun q => q.1 == p.line && q.2 == p.col
def GOk (C : Cfg) (φ : Fn) (lv : Nat) (X : Cx) (x : Str) : GI → Prop
  | .bltn => X.mg x = none
  | .fn i => FnI C X.prog X.w X.K X.mg X.base lv x (φ 0 i)
  | .exc c => ExcI C X.K X.mg x c
  | .tell w ret => TellI C X.K X.mg x (ctOf w) ret
  | .val v => ∃ u cv, X.mg x = some u ∧ L2.RelV cv u ∧ ∀ g, RelA C g v cv
  | .cls c fi alts => ∀ n dvs, alts.lookup n = some dvs → MkI C X.prog X.w X.K X.mg X.base lv c x dvs (φ 0 fi)
  | .fld f cs => ∀ c ∈ cs, ClF C X.K c f
  | .mth m ms => ∀ p ∈ ms, MeI C X.prog X.w X.K X.mg X.base lv p.1 m (φ 0 p.2)
structure Fits (C : Cfg) (φ : Fn) (lv : Nat) (T : TC) (X : Cx) : Prop where
  A : At C X
  N : X.N = T.N
  sc : X.env.scope = T.sc
  kd : T.sc.kind = .function
  own : PassesOwn (model X.prog X.w) X.A X.env X.xe
  fn : ∀ x, T.top x = true → X.fn x = true
  rm : Room (lv + T.dp) X.A
  gl : ∀ x gi, T.gl.lookup x = some gi → GOk C φ lv X x gi
  lam : T.lam = true → LamM C X
  gen : T.gen = true → GenM C X

abbrev TrE (T : TC) (e : Expr) := Option { f : EF // ∀ (C : Cfg) (φ : Fn) (lv : Nat) (X : Cx), Fits C φ lv T X → SE C φ X e f }
abbrev TrB (T : TC) (e : Expr) := Option { f : EF // ∀ (C : Cfg) (φ : Fn) (lv : Nat) (X : Cx), Fits C φ lv T X → SB C φ X e f }
abbrev TrA (T : TC) (e : List Expr) := Option { f : AF // ∀ (C : Cfg) (φ : Fn) (lv : Nat) (X : Cx), Fits C φ lv T X → SA C φ X e f }
abbrev TrO (T : TC) (e : Option Expr) := Option { f : OF // ∀ (C : Cfg) (φ : Fn) (lv : Nat) (X : Cx), Fits C φ lv T X → SO C φ X e f }
abbrev TrI (T : TC) (tg e : Expr) := Option { f : IF_ // ∀ (C : Cfg) (φ : Fn) (lv : Nat) (X : Cx), Fits C φ lv T X → SI C φ X tg e f }
abbrev TrT (T : TC) (tg : Expr) := Option { f : List Nat × TF // ∀ (C : Cfg) (φ : Fn) (lv : Nat) (X : Cx), Fits C φ lv T X → ST C X tg f.1 f.2 }
abbrev TrTs (T : TC) (tg : List Expr) := Option { f : List Nat × (List AV → St → Option St) // (∀ (C : Cfg) (φ : Fn) (lv : Nat) (X : Cx), Fits C φ lv T X → STs C X tg f.1 f.2) ∧ ∀ xs s s1, f.2 xs s = some s1 → xs.length = tg.length }
abbrev TrS (T : TC) (e : Stmt) := Option { f : SF // ∀ (C : Cfg) (φ : Fn) (lv : Nat) (X : Cx), Fits C φ lv T X → SS C φ X e f }
abbrev TrSs (T : TC) (e : List Stmt) := Option { f : SF // ∀ (C : Cfg) (φ : Fn) (lv : Nat) (X : Cx), Fits C φ lv T X → SSs C φ X e f }
abbrev TrW (T : TC) (e : Expr) := Option { f : EF // ∀ (C : Cfg) (φ : Fn) (lv : Nat) (X : Cx), Fits C φ lv T X → SW C φ X e f }

/-! ### names -/
def visB (sc : Scope) (x : Str) : Bool := match sc.names.lookup x with
  | some .local => true
  | some .cell => true
  | some .free => true
  | _ => false
theorem visB_of {sc : Scope} {x : Str} (h : visB sc x = true) : L2.Vis sc x := by
  unfold visB at h
  unfold L2.Vis
  split at h <;> simp_all
def okN (x : Str) : Bool := !(x == ("__debug__" : Str)) && !(x == ("__classdict__" : Str))
theorem okN_of {x : Str} (h : okN x = true) : (x == ("__debug__" : Str)) = false ∧ (x == ("__classdict__" : Str)) = false := by
  unfold okN at h
  simp only [Bool.and_eq_true, Bool.not_eq_true'] at h
  exact h
def ixOf (T : TC) (x : Str) : Nat := T.N.findIdx fun y => y == x
def glB (sc : Scope) (x : Str) : Bool := match sc.names.lookup x with
  | some .globalImplicit => true
  | _ => false
theorem glB_of {sc : Scope} {x : Str} (h : glB sc x = true) : sc.names.lookup x = some .globalImplicit := by
  unfold glB at h
  split at h <;> simp_all
section
variable {C : Cfg} {φ : Fn} {lv : Nat} {X : Cx} {T : TC}
theorem Fits.vis (F : Fits C φ lv T X) {x : Str} (h : visB T.sc x = true) : L2.Vis X.env.scope x := by rw [F.sc]; exact visB_of h
theorem Fits.glo (F : Fits C φ lv T X) {x : Str} (h : glB T.sc x = true) : L2.Gl X x := by
  show X.env.scope.names.lookup x = _
  rw [F.sc]; exact glB_of h
theorem Fits.at_ (F : Fits C φ lv T X) {x : Str} {i : Nat} (h : T.N[i]? = some x) : X.N[i]? = some x := by rw [F.N]; exact h
theorem Fits.bn (F : Fits C φ lv T X) {x : Str} (h : glB T.sc x = true) (hg : T.gl.lookup x = some .bltn) : Bn X x := ⟨F.glo h, F.gl x _ hg⟩
end
def trName (T : TC) (x : Str) (p : Pos) : TrE T (.Name x p) :=
  if hk : okN x = true then
    if hv : visB T.sc x = true then
      if hi : T.N[ixOf T x]? = some x then some ⟨eV (ixOf T x), fun C φ lv X F => se_var (F.at_ hi) (F.vis hv) (okN_of hk).1 (okN_of hk).2⟩ else none
    else if hg : glB T.sc x = true then
      match hl : T.gl.lookup x with
      | some (.val v) => some ⟨eC v, fun C φ lv X F => by
          obtain ⟨u, cv, h1, h2, h3⟩ := F.gl x _ hl
          exact se_const (L2.pe_glob (F.glo hg) h1 h2 (okN_of hk).1) h3⟩
      | _ => none
    else none
  else none
/-! ### argument lists -/
def trA (re : ∀ T e, TrE T e) (T : TC) : (es : List Expr) → TrA T es
  | [] => some ⟨aNil, fun C φ lv X F => sa_nil⟩
  | e :: es => if hn : noStar e = true then
      match re T e, trA re T es with
      | some ⟨f, h⟩, some ⟨g, k⟩ => some ⟨aCons f g, fun C φ lv X F => sa_cons (h C φ lv X F) (k C φ lv X F) hn⟩
      | _, _ => none
    else none
def boOf : Operator → Option BO
  | .Add => some .add
  | .Sub => some .sub
  | .Mult => some .mul
  | .FloorDiv => some .div
  | .Mod => some .mod
  | .Pow => some .pow
  | _ => none
theorem boOf_toOp {o : Operator} {b : BO} (h : boOf o = some b) : o = toOp b := by
  cases o <;> simp [boOf] at h <;> subst h <;> rfl
def coOf : CmpOp → CO
  | .Eq => .eq
  | .NotEq => .ne
  | .Lt => .lt
  | .LtE => .le
  | .Gt => .gt
  | .GtE => .ge
  | .Is => .isN
  | .IsNot => .notN
  | .In => .inn
  | .NotIn => .notIn
theorem coOf_toC (o : CmpOp) : o = toC (coOf o) := by cases o <;> rfl
/-! ### and, or -/
def trWv (re : ∀ T e, TrE T e) (T : TC) (op : BoolOp) (pos : Pos) : (es : List Expr) → TrE T (.BoolOp op es pos)
  | [] => none
  | [a] => match re T a with
    | some ⟨f, h⟩ => some ⟨eB f, fun C φ lv X F => se_b1 (h C φ lv X F)⟩
    | none => none
  | a :: b :: r => match re T a, trWv re T op pos (b :: r) with
    | some ⟨f, h⟩, some ⟨g, k⟩ => (match op, k with
      | .And, k => some ⟨eAnd f g, fun C φ lv X F => se_and (h C φ lv X F) (k C φ lv X F)⟩
      | .Or, k => some ⟨eOr f g, fun C φ lv X F => se_or (h C φ lv X F) (k C φ lv X F)⟩)
    | _, _ => none
def trW (rb : ∀ T e, TrB T e) (T : TC) (op : BoolOp) (pos : Pos) : (es : List Expr) → TrW T (.BoolOp op es pos)
  | [] => none
  | [a] => match rb T a with
    | some ⟨f, h⟩ => (match op with
      | .And => some ⟨eB f, fun C φ lv X F => sw_and1 (h C φ lv X F)⟩
      | .Or => some ⟨eB f, fun C φ lv X F => sw_or1 (h C φ lv X F)⟩)
    | none => none
  | a :: b :: r => match rb T a, trW rb T op pos (b :: r) with
    | some ⟨f, h⟩, some ⟨g, k⟩ => (match op, k with
      | .And, k => some ⟨eAnd f g, fun C φ lv X F => sw_and (h C φ lv X F) (k C φ lv X F)⟩
      | .Or, k => some ⟨eOr f g, fun C φ lv X F => sw_or (h C φ lv X F) (k C φ lv X F)⟩)
    | _, _ => none
def trO (re : ∀ T e, TrE T e) (T : TC) : (e : Option Expr) → TrO T e
  | none => some ⟨oNone, fun C φ lv X F => so_none⟩
  | some e => match re T e with
    | some ⟨f, h⟩ => some ⟨oSome f, fun C φ lv X F => so_some (h C φ lv X F)⟩
    | none => none
/-! ### f-strings -/
def trFs (re : ∀ T e, TrE T e) (T : TC) : (es : List Expr) → Option { f : List EF // ∀ (C : Cfg) (φ : Fn) (lv : Nat) (X : Cx), Fits C φ lv T X → SF_ C φ X es f }
  | [] => some ⟨[], fun C φ lv X F => .nil⟩
  | .Constant (.str x) j q :: es => match trFs re T es with
    | some ⟨fs, k⟩ => some ⟨eC (.str x.cps.toList) :: fs, fun C φ lv X F => .str (toS_of x).symm (k C φ lv X F)⟩
    | none => none
  | .FormattedValue e (.negSucc 0) none q :: es => match re T e, trFs re T es with
    | some ⟨f, h⟩, some ⟨fs, k⟩ => some ⟨f :: fs, fun C φ lv X F => .val (h C φ lv X F) (k C φ lv X F)⟩
    | _, _ => none
  | _ => none
/-! ### built-ins of one argument -/
def ubOf (m : Bool) (x : Str) : Option UB :=
  if x = "len" then some .len else if x = "abs" then some .abs else if x = "int" then some .int else if x = "str" then some .str else if x = "sum" then some .sum
  else if x = "sorted" then some (.sorted m) else if x = "list" then some (.list m) else if x = "tuple" then some .tuple else if x = "dict" then some (.dict m) else if x = "max" then some .max else if x = "min" then some .min else none
def ubN : UB → Str
  | .len => "len"
  | .abs => "abs"
  | .int => "int"
  | .str => "str"
  | .sum => "sum"
  | .sorted _ => "sorted"
  | .list _ => "list"
  | .tuple => "tuple"
  | .max => "max"
  | .min => "min"
  | .dict _ => "dict"
theorem ubOf_N {m : Bool} {x : Str} {b : UB} (h : ubOf m x = some b) : x = ubN b := by
  unfold ubOf at h
  repeat (split at h; · (rename_i hx; cases h; exact hx))
  cases h
section
variable {C : Cfg} {φ : Fn} {X : Cx} {a : Expr} {fa : EF} {p pos : Pos}
theorem se_u {b : UB} (A : At C X) (bn : Bn X (ubN b)) (ha : SE C φ X a fa) (hn : noStar a = true) : SE C φ X (.Call (.Name (ubN b) p) [a] [] pos) (eU b fa) := by
  cases b with
  | max => exact se_mxl A bn ha hn
  | min => exact se_mnl A bn ha hn
  | len => exact se_callB (k := uA .len) cr_len bn (by rfl) (len_run A.K) ha hn (by decide) (by decide)
  | abs => exact se_callB (k := uA .abs) L2.call_abs bn (by rfl) abs_run ha hn (by decide) (by decide)
  | int => exact se_callT (k := uA .int) (.or L2.call_int1 L2.call_int_str) bn (by rfl) int_run ha hn (by decide) (by decide)
  | str => exact se_callT (k := uA .str) L2.call_str_int bn (by rfl) str_run ha hn (by decide) (by decide)
  | sum => exact se_callB (k := uA .sum) (cr_sum2 A.calm) bn (by rfl) (sum_run A.K) ha hn (by decide) (by decide)
  | sorted m => exact se_callB (k := uA (.sorted m)) (cr_sortA A.calm) bn (by rfl) (sorted_run A.K m) ha hn (by cases m <;> decide) (by cases m <;> decide)
  | list m => exact se_callT (k := uA (.list m)) (cr_list A.calm) bn (by rfl) (list_run A.K m) ha hn (by cases m <;> decide) (by cases m <;> decide)
  | tuple => exact se_callT (k := uA .tuple) L2.call_tuple_of bn (by rfl) (tuple_run A.K) ha hn (by decide) (by decide)
  | dict m => exact se_callT (k := uA (.dict m)) (L2.call_dictP A.calm) bn (by rfl) (dict_run A.K m) ha hn (by cases m <;> decide) (by cases m <;> decide)
end

/-! ### one step -/
def trCmp1 (re : ∀ T e, TrE T e) (T : TC) (a b : Expr) (o : CmpOp) (pos : Pos) : Option { f : EF // (∀ (C : Cfg) (φ : Fn) (lv : Nat) (X : Cx), Fits C φ lv T X → SE C φ X (.Compare a [o] [b] pos) f) ∧ ∀ (C : Cfg) (φ : Fn) (lv : Nat) (X : Cx), Fits C φ lv T X → SB C φ X (.Compare a [o] [b] pos) f } :=
  if hm : behindInMarks o b = false then
    match re T a, re T b with
    | some ⟨f, h⟩, some ⟨g, k⟩ => some ⟨eCmp (coOf o) f g, by
        have e := coOf_toC o
        generalize coOf o = c at e
        subst e
        exact ⟨fun C φ lv X F => se_cmp F.A c (h C φ lv X F) (k C φ lv X F) hm, fun C φ lv X F => sb_cmp F.A c (h C φ lv X F) (k C φ lv X F) hm⟩⟩
    | _, _ => none
  else none
def trCmp2 (re : ∀ T e, TrE T e) (T : TC) (a b c : Expr) (o o2 : CmpOp) (pos : Pos) : Option { f : EF // (∀ (C : Cfg) (φ : Fn) (lv : Nat) (X : Cx), Fits C φ lv T X → SE C φ X (.Compare a [o, o2] [b, c] pos) f) ∧ ∀ (C : Cfg) (φ : Fn) (lv : Nat) (X : Cx), Fits C φ lv T X → SB C φ X (.Compare a [o, o2] [b, c] pos) f } :=
  if hm : lastMarks [o, o2] [b, c] = false then
    match re T a, re T b, re T c with
    | some ⟨f, h⟩, some ⟨g, k⟩, some ⟨u, l⟩ => some ⟨eChain (coOf o) (coOf o2) f g u, by
        have e := coOf_toC o
        have e2 := coOf_toC o2
        generalize coOf o = c at e
        generalize coOf o2 = c2 at e2
        subst e
        subst e2
        exact ⟨fun C φ lv X F => se_chain F.A c c2 (h C φ lv X F) (k C φ lv X F) (l C φ lv X F) hm, fun C φ lv X F => sb_chain F.A c c2 (h C φ lv X F) (k C φ lv X F) (l C φ lv X F) hm⟩⟩
    | _, _, _ => none
  else none
def mmOf (x : Str) : Option Bool := if x = "max" then some true else if x = "min" then some false else none
theorem mmOf_N {x : Str} {m : Bool} (h : mmOf x = some m) : x = (if m then ("max" : Str) else "min") := by
  unfold mmOf at h
  split at h
  · rename_i hx; cases h; exact hx
  · split at h
    · rename_i hx; cases h; exact hx
    · cases h
theorem se_mm' {C : Cfg} {φ : Fn} {X : Cx} {a b : Expr} {fa fb : EF} {pos p : Pos} (A : At C X) {m : Bool} (bn : Bn X (if m then ("max" : Str) else "min")) (ha : SE C φ X a fa) (hb : SE C φ X b fb) (hn : noStar a = true) (hn2 : noStar b = true) :
    SE C φ X (.Call (.Name (if m then ("max" : Str) else "min") p) [a, b] [] pos) (eMM m fa fb) := by
  cases m
  · exact se_mm A false bn (by rfl) ha hb hn hn2 (by decide) (by decide)
  · exact se_mm A true bn (by rfl) ha hb hn hn2 (by decide) (by decide)
def plainAs : List Expr → Bool
  | [] => true
  | e :: es => noStar e && plainAs es
theorem plainAs_any {env : Env} {pos : Pos} : ∀ {es : List Expr}, plainAs es = true → (backTo pos (starEach es env)).any (·.1) = false
  | [], _ => rfl
  | e :: es, h => by
    simp only [plainAs, Bool.and_eq_true] at h
    have ih := plainAs_any (env := env) (pos := pos) h.2
    rw [star_cons h.1]
    have e1 : backTo pos ((false, eval e env) :: starEach es env) = (backTo pos [(false, eval e env)]) ++ backTo pos (starEach es env) := by
      unfold backTo; rfl
    rw [e1, List.any_append, ih]
    rfl
/-- a lambda's own frame -/
def TC.lamT (T : TC) (scope : Scope) : TC := { T with sc := scope, top := fun _ => false, dp := T.dp - 2, lam := false, gen := false }
theorem Fits.lamF {C : Cfg} {φ : Fn} {lv : Nat} {X : Cx} {T : TC} {scope : Scope} (F : Fits C φ lv T X) (L : LamX.LamS X.env.scope scope) (hd : 2 ≤ T.dp) {A : Around} {outer : List Env} {s : Shared} {H : Hp} {E : XK} {fa c' : Addr} (hr : Room (lv + (T.dp - 2)) (A.deeper (LamX.lamEnv X scope s.heap.objs.size fa c'))) :
    Fits C φ lv (T.lamT scope) (LamX.lamCx X A outer s H E scope fa c') where
  A := ⟨F.A.K, rfl, F.A.nd, by
    have := hr.un
    have e : (LamX.lamCx X A outer s H E scope fa c').A = A.deeper (LamX.lamEnv X scope s.heap.objs.size fa c') := rfl
    rw [e]
    omega⟩
  N := F.N
  sc := rfl
  kd := L.kind
  own := L2.passes_of (K := fun e s'' => L2.CX X.prog X.w outer H s E e s'') rfl
  fn := fun _ h => nomatch h
  rm := hr
  gl := fun x gi h => by
    have z := F.gl x gi h
    cases gi with
    | bltn => exact z
    | fn i => exact z
    | exc c => exact z
    | tell w ret => exact z
    | val v => exact z
    | cls c fi alts => exact z
    | fld f cs => exact z
    | mth m ms => exact z
  lam := fun h => nomatch h
  gen := fun h => nomatch h
def lamDef (params : Arguments) : Bool := match params with
  | ⟨[], [], none, [], [], none, []⟩ => true
  | _ => false
theorem lamDef_of {params : Arguments} (h : lamDef params = true) : params = ⟨[], [], none, [], [], none, []⟩ := by
  unfold lamDef at h
  split at h
  · rfl
  · cases h
theorem lam_bind (body : Expr) (scope : Scope) (q : Str) (cl : List (Str × Addr)) (pm cv ctv : Value) : bindArgs (PySem.W.kla_fn "<lambda>" q ⟨[], [], none, [], [], none, []⟩ body scope cl pm cv ctv) ⟨[], []⟩ = pure [] := by rfl
def trLam (re : ∀ T e, TrE T e) (T : TC) (params : Arguments) (body : Expr) (scope : Scope) : Option { f : EF // ∀ (C : Cfg) (φ : Fn) (lv : Nat) (X : Cx), Fits C φ lv T X → LamP C φ X (lv + (T.dp - 2)) params body scope f } :=
  if h : (lamDef params && LamX.lamSB T.sc scope && decide (2 ≤ T.dp)) = true then
    match re (T.lamT scope) body with
    | some ⟨f, k⟩ => some ⟨f, fun C φ lv X F => by
        simp only [Bool.and_eq_true, decide_eq_true_eq] at h
        have L : LamX.LamS X.env.scope scope := by rw [F.sc]; exact LamX.lamS_by h.1.2
        have e := lamDef_of h.1.1
        subst e
        exact ⟨L, rfl, lam_bind body scope, fun A outer s H E fa c' hr => k C φ lv _ (F.lamF L h.2 hr)⟩⟩
    | none => none
  else none
/-! ### targets -/
def trT : (T : TC) → (tg : Expr) → TrT T tg
  | T, .Name x p => if hi : T.N[ixOf T x]? = some x then
      if hl : T.sc.names.lookup x = some .local then some ⟨([ixOf T x], gN (ixOf T x)), fun C φ lv X F => st_name F.A (F.at_ hi) (.inl (by rw [F.sc]; exact hl)) (.inr (by rw [F.sc]; exact hl))⟩
      else if hl : T.sc.names.lookup x = some .cell ∧ T.top x = true then some ⟨([ixOf T x], gN (ixOf T x)), fun C φ lv X F => st_name F.A (F.at_ hi) (.inr (by rw [F.sc]; exact hl.1)) (.inl (F.fn x hl.2))⟩
      else none
    else none
  | T, _ => none
def trTs (T : TC) : (tg : List Expr) → TrTs T tg
  | [] => some ⟨([], gsNil), fun C φ lv X F => sts_nil, gsNil_len⟩
  | t :: ts => if hn : noStarT t = true then
      match trT T t, trTs T ts with
      | some ⟨f, h⟩, some ⟨g, k⟩ => some ⟨(f.1 ++ g.1, gsCons f.2 g.2), fun C φ lv X F => sts_cons (h C φ lv X F) (k.1 C φ lv X F) hn, gsCons_len k.2⟩
      | _, _ => none
    else none
def trTg1 (T : TC) (tg : Expr) : TrT T tg :=
  match tg with
  | .Tuple ts k p => if hp : plainTs ts = true then
      match trTs T ts with
      | some ⟨g, k⟩ => some ⟨(g.1, gT g.2), fun C φ lv X F => st_tup F.A (k.1 C φ lv X F) hp k.2⟩
      | none => none
    else none
  | tg => trT T tg
def trTs2 (T : TC) : (tg : List Expr) → TrTs T tg
  | [] => some ⟨([], gsNil), fun C φ lv X F => sts_nil, gsNil_len⟩
  | t :: ts => if hn : noStarT t = true then
      match trTg1 T t, trTs2 T ts with
      | some ⟨f, h⟩, some ⟨g, k⟩ => some ⟨(f.1 ++ g.1, gsCons f.2 g.2), fun C φ lv X F => sts_cons (h C φ lv X F) (k.1 C φ lv X F) hn, gsCons_len k.2⟩
      | _, _ => none
    else none
def trTg (T : TC) (tg : Expr) : TrT T tg :=
  match tg with
  | .Tuple ts k p => if hp : plainTs ts = true then
      match trTs2 T ts with
      | some ⟨g, k⟩ => some ⟨(g.1, gT g.2), fun C φ lv X F => st_tup F.A (k.1 C φ lv X F) hp k.2⟩
      | none => none
    else none
  | tg => trT T tg
end TX

/-! TxM: the translator, expressions -/
set_option Elab.async false
set_option linter.all false
set_option maxRecDepth 100000
set_option maxHeartbeats 1000000
set_option autoImplicit false
namespace TX
open PySem PySem.Spec PyProof.Rows
open L2 (V HO Hp Key upd upd_same upd_ne SqL SqT Rd HOk Cx Inv PE PT PTs PW PS PSs PG PGs PI PA TE TT TA TS TG TGs TI It VK XK WX Takes Ends EP SP TP OpR tOp CallR tCB tCons tNil Sp Room FnOk)
def notSet : Expr → Bool
  | .Set _ _ _ => false
  | _ => true
theorem notSet_of {e : Expr} {env : Env} (h : notSet e = true) : ∀ x, foldedSetIterable e env x = pure x := by
  intro x
  cases e <;> first | rfl | (simp [notSet] at h)
def TC.blkT (T : TC) (scope : Scope) : TC := { T with sc := L2.relS scope T.sc, top := fun x => scope.names.lookup x == some .cell, lam := false, gen := false }
theorem Fits.blkF {C : Cfg} {φ : Fn} {lv : Nat} {X : Cx} {T : TC} {scope : Scope} {own : List (Str × Nat)} (F : Fits C φ lv T X) (ok : L2.BlkOk X.N X.env.scope scope own) {s : Shared} {H : Hp} {L : Addr} {cl : List (Str × Addr)} {fp : List Addr} :
    Fits C φ lv (T.blkT scope) (X.blk s H scope (compEnvC scope cl L X.env) fp) where
  A := ⟨F.A.K, F.A.calm, F.A.nd, F.A.hu⟩
  N := F.N
  sc := by
    show L2.relS scope X.env.scope = _
    rw [F.sc]
    rfl
  kd := ok.kind
  own := PassesOwn.never
  fn := fun _ h => h
  rm := F.rm
  gl := fun x gi h => by
    have z := F.gl x gi h
    cases gi with
    | bltn => exact z
    | fn i => exact z
    | exc c => exact z
    | tell w ret => exact z
    | val v => exact z
    | cls c fi alts => exact z
    | fld f cs => exact z
    | mth m ms => exact z
  lam := fun h => nomatch h
  gen := fun h => nomatch h
def trI (re : ∀ T e, TrE T e) (T : TC) (tg : Expr) : (it : Expr) → TrI T tg it
  | .Call (.Name x p) [a] [] pos =>
    if h1 : (decide (x = "range") && glB T.sc x && noStar a) = true then
      match hl : T.gl.lookup x with
      | some .bltn => (match re T a with
        | some ⟨f, h⟩ => some ⟨iRng1 f, fun C φ lv X F => by
            simp only [Bool.and_eq_true, decide_eq_true_eq] at h1
            obtain ⟨⟨rfl, hg⟩, hn⟩ := h1
            exact si_rng1 (F.bn hg hl) (h C φ lv X F) hn⟩
        | none => none)
      | _ => none
    else if h2 : (decide (x = "enumerate") && glB T.sc x && noStar a) = true then
      match tg with
      | .Tuple elts kk tp => (match hl : T.gl.lookup x with
        | some .bltn => (match re T a with
          | some ⟨f, h⟩ => some ⟨iEnum f, fun C φ lv X F => by
              simp only [Bool.and_eq_true, decide_eq_true_eq] at h2
              obtain ⟨⟨rfl, hg⟩, hn⟩ := h2
              exact si_enum F.A (F.bn hg hl) (h C φ lv X F) hn⟩
          | none => none)
        | _ => none)
      | _ => none
    else match re T (.Call (.Name x p) [a] [] pos) with
      | some ⟨f, h⟩ => some ⟨iSeq f, fun C φ lv X F => si_seq F.A (h C φ lv X F)⟩
      | none => none
  | .Call (.Name x p) [a, b] [] pos =>
    if h1 : (decide (x = "range") && glB T.sc x && noStar a && noStar b) = true then
      match hl : T.gl.lookup x with
      | some .bltn => (match re T a, re T b with
        | some ⟨f, h⟩, some ⟨g, k⟩ => some ⟨iRng2 f g, fun C φ lv X F => by
            simp only [Bool.and_eq_true, decide_eq_true_eq] at h1
            obtain ⟨⟨⟨rfl, hg⟩, hn⟩, hn2⟩ := h1
            exact si_rng2 (F.bn hg hl) (h C φ lv X F) (k C φ lv X F) hn hn2⟩
        | _, _ => none)
      | _ => none
    else if h2 : (decide (x = "zip") && glB T.sc x && noStar a && noStar b) = true then
      match tg with
      | .Tuple elts kk tp => (match hl : T.gl.lookup x with
        | some .bltn => (match re T a, re T b with
          | some ⟨f, h⟩, some ⟨g, k⟩ => some ⟨iZip f g, fun C φ lv X F => by
              simp only [Bool.and_eq_true, decide_eq_true_eq] at h2
              obtain ⟨⟨⟨rfl, hg⟩, hn⟩, hn2⟩ := h2
              exact si_zip F.A (F.bn hg hl) (h C φ lv X F) (k C φ lv X F) hn hn2⟩
          | _, _ => none)
        | _ => none)
      | _ => none
    else match re T (.Call (.Name x p) [a, b] [] pos) with
      | some ⟨f, h⟩ => some ⟨iSeq f, fun C φ lv X F => si_seq F.A (h C φ lv X F)⟩
      | none => none
  | it => match re T it with
    | some ⟨f, h⟩ => some ⟨iSeq f, fun C φ lv X F => si_seq F.A (h C φ lv X F)⟩
    | none => none
/-! ### comprehensions -/
def ownOf (T : TC) (scope : Scope) : List (Str × Nat) := scope.names.filterMap fun y => match y.2 with
  | .local => if T.N.contains y.1 then some (y.1, ixOf T y.1) else none
  | .cell => if T.N.contains y.1 then some (y.1, ixOf T y.1) else none
  | _ => none
structure LcD where
  own : List (Str × Nat)
  sl : List Nat
  fi : IF_
  gt : TF
  fc : EF
  f : EF
def trIfs (rb : ∀ T e, TrB T e) (T : TC) : (ifs : List Expr) → Option { f : EF // ∀ (C : Cfg) (φ : Fn) (lv : Nat) (X : Cx), Fits C φ lv T X → PTs X ifs (tB C φ f N0) }
  | [] => some ⟨eYes, fun C φ lv X F => pts_yes⟩
  | [c] => match rb T c with
    | some ⟨f, h⟩ => some ⟨f, fun C φ lv X F => pts_if (h C φ lv X F)⟩
    | none => none
  | _ => none
def trLc (re : ∀ T e, TrE T e) (rb : ∀ T e, TrB T e) (T : TC) (elt tg iter : Expr) (ifs : List Expr) (scope : Scope) :
    Option { r : LcD // ∀ (C : Cfg) (φ : Fn) (lv : Nat) (X : Cx), Fits C φ lv T X → LcP C φ X elt tg iter ifs scope r.own r.sl r.fi r.gt r.fc r.f } :=
  if hb : (L2.blkC T.N T.sc scope (ownOf T scope) && notSet iter) = true then
    match trI re T tg iter, trTg (T.blkT scope) tg, trIfs rb (T.blkT scope) ifs, re (T.blkT scope) elt with
    | some ⟨fi, hi⟩, some ⟨gt, hg⟩, some ⟨fc, ht⟩, some ⟨f, he⟩ =>
      if hsl : (gt.1.all fun j => decide (j ∈ (ownOf T scope).map (·.2))) = true then
        some ⟨⟨ownOf T scope, gt.1, fi, gt.2, fc, f⟩, fun C φ lv X F => by
          simp only [Bool.and_eq_true] at hb
          have ok : L2.BlkOk X.N X.env.scope scope (ownOf T scope) := by rw [F.N, F.sc]; exact L2.blkOk_by hb.1
          refine ⟨hi C φ lv X F, ok, fun s H L cl fp => hg C φ lv _ (F.blkF ok), fun s H L cl fp => ht C φ lv _ (F.blkF ok), fun s H L cl fp => he C φ lv _ (F.blkF ok), notSet_of hb.2, fun j hj => ?_⟩
          exact of_decide_eq_true (List.all_eq_true.mp hsl j hj)⟩
      else none
    | _, _, _, _ => none
  else none
/-! ### generator expressions -/
def TC.genT (T : TC) (scope : Scope) : TC := { T with sc := scope, top := fun _ => false, dp := T.dp - 1, lam := false, gen := false }
theorem Fits.genF {C : Cfg} {φ : Fn} {lv : Nat} {X : Cx} {T : TC} {scope : Scope} {own : List (Str × Nat)} (F : Fits C φ lv T X) (ok : L2.BlkOk X.N X.env.scope scope own) (hd : 1 ≤ T.dp) {s : Shared} {H : Hp} {code : Value} {fp : List Addr} :
    Fits C φ lv (T.genT scope) (genCx X s H scope code fp) where
  A := ⟨F.A.K, rfl, F.A.nd, by
    have := F.rm.un
    show X.A.units + 5 + 3 + 65 < cLine
    omega⟩
  N := F.N
  sc := rfl
  kd := ok.kind
  own := PassesOwn.never
  fn := fun _ h => nomatch h
  rm := ⟨F.rm.hd, by
    have := F.rm.dp
    show X.A.depth + 1 + 3 * (lv + (T.dp - 1)) + 5 < _
    omega, by
    have := F.rm.un
    show X.A.units + 5 + 3 + 16 * (lv + (T.dp - 1)) + 200 < _
    omega⟩
  gl := fun x gi h => by
    have z := F.gl x gi h
    cases gi with
    | bltn => exact z
    | fn i => exact z
    | exc c => exact z
    | tell w ret => exact z
    | val v => exact z
    | cls c fi alts => exact z
    | fld f cs => exact z
    | mth m ms => exact z
  lam := fun h => nomatch h
  gen := fun h => nomatch h
def notList : Expr → Bool
  | .List _ _ => false
  | _ => true
theorem genFold_of {e : Expr} {env : Env} (h : (notSet e && notList e) = true) : ∀ v, genFold e env v = pure v := by
  intro v
  simp only [Bool.and_eq_true] at h
  unfold genFold
  split
  · simp [notList] at h
  · exact notSet_of h.1 v
def lk0 (scope : Scope) : Bool := match scope.names.lookup (".0" : Str) with
  | some .local => true
  | _ => false
theorem lk0_of {scope : Scope} (h : lk0 scope = true) : scope.names.lookup (".0" : Str) = some NameKind.local := by
  unfold lk0 at h
  split at h
  · rename_i e; exact e
  · cases h
def notCell : NameKind → Bool
  | .cell => false
  | _ => true
def trGen (re : ∀ T e, TrE T e) (rb : ∀ T e, TrB T e) (T : TC) (elt tg iter : Expr) (ifs : List Expr) (scope : Scope) :
    Option { r : LcD // ∀ (C : Cfg) (φ : Fn) (lv : Nat) (X : Cx), Fits C φ lv T X → GnP C φ X elt tg iter ifs scope r.own r.sl r.fi r.gt r.fc r.f } :=
  if hb : (L2.blkC T.N T.sc scope (ownOf T scope) && (notSet iter && notList iter) && !scope.isCoroutine && (scope.names.all fun y => notCell y.2) && lk0 scope && decide (1 ≤ T.dp)) = true then
    match trI re T tg iter, trTg (T.genT scope) tg, trIfs rb (T.genT scope) ifs, re (T.genT scope) elt with
    | some ⟨fi, hi⟩, some ⟨gt, hg⟩, some ⟨fc, ht⟩, some ⟨f, he⟩ =>
      if hsl : (gt.1.all fun j => decide (j ∈ (ownOf T scope).map (·.2))) = true then
        some ⟨⟨ownOf T scope, gt.1, fi, gt.2, fc, f⟩, fun C φ lv X F => by
          simp only [Bool.and_eq_true, decide_eq_true_eq, Bool.not_eq_true'] at hb
          obtain ⟨⟨⟨⟨⟨b1, b2⟩, b3⟩, b4⟩, b5⟩, b6⟩ := hb
          have ok : L2.BlkOk X.N X.env.scope scope (ownOf T scope) := by rw [F.N, F.sc]; exact L2.blkOk_by b1
          refine ⟨hi C φ lv X F, ok, b3, fun y hy z => ?_, lk0_of b5, fun s H code fp => hg C φ lv _ (F.genF ok b6), fun s H code fp => ht C φ lv _ (F.genF ok b6), fun s H code fp => he C φ lv _ (F.genF ok b6), genFold_of (by simp only [Bool.and_eq_true]; exact b2), fun j hj => ?_⟩
          · have := List.all_eq_true.mp b4 y hy
            rw [z] at this
            cases this
          · exact of_decide_eq_true (List.all_eq_true.mp hsl j hj)⟩
      else none
    | _, _, _, _ => none
  else none
def trGC (re : ∀ T e, TrE T e) (rb : ∀ T e, TrB T e) (T : TC) (x : Str) (p pos : Pos) : (as : List Expr) → TrE T (.Call (.Name x p) as [] pos)
  | [.GeneratorExp elt [⟨tg, iter, ifs, 0⟩] scope gpos] =>
    if hg : (glB T.sc x && T.gen && decide (2 ≤ T.dp)) = true then
      match hl : T.gl.lookup x, trGen re rb T elt tg iter ifs scope with
      | some .bltn, some ⟨r, h⟩ =>
        if ha : x = "any" then some ⟨eAny (r.own.map (·.2)) r.fi r.gt r.fc r.f, fun C φ lv X F => by
          simp only [Bool.and_eq_true, decide_eq_true_eq] at hg
          subst ha
          exact se_any (k := lv + (T.dp - 2)) F.A (F.rm.mono (by omega)) (F.gen hg.1.2) (F.bn hg.1.1 hl).1 (F.bn hg.1.1 hl).2 (h C φ lv X F)⟩
        else if ha : x = "tuple" then some ⟨eGen .tuple (r.own.map (·.2)) r.fi r.gt r.fc r.f, fun C φ lv X F => by
          simp only [Bool.and_eq_true, decide_eq_true_eq] at hg
          subst ha
          exact se_genTuple (k := lv + (T.dp - 2)) F.A (F.rm.mono (by omega)) (F.gen hg.1.2) (F.bn hg.1.1 hl).1 (F.bn hg.1.1 hl).2 (h C φ lv X F)⟩
        else if ha : x = "sum" then some ⟨eGen .sum (r.own.map (·.2)) r.fi r.gt r.fc r.f, fun C φ lv X F => by
          simp only [Bool.and_eq_true, decide_eq_true_eq] at hg
          subst ha
          exact se_genSum (k := lv + (T.dp - 2)) F.A (F.rm.mono (by omega)) (F.gen hg.1.2) (F.bn hg.1.1 hl).1 (F.bn hg.1.1 hl).2 (h C φ lv X F)⟩
        else if ha : x = "sorted" then some ⟨eGen (.sorted (T.ch pos)) (r.own.map (·.2)) r.fi r.gt r.fc r.f, fun C φ lv X F => by
          simp only [Bool.and_eq_true, decide_eq_true_eq] at hg
          subst ha
          exact se_genSorted (k := lv + (T.dp - 2)) F.A (T.ch pos) (F.rm.mono (by omega)) (F.gen hg.1.2) (F.bn hg.1.1 hl).1 (F.bn hg.1.1 hl).2 (h C φ lv X F)⟩
        else none
      | _, _ => none
    else none
  | _ => none
/-! ### calls -/
def trCall (re : ∀ T e, TrE T e) (T : TC) (x : Str) (p pos : Pos) : (as : List Expr) → TrE T (.Call (.Name x p) as [] pos)
  | [.Lambda params body scope lpos] =>
    if hg : (glB T.sc x && okN x && T.lam && decide (2 ≤ T.dp)) = true then
      match hl : T.gl.lookup x with
      | some (.tell w ret) => (match trLam re T params body scope with
        | some ⟨f, h⟩ => some ⟨eTold (ctOf w) ret f, fun C φ lv X F => by
            simp only [Bool.and_eq_true, decide_eq_true_eq] at hg
            exact se_told (F.gl x _ hl) (F.lam hg.1.2) (h C φ lv X F) (F.rm.mono (by omega)) (F.glo hg.1.1.1) (okN_of hg.1.1.2).1⟩
        | none => none)
      | _ => none
    else none
  | as => if hg : (glB T.sc x && okN x) = true then
      match hl : T.gl.lookup x with
      | some (.cls c fi alts) => (match ha : alts.lookup as.length with
        | some dvs => if hdp : 1 ≤ T.dp then (match as, ha with
          | [], ha => some ⟨eMake c fi dvs aNil, fun C φ lv X F => by
              simp only [Bool.and_eq_true] at hg
              exact se_make0 (F.gl x _ hl _ _ ha) (F.rm.mono (by omega)) (F.glo hg.1) (okN_of hg.2).1⟩
          | e :: es, ha => if hp : plainAs (e :: es) = true then
              match trA re T (e :: es) with
              | some ⟨f, h⟩ => some ⟨eMake c fi dvs f, fun C φ lv X F => by
                  simp only [Bool.and_eq_true] at hg
                  simp only [plainAs, Bool.and_eq_true] at hp
                  exact se_make (F.gl x _ hl _ _ ha) (F.rm.mono (by omega)) (F.glo hg.1) (h C φ lv X F) (okN_of hg.2).1 hp.1 (plainAs_any hp.2)⟩
              | none => none
            else none) else none
        | none => none)
      | some (.fn i) => (match as with
        | [] => some ⟨eCall i aNil, fun C φ lv X F => by
            simp only [Bool.and_eq_true] at hg
            exact se_call0 (F.gl x _ hl) (F.rm.mono (by omega)) (F.glo hg.1) (okN_of hg.2).1⟩
        | e :: es => if hp : plainAs (e :: es) = true then
            match trA re T (e :: es) with
            | some ⟨f, h⟩ => some ⟨eCall i f, fun C φ lv X F => by
                simp only [Bool.and_eq_true] at hg
                simp only [plainAs, Bool.and_eq_true] at hp
                exact se_call (F.gl x _ hl) (F.rm.mono (by omega)) (F.glo hg.1) (h C φ lv X F) (okN_of hg.2).1 hp.1 (plainAs_any hp.2)⟩
            | none => none
          else none)
      | some .bltn => (match as with
        | [a] => if hn : noStar a = true then
            match hu : ubOf (T.ch pos) x, re T a with
            | some b, some ⟨f, h⟩ => some ⟨eU b f, fun C φ lv X F => by
                simp only [Bool.and_eq_true] at hg
                have hx := ubOf_N hu
                have bn := F.bn hg.1 hl
                subst hx
                exact se_u F.A bn (h C φ lv X F) hn⟩
            | _, _ => none
          else none
        | [a, b] => if hn : (noStar a && noStar b) = true then
            match hu : mmOf x, re T a, re T b with
            | some m, some ⟨f, h⟩, some ⟨g, k⟩ => some ⟨eMM m f g, fun C φ lv X F => by
                simp only [Bool.and_eq_true] at hg hn
                have bn := F.bn hg.1 hl
                have hx := mmOf_N hu
                subst hx
                exact se_mm' F.A bn (h C φ lv X F) (k C φ lv X F) hn.1 hn.2⟩
            | _, _, _ => none
          else none
        | _ => none)
      | _ => none
    else none
/-- list(range(a, b)) -/
def trLR (re : ∀ T e, TrE T e) (T : TC) (x : Str) (p pos : Pos) : (as : List Expr) → TrE T (.Call (.Name x p) as [] pos)
  | [.Call (.Name y p2) [a, b] [] q] =>
    if h1 : (decide (x = "list") && decide (y = "range") && glB T.sc x && glB T.sc y && noStar a && noStar b) = true then
      match hl : T.gl.lookup x, hy : T.gl.lookup y, re T a, re T b with
      | some .bltn, some .bltn, some ⟨f, h⟩, some ⟨g, k⟩ => some ⟨eLRg (T.ch pos) f g, fun C φ lv X F => by
          simp only [Bool.and_eq_true, decide_eq_true_eq] at h1
          obtain ⟨⟨⟨⟨⟨rfl, rfl⟩, g1⟩, g2⟩, n1⟩, n2⟩ := h1
          exact se_lrg F.A _ (F.bn g1 hl) (F.bn g2 hy) (h C φ lv X F) (k C φ lv X F) n1 n2⟩
      | _, _, _, _ => none
    else none
  | _ => none
def orE {T : TC} {e : Expr} (a b : TrE T e) : TrE T e := match a with
  | some x => some x
  | none => b
/-- tuple(range(a, b)) -/
def trTR (re : ∀ T e, TrE T e) (T : TC) (x : Str) (p pos : Pos) : (as : List Expr) → TrE T (.Call (.Name x p) as [] pos)
  | [.Call (.Name y p2) [a, b] [] q] =>
    if h1 : (decide (x = "tuple") && decide (y = "range") && glB T.sc x && glB T.sc y && noStar a && noStar b) = true then
      match hl : T.gl.lookup x, hy : T.gl.lookup y, re T a, re T b with
      | some .bltn, some .bltn, some ⟨f, h⟩, some ⟨g, k⟩ => some ⟨eTRg f g, fun C φ lv X F => by
          simp only [Bool.and_eq_true, decide_eq_true_eq] at h1
          obtain ⟨⟨⟨⟨⟨rfl, rfl⟩, g1⟩, g2⟩, n1⟩, n2⟩ := h1
          exact se_trg F.A (F.bn g1 hl) (F.bn g2 hy) (h C φ lv X F) (k C φ lv X F) n1 n2⟩
      | _, _, _, _ => none
    else none
  | _ => none
/-- min of seven -/
def trMin7 (re : ∀ T e, TrE T e) (T : TC) (x : Str) (p pos : Pos) : (as : List Expr) → TrE T (.Call (.Name x p) as [] pos)
  | e :: es => if h1 : (decide (x = "min") && glB T.sc x && decide (es.length = 6) && plainAs (e :: es)) = true then
      match hl : T.gl.lookup x, trA re T (e :: es) with
      | some .bltn, some ⟨f, h⟩ => some ⟨eMin7 f, fun C φ lv X F => by
          simp only [Bool.and_eq_true, decide_eq_true_eq] at h1
          obtain ⟨⟨⟨rfl, g1⟩, g2⟩, n1⟩ := h1
          simp only [plainAs, Bool.and_eq_true] at n1
          exact se_min7 F.A (F.bn g1 hl) (h C φ lv X F) (star_cons n1.1) (plainAs_any n1.2)⟩
      | _, _ => none
    else none
  | _ => none
/-- the pairs of a display -/
def trDP (re : ∀ T e, TrE T e) (T : TC) (pos : Pos) : (keys : List (Option Expr)) → (vals : List Expr) → Option { ps : List (EF × EF) // ∀ (C : Cfg) (φ : Fn) (lv : Nat) (X : Cx), Fits C φ lv T X → SDP C φ X pos keys vals ps }
  | [], [] => some ⟨[], fun C φ lv X F => sdp_nil⟩
  | some k :: ks, v :: vs => match re T k, re T v, trDP re T pos ks vs with
    | some ⟨f, h⟩, some ⟨g, u⟩, some ⟨ps, w⟩ => some ⟨(f, g) :: ps, fun C φ lv X F => sdp_cons (h C φ lv X F) (u C φ lv X F) (w C φ lv X F)⟩
    | _, _, _ => none
  | _, _ => none
def trDct (re : ∀ T e, TrE T e) (T : TC) (pos : Pos) : (keys : List (Option Expr)) → (vals : List Expr) → TrE T (.Dict keys vals pos)
  | [], [] => some ⟨eDct (T.ch pos) [], fun C φ lv X F => se_dct0 _⟩
  | k :: ks, vs => if h15 : (k :: ks).length ≤ 15 then
      match trDP re T pos (k :: ks) vs with
      | some ⟨ps, h⟩ => some ⟨eDct (T.ch pos) ps, fun C φ lv X F => se_dct _ (h C φ lv X F) (by simp) h15⟩
      | none => none
    else none
  | _, _ => none
/-- o.count(a) -/
def trCnt (re : ∀ T e, TrE T e) (T : TC) (o : Expr) (m : Str) (apos pos : Pos) : (as : List Expr) → TrE T (.Call (.Attribute o m apos) as [] pos)
  | [a] => if hm : (decide (m = "count") && notSuper o && noStar a && (apos.endLine == pos.line)) = true then
      match re T o, re T a with
      | some ⟨f, h⟩, some ⟨g, k⟩ => some ⟨eCount f g, fun C φ lv X F => by
          simp only [Bool.and_eq_true, decide_eq_true_eq] at hm
          obtain ⟨⟨⟨rfl, h1⟩, h2⟩, h3⟩ := hm
          exact se_count F.A (h C φ lv X F) (k C φ lv X F) h1 h2 h3⟩
      | _, _ => none
    else none
  | _ => none
/-- methods of texts -/
def trM (re : ∀ T e, TrE T e) (T : TC) (o : Expr) (m : Str) (apos pos : Pos) : (as : List Expr) → TrE T (.Call (.Attribute o m apos) as [] pos)
  | [.Constant (.str x) j q] =>
    if hm : (decide (m = "startswith") && notSuper o && (apos.endLine == pos.line)) = true then
      match re T o with
      | some ⟨f, h⟩ => some ⟨eStarts f x.cps.toList, fun C φ lv X F => by
          simp only [Bool.and_eq_true, decide_eq_true_eq] at hm
          obtain ⟨⟨rfl, h1⟩, h2⟩ := hm
          exact se_starts (h C φ lv X F) (toS_of x).symm h1 h2⟩
      | none => none
    else match hc : x.cps.toList with
      | [c] => if hs : (decide (m = "split") && notSuper o && (apos.endLine == pos.line) && decide (c < 256)) = true then
          match re T o with
          | some ⟨f, h⟩ => some ⟨eSplit (T.ch pos) f c, fun C φ lv X F => by
              simp only [Bool.and_eq_true, decide_eq_true_eq] at hs
              obtain ⟨⟨⟨rfl, h1⟩, h2⟩, h3⟩ := hs
              exact se_split _ (h C φ lv X F) (by rw [← hc]; exact (toS_of x).symm) h3 h1 h2⟩
          | none => none
        else none
      | _ => none
  | _ => none
/-- sep.join(a) -/
def trJ (re : ∀ T e, TrE T e) (T : TC) (o : Expr) (m : Str) (apos pos : Pos) : (as : List Expr) → TrE T (.Call (.Attribute o m apos) as [] pos)
  | [a] => match o with
    | .Constant (.str x) j q => if hm : (decide (m = "join") && noStar a && (apos.endLine == pos.line)) = true then
        match re T a with
        | some ⟨f, h⟩ => some ⟨eJoin x.cps.toList f, fun C φ lv X F => by
            simp only [Bool.and_eq_true, decide_eq_true_eq] at hm
            obtain ⟨⟨rfl, h1⟩, h2⟩ := hm
            exact se_join F.A (h C φ lv X F) (toS_of x).symm h1 h2⟩
        | none => none
      else none
    | _ => none
  | _ => none
/-- o.append(a) -/
def trApp (re : ∀ T e, TrE T e) (T : TC) (o : Expr) (m : Str) (apos pos : Pos) : (as : List Expr) → TrE T (.Call (.Attribute o m apos) as [] pos)
  | [a] => if hm : (decide (m = "append") && notSuper o && noStar a && (apos.endLine == pos.line)) = true then
      match re T o, re T a with
      | some ⟨f, h⟩, some ⟨g, k⟩ => some ⟨eApp f g, fun C φ lv X F => by
          simp only [Bool.and_eq_true, decide_eq_true_eq] at hm
          obtain ⟨⟨⟨rfl, h1⟩, h2⟩, h3⟩ := hm
          exact se_app F.A (h C φ lv X F) (k C φ lv X F) h1 h2 h3⟩
      | _, _ => none
    else none
  | _ => none
/-- the key of an attribute, of a method, among the global names -/
def fldKey (f : Str) : Str := "." ++ f
def mthKey (m : Str) : Str := ":" ++ m
def trFld (re : ∀ T e, TrE T e) (T : TC) (e : Expr) (f : Str) (pos : Pos) : TrE T (.Attribute e f pos) :=
  if hs : notSuper e = true then
    match hl : T.gl.lookup (fldKey f) with
    | some (.fld f' cs) => if hf : f' = f then
        match re T e with
        | some ⟨g, h⟩ => some ⟨eFld cs f.cps.toList g, fun C φ lv X F => se_fld (by rw [← hf]; exact F.gl _ _ hl) (toS_of f).symm (h C φ lv X F) hs⟩
        | none => none
      else none
    | _ => none
  else none
/-- a method's call, by the classes that have it -/
def trMs {T : TC} {o : Expr} {m : Str} {ap pos : Pos} {as : List Expr} (fo : { f : EF // ∀ (C : Cfg) (φ : Fn) (lv : Nat) (X : Cx), Fits C φ lv T X → SE C φ X o f }) (fa : { f : AF // ∀ (C : Cfg) (φ : Fn) (lv : Nat) (X : Cx), Fits C φ lv T X → SA C φ X as f })
    (hs : notSuper o = true) (hp : plainAs as = true) (hl : (ap.endLine == pos.line) = true) (hlen : as.length < 30) :
    (ms : List (Nat × Nat)) → Option { f : EF // ∀ (C : Cfg) (φ : Fn) (lv : Nat) (X : Cx), Fits C φ lv T X → (∀ p ∈ ms, MeI C X.prog X.w X.K X.mg X.base lv p.1 m (φ 0 p.2)) → SE C φ X (.Call (.Attribute o m ap) as [] pos) f }
  | [] => none
  | (c, fi) :: r =>
    let one : { f : EF // ∀ (C : Cfg) (φ : Fn) (lv : Nat) (X : Cx), Fits C φ lv T X → (∀ p ∈ (c, fi) :: r, MeI C X.prog X.w X.K X.mg X.base lv p.1 m (φ 0 p.2)) → SE C φ X (.Call (.Attribute o m ap) as [] pos) f } :=
      match as, fa, hp, hlen with
      | [], _, _, _ => ⟨eMeth c m.cps.toList fi fo.1 aNil, fun C φ lv X F hm => se_meth0 (hm _ List.mem_cons_self) (toS_of m).symm (F.rm.mono (by omega)) (fo.2 C φ lv X F) hs hl⟩
      | e :: es, fa, hp, hlen => ⟨eMeth c m.cps.toList fi fo.1 fa.1, fun C φ lv X F hm => by
          simp only [plainAs, Bool.and_eq_true] at hp
          exact se_meth (hm _ List.mem_cons_self) (toS_of m).symm (F.rm.mono (by omega)) (fo.2 C φ lv X F) (fa.2 C φ lv X F) hs hp.1 (plainAs_any hp.2) hl hlen⟩
    match r, one, trMs fo fa hs hp hl hlen r with
    | [], one, _ => some one
    | _ :: _, one, some ⟨g, k⟩ => some ⟨eAlt one.1 g, fun C φ lv X F hm => se_alt (one.2 C φ lv X F hm) (k C φ lv X F fun p hp => hm p (List.mem_cons_of_mem _ hp))⟩
    | _, _, none => none
def trMeth (re : ∀ T e, TrE T e) (T : TC) (o : Expr) (m : Str) (ap pos : Pos) (as : List Expr) : TrE T (.Call (.Attribute o m ap) as [] pos) :=
  if hz : (notSuper o && plainAs as && (ap.endLine == pos.line) && decide (as.length < 30)) = true then
    match hl : T.gl.lookup (mthKey m) with
    | some (.mth m' ms) => if hm : m' = m then
        match re T o, trA re T as with
        | some fo, some fa =>
          have hz' := hz
          match trMs (m := m) fo fa (by simp only [Bool.and_eq_true, decide_eq_true_eq] at hz; exact hz.1.1.1) (by simp only [Bool.and_eq_true, decide_eq_true_eq] at hz; exact hz.1.1.2) (by simp only [Bool.and_eq_true, decide_eq_true_eq] at hz; exact hz.1.2) (by simp only [Bool.and_eq_true, decide_eq_true_eq] at hz; exact hz.2) ms with
          | some ⟨f, h⟩ => some ⟨f, fun C φ lv X F => h C φ lv X F (by rw [← hm]; exact F.gl _ _ hl)⟩
          | none => none
        | _, _ => none
      else none
    | _ => none
  else none
def stepE (re : ∀ T e, TrE T e) (rb : ∀ T e, TrB T e) (T : TC) : (e : Expr) → TrE T e
  | .Constant (.int i) j p => some ⟨eC (.int i), fun C φ lv X F => se_int⟩
  | .Constant (.bool b) j p => some ⟨eC (.bl b), fun C φ lv X F => se_bool⟩
  | .Constant .none j p => some ⟨eC .non, fun C φ lv X F => se_none⟩
  | .Constant (.str x) j p => some ⟨eC (.str x.cps.toList), fun C φ lv X F => se_str (toS_of x).symm⟩
  | .Name x p => trName T x p
  | .Tuple es k p => match trA re T es with
    | some ⟨f, h⟩ => some ⟨eTup f, fun C φ lv X F => se_tup (h C φ lv X F)⟩
    | none => none
  | .List es p => match trA re T es with
    | some ⟨f, h⟩ => some ⟨eLst (T.ch p) f, fun C φ lv X F => se_lst _ (h C φ lv X F)⟩
    | none => none
  | .BinOp a o b p => match ho : boOf o, re T a, re T b with
    | some op, some ⟨f, h⟩, some ⟨g, k⟩ => some ⟨eBin (T.ch p) op f g, fun C φ lv X F => by
        rw [boOf_toOp ho]
        exact se_bin F.A _ op (h C φ lv X F) (k C φ lv X F)⟩
    | _, _, _ => none
  | .UnaryOp .USub a p => match re T a with
    | some ⟨f, h⟩ => some ⟨eNeg f, fun C φ lv X F => se_neg (h C φ lv X F)⟩
    | none => none
  | .UnaryOp .Not a p => match re T a with
    | some ⟨f, h⟩ => some ⟨eNot f, fun C φ lv X F => se_not (h C φ lv X F)⟩
    | none => none
  | .Compare a [o] [b] p => match trCmp1 re T a b o p with
    | some ⟨f, h⟩ => some ⟨f, h.1⟩
    | none => none
  | .Compare a [o, o2] [b, c] p => match trCmp2 re T a b c o o2 p with
    | some ⟨f, h⟩ => some ⟨f, h.1⟩
    | none => none
  | .BoolOp op es p => trWv re T op p es
  | .IfExp c a b p => match rb T c, re T a, re T b with
    | some ⟨f, h⟩, some ⟨g, k⟩, some ⟨u, l⟩ => some ⟨eIf f g u, fun C φ lv X F => se_ifExp (h C φ lv X F) (k C φ lv X F) (l C φ lv X F)⟩
    | _, _, _ => none
  | .Subscript a (.Slice lo hi none p2) p => match re T a, trO re T lo, trO re T hi with
    | some ⟨f, h⟩, some ⟨g, k⟩, some ⟨u, l⟩ => some ⟨eSlc (T.ch p) f g u, fun C φ lv X F => se_slc F.A _ (h C φ lv X F) (k C φ lv X F) (l C φ lv X F)⟩
    | _, _, _ => none
  | .Subscript a b p => if hn : noSl b = true then
      match re T a, re T b with
      | some ⟨f, h⟩, some ⟨g, k⟩ => some ⟨eIdx f g, fun C φ lv X F => se_idx F.A (h C φ lv X F) (k C φ lv X F) hn⟩
      | _, _ => none
    else none
  | .JoinedStr (e1 :: e2 :: es) p => match trFs re T (e1 :: e2 :: es) with
    | some ⟨fs, h⟩ => if hl : fs.length ≤ 4000 then some ⟨eFs fs, fun C φ lv X F => se_fs (h C φ lv X F) hl⟩ else none
    | none => none
  | .ListComp elt [⟨tg, iter, ifs, 0⟩] scope p => match trLc re rb T elt tg iter ifs scope with
    | some ⟨r, h⟩ => some ⟨eLc (T.ch p) (r.own.map (·.2)) r.fi r.gt r.fc r.f, fun C φ lv X F => se_lc F.A _ (h C φ lv X F)⟩
    | none => none
  | .Call (.Name x p) as [] pos => orE (trGC re rb T x p pos as) (orE (trLR re T x p pos as) (orE (trTR re T x p pos as) (orE (trMin7 re T x p pos as) (trCall re T x p pos as))))
  | .Dict ks vs p => trDct re T p ks vs
  | .Attribute e f pos => trFld re T e f pos
  | .Call (.Attribute o m ap) as [] pos => orE (trMeth re T o m ap pos as) <| orE (trApp re T o m ap pos as) <| orE (trCnt re T o m ap pos as) (orE (trJ re T o m ap pos as) (trM re T o m ap pos as))
  | _ => none
/-- a value, as a test -/
def sbV (re : ∀ T e, TrE T e) (T : TC) (e : Expr) (he : ∀ (env : Env) whole, isTrue e env whole = (do let v ← whole; standAt e.pos; holding [v] (truthy v))) : TrB T e :=
  match re T e with
  | some ⟨f, h⟩ => some ⟨f, fun C φ lv X F => sb_val (h C φ lv X F) (he X.env)⟩
  | none => none
def stepB (re : ∀ T e, TrE T e) (rb : ∀ T e, TrB T e) (T : TC) : (e : Expr) → TrB T e
  | .Compare a [o] [b] p => match trCmp1 re T a b o p with
    | some ⟨f, h⟩ => some ⟨f, h.2⟩
    | none => none
  | .Compare a [o, o2] [b, c] p => match trCmp2 re T a b c o o2 p with
    | some ⟨f, h⟩ => some ⟨f, h.2⟩
    | none => none
  | .BoolOp op es p => match trW rb T op p es with
    | some ⟨f, h⟩ => some ⟨f, fun C φ lv X F => (h C φ lv X F).sb⟩
    | none => none
  | .UnaryOp .Not a p => match rb T a with
    | some ⟨f, h⟩ => some ⟨eNot f, fun C φ lv X F => sb_not (h C φ lv X F)⟩
    | none => none
  | .Name x p => sbV re T _ fun _ _ => rfl
  | .Call f as ks p => sbV re T _ fun _ _ => rfl
  | .Subscript a b p => sbV re T _ fun _ _ => rfl
  | .Constant (.bool b) j p => sbV re T _ fun _ _ => rfl
  | _ => none
/-- the translator, to a depth -/
def tr : Nat → (∀ T e, TrE T e) × (∀ T e, TrB T e)
  | 0 => (fun _ _ => none, fun _ _ => none)
  | n + 1 => (fun T e => stepE (tr n).1 (tr n).2 T e, fun T e => stepB (tr n).1 (tr n).2 T e)
end TX

/-! TxN: the translator, statements -/
set_option Elab.async false
set_option linter.all false
set_option maxRecDepth 100000
set_option maxHeartbeats 1000000
set_option autoImplicit false
namespace TX
open PySem PySem.Spec PyProof.Rows
open L2 (V HO Hp Key upd upd_same upd_ne SqL SqT Rd HOk Cx Inv PE PT PTs PW PS PSs PG PGs PI PA TE TT TA TS TG TGs TI It VK XK WX Takes Ends EP SP TP OpR tOp CallR tCB tCons tNil Sp Room FnOk)
/-! ### which stores are swapped -/
def notComp : Expr → Bool
  | .ListComp .. => false
  | .SetComp .. => false
  | .DictComp .. => false
  | _ => true
def notName : Expr → Bool
  | .Name .. => false
  | _ => true
theorem sw_nocomp {e : Expr} {t : Option Expr} {l : Nat} {env : Env} (h : notComp e = true) : swapsWith e t l env = pure false := by
  cases e <;> first | rfl | (simp [notComp] at h)
theorem sw_noname {e t : Expr} {l : Nat} {env : Env} (h : notName t = true) : swapsWith e (some t) l env = pure false := by
  unfold swapsWith
  cases e <;> cases t <;> first | rfl | (simp [notName] at h)
theorem sws_of {e t : Expr} {l : Nat} {env : Env} (h : (notComp e || notName t) = true) : swapsWithSole [t] e l env = pure false := by
  show swapsWith e (some t) l env = pure false
  simp only [Bool.or_eq_true] at h
  exact h.elim sw_nocomp sw_noname
def notTup : Expr → Bool
  | .Tuple .. => false
  | .List .. => false
  | _ => true
theorem swp_of {e t : Expr} {env : Env} (h : (notTup e || notTup t) = true) : swappedStores [t] e env = pure none := by
  unfold swappedStores
  cases e <;> cases t <;> first | rfl | (simp [notTup] at h)
/-- a list comprehension stored in a name -/
def lcSw (sc : Scope) (y : Str) (py p : Pos) (scope : Scope) : Bool := decide (sc.names.lookup y = some .local) && (py.line == p.line) && !(scope.names.any fun (n, k) => n == y && (k == .local || k == .cell))
theorem blkK {env : Env} (h : env.scope.kind = .function) : env.blockKind = .function := by
  unfold Env.blockKind; rw [h]; rfl
theorem lcSw_no {env : Env} {elt : Expr} {gs : List Comprehension} {scope : Scope} {p py : Pos} {y : Str} {l : Nat} (hk : env.scope.kind = .function) (h : lcSw env.scope y py p scope = false) : swapsWith (.ListComp elt gs scope p) (some (.Name y py)) l env = pure false := by
  have e : swapsWith (.ListComp elt gs scope p) (some (.Name y py)) l env = pure (env.blockKind == .function && env.kindOf y == some .local && py.line == p.line && !(scope.names.any fun (n, k) => n == y && (k == .local || k == .cell))) := rfl
  rw [e, blkK hk]
  congr 1
  have e2 : (env.kindOf y == some .local) = decide (env.scope.names.lookup y = some .local) := by
    show (env.scope.names.lookup y == some .local) = _
    rw [Bool.eq_iff_iff, beq_iff_eq, decide_eq_true_iff]
  rw [e2]
  unfold lcSw at h
  rw [show ((ScopeKind.function == ScopeKind.function) = true) from rfl, Bool.true_and]
  exact h
/-- two, three plain names -/
def swv (vs : List Expr) : Bool := !(vs.all (foldedForSure 8)) && !(vs.all (constantsAlone 8)) && plainAs vs
theorem noStar_any {vs : List Expr} (h : plainAs vs = true) : (vs.any fun | .Starred .. => true | _ => false) = false := by
  induction vs with
  | nil => rfl
  | cons e es ih =>
    simp only [plainAs, Bool.and_eq_true] at h
    rw [List.any_cons, ih h.2, Bool.or_false]
    have h1 := h.1
    cases e <;> first | rfl | (simp [noStar] at h1)
theorem star_no (e : Expr) : noStar e = true → ¬ ((match e with | .Starred .. => true | _ => false) = true) := by
  intro h
  cases e <;> first | exact Bool.false_ne_true | (simp [noStar] at h)
theorem sw_two {env : Env} {x y : Str} {px py pt pt2 : Pos} {kt k2 : Nat} {a b : Expr} (hk : env.scope.kind = .function) (hx : env.scope.names.lookup x = some .local) (hy : env.scope.names.lookup y = some .local) (hl : (py.line == px.line) = true) (hxy : x ≠ y) (hv : swv [a, b] = true) :
    swappedStores [.Tuple [.Name x px, .Name y py] kt pt] (.Tuple [a, b] k2 pt2) env = pure (some [x, y]) := by
  simp only [swv, Bool.and_eq_true, Bool.not_eq_true'] at hv
  obtain ⟨⟨h1, h2⟩, h3⟩ := hv
  have hs := noStar_any h3
  have kx : env.kindOf x = some .local := hx
  have ky : env.kindOf y = some .local := hy
  have hb := blkK hk
  have hne : (y == x) = false := by simpa using fun e => hxy e.symm
  have hl2 : py.line = px.line := by simpa using hl
  unfold swappedStores
  simp [hs, hb, kx, ky, h1, h2, Expr.pos, hl2, List.eraseDups, List.eraseDupsBy, List.eraseDupsBy.loop, hne]
  simp only [plainAs, Bool.and_eq_true] at h3
  exact fun h => h.elim (fun z => absurd z (star_no a h3.1)) fun z => absurd z (star_no b h3.2.1)
theorem sw_three {env : Env} {x y z : Str} {px py pz pt pt2 : Pos} {kt k2 : Nat} {a b c : Expr} (hk : env.scope.kind = .function) (hx : env.scope.names.lookup x = some .local) (hy : env.scope.names.lookup y = some .local) (hz : env.scope.names.lookup z = some .local) (hl : (py.line == px.line) = true) (hlz : (pz.line == px.line) = true) (hxy : x ≠ y) (hxz : x ≠ z) (hyz : y ≠ z) (hv : swv [a, b, c] = true) :
    swappedStores [.Tuple [.Name x px, .Name y py, .Name z pz] kt pt] (.Tuple [a, b, c] k2 pt2) env = pure (some [x, y, z]) := by
  simp only [swv, Bool.and_eq_true, Bool.not_eq_true'] at hv
  obtain ⟨⟨h1, h2⟩, h3⟩ := hv
  have hs := noStar_any h3
  have kx : env.kindOf x = some .local := hx
  have ky : env.kindOf y = some .local := hy
  have kz : env.kindOf z = some .local := hz
  have hb := blkK hk
  have n1 : (y == x) = false := by simpa using fun e => hxy e.symm
  have n2 : (z == x) = false := by simpa using fun e => hxz e.symm
  have n3 : (z == y) = false := by simpa using fun e => hyz e.symm
  have hl2 : py.line = px.line := by simpa using hl
  have hl3 : pz.line = px.line := by simpa using hlz
  unfold swappedStores
  simp [hs, hb, kx, ky, kz, h1, h2, Expr.pos, hl2, hl3, List.eraseDups, List.eraseDupsBy, List.eraseDupsBy.loop, n1, n2, n3]
  simp only [plainAs, Bool.and_eq_true] at h3
  exact fun h => h.elim (fun z => absurd z (star_no a h3.1)) fun h => h.elim (fun z => absurd z (star_no b h3.2.1)) fun z => absurd z (star_no c h3.2.2.1)
/-- .. none: too many, or some no local names -/
def nameL (sc : Scope) (line : Nat) (ts : List Expr) : List Str := ts.filterMap fun
  | .Name id pos => if sc.names.lookup id == some .local && pos.line == line then some id else none
  | _ => none
def swNone (sc : Scope) (ts vs : List Expr) : Bool :=
  !(ts.length == 2 || ts.length == 3) || vs.length != ts.length || (nameL sc ((ts.head?.map (·.pos.line)).getD 0) ts).length != ts.length || (nameL sc ((ts.head?.map (·.pos.line)).getD 0) ts).eraseDups.length != (nameL sc ((ts.head?.map (·.pos.line)).getD 0) ts).length || vs.all (foldedForSure 8)
theorem sw_none {env : Env} {ts vs : List Expr} {kt k2 : Nat} {pt pt2 : Pos} (hk : env.scope.kind = .function) (h : swNone env.scope ts vs = true) : swappedStores [.Tuple ts kt pt] (.Tuple vs k2 pt2) env = pure none := by
  have hb := blkK hk
  have e : swappedStores [.Tuple ts kt pt] (.Tuple vs k2 pt2) env = (do
    if !(ts.length == 2 || ts.length == 3) || vs.length != ts.length || env.blockKind != .function then return none
    if vs.any fun | .Starred .. => true | _ => false then return none
    if (nameL env.scope ((ts.head?.map (·.pos.line)).getD 0) ts).length != ts.length || (nameL env.scope ((ts.head?.map (·.pos.line)).getD 0) ts).eraseDups.length != (nameL env.scope ((ts.head?.map (·.pos.line)).getD 0) ts).length then return none
    if vs.all (foldedForSure 8) then return none
    if vs.all (constantsAlone 8) then unsupported "assign.tuple-of-constant-expressions:order-of-the-stores"
    return some (nameL env.scope ((ts.head?.map (·.pos.line)).getD 0) ts)) := rfl
  rw [e]
  unfold swNone at h
  generalize nameL env.scope ((ts.head?.map (·.pos.line)).getD 0) ts = nl at h ⊢
  simp only [Bool.or_eq_true] at h
  rw [hb]
  split
  · rfl
  · rename_i h1
    split
    · rfl
    · split
      · rfl
      · rename_i h2
        split
        · rfl
        · rename_i h3
          exfalso
          simp only [Bool.or_eq_true, not_or] at h1 h2
          rcases h with (((h | h) | h) | h) | h
          · exact h1.1.1 h
          · exact h1.1.2 h
          · exact h2.1 h
          · exact h2.2 h
          · exact h3 h

/-! ### assignments -/
theorem Fits.fk {C : Cfg} {φ : Fn} {lv : Nat} {X : Cx} {T : TC} (F : Fits C φ lv T X) : X.env.scope.kind = .function := by rw [F.sc]; exact F.kd
def augOf : Operator → Option BO
  | .Add => some .add
  | .Sub => some .sub
  | _ => none
theorem augOf_of {o : Operator} {b : BO} (h : augOf o = some b) : o = toOp b ∧ augOp b = true := by
  cases o <;> simp [augOf] at h <;> subst h <;> exact ⟨rfl, rfl⟩
/-- the plain road: no swap -/
def trSet (re : ∀ T e, TrE T e) (T : TC) (tg e : Expr) (pos : Pos) : TrS T (.Assign [tg] e pos) :=
  if h : ((notComp e || notName tg) && (notTup e || notTup tg) && noStarT tg) = true then
    match trTg T tg, re T e with
    | some ⟨g, k⟩, some ⟨f, l⟩ => some ⟨sSet g.2 f, fun C φ lv X F => by
        simp only [Bool.and_eq_true] at h
        exact ss_set (l C φ lv X F) (k C φ lv X F) h.2 (sws_of h.1.1) (swp_of h.1.2)⟩
    | _, _ => none
  else none
def trAsg (re : ∀ T e, TrE T e) (rb : ∀ T e, TrB T e) (T : TC) (pos : Pos) : (tg e : Expr) → TrS T (.Assign [tg] e pos)
  | .Subscript o i q, e => if hn : noSl i = true then
      match re T e, re T o, re T i with
      | some ⟨f, h⟩, some ⟨g, k⟩, some ⟨u, l⟩ => some ⟨sPut g u f, fun C φ lv X F => ss_put F.A (h C φ lv X F) (k C φ lv X F) (l C φ lv X F) hn (sws_of (by simp [notName]))⟩
      | _, _, _ => none
    else none
  | .Attribute o f q, e => match hl : T.gl.lookup (fldKey f) with
    | some (.fld f' cs) => if hf : f' = f then
        match re T e, re T o with
        | some ⟨g, h⟩, some ⟨u, k⟩ => some ⟨sFld cs f.cps.toList u g, fun C φ lv X F => ss_fld (by rw [← hf]; exact F.gl _ _ hl) (toS_of f).symm (k C φ lv X F) (h C φ lv X F) (sw_noname (by simp [notName]))⟩
        | _, _ => none
      else none
    | _ => none
  | .Name y py, .ListComp elt [⟨tg, iter, ifs, 0⟩] scope p =>
    if hs : lcSw T.sc y py p scope = true then
      if hi : T.N[ixOf T y]? = some y then
        match trLc re rb T elt tg iter ifs scope with
        | some ⟨r, h⟩ => some ⟨sSet (gN (ixOf T y)) (eLc (T.ch p) (r.own.map (·.2)) r.fi r.gt r.fc r.f), fun C φ lv X F => by
            have hs' := hs
            simp only [lcSw, Bool.and_eq_true, decide_eq_true_eq, Bool.not_eq_true'] at hs'
            have hl : X.env.scope.names.lookup y = some .local := by rw [F.sc]; exact hs'.1.1
            exact ss_setLc F.A _ (F.at_ hi) hl (L2.sw_true F.fk hl hs'.1.2 hs'.2) (h C φ lv X F)⟩
        | none => none
      else none
    else match trT T (.Name y py), trLc re rb T elt tg iter ifs scope with
      | some ⟨g, k⟩, some ⟨r, h⟩ => some ⟨sSet g.2 (eLc (T.ch p) (r.own.map (·.2)) r.fi r.gt r.fc r.f), fun C φ lv X F => by
          have hs' : lcSw X.env.scope y py p scope = false := by rw [F.sc]; simpa using hs
          exact ss_set (se_lc F.A _ (h C φ lv X F)) (k C φ lv X F) rfl (lcSw_no (l := pos.line) F.fk hs') (swp_of rfl)⟩
      | _, _ => none
  | .Tuple [.Name x px, .Name y py] kt pt, .Tuple [a, b] k2 pt2 =>
    if h : (decide (T.sc.names.lookup x = some .local) && decide (T.sc.names.lookup y = some .local) && (py.line == px.line) && decide (x ≠ y) && swv [a, b] && decide (T.N[ixOf T x]? = some x) && decide (T.N[ixOf T y]? = some y) && decide (ixOf T x ≠ ixOf T y)) = true then
      match trA re T [a, b] with
      | some ⟨f, l⟩ => some ⟨sSet (gT (gsCons (gN (ixOf T x)) (gsCons (gN (ixOf T y)) gsNil))) (eTup f), fun C φ lv X F => by
          simp only [Bool.and_eq_true, decide_eq_true_eq] at h
          obtain ⟨⟨⟨⟨⟨⟨⟨h1, h2⟩, h3⟩, h4⟩, h5⟩, h6⟩, h7⟩, h8⟩ := h
          rw [← F.sc] at h1 h2
          exact ss_par F.A (F.at_ h6) (F.at_ h7) h8 h1 h2 (l C φ lv X F) (sw_two F.fk h1 h2 h3 h4 h5)⟩
      | none => none
    else if h2 : swNone T.sc [.Name x px, .Name y py] [a, b] = true then
      match trTg T (.Tuple [.Name x px, .Name y py] kt pt), trA re T [a, b] with
      | some ⟨g, k⟩, some ⟨f, l⟩ => some ⟨sSet g.2 (eTup f), fun C φ lv X F => ss_set (se_tup (l C φ lv X F)) (k C φ lv X F) rfl (sws_of rfl) (sw_none F.fk (by rw [F.sc]; exact h2))⟩
      | _, _ => none
    else none
  | .Tuple [.Name x px, .Name y py, .Name z pz] kt pt, .Tuple [a, b, c] k2 pt2 =>
    if h : (decide (T.sc.names.lookup x = some .local) && decide (T.sc.names.lookup y = some .local) && decide (T.sc.names.lookup z = some .local) && (py.line == px.line) && (pz.line == px.line) && decide (x ≠ y) && decide (x ≠ z) && decide (y ≠ z) && swv [a, b, c] &&
        decide (T.N[ixOf T x]? = some x) && decide (T.N[ixOf T y]? = some y) && decide (T.N[ixOf T z]? = some z) && decide (ixOf T x ≠ ixOf T y) && decide (ixOf T x ≠ ixOf T z) && decide (ixOf T y ≠ ixOf T z)) = true then
      match trA re T [a, b, c] with
      | some ⟨f, l⟩ => some ⟨sSet (gT (gsCons (gN (ixOf T x)) (gsCons (gN (ixOf T y)) (gsCons (gN (ixOf T z)) gsNil)))) (eTup f), fun C φ lv X F => by
          simp only [Bool.and_eq_true, decide_eq_true_eq] at h
          obtain ⟨⟨⟨⟨⟨⟨⟨⟨⟨⟨⟨⟨⟨⟨h1, h2⟩, h3⟩, h4⟩, h5⟩, h6⟩, h7⟩, h8⟩, h9⟩, i1⟩, i2⟩, i3⟩, j1⟩, j2⟩, j3⟩ := h
          rw [← F.sc] at h1 h2 h3
          exact ss_par3 F.A (F.at_ i1) (F.at_ i2) (F.at_ i3) j1 j2 j3 h1 h2 h3 (l C φ lv X F) (sw_three F.fk h1 h2 h3 h4 h5 h6 h7 h8 h9)⟩
      | none => none
    else if h2 : swNone T.sc [.Name x px, .Name y py, .Name z pz] [a, b, c] = true then
      match trTg T (.Tuple [.Name x px, .Name y py, .Name z pz] kt pt), trA re T [a, b, c] with
      | some ⟨g, k⟩, some ⟨f, l⟩ => some ⟨sSet g.2 (eTup f), fun C φ lv X F => ss_set (se_tup (l C φ lv X F)) (k C φ lv X F) rfl (sws_of rfl) (sw_none F.fk (by rw [F.sc]; exact h2))⟩
      | _, _ => none
    else none
  | .Tuple ts kt pt, .Tuple vs k2 pt2 =>
    if h2 : swNone T.sc ts vs = true then
      match trTg T (.Tuple ts kt pt), trA re T vs with
      | some ⟨g, k⟩, some ⟨f, l⟩ => some ⟨sSet g.2 (eTup f), fun C φ lv X F => ss_set (se_tup (l C φ lv X F)) (k C φ lv X F) rfl (sws_of (by simp [notName])) (sw_none F.fk (by rw [F.sc]; exact h2))⟩
      | _, _ => none
    else none
  | tg, e => trSet re T tg e pos
def locB (T : TC) (x : Str) : Bool := decide (T.sc.names.lookup x = some .local) || (decide (T.sc.names.lookup x = some .cell) && T.top x)
theorem locB_of {C : Cfg} {φ : Fn} {lv : Nat} {X : Cx} {T : TC} (F : Fits C φ lv T X) {x : Str} (h : locB T x = true) : L2.Loc X.env.scope x ∧ (X.fn x = true ∨ X.env.scope.names.lookup x = some .local) := by
  simp only [locB, Bool.or_eq_true, Bool.and_eq_true, decide_eq_true_eq] at h
  rw [F.sc]
  rcases h with h | ⟨h1, h2⟩
  · exact ⟨.inl h, .inr h⟩
  · exact ⟨.inr h1, .inl (F.fn x h2)⟩
def stepS (re : ∀ T e, TrE T e) (rb : ∀ T e, TrB T e) (rs : ∀ T st, TrSs T st) (T : TC) : (st : Stmt) → TrS T st
  | .Pass p => some ⟨sNil, fun C φ lv X F => ss_pass⟩
  | .Break p => some ⟨sBrk, fun C φ lv X F => ss_break⟩
  | .Continue p => some ⟨sCnt, fun C φ lv X F => ss_continue⟩
  | .Expr (.Constant (.str x) j q) p => some ⟨sNil, fun C φ lv X F => ss_doc⟩
  | .Expr e p => if hc : notComp e = true then
      match re T e with
      | some ⟨f, h⟩ => some ⟨sExp f, fun C φ lv X F => ss_expr (h C φ lv X F) (sw_nocomp hc)⟩
      | none => none
    else none
  | .Return (some e) p => match re T e with
    | some ⟨f, h⟩ => some ⟨sRet f, fun C φ lv X F => ss_ret (h C φ lv X F)⟩
    | none => none
  | .Return none p => some ⟨sRet (eC .non), fun C φ lv X F => ss_retN⟩
  | .If c sa sb p => match rb T c, rs T sa, rs T sb with
    | some ⟨f, h⟩, some ⟨g, k⟩, some ⟨u, l⟩ => some ⟨sIf f g u, fun C φ lv X F => ss_if (h C φ lv X F) (k C φ lv X F) (l C φ lv X F)⟩
    | _, _, _ => none
  | .For tg it sb [] p => if hs : notSet it = true then
      match trI re T tg it, trTg T tg, rs T sb with
      | some ⟨f, h⟩, some ⟨g, k⟩, some ⟨u, l⟩ => some ⟨sFor f g.2 u, fun C φ lv X F => ss_for F.A F.own (h C φ lv X F) (k C φ lv X F) (l C φ lv X F) (notSet_of hs)⟩
      | _, _, _ => none
    else none
  | .While c sb [] p => match rb T c, rs T sb with
    | some ⟨f, h⟩, some ⟨u, l⟩ => some ⟨sWhile f u, fun C φ lv X F => ss_while F.own (h C φ lv X F) (l C φ lv X F)⟩
    | _, _ => none
  | .Raise (some (.Call (.Name x p) [.Constant (.str m) j p2] [] p3)) none pos =>
    if hg : (glB T.sc x && okN x) = true then
      match hl : T.gl.lookup x with
      | some (.exc c) => some ⟨sRaise c, fun C φ lv X F => by
          simp only [Bool.and_eq_true] at hg
          exact ss_raise F.A (F.gl x _ hl) (F.glo hg.1) (okN_of hg.2).1⟩
      | _ => none
    else none
  | .AugAssign (.Name x q) o e pos =>
    if h : (decide (T.N[ixOf T x]? = some x) && locB T x) = true then
      match ho : augOf o, re T e with
      | some op, some ⟨f, l⟩ => some ⟨sAug (ixOf T x) op f, fun C φ lv X F => by
          simp only [Bool.and_eq_true, decide_eq_true_eq] at h
          obtain ⟨e1, e2⟩ := augOf_of ho
          obtain ⟨l1, l2⟩ := locB_of F h.2
          rw [e1]
          exact ss_aug F.A (F.at_ h.1) l1 l2 e2 (l C φ lv X F)⟩
      | _, _ => none
    else none
  | .AugAssign (.Subscript a i q) o e pos =>
    if hn : noSl i = true then
      match ho : augOf o, re T a, re T i, re T e with
      | some op, some ⟨g, k⟩, some ⟨u, m⟩, some ⟨f, l⟩ => some ⟨sAugI g u op f, fun C φ lv X F => by
          obtain ⟨e1, e2⟩ := augOf_of ho
          rw [e1]
          exact ss_augI F.A (k C φ lv X F) (m C φ lv X F) hn e2 (l C φ lv X F)⟩
      | _, _, _, _ => none
    else none
  | .AugAssign (.Attribute a f q) o e pos => match hl : T.gl.lookup (fldKey f) with
    | some (.fld f' cs) => if hf : f' = f then
        match ho : augOf o, re T a, re T e with
        | some op, some ⟨g, k⟩, some ⟨u, l⟩ => some ⟨sFldA cs f.cps.toList g op u, fun C φ lv X F => by
            obtain ⟨e1, e2⟩ := augOf_of ho
            rw [e1]
            exact ss_fldA (by rw [← hf]; exact F.gl _ _ hl) (toS_of f).symm e2 (k C φ lv X F) (l C φ lv X F)⟩
        | _, _, _ => none
      else none
    | _ => none
  | .Assign [tg] e pos => trAsg re rb T pos tg e
  | _ => none
/-! ### the list of lambdas -/
theorem Fits.trF {C : Cfg} {φ : Fn} {lv : Nat} {X : Cx} {T : TC} (F : Fits C φ lv T X) {pn : List (Addr × Obj)} : Fits C φ lv T (X.tr pn X.xe) where
  A := ⟨F.A.K, F.A.calm, F.A.nd, F.A.hu⟩
  N := F.N
  sc := F.sc
  kd := F.kd
  own := F.own
  fn := F.fn
  rm := F.rm
  gl := fun x gi h => by
    have z := F.gl x gi h
    cases gi with
    | bltn => exact z
    | fn i => exact z
    | exc c => exact z
    | tell w ret => exact z
    | val v => exact z
    | cls c fi alts => exact z
    | fld f cs => exact z
    | mth m ms => exact z
  lam := fun h => ⟨(F.lam h).ex⟩
  gen := fun h => ⟨(F.gen h).ex⟩
def trLams (re : ∀ T e, TrE T e) (T : TC) : (es : List Expr) → Option { fs : List EF // es.length = fs.length ∧ ∀ (C : Cfg) (φ : Fn) (lv : Nat) (X : Cx), Fits C φ lv T X → LamL C φ X (lv + (T.dp - 2)) es fs }
  | [] => some ⟨[], rfl, fun C φ lv X F => .nil⟩
  | .Lambda params body scope p :: es => match trLam re T params body scope, trLams re T es with
    | some ⟨f, h⟩, some ⟨fs, k⟩ => some ⟨f :: fs, by simp [k.1], fun C φ lv X F => .cons (h C φ lv X F) (k.2 C φ lv X F)⟩
    | _, _ => none
  | _ => none
abbrev TrBC (T : TC) (bad : Str) (e : Expr) := Option { r : Ct × Tx // ∀ (C : Cfg) (φ : Fn) (lv : Nat) (X : Cx), Fits C φ lv T X → PT X e (fun σ H Q => tKnown C φ X (lv + (T.dp - 2)) r.1 r.2 (ixOf T bad) (fun _ H' => Q false H') σ H) }
def trBadCmp (T : TC) (bad : Str) : (e : Expr) → TrBC T bad e
  | .Compare (.ListComp elt [⟨.Name fx pf, .Name bad2 pb2, [.Compare (.Call (.Name x pt) [.Name fx2 pf2] [] pc) [.NotEq] [.Constant (.str xr) jq pq] pc2], 0⟩] scope pos) [.NotEq] [.List [] pl] pcc =>
    if h : (decide (bad2 = bad) && decide (fx2 = fx) && decide (T.N[ixOf T bad]? = some bad) && visB T.sc bad && okN bad && L2.blkC T.N T.sc scope (ownOf T scope) && decide ((ownOf T scope).map (·.2) = [ixOf T fx]) && decide (T.N[ixOf T fx]? = some fx) && okN fx && okN x &&
        decide ((L2.relS scope T.sc).names.lookup fx = some .local) && decide ((L2.relS scope T.sc).names.lookup x = some .globalImplicit) && decide (2 ≤ T.dp)) = true then
      match hl : T.gl.lookup x with
      | some (.tell w ret) => if hr : xr = toS ret then some ⟨(ctOf w, ret), fun C φ lv X F => by
          simp only [Bool.and_eq_true, decide_eq_true_eq] at h
          obtain ⟨⟨⟨⟨⟨⟨⟨⟨⟨⟨⟨⟨rfl, rfl⟩, h3⟩, h4⟩, h5⟩, h6⟩, h7⟩, h8⟩, h9⟩, h10⟩, h11⟩, h12⟩, h13⟩ := h
          have ok : L2.BlkOk X.N X.env.scope scope (ownOf T scope) := by rw [F.N, F.sc]; exact L2.blkOk_by h6
          exact pt_badcmp F.A (pe_bad F.A (F.gl x _ hl) (F.rm.mono (by omega)) (F.at_ h3) (F.vis h4) (okN_of h5).1 (okN_of h5).2 ok h7 (F.at_ h8) (okN_of h9).1 (okN_of h9).2 (okN_of h10).1
            (by rw [F.sc]; exact .inl h11) (by rw [F.sc]; exact .inr h11) (by rw [F.sc]; exact h12) hr)⟩ else none
      | _ => none
    else none
  | _ => none
abbrev TrBT (T : TC) (bad : Str) (e : Expr) := Option { r : (Ct × Tx) × EF // ∀ (C : Cfg) (φ : Fn) (lv : Nat) (X : Cx), Fits C φ lv T X → ∀ N, Takes X (wX C N) → PT X e (fun σ H Q => tKnown C φ X (lv + (T.dp - 2)) r.1.1 r.1.2 (ixOf T bad) (fun σ H' => tB C φ r.2 N σ H' Q) σ H) }
def trBadT (rb : ∀ T e, TrB T e) (T : TC) (bad : Str) : (e : Expr) → TrBT T bad e
  | .BoolOp .Or (cmp :: b :: more) pos => match trBadCmp T bad cmp, trW rb T .Or pos (b :: more) with
    | some ⟨r, h⟩, some ⟨f, k⟩ => some ⟨(r, f), fun C φ lv X F N tk => pt_bad2 (h C φ lv X F) (k C φ lv X F) tk⟩
    | _, _ => none
  | e => match trBadCmp T bad e with
    | some ⟨r, h⟩ => some ⟨(r, eC (.bl false)), fun C φ lv X F N tk => pt_bad1 (h C φ lv X F)⟩
    | none => none
def isLams : List Expr → Bool
  | .Lambda .. :: _ => true
  | _ => false
/-- a loop that is told by its place: what stands behind it looks at no object made before -/
def isCl (T : TC) : Stmt → Bool
  | .For _ _ _ _ p => T.ch p
  | _ => false
def trSs (re : ∀ T e, TrE T e) (rb : ∀ T e, TrB T e) (rs : ∀ T st, TrS T st) (rss : ∀ T st, TrSs T st) (T : TC) : (sts : List Stmt) → TrSs T sts
  | [] => some ⟨sNil, fun C φ lv X F => sss_nil⟩
  | .Assign [.Name bad pb] (.List es pl) ps :: .If test sa sb pi :: rest =>
    if hL : isLams es = true then
      if hz : (decide (es.length ≤ SZ) && decide (T.N[ixOf T bad]? = some bad) && locB T bad && T.lam) = true then
        match trLams re T es, trBadT rb T bad test, rss T sa, rss T sb, trSs re rb rs rss T rest with
        | some ⟨fs, h⟩, some ⟨t, k⟩, some ⟨ba, ka⟩, some ⟨bb, kb⟩, some ⟨br, kr⟩ => some ⟨sBad (ixOf T bad) fs t.1.1 t.1.2 (sSeq (sIf t.2 ba bb) br), fun C φ lv X F => by
            simp only [Bool.and_eq_true, decide_eq_true_eq] at hz
            obtain ⟨⟨⟨h1, h2⟩, h3⟩, h4⟩ := hz
            obtain ⟨l1, l2⟩ := locB_of F h3
            exact sss_bad F.A (F.lam h4) (h.2 C φ lv X F) h1 (F.at_ h2) l1 l2 (sw_nocomp rfl) (fun pn N tk => k C φ lv _ F.trF N tk) (fun pn => ka C φ lv _ F.trF) (fun pn => kb C φ lv _ F.trF) (fun pn => kr C φ lv _ F.trF) (fun _ => h.1)⟩
        | _, _, _, _, _ => none
      else none
    else match rs T (.Assign [.Name bad pb] (.List es pl) ps), trSs re rb rs rss T (.If test sa sb pi :: rest) with
      | some ⟨f, h⟩, some ⟨g, k⟩ => some ⟨sSeq f g, fun C φ lv X F => sss_cons (h C φ lv X F) (k C φ lv X F)⟩
      | _, _ => none
  | st :: rest => match rs T st, trSs re rb rs rss T rest with
    | some ⟨f, h⟩, some ⟨g, k⟩ => if isCl T st = true then some ⟨sSeq f (sCl g), fun C φ lv X F => sss_cons (h C φ lv X F) (sss_cl (k C φ lv X F))⟩ else some ⟨sSeq f g, fun C φ lv X F => sss_cons (h C φ lv X F) (k C φ lv X F)⟩
    | _, _ => none
/-- statements, to a depth -/
def trB_ (n : Nat) : Nat → (∀ T st, TrS T st) × (∀ T st, TrSs T st)
  | 0 => (fun _ _ => none, fun _ _ => none)
  | d + 1 => (fun T st => stepS (tr n).1 (tr n).2 (trB_ n d).2 T st, fun T sts => trSs (tr n).1 (tr n).2 (trB_ n d).1 (trB_ n d).2 T sts)
end TX

/-! TxO: the whole program: every def does what it means; the end -/
set_option Elab.async false
set_option linter.all false
set_option maxRecDepth 100000
set_option maxHeartbeats 1000000
set_option autoImplicit false
namespace TX
open PySem PySem.Spec PyProof.Rows
open L2 (V HO Hp Key upd upd_same upd_ne SqL SqT Rd HOk Cx Inv PE PT PTs PW PS PSs PG PGs PI PA TE TT TA TS TG TGs TI It VK XK WX Takes Ends EP SP TP OpR tOp CallR tCB tCons tNil Sp Room FnOk)
/-- a def within a class -/
def clsStmt (s : Stmt) (j : Nat) : Stmt := match s with
  | .ClassDef _ _ _ body _ _ _ _ _ _ _ => body.getD j (.Pass ⟨0, 0, 0, 0⟩)
  | s => s
/-- a def of the text: its name, where it stands, its names (the parameters first), the displays that change, whether it makes lambdas -/
structure DD where
  x : Str
  st : Stmt
  N : List Str
  ps : List Str
  chg : List (Nat × Nat)
  lam : Bool
  gen : Bool
  q : Str
  cl : Option Nat
def DD.T (d : DD) (G : List (Str × GI)) : TC := ⟨d.N, L2.defScope d.st, fun _ => true, G, d.chg, 3, d.lam, d.gen⟩
def DD.tr (d : DD) (G : List (Str × GI)) : TrSs (d.T G) (L2.defBody d.st) := (trB_ 40 20).2 (d.T G) (L2.defBody d.st)
def DD.def (d : DD) (G : List (Str × GI)) : Option Def := (d.tr G).map fun f => ⟨d.N.length, d.ps.length, f.1⟩
def prog (D : List DD) (G : List (Str × GI)) : Prog := fun i => (D[i]?).bind fun d => d.def G
def lamName (x : Str) : Str := x ++ ".<locals>." ++ "<lambda>"
/-- a def of the text, with or without defaults -/
structure FunD (K : PySem.W.Frag) (x qual : Str) (st : Stmt) (f : Addr) (fd : FuncData) : Prop where
  ex : ∃ (oc : Value) (od : Option Addr) (dV kV doc pm : Value) (an : Option Addr) (cdv ct : Value) (osl : Array (Option Value)),
    fd = PySem.W.fnOf x qual (L2.defArgs st) (L2.defBody st) (L2.defScope st) dV kV doc pm an cdv ct ∧ K.lookup f = some ⟨oc, od, .func fd, osl⟩ ∧ PySem.W.codeIn K cdv qual = true
  kp : PySem.W.keepIn K (.ref f) = true
/-- where a def is found: among the module's names, or in its class -/
def Where (C : Cfg) (K : PySem.W.Frag) (mg : Str → Option Value) (d : DD) (f : Addr) : Prop := match d.cl with
  | none => mg d.x = some (.ref f)
  | some c => L2.Cls K (C.cA c) ∧ L2.Meth K (C.cA c) d.x f
/-- what the world's state says of a def -/
structure DefF (C : Cfg) (K : PySem.W.Frag) (mg : Str → Option Value) (cs : List (Addr × Addr)) (d : DD) : Prop where
  ex : ∃ (f : Addr) (fd : FuncData), FunD K d.x d.q d.st f fd ∧ Where C K mg d f ∧ (L2.Binds K fd d.ps [] ∧ (d.cl = none → ∀ us : List Value, us.length = d.ps.length → bindArgs fd ⟨us, []⟩ = pure (d.ps.zip us))) ∧ (d.lam = true → ∃ c Pt, fd.code = .ref c ∧ (c, Pt) ∈ cs ∧ (Pt, lamName d.q) ∈ C.tl ∧ ∀ p ∈ C.tl, p.1 = Pt → p.2 = lamName d.q) ∧
    (d.gen = true → ∃ c Pt, fd.code = .ref c ∧ (c, Pt) ∈ cs ∧ Pt ∈ C.tg ∧ ∀ p ∈ C.tl, p.1 ≠ Pt)
  sc : C8.scC d.N d.ps (L2.defScope d.st) = true
/-- what it says of a global name -/
def GlF (C : Cfg) (K : PySem.W.Frag) (mg : Str → Option Value) (D : List DD) (x : Str) : GI → Prop
  | .bltn => mg x = none
  | .fn i => ∃ d, D[i]? = some d ∧ d.x = x ∧ d.cl = none
  | .exc c => ExcI C K mg x c
  | .tell w ret => TellI C K mg x (ctOf w) ret
  | .val v => ∃ u cv, mg x = some u ∧ L2.RelV cv u ∧ ∀ g, RelA C g v cv
  | .cls c fi alts => mg x = some (.ref (C.cA c)) ∧ PySem.W.makesIn K (C.cA c) = true ∧ PySem.W.keepIn K (.ref (C.cA c)) = true ∧ ∃ d, D[fi]? = some d ∧ d.x = "__init__" ∧ d.cl = some c ∧
      ∀ n dvs, alts.lookup n = some dvs → ∃ (ds : List Value) (dcs : List V), (∀ f fd, L2.Meth K (C.cA c) "__init__" f → FunD K d.x d.q d.st f fd → L2.Binds K fd d.ps [] → L2.Binds K fd d.ps ds) ∧ L2.Vals dcs ds ∧ ∀ g, RelL C g dvs dcs
  | .fld f cs => ∀ c ∈ cs, ClF C K c f
  | .mth m ms => ∀ p ∈ ms, ∃ d, D[p.2]? = some d ∧ d.x = m ∧ d.cl = some p.1
section
variable {C : Cfg} {P : Program} {w : World} {K : PySem.W.Frag} {mg : Str → Option Value} {base : Heap} {D : List DD} {G : List (Str × GI)} {cs : List (Addr × Addr)}
theorem start_rel {g : Gh} {names : List Str} {xs : List AV} {vs : List V} (r : RelL C g xs vs) : RelS C g (start names.length xs) (L2.start names vs) := by
  have hl := r.len
  refine ⟨by simp [start, L2.start, hl], fun i x h => ?_⟩
  unfold start at h
  unfold L2.start
  by_cases hi : i < xs.length
  · rw [List.getElem?_append_left (by simpa using hi), List.getElem?_map] at h
    cases e : xs[i]? with
    | none => rw [e] at h; cases h
    | some y =>
      rw [e] at h
      cases h
      obtain ⟨u, h1, h2⟩ := r.get e
      exact ⟨u, by rw [List.getElem?_append_left (by simp; omega), List.getElem?_map, h1]; rfl, h2⟩
  · rw [List.getElem?_append_right (by simpa using hi), List.getElem?_replicate] at h
    split at h <;> cases h
theorem gcRet_ok {g : Gh} {h h1 : AH} {H : Hp} {v : AV} {Q : VK} {N : Nat → Hp → Prop} (r : Rep C g h H) (ok : okG C g (gcRet h v h1) (fun x g' _ H' => ∀ u, RelA C g' x u → Q u H') N) :
    okG C g (.ok v h1) (fun x g' _ H' => ∀ u, RelA C g' x u → Q u H') N := by
  intro g' H' e' r' u ru
  unfold gcRet at ok
  split at ok
  · rename_i hz
    simp only [Bool.and_eq_true] at hz
    exact ok _ _ (gc_ext r e') (gc_rep r e' r' _ hz.2) u (ru.cutN hz.1)
  · exact ok g' H' e' r' u ru
theorem gcExc_ok {g : Gh} {h h1 : AH} {H : Hp} {c : Nat} {K : AV → Gh → AH → Hp → Prop} {N : Nat → Hp → Prop} (r : Rep C g h H) (ok : okG C g (gcExc h c h1) K N) : ∀ g' H', Ext g g' → Rep C g' h1 H' → N c H' := by
  intro g' H' e' r'
  unfold gcExc at ok
  split at ok
  · rename_i hz
    exact ok _ _ (gc_ext r e') (gc_rep r e' r' _ hz)
  · exact ok g' H' e' r'
/-- what is known of a def at a level -/
def FnAt (C : Cfg) (P : Program) (w : World) (K : PySem.W.Frag) (mg : Str → Option Value) (base : Heap) (k : Nat) (d : DD) (f : List AV → AH → Out AV) : Prop :=
  ∃ (a : Addr) (fd : FuncData), FnOk P w K mg base (L2.CX P w) k a fd d.ps (spOf C f) ∧ Where C K mg d a ∧ PySem.W.keepIn K (.ref a) = true ∧ L2.Binds K fd d.ps [] ∧ FunD K d.x d.q d.st a fd
theorem gl_ok {n : Nat} {X : Cx} (hx : X.prog = P ∧ X.w = w ∧ X.K = K ∧ X.mg = mg ∧ X.base = base) (ih : ∀ (i : Nat) (d : DD), D[i]? = some d → FnAt C P w K mg base (4 * n) d (pg (prog D G) n 0 i)) {x : Str} {gi : GI} (h : GlF C K mg D x gi) : GOk C (pg (prog D G) n) (4 * n) X x gi := by
  obtain ⟨rfl, rfl, rfl, rfl, rfl⟩ := hx
  cases gi with
  | bltn => exact h
  | fn i =>
    obtain ⟨d, h1, h2, h3⟩ := h
    obtain ⟨a, fd, z1, z2, z3, z4, _⟩ := ih i d h1
    unfold Where at z2
    rw [h3] at z2
    rw [h2] at z2
    exact ⟨a, fd, d.ps, z1, z2, z3, z4⟩
  | exc c => exact h
  | tell w ret => exact h
  | val v => exact h
  | cls c fi alts =>
    obtain ⟨g1, g2, g3, d, h1, h2, h3, h4⟩ := h
    intro m dvs hm
    obtain ⟨ds, dcs, b1, b2, b3⟩ := h4 m dvs hm
    obtain ⟨a, fd, z1, z2, z3, z4, z5⟩ := ih fi d h1
    unfold Where at z2
    rw [h3] at z2
    obtain ⟨y1, y2⟩ := z2
    rw [h2] at y2
    exact ⟨g1, a, fd, d.ps, ds, dcs, z1, ⟨g2, y2.at_, y2.fn, g3⟩, b1 a fd y2 z5 z4, b2, b3⟩
  | fld f cs => exact h
  | mth m ms =>
    intro p hp
    obtain ⟨d, h1, h2, h3⟩ := h p hp
    obtain ⟨a, fd, z1, z2, z3, z4, _⟩ := ih p.2 d h1
    unfold Where at z2
    rw [h3] at z2
    obtain ⟨y1, y2⟩ := z2
    rw [h2] at y2
    exact ⟨y1, a, fd, d.ps, z1, y2, z4⟩
/-- every def, at every level -/
theorem fns (hK : K = C.K) (hD : ∀ (i : Nat) (d : DD), D[i]? = some d → DefF C K mg cs d) (hG : ∀ x gi, G.lookup x = some gi → GlF C K mg D x gi) (TB : ∀ p ∈ cs, LamX.TabB base mg p.1 p.2) :
    ∀ (n i : Nat) (d : DD), D[i]? = some d → FnAt C P w K mg base (4 * n) d (pg (prog D G) n 0 i) := by
  intro n
  induction n with
  | zero =>
    intro i d hi
    obtain ⟨f, fd, F, hm, b, _⟩ := (hD i d hi).ex
    have no : ∀ vs H Q E, ¬ spOf C (pg (prog D G) 0 0 i) vs H Q E := fun vs H Q E ⟨g, h, xs, r, rl, ok⟩ => ok
    exact ⟨f, fd, ⟨fun vs H Q E h => absurd h (no _ _ _ _), fun A outer s H args us vs Q E _ _ _ _ h => absurd h (no _ _ _ _)⟩, hm, F.kp, b.1, F⟩
  | succ n ih =>
    intro i d hi
    have df := hD i d hi
    obtain ⟨f, fd, F, hm, b, hlam, hgen⟩ := df.ex
    refine ⟨f, fd, ?_, hm, F.kp, b.1, F⟩
    show FnOk P w K mg base (L2.CX P w) (4 * n + 3 + 1) f fd d.ps _
    obtain ⟨oc, od, dV, kV, doc, pm, an, cdv, ct, osl, efd, lk, hcd⟩ := F.ex
    have S := C8.fnScope_by df.sc
    -- the promise's shape
    have shape : ∀ vs H Q E, spOf C (pg (prog D G) (n + 1) 0 i) vs H Q E → ∃ f, d.tr G = some f ∧ ∃ g h xs, Rep C g h H ∧ RelL C g xs vs ∧ xs.length = d.ps.length ∧
        okG C g (match f.1 (pg (prog D G) n) (start d.N.length xs) h with
          | .ok (.rt v) h1 => gcRet h v h1
          | .ok (.nx _) h1 => gcRet h .non h1
          | .exc c h1 => gcExc h c h1
          | _ => .stuck) (fun x g' _ H' => ∀ v, RelA C g' x v → Q v H') (fun c H' => ∀ d, E (.ref (C.cA c)) d H') := by
      intro vs H Q E ⟨g, h, xs, r, rl, ok⟩
      have e1 : pg (prog D G) (n + 1) 0 i xs h = match prog D G i with
        | some Dd => runDef Dd (pg (prog D G) n) xs h
        | none => .stuck := rfl
      rw [e1] at ok
      have e2 : prog D G i = d.def G := by unfold prog; rw [hi]; rfl
      rw [e2] at ok
      unfold DD.def at ok
      cases ht : d.tr G with
      | none => rw [ht] at ok; exact ok.elim
      | some f =>
        rw [ht] at ok
        simp only [Option.map_some, runDef] at ok
        split at ok
        · rename_i hl
          exact ⟨f, rfl, g, h, xs, r, rl, hl, ok⟩
        · exact ok.elim
    subst efd
    refine L2.fn_of lk hcd S (fun vs H Q E h => ?_) fun A outer s H vs Q E hr h => ?_
    · obtain ⟨f, _, g, hh, xs, r, rl, hl, _⟩ := shape _ _ _ _ h
      rw [← rl.len, hl]
    · obtain ⟨f0, ht, g, hh, xs, r, rl, hl, ok⟩ := shape _ _ _ _ h
      have FT : Fits C (pg (prog D G) n) (4 * n) (d.T G) (L2.cxOf (L2.CX P w) P w K mg base d.N d.q (L2.defScope d.st) f cdv A outer s H E) := by
        refine ⟨⟨hK, rfl, S.nd, ?_⟩, rfl, rfl, S.kind, L2.passes_of (K := fun e s'' => L2.CX P w outer H s E e s'') rfl, fun _ _ => rfl, hr, fun x gi hx => gl_ok ⟨rfl, rfl, rfl, rfl, rfl⟩ (ih) (hG x gi hx), fun hl => ?_, fun hl => ?_⟩
        · have := hr.un
          show (A.deeper _).units + 65 < cLine
          omega
        · obtain ⟨c, Pt, h1, h2, h3, h4⟩ := hlam hl
          exact ⟨c, Pt, TB _ h2, h1, h3, h4⟩
        · obtain ⟨c, Pt, h1, h2, h3, h4⟩ := hgen hl
          exact ⟨c, Pt, TB _ h2, h1, h3, h4⟩
      refine ⟨_, (f0.2 C (pg (prog D G) n) (4 * n) _ FT).run (fun c H' => ∀ d, E (.ref (C.cA c)) d H') ((L2.takes_of (X := L2.cxOf (L2.CX P w) P w K mg base d.N d.q (L2.defScope d.st) f cdv A outer s H E) (E := E) rfl rfl rfl rfl).imp fun cls d σ H ⟨c, e, q⟩ => by rw [e]; exact q d), ?_⟩
      refine ⟨g, start d.N.length xs, hh, r, start_rel rl, ?_⟩
      cases z : f0.1 (pg (prog D G) n) (start d.N.length xs) hh with
      | stuck => rw [z] at ok; exact ok
      | exc c h1 => rw [z] at ok; exact gcExc_ok r ok
      | ok fl h1 =>
        rw [z] at ok
        cases fl with
        | rt v => exact fun g' H' e' r' u ru => gcRet_ok r ok g' H' e' r' u ru
        | nx s1 => exact fun g' H' e' r' σ' _ => gcRet_ok r ok g' H' e' r' .non (by simp only [RelA])
        | bk s1 => exact ok.elim
        | ct s1 => exact ok.elim
end
/-- the code object of a def of the text -/
theorem tab_code {K : PySem.W.Frag} {x : Str} {f c Pt : Addr} {oc : Value} {od : Option Addr} {fd : FuncData} {osl : Array (Option Value)} (a : PySem.W.nsIn K mainGlobals x = some (some (.ref f))) (l : K.lookup f = some ⟨oc, od, .func fd, osl⟩) (t : PySem.W.tabIn K x = some (c, Pt)) : fd.code = .ref c := by
  unfold PySem.W.tabIn at t
  rw [a] at t
  simp only [l] at t
  split at t
  · rename_i c' hc
    split at t
    · split at t
      · cases t; exact hc
      · cases t
    · cases t
  · cases t
/-- the world ahead of the law -/
structure World0 (C : Cfg) (K : PySem.W.Frag) (mg : Str → Option Value) (h : Heap) (D : List DD) (G : List (Str × GI)) (cs : List (Addr × Addr)) : Prop where
  eK : C.K = K
  def_ : ∀ (i : Nat) (d : DD), D[i]? = some d → DefF C K mg cs d
  gl : ∀ x gi, G.lookup x = some gi → GlF C K mg D x gi
  tab : ∀ p ∈ cs, h.get? p.2 = some { cls := .none, data := .fields #[] } ∧ K.lookup p.2 = none ∧ PySem.W.CodeHd h p.1 p.2
  tl : ∀ p ∈ C.tl, ∃ c, (c, p.1) ∈ cs
  tg : ∀ p ∈ C.tg, ∃ c, (c, p) ∈ cs
theorem rep0 {C : Cfg} {H : Hp} {a : Addr} {ns : List Int} {cs : List (Addr × Addr)} (hl : ∀ p ∈ C.tl, ∃ c, (c, p.1) ∈ cs) (hg : ∀ p ∈ C.tg, ∃ c, (c, p) ∈ cs) (hT : ∀ p ∈ cs, H p.2 = some (.tbl #[])) (hS : SqL C.K H a (ns.map V.int)) :
    ∃ g, Rep C g [] H ∧ RelL C g [.scr (ns.map .int)] [.ref a] := by
  have allI : ∀ (g : Gh) (ns : List Int), RelL C g (ns.map .int) (ns.map V.int) := fun g ns => by
    induction ns with
    | nil => exact .nil
    | cons n r ih => exact .cons .mkI ih
  classical
  let g : Gh := { n := 0, at_ := fun _ => 0, fx := fun b => if b = a then (if ∃ xs, H a = some (.lst xs) ∨ ∃ ob, H a = some (.frz ob (.lst xs)) then H a else none) else none, kx := fun _ => none }
  have tbl : ∀ P, (∃ c, (c, P) ∈ cs) → H P = some (.tbl #[]) := fun P ⟨c, hc⟩ => hT _ hc
  refine ⟨g, ⟨rfl, fun b o e => ?_, fun i j hi => absurd hi (Nat.not_lt_zero _), fun i hi => absurd hi (Nat.not_lt_zero _), fun i o e => by simp [hget] at e, ⟨fun p hp => LamX.TabS.nil (tbl _ (hl p hp)), fun P hP => ⟨#[], tbl _ (hg P hP), True.intro⟩⟩, fun b o e => (nomatch e), fun i hi => absurd hi (Nat.not_lt_zero _)⟩, .cons ?_ .nil⟩
  · have e : (if b = a then (if ∃ xs, H a = some (.lst xs) ∨ ∃ ob, H a = some (.frz ob (.lst xs)) then H a else none) else none) = some o := e
    split at e
    · rename_i hb
      rw [hb]
      split at e
      · rename_i hx
        obtain ⟨xs, h1 | ⟨ob, h1⟩⟩ := hx
        · rw [h1] at e ⊢; cases e; exact ⟨rfl, trivial⟩
        · rw [h1] at e ⊢; cases e; exact ⟨rfl, trivial⟩
      · cases e
    · cases e
  · simp only [RelA]
    refine ⟨a, ns.map V.int, rfl, ?_, allI g ns⟩
    have ga : ∀ hx : ∃ xs, H a = some (.lst xs) ∨ ∃ ob, H a = some (.frz ob (.lst xs)), g.fx a = H a := fun hx => by
      show (if a = a then (if ∃ xs, H a = some (.lst xs) ∨ ∃ ob, H a = some (.frz ob (.lst xs)) then H a else none) else none) = H a
      rw [if_pos rfl, if_pos hx]
    rcases hS with (hS | ⟨ob, hS⟩) | hS
    · exact .inl (.inl ((ga ⟨_, .inl hS⟩).trans hS))
    · exact .inl (.inr ⟨ob, (ga ⟨_, .inr ⟨ob, hS⟩⟩).trans hS⟩)
    · exact .inr hS
/-- THE END -/
theorem walk_tx {l : PySem.W.OpenLaw} {n : Nat} {q : Program} {loose : List Str} {XP : (Str → Option Value) → Heap → Prop} {YP : World → Heap → Prop} {d : DefRec} {K : Params → PySem.W.Frag} {x : Str} (D : List DD) (G : List (Str × GI)) (lv iL : Nat) (dd : DD)
    (hn : l.most = some n) (hn2 : n ≤ sizeLine) (hdf : d.params.defaults = []) (hr : Room (4 * lv) callerA) (hY : ∀ (w : World) (h : Heap), YP w h → (K w.params).In h)
    (hL : D[iL]? = some dd) (hx : dd.x = d.name) (hp : dd.ps = [x])
    (law : ∀ ns : List Int, ns.length ≤ n → (∀ z ∈ ns, Builtin.Int.intBits z ≤ 1048576) → ∃ h, pg (prog D G) lv 0 iL [.scr (ns.map .int)] [] = .ok (.bl true) h)
    (ts : List Addr) (hT : ∀ (w : World) (h : Heap), YP w h → ∀ P ∈ ts, h.get? P = some (PySem.W.tabObj #[])) (hcl : dd.cl = none)
    (F : ∀ (w : World) (mg : Str → Option Value) (h : Heap), YP w h → (K w.params).In h → h.Ns mainGlobals mg → (∀ P ∈ ts, h.get? P = some (PySem.W.tabObj #[])) →
      ∃ C cs, World0 C (K w.params) mg h D G cs) :
    PySem.W.WalkO q loose XP YP l.row.toRowW d [] (fun f vs => PySem.call f vs) := by
  refine Att.attach_callB hn hdf fun w s₀ s₁ mg mb fa o pm cd doc a vs ns Gr Y ho hd hcd hmg hobj hints hlen hbits hg => ?_
  have KX := hY w _ Y
  obtain ⟨C, cs, W⟩ := F w mg _ Y KX Gr.T.g (hT w _ Y)
  obtain ⟨f0, fd, Ff, hm0, hb, _⟩ := (W.def_ iL dd hL).ex
  unfold Where at hm0
  rw [hcl] at hm0
  refine LamX.law_callTs (sp := spOf C (pg (prog D G) lv 0 iL)) (CX := L2.CX l.prog w) (x := x) (fd := fd) (cs := cs) KX Gr.T.g Gr.T.b Gr.T.builtins Gr.T.nolimit hg (fun p hp => (W.tab p hp).1) (fun p hp => (W.tab p hp).2.1) (fun p hp => (W.tab p hp).2.2) Gr.T.bmain hobj hints (Nat.le_trans hlen hn2) hr (fun base hK hNs TB => ?_) (fun s u => ?_) (fun H hH hS => ?_) (fun H e s' hc => ?_)
  · obtain ⟨f, fd2, F2, hm2, _, _, Ff2⟩ := fns (C := C) (P := l.prog) (w := w) (K := K w.params) (mg := mg) (base := base) (cs := cs) W.eK.symm W.def_ W.gl TB lv iL dd hL
    unfold Where at hm2
    rw [hcl] at hm2
    simp only at hm2 hm0
    rw [hx, hmg] at hm2
    cases hm2
    rw [hp] at F2
    rw [hx, hmg] at hm0
    cases hm0
    obtain ⟨oc, od, _, _, _, _, _, _, _, osl, _, lk, _⟩ := Ff.ex
    obtain ⟨oc2, od2, _, _, _, _, _, _, _, osl2, _, lk2, _⟩ := Ff2.ex
    rw [lk] at lk2
    cases lk2
    exact F2
  · have z := hb.2 hcl [u] (by rw [hp]; rfl)
    rw [hp] at z
    exact .of_eq z
  · rw [← W.eK] at hS
    obtain ⟨g, r, rl⟩ := rep0 W.tl W.tg hH hS
    obtain ⟨h, e⟩ := law ns hlen hbits
    refine ⟨g, [], _, r, rl, ?_⟩
    rw [e]
    exact fun g' H' e' r' v rv => rv.bl
  · obtain ⟨_, _, _, _, _, _, _, _, _, _, _, _, z⟩ := hc
    exact z
end TX

/-! TxQ: the facts of a world, collected -/
set_option Elab.async false
set_option linter.all false
set_option maxRecDepth 100000
set_option maxHeartbeats 1000000
set_option autoImplicit false
namespace TX
open PySem PySem.Spec PyProof.Rows
open L2 (V HO Hp Key SqL SqT Rd)
theorem mem_of_lookN {β : Type} {n : Nat} {b : β} : ∀ {l : List (Nat × β)}, l.lookup n = some b → (n, b) ∈ l
  | [], e => nomatch e
  | (m, c) :: l, e => by
    rw [List.lookup_cons] at e
    cases z : n == m with
    | true => rw [z] at e; cases e; rw [beq_iff_eq.mp z]; exact List.mem_cons_self ..
    | false => rw [z] at e; exact List.mem_cons_of_mem _ (mem_of_lookN e)
theorem all_nil {α : Type} {P : α → Prop} : ∀ p ∈ ([] : List α), P p := fun p hp => nomatch hp
theorem all_cons {α : Type} {P : α → Prop} {a : α} {l : List α} (h : P a) (k : ∀ p ∈ l, P p) : ∀ p ∈ a :: l, P p := fun p hp => (List.mem_cons.mp hp).elim (fun e => e ▸ h) (k p)
section
variable {C : Cfg} {K : PySem.W.Frag} {mg : Str → Option Value} {h : Heap} {cs : List (Addr × Addr)} {D : List DD} {G : List (Str × GI)}
/-- the tables of a def -/
structure TbF (C : Cfg) (cs : List (Addr × Addr)) (d : DD) (cd : Value) : Prop where
  l : d.lam = true → ∃ c Pt, cd = .ref c ∧ (c, Pt) ∈ cs ∧ (Pt, lamName d.q) ∈ C.tl ∧ ∀ p ∈ C.tl, p.1 = Pt → p.2 = lamName d.q
  g : d.gen = true → ∃ c Pt, cd = .ref c ∧ (c, Pt) ∈ cs ∧ Pt ∈ C.tg ∧ ∀ p ∈ C.tl, p.1 ≠ Pt
theorem def_mk {d : DD} {f : Addr} {od an : Option Addr} {sl : Array (Option Value)} {oc dV kV dc pm cd ct : Value} (KX : K.In h) (g : h.Ns mainGlobals mg) (hcl : d.cl = none) (a : PySem.W.nsIn K mainGlobals d.x = some (some (.ref f)))
    (l : K.lookup f = some ⟨oc, od, .func (PySem.W.fnOf d.x d.q (L2.defArgs d.st) (L2.defBody d.st) (L2.defScope d.st) dV kV dc pm an cd ct), sl⟩) (c : PySem.W.codeIn K cd d.q = true) (k : PySem.W.keepIn K (.ref f) = true)
    (b : ∀ (kV dc pm : Value) (an : Option Addr) (cd ct : Value) (us : List Value), us.length = d.ps.length → bindArgs (PySem.W.fnOf d.x d.q (L2.defArgs d.st) (L2.defBody d.st) (L2.defScope d.st) dV kV dc pm an cd ct) ⟨us, []⟩ = pure (d.ps.zip us))
    (sc : C8.scC d.N d.ps (L2.defScope d.st) = true) (t : TbF C cs d cd) : DefF C K mg cs d :=
  ⟨⟨f, _, ⟨⟨oc, od, dV, kV, dc, pm, an, cd, ct, sl, rfl, l, c⟩, k⟩, by unfold Where; rw [hcl]; exact PySem.W.mg_of KX g a, ⟨.all (b kV dc pm an cd ct), fun _ => b kV dc pm an cd ct⟩, t.l, t.g⟩, sc⟩
theorem mth_mk {d : DD} {f : Addr} {n : Nat} {od an : Option Addr} {sl : Array (Option Value)} {oc dV kV dc pm cd ct : Value} (hcl : d.cl = some n) (hc : L2.Cls K (C.cA n)) (a : PySem.W.findIn K (.ref (C.cA n)) d.x = some (some (.ref f))) (fn : PySem.W.isFn K (.ref f) = true)
    (l : K.lookup f = some ⟨oc, od, .func (PySem.W.fnOf d.x d.q (L2.defArgs d.st) (L2.defBody d.st) (L2.defScope d.st) dV kV dc pm an cd ct), sl⟩) (c : PySem.W.codeIn K cd d.q = true) (k : PySem.W.keepIn K (.ref f) = true)
    (b : ∀ (kV dc pm : Value) (an : Option Addr) (cd ct : Value) (us : List Value), us.length = d.ps.length → bindArgs (PySem.W.fnOf d.x d.q (L2.defArgs d.st) (L2.defBody d.st) (L2.defScope d.st) dV kV dc pm an cd ct) ⟨us, []⟩ = pure (d.ps.zip us))
    (sc : C8.scC d.N d.ps (L2.defScope d.st) = true) (t : TbF C cs d cd) : DefF C K mg cs d :=
  ⟨⟨f, _, ⟨⟨oc, od, dV, kV, dc, pm, an, cd, ct, sl, rfl, l, c⟩, k⟩, by unfold Where; rw [hcl]; exact ⟨hc, a, fn, k⟩, ⟨.all (b kV dc pm an cd ct), fun _ => b kV dc pm an cd ct⟩, t.l, t.g⟩, sc⟩
theorem binds_dfl {d : DD} {u : Value} {f T : Addr} {o : Obj} {m : Nat} {od an : Option Addr} {sl : Array (Option Value)} {oc kV dc pm cd ct : Value}
    (l : K.lookup f = some ⟨oc, od, .func (PySem.W.fnOf d.x d.q (L2.defArgs d.st) (L2.defBody d.st) (L2.defScope d.st) (.ref T) kV dc pm an cd ct), sl⟩) (lT : K.lookup T = some o) (oT : o.data = .seq #[u] m)
    (hb : ∀ (kV dc pm : Value) (an : Option Addr) (cd ct : Value) (us : List Value) (u : Value), us.length = d.ps.length → ∃ k, bindArgs (PySem.W.fnOf d.x d.q (L2.defArgs d.st) (L2.defBody d.st) (L2.defScope d.st) (.ref T) kV dc pm an cd ct) ⟨us, []⟩ = seqItems? (.ref T) >>= k ∧ k (some #[u]) = pure (d.ps.zip us)) :
    L2.Binds K (PySem.W.fnOf d.x d.q (L2.defArgs d.st) (L2.defBody d.st) (L2.defScope d.st) (.ref T) kV dc pm an cd ct) d.ps [] := by
  intro s us X hlen
  rw [List.append_nil] at hlen ⊢
  obtain ⟨k, e1, e2⟩ := hb kV dc pm an cd ct us u hlen
  refine L2.BindsTo.of_looks fun M => ?_
  rw [e1]
  exact L2.looks_items X lT oT (.of_pure e2)
theorem mthd_mk {d : DD} {f : Addr} {n : Nat} {od an : Option Addr} {sl : Array (Option Value)} {oc dV kV dc pm cd ct : Value} (hcl : d.cl = some n) (hc : L2.Cls K (C.cA n)) (a : PySem.W.findIn K (.ref (C.cA n)) d.x = some (some (.ref f))) (fn : PySem.W.isFn K (.ref f) = true)
    (l : K.lookup f = some ⟨oc, od, .func (PySem.W.fnOf d.x d.q (L2.defArgs d.st) (L2.defBody d.st) (L2.defScope d.st) dV kV dc pm an cd ct), sl⟩) (c : PySem.W.codeIn K cd d.q = true) (k : PySem.W.keepIn K (.ref f) = true)
    (b : L2.Binds K (PySem.W.fnOf d.x d.q (L2.defArgs d.st) (L2.defBody d.st) (L2.defScope d.st) dV kV dc pm an cd ct) d.ps []) (no : d.cl = none → False)
    (sc : C8.scC d.N d.ps (L2.defScope d.st) = true) (t : TbF C cs d cd) : DefF C K mg cs d :=
  ⟨⟨f, _, ⟨⟨oc, od, dV, kV, dc, pm, an, cd, ct, sl, rfl, l, c⟩, k⟩, by unfold Where; rw [hcl]; exact ⟨hc, a, fn, k⟩, ⟨b, fun z => (no z).elim⟩, t.l, t.g⟩, sc⟩
theorem fld_mk {f : Str} {js : List Nat} (k : ∀ c ∈ js, L2.Cls K (C.cA c) ∧ L2.NoAttr K (C.cA c) f) {x : Str} : GlF C K mg D x (.fld f js) := fun c hc => ⟨(k c hc).1, (k c hc).2⟩
theorem mg_mk {m : Str} {ms : List (Nat × Nat)} (k : ∀ p ∈ ms, ∃ d, D[p.2]? = some d ∧ d.x = m ∧ d.cl = some p.1) {x : Str} : GlF C K mg D x (.mth m ms) := k
/-- a class: its __init__ is the def fi; nn what stands ahead of the defaults -/
theorem cls_mk {x : Str} {c fi : Nat} {d : DD} {alts : List (Nat × List AV)} (KX : K.In h) (g : h.Ns mainGlobals mg) (a : PySem.W.nsIn K mainGlobals x = some (some (.ref (C.cA c)))) (m : PySem.W.makesIn K (C.cA c) = true) (k : PySem.W.keepIn K (.ref (C.cA c)) = true)
    (h1 : D[fi]? = some d) (h2 : d.x = "__init__") (h3 : d.cl = some c)
    (h4 : ∀ n dvs, alts.lookup n = some dvs → ∃ (ds : List Value) (dcs : List V), (∀ f fd, L2.Meth K (C.cA c) "__init__" f → FunD K d.x d.q d.st f fd → L2.Binds K fd d.ps [] → L2.Binds K fd d.ps ds) ∧ L2.Vals dcs ds ∧ ∀ g, RelL C g dvs dcs) :
    GlF C K mg D x (.cls c fi alts) := ⟨PySem.W.mg_of KX g a, m, k, d, h1, h2, h3, h4⟩
theorem alts_mk {c : Nat} {d : DD} {alts : List (Nat × List AV)} (k : ∀ p ∈ alts, ∃ (ds : List Value) (dcs : List V), (∀ f fd, L2.Meth K (C.cA c) "__init__" f → FunD K d.x d.q d.st f fd → L2.Binds K fd d.ps [] → L2.Binds K fd d.ps ds) ∧ L2.Vals dcs ds ∧ ∀ g, RelL C g p.2 dcs) :
    ∀ n dvs, alts.lookup n = some dvs → ∃ (ds : List Value) (dcs : List V), (∀ f fd, L2.Meth K (C.cA c) "__init__" f → FunD K d.x d.q d.st f fd → L2.Binds K fd d.ps [] → L2.Binds K fd d.ps ds) ∧ L2.Vals dcs ds ∧ ∀ g, RelL C g dvs dcs := fun n dvs e => k (n, dvs) (mem_of_lookN e)
/-- every argument is given -/
theorem alt_full {c : Nat} {d : DD} : ∃ (ds : List Value) (dcs : List V), (∀ f fd, L2.Meth K (C.cA c) "__init__" f → FunD K d.x d.q d.st f fd → L2.Binds K fd d.ps [] → L2.Binds K fd d.ps ds) ∧ L2.Vals dcs ds ∧ ∀ g, RelL C g [] dcs :=
  ⟨[], [], fun _ _ _ _ b => b, .nil, fun _ => .nil⟩
/-- the last argument is a default: n values are written -/
theorem alt_dfl {c : Nat} {d : DD} {v : AV} {cv : V} {u : Value} {f T : Addr} {o : Obj} {m : Nat} {od an : Option Addr} {sl : Array (Option Value)} {oc kV dc pm cd ct : Value} (a : PySem.W.findIn K (.ref (C.cA c)) "__init__" = some (some (.ref f)))
    (l : K.lookup f = some ⟨oc, od, .func (PySem.W.fnOf d.x d.q (L2.defArgs d.st) (L2.defBody d.st) (L2.defScope d.st) (.ref T) kV dc pm an cd ct), sl⟩) (lT : K.lookup T = some o) (oT : o.data = .seq #[u] m) (ru : L2.RelV cv u) (rv : ∀ g, RelA C g v cv) (n : Nat) (hn : d.ps.length = n + 1)
    (hb : ∀ (kV dc pm : Value) (an : Option Addr) (cd ct : Value) (us : List Value) (u : Value), us.length = n → ∃ k, bindArgs (PySem.W.fnOf d.x d.q (L2.defArgs d.st) (L2.defBody d.st) (L2.defScope d.st) (.ref T) kV dc pm an cd ct) ⟨us, []⟩ = seqItems? (.ref T) >>= k ∧ k (some #[u]) = pure (d.ps.zip (us ++ [u]))) :
    ∃ (ds : List Value) (dcs : List V), (∀ f fd, L2.Meth K (C.cA c) "__init__" f → FunD K d.x d.q d.st f fd → L2.Binds K fd d.ps [] → L2.Binds K fd d.ps ds) ∧ L2.Vals dcs ds ∧ ∀ g, RelL C g [v] dcs := by
  refine ⟨[u], [cv], fun f2 fd M F _ => ?_, .cons ru .nil, fun g => .cons (rv g) .nil⟩
  have e := M.at_
  rw [a] at e
  cases e
  obtain ⟨oc2, od2, dV2, kV2, doc2, pm2, an2, cdv2, ct2, osl2, efd, lk, hcd⟩ := F.ex
  rw [l] at lk
  cases lk
  intro s us X hlen
  have l2 : us.length = n := by simp [hn] at hlen; exact hlen
  obtain ⟨k, e1, e2⟩ := hb kV dc pm an cd ct us u l2
  refine L2.BindsTo.of_looks fun M => ?_
  rw [e1]
  exact L2.looks_items X lT oT (.of_pure e2)
theorem exc_mk {x : Str} {j : Nat} {bmB : List Value} {B newId initId : String} (F : ExcBaseFacts B newId initId bmB) (KX : K.In h) (g : h.Ns mainGlobals mg) (a : PySem.W.nsIn K mainGlobals x = some (some (.ref (C.cA j)))) (q : PySem.W.excIn K (C.cA j) bmB newId = true) (k : PySem.W.keepIn K (.ref (C.cA j)) = true)
    (s : PySem.W.subIn K (.ref (C.cA j)) (.type "BaseException") = some true) (t : PySem.W.typeIn K (.ref (C.cA j)) = some (.type "type")) : ExcI C K mg x j :=
  ⟨⟨bmB, B, newId, initId, F, q⟩, PySem.W.mg_of KX g a, k, s, t⟩
theorem tell_mk {x : Str} {w : List Nat} {ret : Tx} {st : Stmt} {f CS : Addr} {od an : Option Addr} {sl : Array (Option Value)} {oc kV dc pm cd ct : Value} {a e rt : Str} {j : Nat} {p1 p2 p3 p4 p5 p6 p7 p8 : Pos} (KX : K.In h) (g : h.Ns mainGlobals mg) (hf : PySem.W.nsIn K mainGlobals x = some (some (.ref f)))
    (l : K.lookup f = some ⟨oc, od, .func (PySem.W.fnOf x x (L2.defArgs st) (L2.defBody st) (L2.defScope st) .none kV dc pm an cd ct), sl⟩) (c : PySem.W.codeIn K cd x = true) (k : PySem.W.keepIn K (.ref f) = true)
    (hb : L2.defBody st = [.Try [.Return (some (.Call (.Name a p1) [] [] p2)) p3] [.ExceptHandler (some (.Name e p4)) none [.Return (some (.Constant (.str rt) j p5)) p6] p7] [] [] p8])
    (b : ∀ (kV dc pm : Value) (an : Option Addr) (cd ct : Value) (us : List Value), us.length = [a].length → bindArgs (PySem.W.fnOf x x (L2.defArgs st) (L2.defBody st) (L2.defScope st) .none kV dc pm an cd ct) ⟨us, []⟩ = pure ([a].zip us))
    (sc : C8.scC [a] [a] (L2.defScope st) = true) (va : visB (L2.defScope st) a = true) (ve : glB (L2.defScope st) e = true) (hC : PySem.W.nsIn K mainGlobals e = some (some (.ref CS)))
    (n1 : (e == ("__debug__" : Str)) = false) (n2 : (a == ("__debug__" : Str)) = false) (n3 : (a == ("__classdict__" : Str)) = false) (hr : rt = toS ret) (hw : ∀ c ∈ w, PySem.W.exmOne K (.ref (C.cA c)) (.ref CS) = some true) : TellI C K mg x (ctOf w) ret := by
  refine ⟨f, L2.defArgs st, L2.defScope st, .none, kV, dc, pm, cd, ct, oc, an, od, sl, [a], a, e, CS, rt, j, p1, p2, p3, p4, p5, p6, p7, p8, PySem.W.mg_of KX g hf, k, ?_, c, ?_, C8.fnScope_by sc, rfl, visB_of va, glB_of ve, PySem.W.mg_of KX g hC, n1, n2, n3, hr, fun c hc => ?_⟩
  · rw [← hb]; exact l
  · rw [← hb]; exact .all (b kV dc pm an cd ct)
  · unfold ctOf at hc
    split at hc
    · rename_i z; exact hw c z
    · cases hc
theorem tab_mk {x : Str} {f c P : Addr} {od oe : Option Addr} {oc oc2 : Value} {fd : FuncData} {sl sl2 : Array (Option Value)} {vs : Array Value} (a : PySem.W.nsIn K mainGlobals x = some (some (.ref f))) (l : K.lookup f = some ⟨oc, od, .func fd, sl⟩) (e : fd.code = .ref c)
    (lc : K.lookup c = some ⟨oc2, oe, .fields vs, sl2⟩) (hv : (vs[11]? : Option Value) = some (.ref P)) : PySem.W.tabIn K x = some (c, P) := by
  unfold PySem.W.tabIn
  rw [a]
  simp only [l, e, lc, hv]
/-- an error of the class at S is what a clause that names the class at U takes -/
theorem exm_mk {S U : Addr} (h1 : PySem.W.subIn K (.ref S) (.type "BaseException") = some true) (hU : PySem.W.subIn K (.ref U) (.type "BaseException") = some true) (h2 : PySem.W.isClsIn K U = true) (h3 : PySem.W.typeIn K (.ref U) = some (.type "type")) (h4 : PySem.W.subIn K (.ref S) (.ref U) = some true) :
    PySem.W.exmOne K (.ref S) (.ref U) = some true := by
  have e1 : (PySem.W.subIn K (.ref U) (.type "BaseException") == some true) = true := by rw [hU] <;> rfl
  have e2 : ((PySem.W.clsIn K U).isSome && PySem.W.typeIn K (.ref U) == some (.type "type")) = true := by
    have h2' : (PySem.W.clsIn K U).isSome = true := h2
    rw [h2', h3] <;> rfl
  show (if (PySem.W.subIn K (.ref U) (.type "BaseException") == some true) = true then (if ((PySem.W.clsIn K U).isSome && PySem.W.typeIn K (.ref U) == some (.type "type")) = true then PySem.W.subIn K (.ref S) (.ref U) else none) else none) = some true
  rw [if_pos e1, if_pos e2]
  exact h4
/-- a tuple of texts that the top has made -/
theorem val_mk {x : Str} {ts : List Tx} {t : Addr} {o : Obj} {its : Array Value} {n : Nat} (eK : C.K = K) (KX : K.In h) (g : h.Ns mainGlobals mg) (a : PySem.W.nsIn K mainGlobals x = some (some (.ref t))) (l : K.lookup t = some o) (hc : o.cls = .type "tuple") (hd : o.data = .seq its n)
    (hv : L2.Vals (ts.map fun y => V.str (toS y)) its.toList) (hz : its.size ≤ sizeLine) : GlF C K mg D x (.val (.tup (ts.map .str))) := by
  refine ⟨.ref t, .ref t, PySem.W.mg_of KX g a, rfl, fun gh => ?_⟩
  simp only [RelA]
  refine ⟨t, _, rfl, ?_, relL_strs ts⟩
  rw [eK]
  exact .inr ⟨o, its, n, l, hc, hd, hz, hv⟩
theorem val_mki {x : Str} {ts : List Int} {t : Addr} {o : Obj} {its : Array Value} {n : Nat} (eK : C.K = K) (KX : K.In h) (g : h.Ns mainGlobals mg) (a : PySem.W.nsIn K mainGlobals x = some (some (.ref t))) (l : K.lookup t = some o) (hc : o.cls = .type "tuple") (hd : o.data = .seq its n)
    (hv : L2.Vals (ts.map V.int) its.toList) (hz : its.size ≤ sizeLine) : GlF C K mg D x (.val (.tup (ts.map .int))) := by
  refine ⟨.ref t, .ref t, PySem.W.mg_of KX g a, rfl, fun gh => ?_⟩
  simp only [RelA]
  refine ⟨t, _, rfl, ?_, relL_ints ts⟩
  rw [eK]
  exact .inr ⟨o, its, n, l, hc, hd, hz, hv⟩
theorem val_int {x : Str} {i : Int} {t : Tok} (KX : K.In h) (g : h.Ns mainGlobals mg) (a : PySem.W.nsIn K mainGlobals x = some (some (.int i t))) : GlF C K mg D x (.val (.int i)) :=
  ⟨.int i t, .int i, PySem.W.mg_of KX g a, ⟨t, rfl⟩, fun _ => .mkI⟩
theorem val_str {x y : Str} {s : Tx} {t : Tok} (e : toS s = y) (KX : K.In h) (g : h.Ns mainGlobals mg) (a : PySem.W.nsIn K mainGlobals x = some (some (.str y t))) : GlF C K mg D x (.val (.str s)) :=
  ⟨.str y t, .str y, PySem.W.mg_of KX g a, ⟨t, rfl⟩, fun _ => by rw [← e]; exact .mkS⟩
theorem gl_mk (k : ∀ p ∈ G, GlF C K mg D p.1 p.2) : ∀ x gi, G.lookup x = some gi → GlF C K mg D x gi := fun x gi e => k (x, gi) (PySem.mem_of_lookup e)
theorem defs_mk (k : ∀ d ∈ D, DefF C K mg cs d) : ∀ (i : Nat) (d : DD), D[i]? = some d → DefF C K mg cs d := fun i d e => k d (List.mem_of_getElem? e)
theorem blt_mk {x : Str} (KX : K.In h) (g : h.Ns mainGlobals mg) (a : PySem.W.nsIn K mainGlobals x = some none) : GlF C K mg D x .bltn := PySem.W.mg_none_of KX g a
end
theorem def_eq {d : DD} {G : List (Str × GI)} {f : SF} (t : (d.tr G).map (·.1) = some f) : d.def G = some ⟨d.N.length, d.ps.length, f⟩ := by
  unfold DD.def
  cases e : d.tr G with
  | none => rw [e] at t; cases t
  | some r => rw [e] at t; cases t; rfl
theorem prog_eq {D : List DD} {G : List (Str × GI)} {P : Prog} (h : ∀ i, prog D G i = P i) : prog D G = P := funext h
end TX

set_option Elab.async false
set_option linter.all false
set_option maxRecDepth 100000
set_option maxHeartbeats 0
set_option autoImplicit false
namespace K06
open PySem PySem.Spec PyProof.Rows TX
open L2 (V HO Hp Key SqL SqT Rd)
/-! ### the defs of the text -/
def top (i : Nat) : Stmt := PySem.Challenge.pw_taxstack_k06_benefits_and_cliffs.main.body.getD i (.Pass ⟨0, 0, 0, 0⟩)
def d__wall : TX.DD := ⟨"_wall", top 0, ["k"], ["k"], [], false, false, "_wall", none⟩
def d_rounded : TX.DD := ⟨"rounded", top 8, ["top", "bottom", "how", "low", "rest"], ["top", "bottom", "how"], [], false, false, "rounded", none⟩
def d_Benefit___init__ : TX.DD := ⟨"__init__", TX.clsStmt (top 11) 0, ["self", "first", "further", "child", "free", "taper", "limit", "least"], ["self", "first", "further", "child", "free", "taper", "limit", "least"], [], false, false, "Benefit.__init__", some 4⟩
def d_Benefit_whole : TX.DD := ⟨"whole", TX.clsStmt (top 11) 1, ["self", "grown", "children"], ["self", "grown", "children"], [], false, false, "Benefit.whole", some 4⟩
def d_Benefit_pays : TX.DD := ⟨"pays", TX.clsStmt (top 11) 2, ["self", "grown", "children", "income", "assets", "found"], ["self", "grown", "children", "income", "assets"], [], false, false, "Benefit.pays", some 4⟩
def d_Benefit_ends_at : TX.DD := ⟨"ends_at", TX.clsStmt (top 11) 3, ["self", "grown", "children", "low", "high", "middle"], ["self", "grown", "children"], [], false, false, "Benefit.ends_at", some 4⟩
def d_kept_of_more : TX.DD := ⟨"kept_of_more", top 12, ["benefit", "bands", "grown", "children", "income", "more"], ["benefit", "bands", "grown", "children", "income", "more"], [], false, false, "kept_of_more", none⟩
def d_left_of : TX.DD := ⟨"left_of", top 13, ["benefit", "bands", "grown", "children", "income"], ["benefit", "bands", "grown", "children", "income"], [], false, false, "left_of", none⟩
def d_cliffs : TX.DD := ⟨"cliffs", top 14, ["benefit", "bands", "grown", "children", "incomes", "found", "one", "other", "lost"], ["benefit", "bands", "grown", "children", "incomes"], [(74, 12)], false, true, "cliffs", none⟩
def d_worst_rate : TX.DD := ⟨"worst_rate", top 15, ["benefit", "bands", "grown", "children", "incomes", "best", "one", "other", "kept", "key"], ["benefit", "bands", "grown", "children", "incomes"], [], false, true, "worst_rate", none⟩
def d_paid_behind : TX.DD := ⟨"paid_behind", top 16, ["due", "paid", "limit", "gaps", "spare", "rows", "left", "room", "month", "gap", "taken", "part", "one", "other"], ["due", "paid", "limit"], [(94, 24)], false, true, "paid_behind", none⟩
def d_months_due : TX.DD := ⟨"months_due", top 17, ["born", "months", "from_age", "to_age", "month"], ["born", "months", "from_age", "to_age"], [], false, true, "months_due", none⟩
def d_Bands___init__ : TX.DD := ⟨"__init__", TX.clsStmt (top 21) 0, ["self", "rows", "how", "start", "rate", "one", "other"], ["self", "rows", "how"], [], false, true, "Bands.__init__", some 5⟩
def d_Bands_parts : TX.DD := ⟨"parts", TX.clsStmt (top 21) 1, ["self", "amount", "found", "place", "start", "rate", "end"], ["self", "amount"], [(127, 16)], false, false, "Bands.parts", some 5⟩
def d_Bands_tax : TX.DD := ⟨"tax", TX.clsStmt (top 21) 2, ["self", "amount", "cents", "rate"], ["self", "amount"], [], false, true, "Bands.tax", some 5⟩
def d_Bands_kept : TX.DD := ⟨"kept", TX.clsStmt (top 21) 3, ["self", "amount"], ["self", "amount"], [], false, false, "Bands.kept", some 5⟩
def d_Bands_rate_at : TX.DD := ⟨"rate_at", TX.clsStmt (top 21) 4, ["self", "amount"], ["self", "amount"], [], false, false, "Bands.rate_at", some 5⟩
def d_Bands_mean_rate : TX.DD := ⟨"mean_rate", TX.clsStmt (top 21) 5, ["self", "amount"], ["self", "amount"], [], false, false, "Bands.mean_rate", some 5⟩
def d_Bands_needed : TX.DD := ⟨"needed", TX.clsStmt (top 21) 6, ["self", "net"], ["self", "net"], [], false, false, "Bands.needed", some 5⟩
def d_Bands_split : TX.DD := ⟨"split", TX.clsStmt (top 21) 7, ["self", "one", "other"], ["self", "one", "other"], [], false, false, "Bands.split", some 5⟩
def d_Bands_saved : TX.DD := ⟨"saved", TX.clsStmt (top 21) 8, ["self", "one", "other"], ["self", "one", "other"], [], false, false, "Bands.saved", some 5⟩
def d_Bands_spread : TX.DD := ⟨"spread", TX.clsStmt (top 21) 9, ["self", "amount", "extra", "years"], ["self", "amount", "extra", "years"], [], false, false, "Bands.spread", some 5⟩
def d_Bands_raised : TX.DD := ⟨"raised", TX.clsStmt (top 21) 10, ["self", "part"], ["self", "part"], [], false, false, "Bands.raised", some 5⟩
def d__law_dice : TX.DD := ⟨"_law_dice", top 23, ["cell"], ["cell"], [(164, 11), (163, 15)], false, false, "_law_dice", none⟩
def d__law_roll : TX.DD := ⟨"_law_roll", top 24, ["dice", "many", "found"], ["dice", "many"], [], false, false, "_law_roll", none⟩
def d__law_rounds : TX.DD := ⟨"_law_rounds", top 25, ["script", "most", "cells", "cell"], ["script", "most"], [], false, false, "_law_rounds", none⟩
def d__law_pays : TX.DD := ⟨"_law_pays", top 27, ["own", "grown", "children", "income", "assets", "whole", "found"], ["own", "grown", "children", "income", "assets"], [], false, false, "_law_pays", none⟩
def d__law_left : TX.DD := ⟨"_law_left", top 28, ["own", "rows", "grown", "children", "income", "top", "k", "start", "rate", "end"], ["own", "rows", "grown", "children", "income"], [], false, false, "_law_left", none⟩
def d__law_plain : TX.DD := ⟨"_law_plain", top 29, ["benefit", "bands", "bad", "f"], [], [], true, false, "_law_plain", none⟩
def d_law : TX.DD := ⟨"law", top 30, ((["script", "dice", "own", "benefit", "grown", "children", "income", "assets", "end", "rows", "bands", "more", "left", "incomes", "falls", "rates", "one", "other", "lost", "months"] : List PySem.Str) ++ (["due", "paid", "limit", "cents", "spare", "k", "behind", "told", "born", "low", "high", "size", "a", "b"] : List PySem.Str)), ["script"], [(223, 4)], false, false, "law", none⟩
def D : List TX.DD := [d__wall, d_rounded, d_Benefit___init__, d_Benefit_whole, d_Benefit_pays, d_Benefit_ends_at, d_kept_of_more, d_left_of, d_cliffs, d_worst_rate, d_paid_behind, d_months_due, d_Bands___init__, d_Bands_parts, d_Bands_tax, d_Bands_kept, d_Bands_rate_at, d_Bands_mean_rate, d_Bands_needed, d_Bands_split, d_Bands_saved, d_Bands_spread, d_Bands_raised, d__law_dice, d__law_roll, d__law_rounds, d__law_pays, d__law_left, d__law_plain, d_law]
def G : List (PySem.Str × TX.GI) := ([("_wall", .fn 0), ("rounded", .fn 1), ("kept_of_more", .fn 6), ("left_of", .fn 7), ("cliffs", .fn 8), ("worst_rate", .fn 9), ("paid_behind", .fn 10), ("months_due", .fn 11), ("_law_dice", .fn 23), ("_law_roll", .fn 24), ("_law_rounds", .fn 25), ("_law_pays", .fn 26), ("_law_left", .fn 27), ("_law_plain", .fn 28), ("law", .fn 29), ("TaxError", .exc 0), ("MoneyError", .exc 1), ("BandError", .exc 2), ("BenefitError", .exc 3), ("Benefit", .cls 4 2 [(7, []), (6, [.int 0])])] : List (PySem.Str × TX.GI)) ++ ([("Bands", .cls 5 12 [(2, []), (1, [.str [100, 111, 119, 110]])]), (".first", .fld "first" [4]), (".further", .fld "further" [4]), (".child", .fld "child" [4]), (".free", .fld "free" [4]), (".taper", .fld "taper" [4]), (".limit", .fld "limit" [4]), (".least", .fld "least" [4]), (".rows", .fld "rows" [5]), (".how", .fld "how" [5]), (":whole", .mth "whole" [(4, 3)]), (":pays", .mth "pays" [(4, 4)]), (":ends_at", .mth "ends_at" [(4, 5)]), (":parts", .mth "parts" [(5, 13)]), (":tax", .mth "tax" [(5, 14)]), (":kept", .mth "kept" [(5, 15)]), (":rate_at", .mth "rate_at" [(5, 16)]), (":mean_rate", .mth "mean_rate" [(5, 17)]), (":needed", .mth "needed" [(5, 18)]), (":split", .mth "split" [(5, 19)])] : List (PySem.Str × TX.GI)) ++ ([(":saved", .mth "saved" [(5, 20)]), (":spread", .mth "spread" [(5, 21)]), (":raised", .mth "raised" [(5, 22)]), ("_law_told", .tell [1, 2, 3] [84, 97, 120, 69, 114, 114, 111, 114]), ("len", .bltn), ("abs", .bltn), ("int", .bltn), ("str", .bltn), ("sum", .bltn), ("sorted", .bltn), ("list", .bltn), ("tuple", .bltn), ("max", .bltn), ("min", .bltn), ("range", .bltn), ("enumerate", .bltn), ("any", .bltn), ("zip", .bltn), ("dict", .bltn), ("ROUNDINGS", .val (.tup [.str [100, 111, 119, 110], .str [117, 112], .str [110, 101, 97, 114], .str [101, 118, 101, 110]]))] : List (PySem.Str × TX.GI)) ++ ([("MOST_MONTHS", .val (.int 240)), ("MOST_BANDS", .val (.int 12)), ("MOST_AMOUNT", .val (.int 100000000))] : List (PySem.Str × TX.GI))
theorem t__wall : (d__wall.tr G).map (·.1) = some f__wall := by kernel_rfl
theorem t_rounded : (d_rounded.tr G).map (·.1) = some f_rounded := by kernel_rfl
theorem t_Benefit___init__ : (d_Benefit___init__.tr G).map (·.1) = some f_Benefit___init__ := by kernel_rfl
theorem t_Benefit_whole : (d_Benefit_whole.tr G).map (·.1) = some f_Benefit_whole := by kernel_rfl
theorem t_Benefit_pays : (d_Benefit_pays.tr G).map (·.1) = some f_Benefit_pays := by kernel_rfl
theorem t_Benefit_ends_at : (d_Benefit_ends_at.tr G).map (·.1) = some f_Benefit_ends_at := by kernel_rfl
theorem t_kept_of_more : (d_kept_of_more.tr G).map (·.1) = some f_kept_of_more := by kernel_rfl
theorem t_left_of : (d_left_of.tr G).map (·.1) = some f_left_of := by kernel_rfl
theorem t_cliffs : (d_cliffs.tr G).map (·.1) = some f_cliffs := by kernel_rfl
theorem t_worst_rate : (d_worst_rate.tr G).map (·.1) = some f_worst_rate := by kernel_rfl
theorem t_paid_behind : (d_paid_behind.tr G).map (·.1) = some f_paid_behind := by kernel_rfl
theorem t_months_due : (d_months_due.tr G).map (·.1) = some f_months_due := by kernel_rfl
theorem t_Bands___init__ : (d_Bands___init__.tr G).map (·.1) = some f_Bands___init__ := by kernel_rfl
theorem t_Bands_parts : (d_Bands_parts.tr G).map (·.1) = some f_Bands_parts := by kernel_rfl
theorem t_Bands_tax : (d_Bands_tax.tr G).map (·.1) = some f_Bands_tax := by kernel_rfl
theorem t_Bands_kept : (d_Bands_kept.tr G).map (·.1) = some f_Bands_kept := by kernel_rfl
theorem t_Bands_rate_at : (d_Bands_rate_at.tr G).map (·.1) = some f_Bands_rate_at := by kernel_rfl
theorem t_Bands_mean_rate : (d_Bands_mean_rate.tr G).map (·.1) = some f_Bands_mean_rate := by kernel_rfl
theorem t_Bands_needed : (d_Bands_needed.tr G).map (·.1) = some f_Bands_needed := by kernel_rfl
theorem t_Bands_split : (d_Bands_split.tr G).map (·.1) = some f_Bands_split := by kernel_rfl
theorem t_Bands_saved : (d_Bands_saved.tr G).map (·.1) = some f_Bands_saved := by kernel_rfl
theorem t_Bands_spread : (d_Bands_spread.tr G).map (·.1) = some f_Bands_spread := by kernel_rfl
theorem t_Bands_raised : (d_Bands_raised.tr G).map (·.1) = some f_Bands_raised := by kernel_rfl
theorem t__law_dice : (d__law_dice.tr G).map (·.1) = some f__law_dice := by kernel_rfl
theorem t__law_roll : (d__law_roll.tr G).map (·.1) = some f__law_roll := by kernel_rfl
theorem t__law_rounds : (d__law_rounds.tr G).map (·.1) = some f__law_rounds := by kernel_rfl
theorem t__law_pays : (d__law_pays.tr G).map (·.1) = some f__law_pays := by kernel_rfl
theorem t__law_left : (d__law_left.tr G).map (·.1) = some f__law_left := by kernel_rfl
theorem t__law_plain : (d__law_plain.tr G).map (·.1) = some f__law_plain := by kernel_rfl
theorem t_law : (d_law.tr G).map (·.1) = some f_law := by kernel_rfl
theorem prog_P : prog D G = P := prog_eq (fun i => by
  match i with
  | 0 => exact def_eq t__wall
  | 1 => exact def_eq t_rounded
  | 2 => exact def_eq t_Benefit___init__
  | 3 => exact def_eq t_Benefit_whole
  | 4 => exact def_eq t_Benefit_pays
  | 5 => exact def_eq t_Benefit_ends_at
  | 6 => exact def_eq t_kept_of_more
  | 7 => exact def_eq t_left_of
  | 8 => exact def_eq t_cliffs
  | 9 => exact def_eq t_worst_rate
  | 10 => exact def_eq t_paid_behind
  | 11 => exact def_eq t_months_due
  | 12 => exact def_eq t_Bands___init__
  | 13 => exact def_eq t_Bands_parts
  | 14 => exact def_eq t_Bands_tax
  | 15 => exact def_eq t_Bands_kept
  | 16 => exact def_eq t_Bands_rate_at
  | 17 => exact def_eq t_Bands_mean_rate
  | 18 => exact def_eq t_Bands_needed
  | 19 => exact def_eq t_Bands_split
  | 20 => exact def_eq t_Bands_saved
  | 21 => exact def_eq t_Bands_spread
  | 22 => exact def_eq t_Bands_raised
  | 23 => exact def_eq t__law_dice
  | 24 => exact def_eq t__law_roll
  | 25 => exact def_eq t__law_rounds
  | 26 => exact def_eq t__law_pays
  | 27 => exact def_eq t__law_left
  | 28 => exact def_eq t__law_plain
  | 29 => exact def_eq t_law
  | n + 30 => rfl)
end K06

set_option Elab.async false
set_option linter.all false
set_option maxRecDepth 100000
set_option maxHeartbeats 0
set_option autoImplicit false
namespace K06
open PySem PySem.Spec PyProof.Rows TX
open L2 (V HO Hp Key SqL SqT Rd)
/-! ### the world -/
theorem world_mk {K : PySem.W.Frag} {mg : Str → Option Value} {h : Heap}
    {A0 : Addr}
    {A1 : Addr}
    {A2 : Addr}
    {A3 : Addr}
    {A4 : Addr}
    {A5 : Addr}
    {f0 : Addr} {od0 an0 : Option Addr} {sl0 : Array (Option Value)} {oc0 kV0 dc0 pm0 cd0 ct0 : Value}
    {f1 : Addr} {od1 an1 : Option Addr} {sl1 : Array (Option Value)} {oc1 kV1 dc1 pm1 cd1 ct1 : Value}
    {f2 : Addr} {od2 an2 : Option Addr} {sl2 : Array (Option Value)} {oc2 kV2 dc2 pm2 cd2 ct2 : Value}
    {T2 : Addr} {do2 : Obj} {dm2 : Nat} {dt2 : Tok}
    {f3 : Addr} {od3 an3 : Option Addr} {sl3 : Array (Option Value)} {oc3 kV3 dc3 pm3 cd3 ct3 : Value}
    {f4 : Addr} {od4 an4 : Option Addr} {sl4 : Array (Option Value)} {oc4 kV4 dc4 pm4 cd4 ct4 : Value}
    {f5 : Addr} {od5 an5 : Option Addr} {sl5 : Array (Option Value)} {oc5 kV5 dc5 pm5 cd5 ct5 : Value}
    {f6 : Addr} {od6 an6 : Option Addr} {sl6 : Array (Option Value)} {oc6 kV6 dc6 pm6 cd6 ct6 : Value}
    {f7 : Addr} {od7 an7 : Option Addr} {sl7 : Array (Option Value)} {oc7 kV7 dc7 pm7 cd7 ct7 : Value}
    {f8 : Addr} {od8 an8 : Option Addr} {sl8 : Array (Option Value)} {oc8 kV8 dc8 pm8 cd8 ct8 : Value}
    {f9 : Addr} {od9 an9 : Option Addr} {sl9 : Array (Option Value)} {oc9 kV9 dc9 pm9 cd9 ct9 : Value}
    {f10 : Addr} {od10 an10 : Option Addr} {sl10 : Array (Option Value)} {oc10 kV10 dc10 pm10 cd10 ct10 : Value}
    {f11 : Addr} {od11 an11 : Option Addr} {sl11 : Array (Option Value)} {oc11 kV11 dc11 pm11 cd11 ct11 : Value}
    {f12 : Addr} {od12 an12 : Option Addr} {sl12 : Array (Option Value)} {oc12 kV12 dc12 pm12 cd12 ct12 : Value}
    {T12 : Addr} {do12 : Obj} {dm12 : Nat} {dt12 : Tok}
    {f13 : Addr} {od13 an13 : Option Addr} {sl13 : Array (Option Value)} {oc13 kV13 dc13 pm13 cd13 ct13 : Value}
    {f14 : Addr} {od14 an14 : Option Addr} {sl14 : Array (Option Value)} {oc14 kV14 dc14 pm14 cd14 ct14 : Value}
    {f15 : Addr} {od15 an15 : Option Addr} {sl15 : Array (Option Value)} {oc15 kV15 dc15 pm15 cd15 ct15 : Value}
    {f16 : Addr} {od16 an16 : Option Addr} {sl16 : Array (Option Value)} {oc16 kV16 dc16 pm16 cd16 ct16 : Value}
    {f17 : Addr} {od17 an17 : Option Addr} {sl17 : Array (Option Value)} {oc17 kV17 dc17 pm17 cd17 ct17 : Value}
    {f18 : Addr} {od18 an18 : Option Addr} {sl18 : Array (Option Value)} {oc18 kV18 dc18 pm18 cd18 ct18 : Value}
    {f19 : Addr} {od19 an19 : Option Addr} {sl19 : Array (Option Value)} {oc19 kV19 dc19 pm19 cd19 ct19 : Value}
    {f20 : Addr} {od20 an20 : Option Addr} {sl20 : Array (Option Value)} {oc20 kV20 dc20 pm20 cd20 ct20 : Value}
    {f21 : Addr} {od21 an21 : Option Addr} {sl21 : Array (Option Value)} {oc21 kV21 dc21 pm21 cd21 ct21 : Value}
    {f22 : Addr} {od22 an22 : Option Addr} {sl22 : Array (Option Value)} {oc22 kV22 dc22 pm22 cd22 ct22 : Value}
    {f23 : Addr} {od23 an23 : Option Addr} {sl23 : Array (Option Value)} {oc23 kV23 dc23 pm23 cd23 ct23 : Value}
    {f24 : Addr} {od24 an24 : Option Addr} {sl24 : Array (Option Value)} {oc24 kV24 dc24 pm24 cd24 ct24 : Value}
    {f25 : Addr} {od25 an25 : Option Addr} {sl25 : Array (Option Value)} {oc25 kV25 dc25 pm25 cd25 ct25 : Value}
    {f26 : Addr} {od26 an26 : Option Addr} {sl26 : Array (Option Value)} {oc26 kV26 dc26 pm26 cd26 ct26 : Value}
    {f27 : Addr} {od27 an27 : Option Addr} {sl27 : Array (Option Value)} {oc27 kV27 dc27 pm27 cd27 ct27 : Value}
    {f28 : Addr} {od28 an28 : Option Addr} {sl28 : Array (Option Value)} {oc28 kV28 dc28 pm28 cd28 ct28 : Value}
    {f29 : Addr} {od29 an29 : Option Addr} {sl29 : Array (Option Value)} {oc29 kV29 dc29 pm29 cd29 ct29 : Value}
    {e8 P8 : Addr}
    {oc2_8 : Value} {oe8 : Option Addr} {vs8 : Array Value} {sl2_8 : Array (Option Value)}
    {e9 P9 : Addr}
    {oc2_9 : Value} {oe9 : Option Addr} {vs9 : Array Value} {sl2_9 : Array (Option Value)}
    {e10 P10 : Addr}
    {oc2_10 : Value} {oe10 : Option Addr} {vs10 : Array Value} {sl2_10 : Array (Option Value)}
    {e11 P11 : Addr}
    {oc2_11 : Value} {oe11 : Option Addr} {vs11 : Array Value} {sl2_11 : Array (Option Value)}
    {e12 P12 : Addr}
    {oc2_12 : Value} {oe12 : Option Addr} {vs12 : Array Value} {sl2_12 : Array (Option Value)}
    {e14 P14 : Addr}
    {oc2_14 : Value} {oe14 : Option Addr} {vs14 : Array Value} {sl2_14 : Array (Option Value)}
    {e28 P28 : Addr}
    {oc2_28 : Value} {oe28 : Option Addr} {vs28 : Array Value} {sl2_28 : Array (Option Value)}
    {f99 : Addr} {od99 an99 : Option Addr} {sl99 : Array (Option Value)} {oc99 kV99 dc99 pm99 cd99 ct99 : Value}
    {vt0 : Addr} {vo0 : Obj} {vi0 : Array Value} {vn0 : Nat}
    {vt1 : Tok}
    {vt2 : Tok}
    {vt3 : Tok}
    {ts : List Addr} (KX : K.In h) (g : h.Ns mainGlobals mg) (tb : ∀ P ∈ ts, h.get? P = some (PySem.W.tabObj #[]))
    (xa0 : PySem.W.nsIn K mainGlobals "TaxError" = some (some (.ref A0)))
    (xq0 : PySem.W.excIn K A0 [.type "ValueError", .type "Exception", .type "BaseException", .type "object"] "ValueError.__new__" = true)
    (xk0 : PySem.W.keepIn K (.ref A0) = true)
    (xs0 : PySem.W.subIn K (.ref A0) (.type "BaseException") = some true)
    (xt0 : PySem.W.typeIn K (.ref A0) = some (.type "type"))
    (xa1 : PySem.W.nsIn K mainGlobals "MoneyError" = some (some (.ref A1)))
    (xq1 : PySem.W.excIn K A1 [.type "ValueError", .type "Exception", .type "BaseException", .type "object"] "ValueError.__new__" = true)
    (xk1 : PySem.W.keepIn K (.ref A1) = true)
    (xs1 : PySem.W.subIn K (.ref A1) (.type "BaseException") = some true)
    (xt1 : PySem.W.typeIn K (.ref A1) = some (.type "type"))
    (xa2 : PySem.W.nsIn K mainGlobals "BandError" = some (some (.ref A2)))
    (xq2 : PySem.W.excIn K A2 [.type "ValueError", .type "Exception", .type "BaseException", .type "object"] "ValueError.__new__" = true)
    (xk2 : PySem.W.keepIn K (.ref A2) = true)
    (xs2 : PySem.W.subIn K (.ref A2) (.type "BaseException") = some true)
    (xt2 : PySem.W.typeIn K (.ref A2) = some (.type "type"))
    (xa3 : PySem.W.nsIn K mainGlobals "BenefitError" = some (some (.ref A3)))
    (xq3 : PySem.W.excIn K A3 [.type "ValueError", .type "Exception", .type "BaseException", .type "object"] "ValueError.__new__" = true)
    (xk3 : PySem.W.keepIn K (.ref A3) = true)
    (xs3 : PySem.W.subIn K (.ref A3) (.type "BaseException") = some true)
    (xt3 : PySem.W.typeIn K (.ref A3) = some (.type "type"))
    (xa4 : PySem.W.nsIn K mainGlobals "Benefit" = some (some (.ref A4)))
    (xm4 : PySem.W.makesIn K A4 = true)
    (xk4 : PySem.W.keepIn K (.ref A4) = true)
    (xp4 : PySem.W.plainGet K A4 Str.empty = true)
    (xh4 : PySem.W.hasDictIn K A4 = true)
    (xo4 : PySem.W.plainOver K A4 = true)
    (xs4 : PySem.W.findIn K (.ref A4) "__setattr__" = some (some (.builtin "object.__setattr__")))
    (xa5 : PySem.W.nsIn K mainGlobals "Bands" = some (some (.ref A5)))
    (xm5 : PySem.W.makesIn K A5 = true)
    (xk5 : PySem.W.keepIn K (.ref A5) = true)
    (xp5 : PySem.W.plainGet K A5 Str.empty = true)
    (xh5 : PySem.W.hasDictIn K A5 = true)
    (xo5 : PySem.W.plainOver K A5 = true)
    (xs5 : PySem.W.findIn K (.ref A5) "__setattr__" = some (some (.builtin "object.__setattr__")))
    (nf0_4 : PySem.W.findIn K (.ref A4) "first" = some none)
    (nf1_4 : PySem.W.findIn K (.ref A4) "further" = some none)
    (nf2_4 : PySem.W.findIn K (.ref A4) "child" = some none)
    (nf3_4 : PySem.W.findIn K (.ref A4) "free" = some none)
    (nf4_4 : PySem.W.findIn K (.ref A4) "taper" = some none)
    (nf5_4 : PySem.W.findIn K (.ref A4) "limit" = some none)
    (nf6_4 : PySem.W.findIn K (.ref A4) "least" = some none)
    (nf7_5 : PySem.W.findIn K (.ref A5) "rows" = some none)
    (nf8_5 : PySem.W.findIn K (.ref A5) "how" = some none)
    (a0 : PySem.W.nsIn K mainGlobals d__wall.x = some (some (.ref f0)))
    (l0 : K.lookup f0 = some ⟨oc0, od0, .func (PySem.W.fnOf d__wall.x d__wall.q (L2.defArgs d__wall.st) (L2.defBody d__wall.st) (L2.defScope d__wall.st) .none kV0 dc0 pm0 an0 cd0 ct0), sl0⟩)
    (c0 : PySem.W.codeIn K cd0 d__wall.q = true)
    (k0 : PySem.W.keepIn K (.ref f0) = true)
    (a1 : PySem.W.nsIn K mainGlobals d_rounded.x = some (some (.ref f1)))
    (l1 : K.lookup f1 = some ⟨oc1, od1, .func (PySem.W.fnOf d_rounded.x d_rounded.q (L2.defArgs d_rounded.st) (L2.defBody d_rounded.st) (L2.defScope d_rounded.st) .none kV1 dc1 pm1 an1 cd1 ct1), sl1⟩)
    (c1 : PySem.W.codeIn K cd1 d_rounded.q = true)
    (k1 : PySem.W.keepIn K (.ref f1) = true)
    (a2 : PySem.W.findIn K (.ref A4) d_Benefit___init__.x = some (some (.ref f2)))
    (fn2 : PySem.W.isFn K (.ref f2) = true)
    (l2 : K.lookup f2 = some ⟨oc2, od2, .func (PySem.W.fnOf d_Benefit___init__.x d_Benefit___init__.q (L2.defArgs d_Benefit___init__.st) (L2.defBody d_Benefit___init__.st) (L2.defScope d_Benefit___init__.st) (.ref T2) kV2 dc2 pm2 an2 cd2 ct2), sl2⟩)
    (lT2 : K.lookup T2 = some do2)
    (oT2 : do2.data = .seq #[.int 0 dt2] dm2)
    (c2 : PySem.W.codeIn K cd2 d_Benefit___init__.q = true)
    (k2 : PySem.W.keepIn K (.ref f2) = true)
    (a3 : PySem.W.findIn K (.ref A4) d_Benefit_whole.x = some (some (.ref f3)))
    (fn3 : PySem.W.isFn K (.ref f3) = true)
    (l3 : K.lookup f3 = some ⟨oc3, od3, .func (PySem.W.fnOf d_Benefit_whole.x d_Benefit_whole.q (L2.defArgs d_Benefit_whole.st) (L2.defBody d_Benefit_whole.st) (L2.defScope d_Benefit_whole.st) .none kV3 dc3 pm3 an3 cd3 ct3), sl3⟩)
    (c3 : PySem.W.codeIn K cd3 d_Benefit_whole.q = true)
    (k3 : PySem.W.keepIn K (.ref f3) = true)
    (a4 : PySem.W.findIn K (.ref A4) d_Benefit_pays.x = some (some (.ref f4)))
    (fn4 : PySem.W.isFn K (.ref f4) = true)
    (l4 : K.lookup f4 = some ⟨oc4, od4, .func (PySem.W.fnOf d_Benefit_pays.x d_Benefit_pays.q (L2.defArgs d_Benefit_pays.st) (L2.defBody d_Benefit_pays.st) (L2.defScope d_Benefit_pays.st) .none kV4 dc4 pm4 an4 cd4 ct4), sl4⟩)
    (c4 : PySem.W.codeIn K cd4 d_Benefit_pays.q = true)
    (k4 : PySem.W.keepIn K (.ref f4) = true)
    (a5 : PySem.W.findIn K (.ref A4) d_Benefit_ends_at.x = some (some (.ref f5)))
    (fn5 : PySem.W.isFn K (.ref f5) = true)
    (l5 : K.lookup f5 = some ⟨oc5, od5, .func (PySem.W.fnOf d_Benefit_ends_at.x d_Benefit_ends_at.q (L2.defArgs d_Benefit_ends_at.st) (L2.defBody d_Benefit_ends_at.st) (L2.defScope d_Benefit_ends_at.st) .none kV5 dc5 pm5 an5 cd5 ct5), sl5⟩)
    (c5 : PySem.W.codeIn K cd5 d_Benefit_ends_at.q = true)
    (k5 : PySem.W.keepIn K (.ref f5) = true)
    (a6 : PySem.W.nsIn K mainGlobals d_kept_of_more.x = some (some (.ref f6)))
    (l6 : K.lookup f6 = some ⟨oc6, od6, .func (PySem.W.fnOf d_kept_of_more.x d_kept_of_more.q (L2.defArgs d_kept_of_more.st) (L2.defBody d_kept_of_more.st) (L2.defScope d_kept_of_more.st) .none kV6 dc6 pm6 an6 cd6 ct6), sl6⟩)
    (c6 : PySem.W.codeIn K cd6 d_kept_of_more.q = true)
    (k6 : PySem.W.keepIn K (.ref f6) = true)
    (a7 : PySem.W.nsIn K mainGlobals d_left_of.x = some (some (.ref f7)))
    (l7 : K.lookup f7 = some ⟨oc7, od7, .func (PySem.W.fnOf d_left_of.x d_left_of.q (L2.defArgs d_left_of.st) (L2.defBody d_left_of.st) (L2.defScope d_left_of.st) .none kV7 dc7 pm7 an7 cd7 ct7), sl7⟩)
    (c7 : PySem.W.codeIn K cd7 d_left_of.q = true)
    (k7 : PySem.W.keepIn K (.ref f7) = true)
    (a8 : PySem.W.nsIn K mainGlobals d_cliffs.x = some (some (.ref f8)))
    (l8 : K.lookup f8 = some ⟨oc8, od8, .func (PySem.W.fnOf d_cliffs.x d_cliffs.q (L2.defArgs d_cliffs.st) (L2.defBody d_cliffs.st) (L2.defScope d_cliffs.st) .none kV8 dc8 pm8 an8 cd8 ct8), sl8⟩)
    (c8 : PySem.W.codeIn K cd8 d_cliffs.q = true)
    (k8 : PySem.W.keepIn K (.ref f8) = true)
    (a9 : PySem.W.nsIn K mainGlobals d_worst_rate.x = some (some (.ref f9)))
    (l9 : K.lookup f9 = some ⟨oc9, od9, .func (PySem.W.fnOf d_worst_rate.x d_worst_rate.q (L2.defArgs d_worst_rate.st) (L2.defBody d_worst_rate.st) (L2.defScope d_worst_rate.st) .none kV9 dc9 pm9 an9 cd9 ct9), sl9⟩)
    (c9 : PySem.W.codeIn K cd9 d_worst_rate.q = true)
    (k9 : PySem.W.keepIn K (.ref f9) = true)
    (a10 : PySem.W.nsIn K mainGlobals d_paid_behind.x = some (some (.ref f10)))
    (l10 : K.lookup f10 = some ⟨oc10, od10, .func (PySem.W.fnOf d_paid_behind.x d_paid_behind.q (L2.defArgs d_paid_behind.st) (L2.defBody d_paid_behind.st) (L2.defScope d_paid_behind.st) .none kV10 dc10 pm10 an10 cd10 ct10), sl10⟩)
    (c10 : PySem.W.codeIn K cd10 d_paid_behind.q = true)
    (k10 : PySem.W.keepIn K (.ref f10) = true)
    (a11 : PySem.W.nsIn K mainGlobals d_months_due.x = some (some (.ref f11)))
    (l11 : K.lookup f11 = some ⟨oc11, od11, .func (PySem.W.fnOf d_months_due.x d_months_due.q (L2.defArgs d_months_due.st) (L2.defBody d_months_due.st) (L2.defScope d_months_due.st) .none kV11 dc11 pm11 an11 cd11 ct11), sl11⟩)
    (c11 : PySem.W.codeIn K cd11 d_months_due.q = true)
    (k11 : PySem.W.keepIn K (.ref f11) = true)
    (a12 : PySem.W.findIn K (.ref A5) d_Bands___init__.x = some (some (.ref f12)))
    (fn12 : PySem.W.isFn K (.ref f12) = true)
    (l12 : K.lookup f12 = some ⟨oc12, od12, .func (PySem.W.fnOf d_Bands___init__.x d_Bands___init__.q (L2.defArgs d_Bands___init__.st) (L2.defBody d_Bands___init__.st) (L2.defScope d_Bands___init__.st) (.ref T12) kV12 dc12 pm12 an12 cd12 ct12), sl12⟩)
    (lT12 : K.lookup T12 = some do12)
    (oT12 : do12.data = .seq #[.str "down" dt12] dm12)
    (c12 : PySem.W.codeIn K cd12 d_Bands___init__.q = true)
    (k12 : PySem.W.keepIn K (.ref f12) = true)
    (a13 : PySem.W.findIn K (.ref A5) d_Bands_parts.x = some (some (.ref f13)))
    (fn13 : PySem.W.isFn K (.ref f13) = true)
    (l13 : K.lookup f13 = some ⟨oc13, od13, .func (PySem.W.fnOf d_Bands_parts.x d_Bands_parts.q (L2.defArgs d_Bands_parts.st) (L2.defBody d_Bands_parts.st) (L2.defScope d_Bands_parts.st) .none kV13 dc13 pm13 an13 cd13 ct13), sl13⟩)
    (c13 : PySem.W.codeIn K cd13 d_Bands_parts.q = true)
    (k13 : PySem.W.keepIn K (.ref f13) = true)
    (a14 : PySem.W.findIn K (.ref A5) d_Bands_tax.x = some (some (.ref f14)))
    (fn14 : PySem.W.isFn K (.ref f14) = true)
    (l14 : K.lookup f14 = some ⟨oc14, od14, .func (PySem.W.fnOf d_Bands_tax.x d_Bands_tax.q (L2.defArgs d_Bands_tax.st) (L2.defBody d_Bands_tax.st) (L2.defScope d_Bands_tax.st) .none kV14 dc14 pm14 an14 cd14 ct14), sl14⟩)
    (c14 : PySem.W.codeIn K cd14 d_Bands_tax.q = true)
    (k14 : PySem.W.keepIn K (.ref f14) = true)
    (a15 : PySem.W.findIn K (.ref A5) d_Bands_kept.x = some (some (.ref f15)))
    (fn15 : PySem.W.isFn K (.ref f15) = true)
    (l15 : K.lookup f15 = some ⟨oc15, od15, .func (PySem.W.fnOf d_Bands_kept.x d_Bands_kept.q (L2.defArgs d_Bands_kept.st) (L2.defBody d_Bands_kept.st) (L2.defScope d_Bands_kept.st) .none kV15 dc15 pm15 an15 cd15 ct15), sl15⟩)
    (c15 : PySem.W.codeIn K cd15 d_Bands_kept.q = true)
    (k15 : PySem.W.keepIn K (.ref f15) = true)
    (a16 : PySem.W.findIn K (.ref A5) d_Bands_rate_at.x = some (some (.ref f16)))
    (fn16 : PySem.W.isFn K (.ref f16) = true)
    (l16 : K.lookup f16 = some ⟨oc16, od16, .func (PySem.W.fnOf d_Bands_rate_at.x d_Bands_rate_at.q (L2.defArgs d_Bands_rate_at.st) (L2.defBody d_Bands_rate_at.st) (L2.defScope d_Bands_rate_at.st) .none kV16 dc16 pm16 an16 cd16 ct16), sl16⟩)
    (c16 : PySem.W.codeIn K cd16 d_Bands_rate_at.q = true)
    (k16 : PySem.W.keepIn K (.ref f16) = true)
    (a17 : PySem.W.findIn K (.ref A5) d_Bands_mean_rate.x = some (some (.ref f17)))
    (fn17 : PySem.W.isFn K (.ref f17) = true)
    (l17 : K.lookup f17 = some ⟨oc17, od17, .func (PySem.W.fnOf d_Bands_mean_rate.x d_Bands_mean_rate.q (L2.defArgs d_Bands_mean_rate.st) (L2.defBody d_Bands_mean_rate.st) (L2.defScope d_Bands_mean_rate.st) .none kV17 dc17 pm17 an17 cd17 ct17), sl17⟩)
    (c17 : PySem.W.codeIn K cd17 d_Bands_mean_rate.q = true)
    (k17 : PySem.W.keepIn K (.ref f17) = true)
    (a18 : PySem.W.findIn K (.ref A5) d_Bands_needed.x = some (some (.ref f18)))
    (fn18 : PySem.W.isFn K (.ref f18) = true)
    (l18 : K.lookup f18 = some ⟨oc18, od18, .func (PySem.W.fnOf d_Bands_needed.x d_Bands_needed.q (L2.defArgs d_Bands_needed.st) (L2.defBody d_Bands_needed.st) (L2.defScope d_Bands_needed.st) .none kV18 dc18 pm18 an18 cd18 ct18), sl18⟩)
    (c18 : PySem.W.codeIn K cd18 d_Bands_needed.q = true)
    (k18 : PySem.W.keepIn K (.ref f18) = true)
    (a19 : PySem.W.findIn K (.ref A5) d_Bands_split.x = some (some (.ref f19)))
    (fn19 : PySem.W.isFn K (.ref f19) = true)
    (l19 : K.lookup f19 = some ⟨oc19, od19, .func (PySem.W.fnOf d_Bands_split.x d_Bands_split.q (L2.defArgs d_Bands_split.st) (L2.defBody d_Bands_split.st) (L2.defScope d_Bands_split.st) .none kV19 dc19 pm19 an19 cd19 ct19), sl19⟩)
    (c19 : PySem.W.codeIn K cd19 d_Bands_split.q = true)
    (k19 : PySem.W.keepIn K (.ref f19) = true)
    (a20 : PySem.W.findIn K (.ref A5) d_Bands_saved.x = some (some (.ref f20)))
    (fn20 : PySem.W.isFn K (.ref f20) = true)
    (l20 : K.lookup f20 = some ⟨oc20, od20, .func (PySem.W.fnOf d_Bands_saved.x d_Bands_saved.q (L2.defArgs d_Bands_saved.st) (L2.defBody d_Bands_saved.st) (L2.defScope d_Bands_saved.st) .none kV20 dc20 pm20 an20 cd20 ct20), sl20⟩)
    (c20 : PySem.W.codeIn K cd20 d_Bands_saved.q = true)
    (k20 : PySem.W.keepIn K (.ref f20) = true)
    (a21 : PySem.W.findIn K (.ref A5) d_Bands_spread.x = some (some (.ref f21)))
    (fn21 : PySem.W.isFn K (.ref f21) = true)
    (l21 : K.lookup f21 = some ⟨oc21, od21, .func (PySem.W.fnOf d_Bands_spread.x d_Bands_spread.q (L2.defArgs d_Bands_spread.st) (L2.defBody d_Bands_spread.st) (L2.defScope d_Bands_spread.st) .none kV21 dc21 pm21 an21 cd21 ct21), sl21⟩)
    (c21 : PySem.W.codeIn K cd21 d_Bands_spread.q = true)
    (k21 : PySem.W.keepIn K (.ref f21) = true)
    (a22 : PySem.W.findIn K (.ref A5) d_Bands_raised.x = some (some (.ref f22)))
    (fn22 : PySem.W.isFn K (.ref f22) = true)
    (l22 : K.lookup f22 = some ⟨oc22, od22, .func (PySem.W.fnOf d_Bands_raised.x d_Bands_raised.q (L2.defArgs d_Bands_raised.st) (L2.defBody d_Bands_raised.st) (L2.defScope d_Bands_raised.st) .none kV22 dc22 pm22 an22 cd22 ct22), sl22⟩)
    (c22 : PySem.W.codeIn K cd22 d_Bands_raised.q = true)
    (k22 : PySem.W.keepIn K (.ref f22) = true)
    (a23 : PySem.W.nsIn K mainGlobals d__law_dice.x = some (some (.ref f23)))
    (l23 : K.lookup f23 = some ⟨oc23, od23, .func (PySem.W.fnOf d__law_dice.x d__law_dice.q (L2.defArgs d__law_dice.st) (L2.defBody d__law_dice.st) (L2.defScope d__law_dice.st) .none kV23 dc23 pm23 an23 cd23 ct23), sl23⟩)
    (c23 : PySem.W.codeIn K cd23 d__law_dice.q = true)
    (k23 : PySem.W.keepIn K (.ref f23) = true)
    (a24 : PySem.W.nsIn K mainGlobals d__law_roll.x = some (some (.ref f24)))
    (l24 : K.lookup f24 = some ⟨oc24, od24, .func (PySem.W.fnOf d__law_roll.x d__law_roll.q (L2.defArgs d__law_roll.st) (L2.defBody d__law_roll.st) (L2.defScope d__law_roll.st) .none kV24 dc24 pm24 an24 cd24 ct24), sl24⟩)
    (c24 : PySem.W.codeIn K cd24 d__law_roll.q = true)
    (k24 : PySem.W.keepIn K (.ref f24) = true)
    (a25 : PySem.W.nsIn K mainGlobals d__law_rounds.x = some (some (.ref f25)))
    (l25 : K.lookup f25 = some ⟨oc25, od25, .func (PySem.W.fnOf d__law_rounds.x d__law_rounds.q (L2.defArgs d__law_rounds.st) (L2.defBody d__law_rounds.st) (L2.defScope d__law_rounds.st) .none kV25 dc25 pm25 an25 cd25 ct25), sl25⟩)
    (c25 : PySem.W.codeIn K cd25 d__law_rounds.q = true)
    (k25 : PySem.W.keepIn K (.ref f25) = true)
    (a26 : PySem.W.nsIn K mainGlobals d__law_pays.x = some (some (.ref f26)))
    (l26 : K.lookup f26 = some ⟨oc26, od26, .func (PySem.W.fnOf d__law_pays.x d__law_pays.q (L2.defArgs d__law_pays.st) (L2.defBody d__law_pays.st) (L2.defScope d__law_pays.st) .none kV26 dc26 pm26 an26 cd26 ct26), sl26⟩)
    (c26 : PySem.W.codeIn K cd26 d__law_pays.q = true)
    (k26 : PySem.W.keepIn K (.ref f26) = true)
    (a27 : PySem.W.nsIn K mainGlobals d__law_left.x = some (some (.ref f27)))
    (l27 : K.lookup f27 = some ⟨oc27, od27, .func (PySem.W.fnOf d__law_left.x d__law_left.q (L2.defArgs d__law_left.st) (L2.defBody d__law_left.st) (L2.defScope d__law_left.st) .none kV27 dc27 pm27 an27 cd27 ct27), sl27⟩)
    (c27 : PySem.W.codeIn K cd27 d__law_left.q = true)
    (k27 : PySem.W.keepIn K (.ref f27) = true)
    (a28 : PySem.W.nsIn K mainGlobals d__law_plain.x = some (some (.ref f28)))
    (l28 : K.lookup f28 = some ⟨oc28, od28, .func (PySem.W.fnOf d__law_plain.x d__law_plain.q (L2.defArgs d__law_plain.st) (L2.defBody d__law_plain.st) (L2.defScope d__law_plain.st) .none kV28 dc28 pm28 an28 cd28 ct28), sl28⟩)
    (c28 : PySem.W.codeIn K cd28 d__law_plain.q = true)
    (k28 : PySem.W.keepIn K (.ref f28) = true)
    (a29 : PySem.W.nsIn K mainGlobals d_law.x = some (some (.ref f29)))
    (l29 : K.lookup f29 = some ⟨oc29, od29, .func (PySem.W.fnOf d_law.x d_law.q (L2.defArgs d_law.st) (L2.defBody d_law.st) (L2.defScope d_law.st) .none kV29 dc29 pm29 an29 cd29 ct29), sl29⟩)
    (c29 : PySem.W.codeIn K cd29 d_law.q = true)
    (k29 : PySem.W.keepIn K (.ref f29) = true)
    (tc8 : cd8 = .ref e8)
    (tl8 : K.lookup e8 = some ⟨oc2_8, oe8, .fields vs8, sl2_8⟩)
    (tv8 : (vs8[11]? : Option Value) = some (.ref P8))
    (th8 : PySem.W.codeHdIn K e8 P8 = true)
    (ts8 : P8 ∈ ts)
    (n8 : K.lookup P8 = none)
    (tc9 : cd9 = .ref e9)
    (tl9 : K.lookup e9 = some ⟨oc2_9, oe9, .fields vs9, sl2_9⟩)
    (tv9 : (vs9[11]? : Option Value) = some (.ref P9))
    (th9 : PySem.W.codeHdIn K e9 P9 = true)
    (ts9 : P9 ∈ ts)
    (n9 : K.lookup P9 = none)
    (tc10 : cd10 = .ref e10)
    (tl10 : K.lookup e10 = some ⟨oc2_10, oe10, .fields vs10, sl2_10⟩)
    (tv10 : (vs10[11]? : Option Value) = some (.ref P10))
    (th10 : PySem.W.codeHdIn K e10 P10 = true)
    (ts10 : P10 ∈ ts)
    (n10 : K.lookup P10 = none)
    (tc11 : cd11 = .ref e11)
    (tl11 : K.lookup e11 = some ⟨oc2_11, oe11, .fields vs11, sl2_11⟩)
    (tv11 : (vs11[11]? : Option Value) = some (.ref P11))
    (th11 : PySem.W.codeHdIn K e11 P11 = true)
    (ts11 : P11 ∈ ts)
    (n11 : K.lookup P11 = none)
    (tc12 : cd12 = .ref e12)
    (tl12 : K.lookup e12 = some ⟨oc2_12, oe12, .fields vs12, sl2_12⟩)
    (tv12 : (vs12[11]? : Option Value) = some (.ref P12))
    (th12 : PySem.W.codeHdIn K e12 P12 = true)
    (ts12 : P12 ∈ ts)
    (n12 : K.lookup P12 = none)
    (tc14 : cd14 = .ref e14)
    (tl14 : K.lookup e14 = some ⟨oc2_14, oe14, .fields vs14, sl2_14⟩)
    (tv14 : (vs14[11]? : Option Value) = some (.ref P14))
    (th14 : PySem.W.codeHdIn K e14 P14 = true)
    (ts14 : P14 ∈ ts)
    (n14 : K.lookup P14 = none)
    (tc28 : cd28 = .ref e28)
    (tl28 : K.lookup e28 = some ⟨oc2_28, oe28, .fields vs28, sl2_28⟩)
    (tv28 : (vs28[11]? : Option Value) = some (.ref P28))
    (th28 : PySem.W.codeHdIn K e28 P28 = true)
    (ts28 : P28 ∈ ts)
    (n28 : K.lookup P28 = none)
    (ne8_28 : P28 ≠ P8)
    (ne9_28 : P28 ≠ P9)
    (ne10_28 : P28 ≠ P10)
    (ne11_28 : P28 ≠ P11)
    (ne12_28 : P28 ≠ P12)
    (ne14_28 : P28 ≠ P14)
    (a99 : PySem.W.nsIn K mainGlobals "_law_told" = some (some (.ref f99)))
    (l99 : K.lookup f99 = some ⟨oc99, od99, .func (PySem.W.fnOf "_law_told" "_law_told" (L2.defArgs (top 26)) (L2.defBody (top 26)) (L2.defScope (top 26)) .none kV99 dc99 pm99 an99 cd99 ct99), sl99⟩)
    (c99 : PySem.W.codeIn K cd99 "_law_told" = true)
    (k99 : PySem.W.keepIn K (.ref f99) = true)
    (ti : PySem.W.isClsIn K A0 = true)
    (te1 : PySem.W.subIn K (.ref A1) (.ref A0) = some true)
    (te2 : PySem.W.subIn K (.ref A2) (.ref A0) = some true)
    (te3 : PySem.W.subIn K (.ref A3) (.ref A0) = some true)
    (b0 : PySem.W.nsIn K mainGlobals "len" = some none)
    (b1 : PySem.W.nsIn K mainGlobals "abs" = some none)
    (b2 : PySem.W.nsIn K mainGlobals "int" = some none)
    (b3 : PySem.W.nsIn K mainGlobals "str" = some none)
    (b4 : PySem.W.nsIn K mainGlobals "sum" = some none)
    (b5 : PySem.W.nsIn K mainGlobals "sorted" = some none)
    (b6 : PySem.W.nsIn K mainGlobals "list" = some none)
    (b7 : PySem.W.nsIn K mainGlobals "tuple" = some none)
    (b8 : PySem.W.nsIn K mainGlobals "max" = some none)
    (b9 : PySem.W.nsIn K mainGlobals "min" = some none)
    (b10 : PySem.W.nsIn K mainGlobals "range" = some none)
    (b11 : PySem.W.nsIn K mainGlobals "enumerate" = some none)
    (b12 : PySem.W.nsIn K mainGlobals "any" = some none)
    (b13 : PySem.W.nsIn K mainGlobals "zip" = some none)
    (b14 : PySem.W.nsIn K mainGlobals "dict" = some none)
    (va0 : PySem.W.nsIn K mainGlobals "ROUNDINGS" = some (some (.ref vt0)))
    (vl0 : K.lookup vt0 = some vo0)
    (vc0 : vo0.cls = .type "tuple")
    (vd0 : vo0.data = .seq vi0 vn0)
    (vv0 : L2.Vals (([[100, 111, 119, 110], [117, 112], [110, 101, 97, 114], [101, 118, 101, 110]] : List Tx).map fun y => L2.V.str (toS y)) vi0.toList)
    (vz0 : vi0.size ≤ sizeLine)
    (va1 : PySem.W.nsIn K mainGlobals "MOST_MONTHS" = some (some (.int 240 vt1)))
    (va2 : PySem.W.nsIn K mainGlobals "MOST_BANDS" = some (some (.int 12 vt2)))
    (va3 : PySem.W.nsIn K mainGlobals "MOST_AMOUNT" = some (some (.int 100000000 vt3)))
    : ∃ C cs, World0 C K mg h D G cs := by
  refine ⟨⟨K, fun n => if n = 0 then A0 else if n = 1 then A1 else if n = 2 then A2 else if n = 3 then A3 else if n = 4 then A4 else A5, [(P28, lamName "_law_plain")], [P8, P9, P10, P11, P12, P14]⟩, [(e8, P8), (e9, P9), (e10, P10), (e11, P11), (e12, P12), (e14, P14), (e28, P28)], rfl, ?_, ?_, ?_, ?_, ?_⟩
  · refine defs_mk ?_
    show ∀ d ∈ [d__wall, d_rounded, d_Benefit___init__, d_Benefit_whole, d_Benefit_pays, d_Benefit_ends_at, d_kept_of_more, d_left_of, d_cliffs, d_worst_rate, d_paid_behind, d_months_due, d_Bands___init__, d_Bands_parts, d_Bands_tax, d_Bands_kept, d_Bands_rate_at, d_Bands_mean_rate, d_Bands_needed, d_Bands_split, d_Bands_saved, d_Bands_spread, d_Bands_raised, d__law_dice, d__law_roll, d__law_rounds, d__law_pays, d__law_left, d__law_plain, d_law], _
    refine all_cons (def_mk KX g rfl a0 l0 c0 k0 (fun _ _ _ _ _ _ us hl => match us, hl with | [_], _ => rfl) (by decide +kernel) ⟨(fun z => nomatch z), (fun z => nomatch z)⟩) ?_
    refine all_cons (def_mk KX g rfl a1 l1 c1 k1 (fun _ _ _ _ _ _ us hl => match us, hl with | [_, _, _], _ => rfl) (by decide +kernel) ⟨(fun z => nomatch z), (fun z => nomatch z)⟩) ?_
    refine all_cons (mthd_mk (n := 4) rfl ⟨xp4, xh4, xo4, xs4⟩ a2 fn2 l2 c2 k2 (binds_dfl l2 lT2 oT2 (fun _ _ _ _ _ _ us u hl => match us, hl with | [_, _, _, _, _, _, _, _], _ => ⟨_, rfl, rfl⟩)) (fun z => absurd z (by decide)) (by decide +kernel) ⟨(fun z => nomatch z), (fun z => nomatch z)⟩) ?_
    refine all_cons (mth_mk (n := 4) rfl ⟨xp4, xh4, xo4, xs4⟩ a3 fn3 l3 c3 k3 (fun _ _ _ _ _ _ us hl => match us, hl with | [_, _, _], _ => rfl) (by decide +kernel) ⟨(fun z => nomatch z), (fun z => nomatch z)⟩) ?_
    refine all_cons (mth_mk (n := 4) rfl ⟨xp4, xh4, xo4, xs4⟩ a4 fn4 l4 c4 k4 (fun _ _ _ _ _ _ us hl => match us, hl with | [_, _, _, _, _], _ => rfl) (by decide +kernel) ⟨(fun z => nomatch z), (fun z => nomatch z)⟩) ?_
    refine all_cons (mth_mk (n := 4) rfl ⟨xp4, xh4, xo4, xs4⟩ a5 fn5 l5 c5 k5 (fun _ _ _ _ _ _ us hl => match us, hl with | [_, _, _], _ => rfl) (by decide +kernel) ⟨(fun z => nomatch z), (fun z => nomatch z)⟩) ?_
    refine all_cons (def_mk KX g rfl a6 l6 c6 k6 (fun _ _ _ _ _ _ us hl => match us, hl with | [_, _, _, _, _, _], _ => rfl) (by decide +kernel) ⟨(fun z => nomatch z), (fun z => nomatch z)⟩) ?_
    refine all_cons (def_mk KX g rfl a7 l7 c7 k7 (fun _ _ _ _ _ _ us hl => match us, hl with | [_, _, _, _, _], _ => rfl) (by decide +kernel) ⟨(fun z => nomatch z), (fun z => nomatch z)⟩) ?_
    refine all_cons (def_mk KX g rfl a8 l8 c8 k8 (fun _ _ _ _ _ _ us hl => match us, hl with | [_, _, _, _, _], _ => rfl) (by decide +kernel) ⟨(fun z => nomatch z), (fun _ => ⟨e8, P8, tc8, by simp, by simp, fun p hp => by (refine (List.mem_cons.mp hp).elim (fun z => by subst z; exact ne8_28) fun hp => ?_); exact nomatch hp⟩)⟩) ?_
    refine all_cons (def_mk KX g rfl a9 l9 c9 k9 (fun _ _ _ _ _ _ us hl => match us, hl with | [_, _, _, _, _], _ => rfl) (by decide +kernel) ⟨(fun z => nomatch z), (fun _ => ⟨e9, P9, tc9, by simp, by simp, fun p hp => by (refine (List.mem_cons.mp hp).elim (fun z => by subst z; exact ne9_28) fun hp => ?_); exact nomatch hp⟩)⟩) ?_
    refine all_cons (def_mk KX g rfl a10 l10 c10 k10 (fun _ _ _ _ _ _ us hl => match us, hl with | [_, _, _], _ => rfl) (by decide +kernel) ⟨(fun z => nomatch z), (fun _ => ⟨e10, P10, tc10, by simp, by simp, fun p hp => by (refine (List.mem_cons.mp hp).elim (fun z => by subst z; exact ne10_28) fun hp => ?_); exact nomatch hp⟩)⟩) ?_
    refine all_cons (def_mk KX g rfl a11 l11 c11 k11 (fun _ _ _ _ _ _ us hl => match us, hl with | [_, _, _, _], _ => rfl) (by decide +kernel) ⟨(fun z => nomatch z), (fun _ => ⟨e11, P11, tc11, by simp, by simp, fun p hp => by (refine (List.mem_cons.mp hp).elim (fun z => by subst z; exact ne11_28) fun hp => ?_); exact nomatch hp⟩)⟩) ?_
    refine all_cons (mthd_mk (n := 5) rfl ⟨xp5, xh5, xo5, xs5⟩ a12 fn12 l12 c12 k12 (binds_dfl l12 lT12 oT12 (fun _ _ _ _ _ _ us u hl => match us, hl with | [_, _, _], _ => ⟨_, rfl, rfl⟩)) (fun z => absurd z (by decide)) (by decide +kernel) ⟨(fun z => nomatch z), (fun _ => ⟨e12, P12, tc12, by simp, by simp, fun p hp => by (refine (List.mem_cons.mp hp).elim (fun z => by subst z; exact ne12_28) fun hp => ?_); exact nomatch hp⟩)⟩) ?_
    refine all_cons (mth_mk (n := 5) rfl ⟨xp5, xh5, xo5, xs5⟩ a13 fn13 l13 c13 k13 (fun _ _ _ _ _ _ us hl => match us, hl with | [_, _], _ => rfl) (by decide +kernel) ⟨(fun z => nomatch z), (fun z => nomatch z)⟩) ?_
    refine all_cons (mth_mk (n := 5) rfl ⟨xp5, xh5, xo5, xs5⟩ a14 fn14 l14 c14 k14 (fun _ _ _ _ _ _ us hl => match us, hl with | [_, _], _ => rfl) (by decide +kernel) ⟨(fun z => nomatch z), (fun _ => ⟨e14, P14, tc14, by simp, by simp, fun p hp => by (refine (List.mem_cons.mp hp).elim (fun z => by subst z; exact ne14_28) fun hp => ?_); exact nomatch hp⟩)⟩) ?_
    refine all_cons (mth_mk (n := 5) rfl ⟨xp5, xh5, xo5, xs5⟩ a15 fn15 l15 c15 k15 (fun _ _ _ _ _ _ us hl => match us, hl with | [_, _], _ => rfl) (by decide +kernel) ⟨(fun z => nomatch z), (fun z => nomatch z)⟩) ?_
    refine all_cons (mth_mk (n := 5) rfl ⟨xp5, xh5, xo5, xs5⟩ a16 fn16 l16 c16 k16 (fun _ _ _ _ _ _ us hl => match us, hl with | [_, _], _ => rfl) (by decide +kernel) ⟨(fun z => nomatch z), (fun z => nomatch z)⟩) ?_
    refine all_cons (mth_mk (n := 5) rfl ⟨xp5, xh5, xo5, xs5⟩ a17 fn17 l17 c17 k17 (fun _ _ _ _ _ _ us hl => match us, hl with | [_, _], _ => rfl) (by decide +kernel) ⟨(fun z => nomatch z), (fun z => nomatch z)⟩) ?_
    refine all_cons (mth_mk (n := 5) rfl ⟨xp5, xh5, xo5, xs5⟩ a18 fn18 l18 c18 k18 (fun _ _ _ _ _ _ us hl => match us, hl with | [_, _], _ => rfl) (by decide +kernel) ⟨(fun z => nomatch z), (fun z => nomatch z)⟩) ?_
    refine all_cons (mth_mk (n := 5) rfl ⟨xp5, xh5, xo5, xs5⟩ a19 fn19 l19 c19 k19 (fun _ _ _ _ _ _ us hl => match us, hl with | [_, _, _], _ => rfl) (by decide +kernel) ⟨(fun z => nomatch z), (fun z => nomatch z)⟩) ?_
    refine all_cons (mth_mk (n := 5) rfl ⟨xp5, xh5, xo5, xs5⟩ a20 fn20 l20 c20 k20 (fun _ _ _ _ _ _ us hl => match us, hl with | [_, _, _], _ => rfl) (by decide +kernel) ⟨(fun z => nomatch z), (fun z => nomatch z)⟩) ?_
    refine all_cons (mth_mk (n := 5) rfl ⟨xp5, xh5, xo5, xs5⟩ a21 fn21 l21 c21 k21 (fun _ _ _ _ _ _ us hl => match us, hl with | [_, _, _, _], _ => rfl) (by decide +kernel) ⟨(fun z => nomatch z), (fun z => nomatch z)⟩) ?_
    refine all_cons (mth_mk (n := 5) rfl ⟨xp5, xh5, xo5, xs5⟩ a22 fn22 l22 c22 k22 (fun _ _ _ _ _ _ us hl => match us, hl with | [_, _], _ => rfl) (by decide +kernel) ⟨(fun z => nomatch z), (fun z => nomatch z)⟩) ?_
    refine all_cons (def_mk KX g rfl a23 l23 c23 k23 (fun _ _ _ _ _ _ us hl => match us, hl with | [_], _ => rfl) (by decide +kernel) ⟨(fun z => nomatch z), (fun z => nomatch z)⟩) ?_
    refine all_cons (def_mk KX g rfl a24 l24 c24 k24 (fun _ _ _ _ _ _ us hl => match us, hl with | [_, _], _ => rfl) (by decide +kernel) ⟨(fun z => nomatch z), (fun z => nomatch z)⟩) ?_
    refine all_cons (def_mk KX g rfl a25 l25 c25 k25 (fun _ _ _ _ _ _ us hl => match us, hl with | [_, _], _ => rfl) (by decide +kernel) ⟨(fun z => nomatch z), (fun z => nomatch z)⟩) ?_
    refine all_cons (def_mk KX g rfl a26 l26 c26 k26 (fun _ _ _ _ _ _ us hl => match us, hl with | [_, _, _, _, _], _ => rfl) (by decide +kernel) ⟨(fun z => nomatch z), (fun z => nomatch z)⟩) ?_
    refine all_cons (def_mk KX g rfl a27 l27 c27 k27 (fun _ _ _ _ _ _ us hl => match us, hl with | [_, _, _, _, _], _ => rfl) (by decide +kernel) ⟨(fun z => nomatch z), (fun z => nomatch z)⟩) ?_
    refine all_cons (def_mk KX g rfl a28 l28 c28 k28 (fun _ _ _ _ _ _ us hl => match us, hl with | [], _ => rfl) (by decide +kernel) ⟨(fun _ => ⟨e28, P28, tc28, by simp, by simp [d__law_plain], fun p hp e => by (refine (List.mem_cons.mp hp).elim (fun z => by subst z; rfl) fun hp => ?_); exact nomatch hp⟩), (fun z => nomatch z)⟩) ?_
    refine all_cons (def_mk KX g rfl a29 l29 c29 k29 (fun _ _ _ _ _ _ us hl => match us, hl with | [_], _ => rfl) (by decide +kernel) ⟨(fun z => nomatch z), (fun z => nomatch z)⟩) ?_
    exact all_nil
  · refine gl_mk ?_
    unfold G
    refine all_cons ⟨d__wall, rfl, rfl, rfl⟩ ?_
    refine all_cons ⟨d_rounded, rfl, rfl, rfl⟩ ?_
    refine all_cons ⟨d_kept_of_more, rfl, rfl, rfl⟩ ?_
    refine all_cons ⟨d_left_of, rfl, rfl, rfl⟩ ?_
    refine all_cons ⟨d_cliffs, rfl, rfl, rfl⟩ ?_
    refine all_cons ⟨d_worst_rate, rfl, rfl, rfl⟩ ?_
    refine all_cons ⟨d_paid_behind, rfl, rfl, rfl⟩ ?_
    refine all_cons ⟨d_months_due, rfl, rfl, rfl⟩ ?_
    refine all_cons ⟨d__law_dice, rfl, rfl, rfl⟩ ?_
    refine all_cons ⟨d__law_roll, rfl, rfl, rfl⟩ ?_
    refine all_cons ⟨d__law_rounds, rfl, rfl, rfl⟩ ?_
    refine all_cons ⟨d__law_pays, rfl, rfl, rfl⟩ ?_
    refine all_cons ⟨d__law_left, rfl, rfl, rfl⟩ ?_
    refine all_cons ⟨d__law_plain, rfl, rfl, rfl⟩ ?_
    refine all_cons ⟨d_law, rfl, rfl, rfl⟩ ?_
    refine all_cons (exc_mk PySem.F.excBase_ValueError KX g xa0 xq0 xk0 xs0 xt0) ?_
    refine all_cons (exc_mk PySem.F.excBase_ValueError KX g xa1 xq1 xk1 xs1 xt1) ?_
    refine all_cons (exc_mk PySem.F.excBase_ValueError KX g xa2 xq2 xk2 xs2 xt2) ?_
    refine all_cons (exc_mk PySem.F.excBase_ValueError KX g xa3 xq3 xk3 xs3 xt3) ?_
    refine all_cons (cls_mk (c := 4) (fi := 2) (d := d_Benefit___init__) KX g xa4 xm4 xk4 rfl rfl rfl (alts_mk (all_cons alt_full (all_cons (alt_dfl (d := d_Benefit___init__) (cv := L2.V.int 0) a2 l2 lT2 oT2 ⟨_, rfl⟩ (fun _ => by first | exact .mkI | exact .mkS) 7 (by rfl) (fun _ _ _ _ _ _ us u hl => match us, hl with | [_, _, _, _, _, _, _], _ => ⟨_, rfl, rfl⟩)) (all_nil))))) ?_
    refine all_cons (cls_mk (c := 5) (fi := 12) (d := d_Bands___init__) KX g xa5 xm5 xk5 rfl rfl rfl (alts_mk (all_cons alt_full (all_cons (alt_dfl (d := d_Bands___init__) (cv := L2.V.str "down") a12 l12 lT12 oT12 ⟨_, rfl⟩ (fun _ => by first | exact .mkI | exact .mkS) 2 (by rfl) (fun _ _ _ _ _ _ us u hl => match us, hl with | [_, _], _ => ⟨_, rfl, rfl⟩)) (all_nil))))) ?_
    refine all_cons (fld_mk (all_cons ⟨⟨xp4, xh4, xo4, xs4⟩, by exact nf0_4⟩ (all_nil))) ?_
    refine all_cons (fld_mk (all_cons ⟨⟨xp4, xh4, xo4, xs4⟩, by exact nf1_4⟩ (all_nil))) ?_
    refine all_cons (fld_mk (all_cons ⟨⟨xp4, xh4, xo4, xs4⟩, by exact nf2_4⟩ (all_nil))) ?_
    refine all_cons (fld_mk (all_cons ⟨⟨xp4, xh4, xo4, xs4⟩, by exact nf3_4⟩ (all_nil))) ?_
    refine all_cons (fld_mk (all_cons ⟨⟨xp4, xh4, xo4, xs4⟩, by exact nf4_4⟩ (all_nil))) ?_
    refine all_cons (fld_mk (all_cons ⟨⟨xp4, xh4, xo4, xs4⟩, by exact nf5_4⟩ (all_nil))) ?_
    refine all_cons (fld_mk (all_cons ⟨⟨xp4, xh4, xo4, xs4⟩, by exact nf6_4⟩ (all_nil))) ?_
    refine all_cons (fld_mk (all_cons ⟨⟨xp5, xh5, xo5, xs5⟩, by exact nf7_5⟩ (all_nil))) ?_
    refine all_cons (fld_mk (all_cons ⟨⟨xp5, xh5, xo5, xs5⟩, by exact nf8_5⟩ (all_nil))) ?_
    refine all_cons (mg_mk (all_cons ⟨d_Benefit_whole, rfl, rfl, rfl⟩ (all_nil))) ?_
    refine all_cons (mg_mk (all_cons ⟨d_Benefit_pays, rfl, rfl, rfl⟩ (all_nil))) ?_
    refine all_cons (mg_mk (all_cons ⟨d_Benefit_ends_at, rfl, rfl, rfl⟩ (all_nil))) ?_
    refine all_cons (mg_mk (all_cons ⟨d_Bands_parts, rfl, rfl, rfl⟩ (all_nil))) ?_
    refine all_cons (mg_mk (all_cons ⟨d_Bands_tax, rfl, rfl, rfl⟩ (all_nil))) ?_
    refine all_cons (mg_mk (all_cons ⟨d_Bands_kept, rfl, rfl, rfl⟩ (all_nil))) ?_
    refine all_cons (mg_mk (all_cons ⟨d_Bands_rate_at, rfl, rfl, rfl⟩ (all_nil))) ?_
    refine all_cons (mg_mk (all_cons ⟨d_Bands_mean_rate, rfl, rfl, rfl⟩ (all_nil))) ?_
    refine all_cons (mg_mk (all_cons ⟨d_Bands_needed, rfl, rfl, rfl⟩ (all_nil))) ?_
    refine all_cons (mg_mk (all_cons ⟨d_Bands_split, rfl, rfl, rfl⟩ (all_nil))) ?_
    refine all_cons (mg_mk (all_cons ⟨d_Bands_saved, rfl, rfl, rfl⟩ (all_nil))) ?_
    refine all_cons (mg_mk (all_cons ⟨d_Bands_spread, rfl, rfl, rfl⟩ (all_nil))) ?_
    refine all_cons (mg_mk (all_cons ⟨d_Bands_raised, rfl, rfl, rfl⟩ (all_nil))) ?_
    refine all_cons (tell_mk (st := top 26) KX g a99 l99 c99 k99 (by rfl) (fun _ _ _ _ _ _ us hl => match us, hl with | [_], _ => rfl) (by decide +kernel) (by decide +kernel) (by decide +kernel) xa0 (by decide +kernel) (by decide +kernel) (by decide +kernel) (by rfl) (all_cons (by exact exm_mk xs1 xs0 ti xt0 te1) (all_cons (by exact exm_mk xs2 xs0 ti xt0 te2) (all_cons (by exact exm_mk xs3 xs0 ti xt0 te3) (all_nil))))) ?_
    refine all_cons (blt_mk KX g b0) ?_
    refine all_cons (blt_mk KX g b1) ?_
    refine all_cons (blt_mk KX g b2) ?_
    refine all_cons (blt_mk KX g b3) ?_
    refine all_cons (blt_mk KX g b4) ?_
    refine all_cons (blt_mk KX g b5) ?_
    refine all_cons (blt_mk KX g b6) ?_
    refine all_cons (blt_mk KX g b7) ?_
    refine all_cons (blt_mk KX g b8) ?_
    refine all_cons (blt_mk KX g b9) ?_
    refine all_cons (blt_mk KX g b10) ?_
    refine all_cons (blt_mk KX g b11) ?_
    refine all_cons (blt_mk KX g b12) ?_
    refine all_cons (blt_mk KX g b13) ?_
    refine all_cons (blt_mk KX g b14) ?_
    refine all_cons (val_mk (ts := [[100, 111, 119, 110], [117, 112], [110, 101, 97, 114], [101, 118, 101, 110]]) rfl KX g va0 vl0 vc0 vd0 vv0 vz0) ?_
    refine all_cons (val_int KX g va1) ?_
    refine all_cons (val_int KX g va2) ?_
    refine all_cons (val_int KX g va3) ?_
    exact all_nil
  · exact all_cons ⟨tb _ ts8, n8, PySem.W.codeHd_of_K KX th8⟩ (all_cons ⟨tb _ ts9, n9, PySem.W.codeHd_of_K KX th9⟩ (all_cons ⟨tb _ ts10, n10, PySem.W.codeHd_of_K KX th10⟩ (all_cons ⟨tb _ ts11, n11, PySem.W.codeHd_of_K KX th11⟩ (all_cons ⟨tb _ ts12, n12, PySem.W.codeHd_of_K KX th12⟩ (all_cons ⟨tb _ ts14, n14, PySem.W.codeHd_of_K KX th14⟩ (all_cons ⟨tb _ ts28, n28, PySem.W.codeHd_of_K KX th28⟩ (all_nil)))))))
  · exact all_cons ⟨e28, by simp⟩ (all_nil)
  · exact all_cons ⟨e8, by simp⟩ (all_cons ⟨e9, by simp⟩ (all_cons ⟨e10, by simp⟩ (all_cons ⟨e11, by simp⟩ (all_cons ⟨e12, by simp⟩ (all_cons ⟨e14, by simp⟩ (all_nil))))))
theorem law2 : ∀ ns : List Int, ns.length ≤ 63 → (∀ z ∈ ns, Builtin.Int.intBits z ≤ 1048576) → ∃ h, pg (prog D G) 9 0 29 [.scr (ns.map .int)] [] = .ok (.bl true) h := fun ns h1 h2 => by
  rw [prog_P]
  exact law ns
end K06
abbrev TX.kmH (K : PySem.Params → PySem.W.Frag) (as : List PySem.Addr) (e : ∀ P, as = (K P).map (·.1)) (ts : List PySem.Addr) (_ : Unit) := PySem.W.kmHook K as e ts
local macro_rules | `(tactic| o_head ($_f:ident $K $a $e $_ts)) => `(tactic| o_head (TX.kmH $K $a $e [137, 144, 151, 156, 171, 185, 295] ()))
set_option maxRecDepth 100000 in
set_option maxHeartbeats 0 in
theorem PySem.Challenge.cw_taxstack_k06_benefits_and_cliffs_holds : PySem.Challenge.rw_taxstack_k06_benefits_and_cliffs.Holds := by
  w_on; o_law; k_head; (case hw => w_witness2)
  k_fill
  refine TX.walk_tx (x := "script") K06.D K06.G 9 29 K06.d_law (by rfl) (by decide) (by rfl) ⟨by rfl, by decide, by decide⟩ (fun w h Y => PySem.W.km_in_of Y) (by rfl) (by rfl) (by rfl) K06.law2 [137, 144, 151, 156, 171, 185, 295] (fun w h Y => PySem.W.km_tabs_of Y) (by rfl) (fun w mg h Y KX G tb => ?_)
  refine' K06.world_mk KX G tb ?xa0 ?xq0 ?xk0 ?xs0 ?xt0 ?xa1 ?xq1 ?xk1 ?xs1 ?xt1 ?xa2 ?xq2 ?xk2 ?xs2 ?xt2 ?xa3 ?xq3 ?xk3 ?xs3 ?xt3 ?xa4 ?xm4 ?xk4 ?xp4 ?xh4 ?xo4 ?xs4 ?xa5 ?xm5 ?xk5 ?xp5 ?xh5 ?xo5 ?xs5 ?nf0_4 ?nf1_4 ?nf2_4 ?nf3_4 ?nf4_4 ?nf5_4 ?nf6_4 ?nf7_5 ?nf8_5 ?a0 ?l0 ?c0 ?k0 ?a1 ?l1 ?c1 ?k1 ?a2 ?fn2 ?l2 ?lT2 ?oT2 ?c2 ?k2 ?a3 ?fn3 ?l3 ?c3 ?k3 ?a4 ?fn4 ?l4 ?c4 ?k4 ?a5 ?fn5 ?l5 ?c5 ?k5 ?a6 ?l6 ?c6 ?k6 ?a7 ?l7 ?c7 ?k7 ?a8 ?l8 ?c8 ?k8 ?a9 ?l9 ?c9 ?k9 ?a10 ?l10 ?c10 ?k10 ?a11 ?l11 ?c11 ?k11 ?a12 ?fn12 ?l12 ?lT12 ?oT12 ?c12 ?k12 ?a13 ?fn13 ?l13 ?c13 ?k13 ?a14 ?fn14 ?l14 ?c14 ?k14 ?a15 ?fn15 ?l15 ?c15 ?k15 ?a16 ?fn16 ?l16 ?c16 ?k16 ?a17 ?fn17 ?l17 ?c17 ?k17 ?a18 ?fn18 ?l18 ?c18 ?k18 ?a19 ?fn19 ?l19 ?c19 ?k19 ?a20 ?fn20 ?l20 ?c20 ?k20 ?a21 ?fn21 ?l21 ?c21 ?k21 ?a22 ?fn22 ?l22 ?c22 ?k22 ?a23 ?l23 ?c23 ?k23 ?a24 ?l24 ?c24 ?k24 ?a25 ?l25 ?c25 ?k25 ?a26 ?l26 ?c26 ?k26 ?a27 ?l27 ?c27 ?k27 ?a28 ?l28 ?c28 ?k28 ?a29 ?l29 ?c29 ?k29 ?tc8 ?tl8 ?tv8 ?th8 ?ts8 ?n8 ?tc9 ?tl9 ?tv9 ?th9 ?ts9 ?n9 ?tc10 ?tl10 ?tv10 ?th10 ?ts10 ?n10 ?tc11 ?tl11 ?tv11 ?th11 ?ts11 ?n11 ?tc12 ?tl12 ?tv12 ?th12 ?ts12 ?n12 ?tc14 ?tl14 ?tv14 ?th14 ?ts14 ?n14 ?tc28 ?tl28 ?tv28 ?th28 ?ts28 ?n28 ?ne8_28 ?ne9_28 ?ne10_28 ?ne11_28 ?ne12_28 ?ne14_28 ?a99 ?l99 ?c99 ?k99 ?ti ?te1 ?te2 ?te3 ?b0 ?b1 ?b2 ?b3 ?b4 ?b5 ?b6 ?b7 ?b8 ?b9 ?b10 ?b11 ?b12 ?b13 ?b14 ?va0 ?vl0 ?vc0 ?vd0 ?vv0 ?vz0 ?va1 ?va2 ?va3
  (case xa0 => k_is)
  (case xq0 => first | k_is | k_exc)
  (case xk0 => k_is)
  (case xs0 => k_is)
  (case xt0 => k_is)
  (case xa1 => k_is)
  (case xq1 => first | k_is | k_exc)
  (case xk1 => k_is)
  (case xs1 => k_is)
  (case xt1 => k_is)
  (case xa2 => k_is)
  (case xq2 => first | k_is | k_exc)
  (case xk2 => k_is)
  (case xs2 => k_is)
  (case xt2 => k_is)
  (case xa3 => k_is)
  (case xq3 => first | k_is | k_exc)
  (case xk3 => k_is)
  (case xs3 => k_is)
  (case xt3 => k_is)
  (case xa4 => k_is)
  (case xm4 => k_is)
  (case xk4 => k_is)
  (case xp4 => k_is)
  (case xh4 => k_is)
  (case xo4 => k_is)
  (case xs4 => k_is)
  (case xa5 => k_is)
  (case xm5 => k_is)
  (case xk5 => k_is)
  (case xp5 => k_is)
  (case xh5 => k_is)
  (case xo5 => k_is)
  (case xs5 => k_is)
  (case nf0_4 => k_is)
  (case nf1_4 => k_is)
  (case nf2_4 => k_is)
  (case nf3_4 => k_is)
  (case nf4_4 => k_is)
  (case nf5_4 => k_is)
  (case nf6_4 => k_is)
  (case nf7_5 => k_is)
  (case nf8_5 => k_is)
  (case a0 => k_is)
  (case l0 => k_is)
  (case c0 => k_is)
  (case k0 => k_is)
  (case a1 => k_is)
  (case l1 => k_is)
  (case c1 => k_is)
  (case k1 => k_is)
  (case a2 => k_is)
  (case fn2 => k_is)
  (case l2 => k_is)
  (case lT2 => k_is)
  (case oT2 => rfl)
  (case c2 => k_is)
  (case k2 => k_is)
  (case a3 => k_is)
  (case fn3 => k_is)
  (case l3 => k_is)
  (case c3 => k_is)
  (case k3 => k_is)
  (case a4 => k_is)
  (case fn4 => k_is)
  (case l4 => k_is)
  (case c4 => k_is)
  (case k4 => k_is)
  (case a5 => k_is)
  (case fn5 => k_is)
  (case l5 => k_is)
  (case c5 => k_is)
  (case k5 => k_is)
  (case a6 => k_is)
  (case l6 => k_is)
  (case c6 => k_is)
  (case k6 => k_is)
  (case a7 => k_is)
  (case l7 => k_is)
  (case c7 => k_is)
  (case k7 => k_is)
  (case a8 => k_is)
  (case l8 => k_is)
  (case c8 => k_is)
  (case k8 => k_is)
  (case a9 => k_is)
  (case l9 => k_is)
  (case c9 => k_is)
  (case k9 => k_is)
  (case a10 => k_is)
  (case l10 => k_is)
  (case c10 => k_is)
  (case k10 => k_is)
  (case a11 => k_is)
  (case l11 => k_is)
  (case c11 => k_is)
  (case k11 => k_is)
  (case a12 => k_is)
  (case fn12 => k_is)
  (case l12 => k_is)
  (case lT12 => k_is)
  (case oT12 => rfl)
  (case c12 => k_is)
  (case k12 => k_is)
  (case a13 => k_is)
  (case fn13 => k_is)
  (case l13 => k_is)
  (case c13 => k_is)
  (case k13 => k_is)
  (case a14 => k_is)
  (case fn14 => k_is)
  (case l14 => k_is)
  (case c14 => k_is)
  (case k14 => k_is)
  (case a15 => k_is)
  (case fn15 => k_is)
  (case l15 => k_is)
  (case c15 => k_is)
  (case k15 => k_is)
  (case a16 => k_is)
  (case fn16 => k_is)
  (case l16 => k_is)
  (case c16 => k_is)
  (case k16 => k_is)
  (case a17 => k_is)
  (case fn17 => k_is)
  (case l17 => k_is)
  (case c17 => k_is)
  (case k17 => k_is)
  (case a18 => k_is)
  (case fn18 => k_is)
  (case l18 => k_is)
  (case c18 => k_is)
  (case k18 => k_is)
  (case a19 => k_is)
  (case fn19 => k_is)
  (case l19 => k_is)
  (case c19 => k_is)
  (case k19 => k_is)
  (case a20 => k_is)
  (case fn20 => k_is)
  (case l20 => k_is)
  (case c20 => k_is)
  (case k20 => k_is)
  (case a21 => k_is)
  (case fn21 => k_is)
  (case l21 => k_is)
  (case c21 => k_is)
  (case k21 => k_is)
  (case a22 => k_is)
  (case fn22 => k_is)
  (case l22 => k_is)
  (case c22 => k_is)
  (case k22 => k_is)
  (case a23 => k_is)
  (case l23 => k_is)
  (case c23 => k_is)
  (case k23 => k_is)
  (case a24 => k_is)
  (case l24 => k_is)
  (case c24 => k_is)
  (case k24 => k_is)
  (case a25 => k_is)
  (case l25 => k_is)
  (case c25 => k_is)
  (case k25 => k_is)
  (case a26 => k_is)
  (case l26 => k_is)
  (case c26 => k_is)
  (case k26 => k_is)
  (case a27 => k_is)
  (case l27 => k_is)
  (case c27 => k_is)
  (case k27 => k_is)
  (case a28 => k_is)
  (case l28 => k_is)
  (case c28 => k_is)
  (case k28 => k_is)
  (case a29 => k_is)
  (case l29 => k_is)
  (case c29 => k_is)
  (case k29 => k_is)
  (case tc8 => rfl)
  (case tl8 => k_is)
  (case tv8 => rfl)
  (case th8 => kernel_rfl)
  (case ts8 => k_mem)
  (case n8 => first | rfl | kernel_rfl | decide +kernel)
  (case tc9 => rfl)
  (case tl9 => k_is)
  (case tv9 => rfl)
  (case th9 => kernel_rfl)
  (case ts9 => k_mem)
  (case n9 => first | rfl | kernel_rfl | decide +kernel)
  (case tc10 => rfl)
  (case tl10 => k_is)
  (case tv10 => rfl)
  (case th10 => kernel_rfl)
  (case ts10 => k_mem)
  (case n10 => first | rfl | kernel_rfl | decide +kernel)
  (case tc11 => rfl)
  (case tl11 => k_is)
  (case tv11 => rfl)
  (case th11 => kernel_rfl)
  (case ts11 => k_mem)
  (case n11 => first | rfl | kernel_rfl | decide +kernel)
  (case tc12 => rfl)
  (case tl12 => k_is)
  (case tv12 => rfl)
  (case th12 => kernel_rfl)
  (case ts12 => k_mem)
  (case n12 => first | rfl | kernel_rfl | decide +kernel)
  (case tc14 => rfl)
  (case tl14 => k_is)
  (case tv14 => rfl)
  (case th14 => kernel_rfl)
  (case ts14 => k_mem)
  (case n14 => first | rfl | kernel_rfl | decide +kernel)
  (case tc28 => rfl)
  (case tl28 => k_is)
  (case tv28 => rfl)
  (case th28 => kernel_rfl)
  (case ts28 => k_mem)
  (case n28 => first | rfl | kernel_rfl | decide +kernel)
  (case ne8_28 => first | decide | k_is | (intro z; cases z))
  (case ne9_28 => first | decide | k_is | (intro z; cases z))
  (case ne10_28 => first | decide | k_is | (intro z; cases z))
  (case ne11_28 => first | decide | k_is | (intro z; cases z))
  (case ne12_28 => first | decide | k_is | (intro z; cases z))
  (case ne14_28 => first | decide | k_is | (intro z; cases z))
  (case a99 => k_is)
  (case l99 => k_is)
  (case c99 => k_is)
  (case k99 => k_is)
  (case ti => k_is)
  (case te1 => first | rfl | k_is)
  (case te2 => first | rfl | k_is)
  (case te3 => first | rfl | k_is)
  (case b0 => k_is)
  (case b1 => k_is)
  (case b2 => k_is)
  (case b3 => k_is)
  (case b4 => k_is)
  (case b5 => k_is)
  (case b6 => k_is)
  (case b7 => k_is)
  (case b8 => k_is)
  (case b9 => k_is)
  (case b10 => k_is)
  (case b11 => k_is)
  (case b12 => k_is)
  (case b13 => k_is)
  (case b14 => k_is)
  (case va0 => k_is)
  (case vl0 => k_is)
  (case vc0 => rfl)
  (case vd0 => rfl)
  (case vv0 => exact .cons ⟨_, rfl⟩ (.cons ⟨_, rfl⟩ (.cons ⟨_, rfl⟩ (.cons ⟨_, rfl⟩ (.nil)))))
  (case vz0 => decide)
  (case va1 => k_is)
  (case va2 => k_is)
  (case va3 => k_is)
